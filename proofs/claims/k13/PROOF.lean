import PyProof.Rows.All
import Wide.All
import OpenK.AllK
import Wide.FinOn
import HandS.ForMost
import HandS.ForExc
import HandS.Wide
import HandS.CallSlots
import HandS.OwnEq
import HandS.Property
import HandS.Star
import HandS.List
import HandS.Deep
import HandS.TupLe
import HandS.Comp
import HandS.IsInst
import HandS.Text
import HandS.Small
import KE.KStateDown
import HandS.More
import HandS.Words
import HandS.WordsExc
import HandS.Defaults
import HandS.Head0
import HandS.Head1
import HandS.Head2
import HandS.HeadEnd
import HandS.HeadHook1
import HandS.HeadHook2
import HandS.HeadHook3
import HandS.HeadHook4
import HandS.Style
import HandS.Ends
import HandS.EndBits
import PySem.Challenge.RW_overfloors_k13_whole_duals
set_option Elab.async false
set_option linter.all false
set_option autoImplicit false
set_option maxRecDepth 100000
set_option maxHeartbeats 0
/-! Plain data beside the abstract heap: what a def computes, said as a function of data and of a store of lists, dicts and instances under way. -/
namespace Gm
open PySem L2

/-- plain data: what never changes; ref n: the n-th cell of the store -/
inductive D where
  | non | bl (b : Bool) | int (i : Int) | str (s : Str)
  | tup (ds : List D)
  | obj (c : Nat) (ds : List D)
  | ref (n : Nat)
  | fn (f : Nat)
deriving Inhabited
inductive Cell where
  | lst (ds : List D) | rol (ds : List D) | dic (kvs : List (Key × D)) | ins (c : Nat) (fs : List (Nat × D)) | dead
deriving Inhabited
abbrev Store := List Cell
structure Exn where
  c : Nat
  ds : List D
inductive Res (α : Type) where
  | ok (a : α) (st : Store) | err (x : Exn) (st : Store) | stuck
abbrev Ev := List (Option D)
abbrev St := L2.St
/-- a law's names: name codes, classes' layouts, defs -/
structure Ls where
  nm : Nat → Str
  lay : Nat → List Nat
  atn : Nat → List Nat
  isC : Nat → Bool
  isF : Nat → Bool
  fps : Nat → List Str
  dfl : Nat → List (List D)
  meth : Nat → Nat → Option Nat
  prop : Nat → Nat → Option Nat
  sub : Nat → Nat → Bool
  ni : Nat → Nat → Bool
/-- .. and where they stand -/
structure Lw extends Ls where
  cad : Nat → Addr
  fad : Nat → Addr
  fdt : Nat → FuncData
/-- what is frozen for good; where the store's cells lie -/
structure Wd where
  fz : Hp
  io : List Addr
def Wd.le (W W' : Wd) : Prop := (∀ a o, W.fz a = some o → W'.fz a = some o) ∧ ∀ (n : Nat) (a : Addr), W.io[n]? = some a → W'.io[n]? = some a
theorem Wd.le.rfl' {W : Wd} : W.le W := ⟨fun _ _ h => h, fun _ _ h => h⟩
theorem Wd.le.trans {W W1 W2 : Wd} (a : W.le W1) (b : W1.le W2) : W.le W2 := ⟨fun c o h => b.1 c o (a.1 c o h), fun n c h => b.2 n c (a.2 n c h)⟩

section
variable (K : PySem.W.Frag) (L : Lw) (W : Wd)
mutual
def Rl : D → V → Prop
  | .non, v => v = .non
  | .bl b, v => v = .bl b
  | .int i, v => v = .int i
  | .str s, v => v = .str s
  | .tup ds, v => ∃ a vs, v = .ref a ∧ SqT K W.fz a vs ∧ Rls ds vs
  | .obj c ds, v => ∃ a dx vs, v = .ref a ∧ W.fz a = some (.ins (L.cad c) dx (((L.lay c).map L.nm).zip vs)) ∧ (L.lay c).length = ds.length ∧ Rls ds vs
  | .ref n, v => ∃ a, v = .ref a ∧ W.io[n]? = some a
  | .fn f, v => v = .ref (L.fad f) ∧ L.isF f = true
def Rls : List D → List V → Prop
  | [], vs => vs = []
  | d :: ds, vs => ∃ v vs', vs = v :: vs' ∧ Rl d v ∧ Rls ds vs'
end
end
theorem SqT_mono {K : PySem.W.Frag} {H H' : Hp} {a : Addr} {xs : List V} (e : ∀ a o, H a = some o → H' a = some o) (h : SqT K H a xs) : SqT K H' a xs := by
  rcases h with (h | ⟨o, h⟩) | h
  · exact .inl (.inl (e _ _ h))
  · exact .inl (.inr ⟨o, e _ _ h⟩)
  · exact .inr h
section
variable {K : PySem.W.Frag} {L : Lw} {W W' : Wd}
mutual
theorem Rl.mono (e : W.le W') : ∀ {d : D} {v : V}, Rl K L W d v → Rl K L W' d v
  | .non, v, h => by unfold Rl at h ⊢; exact h
  | .bl b, v, h => by unfold Rl at h ⊢; exact h
  | .int b, v, h => by unfold Rl at h ⊢; exact h
  | .str b, v, h => by unfold Rl at h ⊢; exact h
  | .tup ds, v, h => by
    unfold Rl at h ⊢
    obtain ⟨a, vs, e1, h1, h2⟩ := h
    exact ⟨a, vs, e1, SqT_mono e.1 h1, Rls.mono e h2⟩
  | .obj c ds, v, h => by
    unfold Rl at h ⊢
    obtain ⟨a, dx, vs, e1, h1, h3, h2⟩ := h
    exact ⟨a, dx, vs, e1, e.1 _ _ h1, h3, Rls.mono e h2⟩
  | .ref n, v, h => by
    unfold Rl at h ⊢
    obtain ⟨a, e1, h1⟩ := h
    exact ⟨a, e1, e.2 _ _ h1⟩
  | .fn f, v, h => by unfold Rl at h ⊢; exact h
theorem Rls.mono (e : W.le W') : ∀ {ds : List D} {vs : List V}, Rls K L W ds vs → Rls K L W' ds vs
  | [], vs, h => by unfold Rls at h ⊢; exact h
  | d :: ds, vs, h => by
    unfold Rls at h ⊢
    obtain ⟨v, vs', e1, h1, h2⟩ := h
    exact ⟨v, vs', e1, Rl.mono e h1, Rls.mono e h2⟩
end
theorem Rl.non {v : V} : Rl K L W .non v ↔ v = .non := by unfold Rl; exact Iff.rfl
theorem Rl.bl {b : Bool} {v : V} : Rl K L W (.bl b) v ↔ v = .bl b := by unfold Rl; exact Iff.rfl
theorem Rl.int {b : Int} {v : V} : Rl K L W (.int b) v ↔ v = .int b := by unfold Rl; exact Iff.rfl
theorem Rl.str {b : Str} {v : V} : Rl K L W (.str b) v ↔ v = .str b := by unfold Rl; exact Iff.rfl
theorem Rl.tup {ds : List D} {v : V} : Rl K L W (.tup ds) v ↔ ∃ a vs, v = .ref a ∧ SqT K W.fz a vs ∧ Rls K L W ds vs := by
  constructor <;> intro h
  · unfold Rl at h; exact h
  · unfold Rl; exact h
theorem Rl.obj {c : Nat} {ds : List D} {v : V} : Rl K L W (.obj c ds) v ↔ ∃ a dx vs, v = .ref a ∧ W.fz a = some (.ins (L.cad c) dx (((L.lay c).map L.nm).zip vs)) ∧ (L.lay c).length = ds.length ∧ Rls K L W ds vs := by
  constructor <;> intro h
  · unfold Rl at h; exact h
  · unfold Rl; exact h
theorem Rl.ref {n : Nat} {v : V} : Rl K L W (.ref n) v ↔ ∃ a, v = .ref a ∧ W.io[n]? = some a := by
  constructor <;> intro h
  · unfold Rl at h; exact h
  · unfold Rl; exact h
theorem Rl.fn {f : Nat} {v : V} : Rl K L W (.fn f) v ↔ v = .ref (L.fad f) ∧ L.isF f = true := by unfold Rl; exact Iff.rfl
theorem Rls.nil {vs : List V} : Rls K L W [] vs ↔ vs = [] := by unfold Rls; exact Iff.rfl
theorem Rls.cons {d : D} {ds : List D} {vs : List V} : Rls K L W (d :: ds) vs ↔ ∃ v vs', vs = v :: vs' ∧ Rl K L W d v ∧ Rls K L W ds vs' := by
  constructor <;> intro h
  · unfold Rls at h; exact h
  · unfold Rls; exact h
theorem Rls.mk {d : D} {ds : List D} {v : V} {vs : List V} (h : Rl K L W d v) (h2 : Rls K L W ds vs) : Rls K L W (d :: ds) (v :: vs) := Rls.cons.mpr ⟨v, vs, rfl, h, h2⟩
theorem Rls.length : ∀ {ds : List D} {vs : List V}, Rls K L W ds vs → ds.length = vs.length
  | [], vs, h => by rw [Rls.nil.mp h]; rfl
  | d :: ds, vs, h => by
    obtain ⟨v, vs', rfl, _, h2⟩ := Rls.cons.mp h
    rw [List.length_cons, List.length_cons, Rls.length h2]
theorem Rls.get : ∀ {ds : List D} {vs : List V} {i : Nat} {d : D}, Rls K L W ds vs → ds[i]? = some d → ∃ v, vs[i]? = some v ∧ Rl K L W d v
  | [], vs, i, d, h, e => by simp at e
  | x :: ds, vs, 0, d, h, e => by
    obtain ⟨v, vs', rfl, h1, _⟩ := Rls.cons.mp h
    simp at e; subst e
    exact ⟨v, by simp, h1⟩
  | x :: ds, vs, i + 1, d, h, e => by
    obtain ⟨v, vs', rfl, _, h2⟩ := Rls.cons.mp h
    obtain ⟨u, h3, h4⟩ := Rls.get (i := i) h2 (by simpa using e)
    exact ⟨u, by simpa using h3, h4⟩
theorem Rls.get' : ∀ {ds : List D} {vs : List V} {i : Nat} {v : V}, Rls K L W ds vs → vs[i]? = some v → ∃ d, ds[i]? = some d ∧ Rl K L W d v
  | [], vs, i, d, h, e => by rw [Rls.nil.mp h] at e; simp at e
  | x :: ds, vs, 0, d, h, e => by
    obtain ⟨v, vs', rfl, h1, _⟩ := Rls.cons.mp h
    simp at e; subst e
    exact ⟨x, by simp, h1⟩
  | x :: ds, vs, i + 1, d, h, e => by
    obtain ⟨v, vs', rfl, _, h2⟩ := Rls.cons.mp h
    obtain ⟨u, h3, h4⟩ := Rls.get' (i := i) h2 (by simpa using e)
    exact ⟨u, by simpa using h3, h4⟩
theorem Rls.append : ∀ {ds es : List D} {vs us : List V}, Rls K L W ds vs → Rls K L W es us → Rls K L W (ds ++ es) (vs ++ us)
  | [], es, vs, us, h, h2 => by rw [Rls.nil.mp h]; exact h2
  | d :: ds, es, vs, us, h, h2 => by
    obtain ⟨v, vs', rfl, h1, h3⟩ := Rls.cons.mp h
    exact Rls.mk h1 (Rls.append h3 h2)
theorem Rls.ints : ∀ (ns : List Int), Rls K L W (ns.map D.int) (ns.map V.int)
  | [] => Rls.nil.mpr rfl
  | n :: ns => Rls.mk (Rl.int.mpr rfl) (Rls.ints ns)
end

/-! ### the store -/
def Cell.live : Cell → Bool
  | .lst _ => true | .dic _ => true | .ins _ _ => true | _ => false
section
variable (K : PySem.W.Frag) (L : Lw) (W : Wd)
inductive RKv : List (Key × D) → List (Key × V) → Prop
  | nil : RKv [] []
  | cons {k : Key} {d : D} {v : V} {ds : List (Key × D)} {vs : List (Key × V)} : Rl K L W d v → RKv ds vs → RKv ((k, d) :: ds) ((k, v) :: vs)
/-- a list that nobody changes -/
def RoL (H : Hp) (a : Addr) (vs : List V) : Prop := (∃ o, H a = some (.frz o (.lst vs))) ∨
    ∃ (o : Obj) (its : Array Value) (n : Nat), K.lookup a = some o ∧ o.cls = .type "list" ∧ o.dict = none ∧ o.data = .seq its n ∧ its.size ≤ sizeLine ∧ Vals vs its.toList
def CellR (H : Hp) (a : Addr) : Cell → Prop
  | .lst ds => ∃ vs, H a = some (.lst vs) ∧ Rls K L W ds vs
  | .rol ds => ∃ vs, RoL K H a vs ∧ Rls K L W ds vs
  | .dic kvs => ∃ vs, H a = some (.dK vs) ∧ RKv K L W kvs vs
  | .ins c fs => ∃ dx vs, H a = some (.ins (L.cad c) dx ((fs.map fun p => L.nm p.1).zip vs)) ∧ Rls K L W (fs.map (·.2)) vs
  | .dead => True
structure Sok (st : Store) (H : Hp) : Prop where
  fz : ∀ a o, W.fz a = some o → H a = some o
  len : st.length = W.io.length
  cell : ∀ (n : Nat) (c : Cell) (a : Addr), st[n]? = some c → W.io[n]? = some a → CellR K L W H a c
  ap : ∀ (n : Nat) (c : Cell) (a : Addr), st[n]? = some c → c.live = true → W.io[n]? = some a → W.fz a = none
  inj : ∀ (m n : Nat) (c c' : Cell) (a : Addr), st[m]? = some c → st[n]? = some c' → c.live = true → c'.live = true → W.io[m]? = some a → W.io[n]? = some a → m = n
end
section
variable {K : PySem.W.Frag} {L : Lw} {W W' : Wd} {st : Store} {H H' : Hp}
theorem RKv.mono (e : W.le W') {kvs : List (Key × D)} {vs : List (Key × V)} (h : RKv K L W kvs vs) : RKv K L W' kvs vs := by
  induction h with
  | nil => exact .nil
  | cons r _ ih => exact .cons (r.mono e) ih
theorem CellR.mono (e : W.le W') {a : Addr} {c : Cell} (h : CellR K L W H a c) (hl : ∀ o, H a = some o → H' a = some o) : CellR K L W' H' a c := by
  cases c with
  | lst ds => obtain ⟨vs, h1, h2⟩ := h; exact ⟨vs, hl _ h1, h2.mono e⟩
  | rol ds =>
    obtain ⟨vs, h1, h2⟩ := h
    refine ⟨vs, ?_, h2.mono e⟩
    rcases h1 with ⟨o, h⟩ | h
    · exact .inl ⟨o, hl _ h⟩
    · exact .inr h
  | dic kvs => obtain ⟨vs, h1, h2⟩ := h; exact ⟨vs, hl _ h1, h2.mono e⟩
  | ins c fs => obtain ⟨dx, vs, h1, h2⟩ := h; exact ⟨dx, vs, hl _ h1, h2.mono e⟩
  | dead => trivial
theorem CellR.there {a : Addr} {c : Cell} (h : CellR K L W H a c) (hc : c.live = true) : ∃ o, H a = some o := by
  cases c with
  | lst ds => obtain ⟨vs, h1, h2⟩ := h; exact ⟨_, h1⟩
  | rol ds => cases hc
  | dic kvs => obtain ⟨vs, h1, h2⟩ := h; exact ⟨_, h1⟩
  | ins c fs => obtain ⟨dx, vs, h1, h2⟩ := h; exact ⟨_, h1⟩
  | dead => cases hc
/-- the heap grows by an object that is not recorded -/
theorem Sok.grow (s : Sok K L W st H) (h : ∀ a o, H a = some o → H' a = some o) : Sok K L W st H' :=
  ⟨fun a o e => h _ _ (s.fz a o e), s.len, fun n c a e1 e2 => (s.cell n c a e1 e2).mono .rfl' fun o => h a o, s.ap, s.inj⟩
def Wd.freeze (W : Wd) (a : Addr) (o : HO) : Wd := ⟨upd W.fz a o, W.io⟩
theorem Wd.le_freeze {a : Addr} {o : HO} (h : W.fz a = none) : W.le (W.freeze a o) :=
  ⟨fun b u e => by show upd W.fz a o b = _; rw [upd_ne (ne_of_none e h)]; exact e, fun _ _ e => e⟩
theorem upd_grow {p : Addr} {o : HO} (hp : H p = none) : ∀ a u, H a = some u → upd H p o a = some u := fun a u e => by rw [upd_ne (ne_of_none e hp)]; exact e
/-- a new object that never changes -/
theorem Sok.alloc_fz (s : Sok K L W st H) {p : Addr} {o : HO} (hp : H p = none) : W.le (W.freeze p o) ∧ Sok K L (W.freeze p o) st (upd H p o) := by
  have hf : W.fz p = none := by
    cases q : W.fz p with
    | none => rfl
    | some u => have := s.fz p u q; rw [hp] at this; cases this
  have e := Wd.le_freeze (o := o) hf
  refine ⟨e, fun a u q => ?_, s.len, fun n c a e1 e2 => (s.cell n c a e1 e2).mono e fun u q => upd_grow hp _ _ q, fun n c a e1 e2 e3 => ?_, s.inj⟩
  · by_cases h : a = p
    · subst h
      have q' : upd W.fz a o a = some u := q
      rw [upd_same] at q' ⊢
      exact q'
    · have q' : upd W.fz p o a = some u := q
      rw [upd_ne h] at q' ⊢
      exact s.fz _ _ q'
  · obtain ⟨u, hu⟩ := (s.cell n c a e1 e3).there e2
    show upd W.fz p o a = none
    rw [upd_ne (ne_of_none hu hp)]
    exact s.ap n c a e1 e2 e3
def Wd.more (W : Wd) (a : Addr) : Wd := ⟨W.fz, W.io ++ [a]⟩
theorem Wd.le_more {a : Addr} : W.le (W.more a) := ⟨fun _ _ h => h, fun n b h => by
  show (W.io ++ [a])[n]? = some b
  rw [List.getElem?_append_left (List.getElem?_eq_some_iff.mp h).1]
  exact h⟩
/-- a new cell -/
theorem Sok.alloc (s : Sok K L W st H) {p : Addr} {o : HO} {c : Cell} (hp : H p = none) (hc : CellR K L (W.more p) (upd H p o) p c) : Sok K L (W.more p) (st ++ [c]) (upd H p o) := by
  have hf : W.fz p = none := by
    cases q : W.fz p with
    | none => rfl
    | some u => have := s.fz p u q; rw [hp] at this; cases this
  have split : ∀ {n x a}, (st ++ [c])[n]? = some x → (W.io ++ [p])[n]? = some a → (st[n]? = some x ∧ W.io[n]? = some a) ∨ (n = st.length ∧ x = c ∧ a = p) := fun {n x a} h1 h2 => by
    by_cases hn : n < st.length
    · rw [List.getElem?_append_left hn] at h1
      rw [List.getElem?_append_left (by rw [← s.len]; exact hn)] at h2
      exact .inl ⟨h1, h2⟩
    · have hl : n < (st ++ [c]).length := (List.getElem?_eq_some_iff.mp h1).1
      rw [List.length_append, List.length_singleton] at hl
      have hn' : n = st.length := by omega
      subst hn'
      rw [List.getElem?_concat_length] at h1
      rw [s.len, List.getElem?_concat_length] at h2
      exact .inr ⟨rfl, (Option.some.inj h1).symm, (Option.some.inj h2).symm⟩
  refine ⟨fun a u q => upd_grow hp _ _ (s.fz a u q), ?_, fun n x a e1 e2 => ?_, fun n x a e1 e2 e3 => ?_, fun m n x y a e1 e2 l1 l2 e3 e4 => ?_⟩
  · show (st ++ [c]).length = (W.io ++ [p]).length
    rw [List.length_append, List.length_append, s.len]; rfl
  · rcases split e1 e2 with ⟨h1, h2⟩ | ⟨_, rfl, rfl⟩
    · exact (s.cell n x a h1 h2).mono Wd.le_more fun u q => upd_grow hp _ _ q
    · exact hc
  · rcases split e1 e3 with ⟨h1, h2⟩ | ⟨_, rfl, rfl⟩
    · exact s.ap n x a h1 e2 h2
    · exact hf
  · rcases split e1 e3 with ⟨h1, h2⟩ | ⟨h0, rfl, rfl⟩
    · rcases split e2 e4 with ⟨h3, h4⟩ | ⟨_, rfl, rfl⟩
      · exact s.inj m n x y a h1 h3 l1 l2 h2 h4
      · obtain ⟨u, hu⟩ := (s.cell m x a h1 h2).there l1
        rw [hp] at hu; cases hu
    · rcases split e2 e4 with ⟨h3, h4⟩ | ⟨h5, rfl, _⟩
      · obtain ⟨u, hu⟩ := (s.cell n y a h3 h4).there l2
        rw [hp] at hu; cases hu
      · rw [h0, h5]
/-- a cell is changed -/
theorem Sok.write (s : Sok K L W st H) {n : Nat} {a : Addr} {o : HO} {c c' : Cell} (hn : st[n]? = some c) (hl : c.live = true) (ha : W.io[n]? = some a) (hc : CellR K L W (upd H a o) a c') : Sok K L W (st.set n c') (upd H a o) := by
  have hf := s.ap n c a hn hl ha
  have hlt : n < st.length := (List.getElem?_eq_some_iff.mp hn).1
  have at_ : ∀ {m x}, (st.set n c')[m]? = some x → (m = n ∧ x = c') ∨ (m ≠ n ∧ st[m]? = some x) := fun {m x} h => by
    by_cases hm : m = n
    · subst hm
      rw [List.getElem?_set_self hlt] at h
      exact .inl ⟨rfl, (Option.some.inj h).symm⟩
    · rw [List.getElem?_set_ne (Ne.symm hm)] at h
      exact .inr ⟨hm, h⟩
  refine ⟨fun b u q => ?_, by rw [List.length_set]; exact s.len, fun m x b e1 e2 => ?_, fun m x b e1 e2 e3 => ?_, fun m k x y b e1 e2 l1 l2 e3 e4 => ?_⟩
  · rw [upd_ne (ne_of_none q hf)]; exact s.fz b u q
  · rcases at_ e1 with ⟨rfl, rfl⟩ | ⟨hm, h1⟩
    · rw [ha] at e2; cases e2; exact hc
    · by_cases hb : b = a
      · subst hb
        cases hx : x.live with
        | true => exact absurd (s.inj m n x c b h1 hn hx hl e2 ha) hm
        | false =>
          cases x with
          | lst _ => cases hx
          | dic _ => cases hx
          | ins _ _ => cases hx
          | dead => trivial
          | rol ds =>
            have h2 := s.cell n c b hn ha
            obtain ⟨vs, h3, h4⟩ := s.cell m _ b h1 e2
            refine ⟨vs, ?_, h4⟩
            rcases h3 with ⟨ob, h⟩ | h
            · exfalso
              cases c with
              | lst _ => obtain ⟨us, h5, _⟩ := h2; rw [h] at h5; cases h5
              | dic _ => obtain ⟨us, h5, _⟩ := h2; rw [h] at h5; cases h5
              | ins _ _ => obtain ⟨_, us, h5, _⟩ := h2; rw [h] at h5; cases h5
              | rol _ => cases hl
              | dead => cases hl
            · exact .inr h
      · exact (s.cell m x b h1 e2).mono .rfl' fun u q => by rw [upd_ne hb]; exact q
  · rcases at_ e1 with ⟨rfl, rfl⟩ | ⟨hm, h1⟩
    · rw [ha] at e3; cases e3; exact hf
    · exact s.ap m x b h1 e2 e3
  · have key : ∀ {i : Nat} {z : Cell}, (st.set n c')[i]? = some z → z.live = true → W.io[i]? = some b → ∃ z' : Cell, st[i]? = some z' ∧ z'.live = true := fun {i z} h1 h2 h3 => by
      rcases at_ h1 with ⟨rfl, rfl⟩ | ⟨_, h4⟩
      · exact ⟨c, hn, hl⟩
      · exact ⟨z, h4, h2⟩
    obtain ⟨x', h1, h2⟩ := key e1 l1 e3
    obtain ⟨y', h3, h4⟩ := key e2 l2 e4
    exact s.inj m k x' y' b h1 h3 h2 h4 e3 e4
/-- an instance is done: it never changes again -/
theorem Sok.finish (s : Sok K L W st H) {n c : Nat} {a : Addr} {fs : List (Nat × D)} (hn : st[n]? = some (.ins c fs)) (ha : W.io[n]? = some a) (hf : fs.map (·.1) = L.lay c) :
    ∃ W', W.le W' ∧ Sok K L W' (st.set n .dead) H ∧ Rl K L W' (.obj c (fs.map (·.2))) (.ref a) := by
  obtain ⟨dx, vs, h1, h2⟩ := s.cell n _ a hn ha
  have hz := s.ap n _ a hn rfl ha
  have hlt : n < st.length := (List.getElem?_eq_some_iff.mp hn).1
  have e := Wd.le_freeze (o := HO.ins (L.cad c) dx ((fs.map fun p => L.nm p.1).zip vs)) hz
  have at_ : ∀ {m x}, (st.set n .dead)[m]? = some x → (m = n ∧ x = .dead) ∨ (m ≠ n ∧ st[m]? = some x) := fun {m x} h => by
    by_cases hm : m = n
    · subst hm
      rw [List.getElem?_set_self hlt] at h
      exact .inl ⟨rfl, (Option.some.inj h).symm⟩
    · rw [List.getElem?_set_ne (Ne.symm hm)] at h
      exact .inr ⟨hm, h⟩
  refine ⟨_, e, ⟨fun b u q => ?_, by rw [List.length_set]; exact s.len, fun m x b e1 e2 => ?_, fun m x b e1 e2 e3 => ?_, fun m k x y b e1 e2 l1 l2 e3 e4 => ?_⟩, ?_⟩
  · by_cases hb : b = a
    · subst hb
      have q' : upd W.fz b _ b = some u := q
      rw [upd_same] at q'
      rw [← q']; exact h1
    · have q' : upd W.fz a _ b = some u := q
      rw [upd_ne hb] at q'
      exact s.fz b u q'
  · rcases at_ e1 with ⟨rfl, rfl⟩ | ⟨hm, q1⟩
    · trivial
    · exact (s.cell m x b q1 e2).mono e fun _ q => q
  · rcases at_ e1 with ⟨rfl, rfl⟩ | ⟨hm, q1⟩
    · cases e2
    · show upd W.fz a _ b = none
      rw [upd_ne]
      · exact s.ap m x b q1 e2 e3
      · rintro rfl
        exact hm (s.inj m n x _ b q1 hn e2 rfl e3 ha)
  · rcases at_ e1 with ⟨rfl, rfl⟩ | ⟨_, q1⟩
    · cases l1
    · rcases at_ e2 with ⟨rfl, rfl⟩ | ⟨_, q2⟩
      · cases l2
      · exact s.inj m k x y b q1 q2 l1 l2 e3 e4
  · refine Rl.obj.mpr ⟨a, dx, vs, rfl, ?_, by rw [← hf, List.length_map, List.length_map], h2.mono e⟩
    show upd W.fz a _ a = _
    rw [upd_same, ← hf, List.map_map]
    rfl
end
end Gm
namespace Gm
open PySem PySem.Spec PyProof.Rows L2
/-! ### outcomes -/
def Res.bind {α β : Type} (r : Res α) (k : α → Store → Res β) : Res β := match r with
  | .ok a st => k a st
  | .err x st => .err x st
  | .stuck => .stuck
@[simp] theorem Res.bind_ok {α β : Type} (a : α) (st : Store) (k : α → Store → Res β) : (Res.ok a st).bind k = k a st := rfl
@[simp] theorem Res.bind_err {α β : Type} (x : Exn) (st : Store) (k : α → Store → Res β) : (Res.err x st).bind k = .err x st := rfl
@[simp] theorem Res.bind_stuck {α β : Type} (k : α → Store → Res β) : (Res.stuck).bind k = .stuck := rfl
abbrev Fe := Ev → Store → Res D
abbrev Fa := Ev → Store → Res (List D)
abbrev Ft := Ev → Store → Res Bool
inductive SR where
  | nx (ρ : Ev) (st : Store) | rt (d : D) (st : Store) | bk (ρ : Ev) (st : Store) | ct (ρ : Ev) (st : Store) | err (x : Exn) (ρ : Ev) (st : Store) | stuck
abbrev Fs := Ev → Store → SR
def Res.toS {α : Type} (r : Res α) (ρ : Ev) (k : α → Store → SR) : SR := match r with
  | .ok a st => k a st
  | .err x st => .err x ρ st
  | .stuck => .stuck
@[simp] theorem Res.toS_ok {α : Type} (a : α) (st : Store) (ρ : Ev) (k : α → Store → SR) : (Res.ok a st).toS ρ k = k a st := rfl
@[simp] theorem Res.toS_err {α : Type} (x : Exn) (st : Store) (ρ : Ev) (k : α → Store → SR) : (Res.err (α := α) x st).toS ρ k = .err x ρ st := rfl
@[simp] theorem Res.toS_stuck {α : Type} (ρ : Ev) (k : α → Store → SR) : (Res.stuck (α := α)).toS ρ k = .stuck := rfl

section
variable (K : PySem.W.Frag) (L : Lw) (Wx : WX) (W : Wd) (σ : St)
def XR (x : Exn) (cls : Value) (dx : Option Addr) : Prop := cls = .ref (L.cad x.c) ∧
  ((x.ds = [] ∧ dx = none) ∨ ∃ d vs, dx = some d ∧ W.fz d = some (.xd (((L.lay x.c).map L.nm).zip vs)) ∧ (L.lay x.c).length = x.ds.length ∧ Rls K L W x.ds vs)
def Out {β : Type} (Ok : Wd → Hp → β → Prop) : Res β → Prop
  | .ok b st => ∀ W' H', W.le W' → Sok K L W' st H' → Ok W' H' b
  | .err x st => ∀ W' H' cls dx, W.le W' → Sok K L W' st H' → XR K L W' x cls dx → Wx cls dx σ H'
  | .stuck => False
def EnR (ρ : Ev) : Prop := ρ.length = σ.length ∧ ∀ (i : Nat) (d : D), ρ[i]? = some (some d) → ∃ v, σ[i]? = some (some v) ∧ Rl K L W d v
def okE (Q : VK) : Wd → Hp → D → Prop := fun W' H' d => ∀ v, Rl K L W' d v → Q v H'
def okA (Q : List V → Hp → Prop) : Wd → Hp → List D → Prop := fun W' H' ds => ∀ vs, Rls K L W' ds vs → Q vs H'
def okT (Q : Bool → Hp → Prop) : Wd → Hp → Bool → Prop := fun W' H' b => Q b H'
def OutS (D : Ends) : SR → Prop
  | .nx ρ st => ∀ W' H' σ', W.le W' → Sok K L W' st H' → EnR K L W' σ' ρ → D.nx σ' H'
  | .rt d st => ∀ W' H' v, W.le W' → Sok K L W' st H' → Rl K L W' d v → D.rt v H'
  | .bk ρ st => ∀ W' H' σ', W.le W' → Sok K L W' st H' → EnR K L W' σ' ρ → D.bk σ' H'
  | .ct ρ st => ∀ W' H' σ', W.le W' → Sok K L W' st H' → EnR K L W' σ' ρ → D.ct σ' H'
  | .err x ρ st => ∀ W' H' σ' cls dx, W.le W' → Sok K L W' st H' → EnR K L W' σ' ρ → XR K L W' x cls dx → Wx cls dx σ' H'
  | .stuck => False
end
section
variable {K : PySem.W.Frag} {L : Lw} {Wx : WX} {W W1 : Wd} {σ : St}
theorem Out.mono {β : Type} {Ok : Wd → Hp → β → Prop} {r : Res β} (e : W.le W1) (h : Out K L Wx W σ Ok r) : Out K L Wx W1 σ Ok r := by
  cases r with
  | ok b st => exact fun W' H' e' => h W' H' (e.trans e')
  | err x st => exact fun W' H' cls dx e' => h W' H' cls dx (e.trans e')
  | stuck => exact h
theorem OutS.mono {D : Ends} {r : SR} (e : W.le W1) (h : OutS K L Wx W D r) : OutS K L Wx W1 D r := by
  cases r with
  | nx ρ st => exact fun W' H' σ' e' => h W' H' σ' (e.trans e')
  | bk ρ st => exact fun W' H' σ' e' => h W' H' σ' (e.trans e')
  | ct ρ st => exact fun W' H' σ' e' => h W' H' σ' (e.trans e')
  | rt ρ st => exact fun W' H' σ' e' => h W' H' σ' (e.trans e')
  | err x ρ st => exact fun W' H' σ' cls dx e' => h W' H' σ' cls dx (e.trans e')
  | stuck => exact h
theorem EnR.mono {ρ : Ev} (e : W.le W1) (h : EnR K L W σ ρ) : EnR K L W1 σ ρ := ⟨h.1, fun i d q => by
  obtain ⟨v, h1, h2⟩ := h.2 i d q
  exact ⟨v, h1, h2.mono e⟩⟩
end

/-! ### judgements -/
section
variable (L : Lw) (X : Cx) (Wx : WX)
structure RE (e : Expr) (f : Fe) : Prop where
  run : ∀ (pins : List (Addr × Obj)) (s : Shared) (σ : St) (H : Hp) (W : Wd) (st : Store) (ρ : Ev) (Q : VK), Inv X pins σ H s → Sok X.K L W st H → EnR X.K L W σ ρ → Out X.K L Wx W σ (okE X.K L Q) (f ρ st) →
    wpAny (model X.prog X.w) X.A (eval e X.env) (EP X pins σ Q) X.xe s
structure RA (es : List Expr) (f : Fa) : Prop where
  len : ∀ ρ st ds st', f ρ st = .ok ds st' → ds.length = es.length
  run : ∀ (pos : Pos) (pins : List (Addr × Obj)) (s : Shared) (σ : St) (H : Hp) (W : Wd) (st : Store) (ρ : Ev) (Q : List V → Hp → Prop), Inv X pins σ H s → Sok X.K L W st H → EnR X.K L W σ ρ → Out X.K L Wx W σ (okA X.K L Q) (f ρ st) →
    wpAny (model X.prog X.w) X.A (spliced (backTo pos (starEach es X.env))) (AP X pins σ Q) X.xe s
structure RT (e : Expr) (f : Ft) : Prop where
  run : ∀ (pins : List (Addr × Obj)) (s : Shared) (σ : St) (H : Hp) (W : Wd) (st : Store) (ρ : Ev) (Q : Bool → Hp → Prop), Inv X pins σ H s → Sok X.K L W st H → EnR X.K L W σ ρ → Out X.K L Wx W σ (okT Q) (f ρ st) →
    wpAny (model X.prog X.w) X.A (isTrue e X.env (eval e X.env)) (TP X pins σ Q) X.xe s
/-- a test whatever its whole is -/
structure RW (e : Expr) (f : Ft) : Prop where
  run : ∀ (whole : Sem Value) (pins : List (Addr × Obj)) (s : Shared) (σ : St) (H : Hp) (W : Wd) (st : Store) (ρ : Ev) (Q : Bool → Hp → Prop), Inv X pins σ H s → Sok X.K L W st H → EnR X.K L W σ ρ → Out X.K L Wx W σ (okT Q) (f ρ st) →
    wpAny (model X.prog X.w) X.A (isTrue e X.env whole) (TP X pins σ Q) X.xe s
structure RS (st : Stmt) (f : Fs) : Prop where
  run : ∀ (pins : List (Addr × Obj)) (s : Shared) (σ : St) (H : Hp) (W : Wd) (sto : Store) (ρ : Ev) (D : Ends), Inv X pins σ H s → Sok X.K L W sto H → EnR X.K L W σ ρ → OutS X.K L Wx W D (f ρ sto) →
    wpAny (model X.prog X.w) X.A (exec st X.env) (SP X pins D) X.xe s
structure RSs (st : List Stmt) (f : Fs) : Prop where
  run : ∀ (pins : List (Addr × Obj)) (s : Shared) (σ : St) (H : Hp) (W : Wd) (sto : Store) (ρ : Ev) (D : Ends), Inv X pins σ H s → Sok X.K L W sto H → EnR X.K L W σ ρ → OutS X.K L Wx W D (f ρ sto) →
    wpAny (model X.prog X.w) X.A (execs st X.env) (SP X pins D) X.xe s
/-- a two-place operation on values -/
def R2v (F : Value → Value → Sem Value) (g : D → D → Store → Res D) : Prop :=
  ∀ (pins : List (Addr × Obj)) (s : Shared) (σ : St) (H : Hp) (W : Wd) (st : Store) (d1 d2 : D) (x y : V) (v u : Value) (Q : VK), Inv X pins σ H s → Sok X.K L W st H → Rl X.K L W d1 x → Rl X.K L W d2 y → RelV x v → RelV y u →
    Out X.K L Wx W σ (okE X.K L Q) (g d1 d2 st) → wpAny (model X.prog X.w) X.A (F v u) (EP X pins σ Q) X.xe s
def R1v (F : Value → Sem Value) (g : D → Store → Res D) : Prop :=
  ∀ (pins : List (Addr × Obj)) (s : Shared) (σ : St) (H : Hp) (W : Wd) (st : Store) (d1 : D) (x : V) (v : Value) (Q : VK), Inv X pins σ H s → Sok X.K L W st H → Rl X.K L W d1 x → RelV x v →
    Out X.K L Wx W σ (okE X.K L Q) (g d1 st) → wpAny (model X.prog X.w) X.A (F v) (EP X pins σ Q) X.xe s
/-- a value's truth -/
def Rtv (g : D → Store → Res Bool) : Prop :=
  ∀ (pins : List (Addr × Obj)) (s : Shared) (σ : St) (H : Hp) (W : Wd) (st : Store) (d1 : D) (x : V) (v : Value) (Q : Bool → Hp → Prop), Inv X pins σ H s → Sok X.K L W st H → Rl X.K L W d1 x → RelV x v →
    Out X.K L Wx W σ (okT Q) (g d1 st) → wpAny (model X.prog X.w) X.A (truthy v) (TP X pins σ Q) X.xe s
/-- a call of a known built-in with values -/
def RCv (f : Value) (g : List D → Store → Res D) : Prop :=
  ∀ (pins : List (Addr × Obj)) (s : Shared) (σ : St) (H : Hp) (W : Wd) (st : Store) (ds : List D) (xs : List V) (us : List Value) (Q : VK), Inv X pins σ H s → Sok X.K L W st H → Rls X.K L W ds xs → Vals xs us →
    Out X.K L Wx W σ (okE X.K L Q) (g ds st) → wpAny (model X.prog X.w) X.A (call f us) (EP X pins σ Q) X.xe s
end

section
variable {L : Lw} {X : Cx} {Wx : WX}
/-! ### one after another -/
section
variable {pins : List (Addr × Obj)} {s : Shared} {σ : St} {H : Hp} {W : Wd} {st : Store} {ρ : Ev} {e : Expr} {f : Fe}
theorem RE.seq {P : Value → Shared → Prop} {r : Res D} (h : RE L X Wx e f) (I : Inv X pins σ H s) (S : Sok X.K L W st H) (E : EnR X.K L W σ ρ) (hf : f ρ st = r)
    (hx : ∀ x st', r = .err x st' → ∀ W' H' cls dx, W.le W' → Sok X.K L W' st' H' → XR X.K L W' x cls dx → Wx cls dx σ H') (hs : r ≠ .stuck)
    (hk : ∀ d st1 W1 H1 v u s1, r = .ok d st1 → W.le W1 → Inv X pins σ H1 s1 → Sok X.K L W1 st1 H1 → Rl X.K L W1 d v → RelV v u → P u s1) :
    wpAny (model X.prog X.w) X.A (eval e X.env) P X.xe s := by
  cases r with
  | ok d st1 =>
    refine thn (h.run pins s σ H W st ρ (fun v H1 => ∃ W1, W.le W1 ∧ Sok X.K L W1 st1 H1 ∧ Rl X.K L W1 d v) I S E ?_) fun u s1 ⟨v, H1, I1, rv, W1, e1, S1, R1⟩ => hk d st1 W1 H1 v u s1 rfl e1 I1 S1 R1 rv
    rw [hf]
    exact fun W' H' e' S' v R' => ⟨W', e', S', R'⟩
  | err x st1 =>
    refine thn (h.run pins s σ H W st ρ (fun _ _ => False) I S E ?_) fun u s1 ⟨v, H1, I1, rv, z⟩ => z.elim
    rw [hf]
    exact fun W' H' cls dx => hx x st1 rfl W' H' cls dx
  | stuck => exact absurd rfl hs
theorem RE.bind {β : Type} {Ok : Wd → Hp → β → Prop} {k : D → Store → Res β} {P : Value → Shared → Prop} (h : RE L X Wx e f) (I : Inv X pins σ H s) (S : Sok X.K L W st H) (E : EnR X.K L W σ ρ) (o : Out X.K L Wx W σ Ok ((f ρ st).bind k))
    (hk : ∀ d st1 W1 H1 v u s1, W.le W1 → Inv X pins σ H1 s1 → Sok X.K L W1 st1 H1 → Rl X.K L W1 d v → RelV v u → Out X.K L Wx W1 σ Ok (k d st1) → P u s1) :
    wpAny (model X.prog X.w) X.A (eval e X.env) P X.xe s := by
  refine h.seq I S E rfl (fun x st' q => ?_) (fun q => ?_) fun d st1 W1 H1 v u s1 q e1 I1 S1 R1 rv => ?_
  · rw [q] at o; exact o
  · rw [q] at o; exact o
  · rw [q] at o; exact hk d st1 W1 H1 v u s1 e1 I1 S1 R1 rv (Out.mono e1 o)
theorem RE.bindS {D' : Ends} {k : D → Store → SR} {P : Value → Shared → Prop} (h : RE L X Wx e f) (I : Inv X pins σ H s) (S : Sok X.K L W st H) (E : EnR X.K L W σ ρ) (o : OutS X.K L Wx W D' ((f ρ st).toS ρ k))
    (hk : ∀ d st1 W1 H1 v u s1, W.le W1 → Inv X pins σ H1 s1 → Sok X.K L W1 st1 H1 → Rl X.K L W1 d v → RelV v u → OutS X.K L Wx W1 D' (k d st1) → P u s1) :
    wpAny (model X.prog X.w) X.A (eval e X.env) P X.xe s := by
  refine h.seq I S E rfl (fun x st' q => ?_) (fun q => ?_) fun d st1 W1 H1 v u s1 q e1 I1 S1 R1 rv => ?_
  · rw [q] at o; exact fun W' H' cls dx e' S' R' => o W' H' σ cls dx e' S' (E.mono e') R'
  · rw [q] at o; exact o
  · rw [q] at o; exact hk d st1 W1 H1 v u s1 e1 I1 S1 R1 rv (OutS.mono e1 o)
theorem RA.bind {es : List Expr} {f : Fa} {β : Type} {Ok : Wd → Hp → β → Prop} {k : List D → Store → Res β} {pos : Pos} {P : List Value → Shared → Prop} (h : RA L X Wx es f) (I : Inv X pins σ H s) (S : Sok X.K L W st H) (E : EnR X.K L W σ ρ) (o : Out X.K L Wx W σ Ok ((f ρ st).bind k))
    (hk : ∀ ds st1 W1 H1 vs us s1, ds.length = es.length → W.le W1 → Inv X pins σ H1 s1 → Sok X.K L W1 st1 H1 → Rls X.K L W1 ds vs → Vals vs us → Out X.K L Wx W1 σ Ok (k ds st1) → P us s1) :
    wpAny (model X.prog X.w) X.A (spliced (backTo pos (starEach es X.env))) P X.xe s := by
  have hl := h.len ρ st
  cases hf : f ρ st with
  | ok ds st1 =>
    rw [hf] at o
    refine thn (h.run pos pins s σ H W st ρ (fun v H1 => ∃ W1, W.le W1 ∧ Sok X.K L W1 st1 H1 ∧ Rls X.K L W1 ds v) I S E ?_) fun u s1 ⟨v, H1, I1, rv, W1, e1, S1, R1⟩ => hk ds st1 W1 H1 v u s1 (hl _ _ hf) e1 I1 S1 R1 rv (Out.mono e1 o)
    rw [hf]
    exact fun W' H' e' S' v R' => ⟨W', e', S', R'⟩
  | err x st1 =>
    rw [hf] at o
    refine thn (h.run pos pins s σ H W st ρ (fun _ _ => False) I S E ?_) fun u s1 ⟨v, H1, I1, rv, z⟩ => z.elim
    rw [hf]
    exact o
  | stuck => rw [hf] at o; exact o.elim
theorem RT.seq {f : Ft} {P : Bool → Shared → Prop} {r : Res Bool} (h : RT L X Wx e f) (I : Inv X pins σ H s) (S : Sok X.K L W st H) (E : EnR X.K L W σ ρ) (hf : f ρ st = r)
    (hx : ∀ x st', r = .err x st' → ∀ W' H' cls dx, W.le W' → Sok X.K L W' st' H' → XR X.K L W' x cls dx → Wx cls dx σ H') (hs : r ≠ .stuck)
    (hk : ∀ b st1 W1 H1 s1, r = .ok b st1 → W.le W1 → Inv X pins σ H1 s1 → Sok X.K L W1 st1 H1 → P b s1) :
    wpAny (model X.prog X.w) X.A (isTrue e X.env (eval e X.env)) P X.xe s := by
  cases r with
  | ok d st1 =>
    refine thn (h.run pins s σ H W st ρ (fun b H1 => b = d ∧ ∃ W1, W.le W1 ∧ Sok X.K L W1 st1 H1) I S E ?_) fun u s1 ⟨H1, I1, eb, W1, e1, S1⟩ => by subst eb; exact hk _ st1 W1 H1 s1 rfl e1 I1 S1
    rw [hf]
    exact fun W' H' e' S' => ⟨rfl, W', e', S'⟩
  | err x st1 =>
    refine thn (h.run pins s σ H W st ρ (fun _ _ => False) I S E ?_) fun u s1 ⟨H1, I1, z⟩ => z.elim
    rw [hf]
    exact fun W' H' cls dx => hx x st1 rfl W' H' cls dx
  | stuck => exact absurd rfl hs
theorem RT.bind {f : Ft} {β : Type} {Ok : Wd → Hp → β → Prop} {k : Bool → Store → Res β} {P : Bool → Shared → Prop} (h : RT L X Wx e f) (I : Inv X pins σ H s) (S : Sok X.K L W st H) (E : EnR X.K L W σ ρ) (o : Out X.K L Wx W σ Ok ((f ρ st).bind k))
    (hk : ∀ b st1 W1 H1 s1, W.le W1 → Inv X pins σ H1 s1 → Sok X.K L W1 st1 H1 → Out X.K L Wx W1 σ Ok (k b st1) → P b s1) :
    wpAny (model X.prog X.w) X.A (isTrue e X.env (eval e X.env)) P X.xe s := by
  refine h.seq I S E rfl (fun x st' q => ?_) (fun q => ?_) fun d st1 W1 H1 s1 q e1 I1 S1 => ?_
  · rw [q] at o; exact o
  · rw [q] at o; exact o
  · rw [q] at o; exact hk d st1 W1 H1 s1 e1 I1 S1 (Out.mono e1 o)
theorem RT.bindS {f : Ft} {D' : Ends} {k : Bool → Store → SR} {P : Bool → Shared → Prop} (h : RT L X Wx e f) (I : Inv X pins σ H s) (S : Sok X.K L W st H) (E : EnR X.K L W σ ρ) (o : OutS X.K L Wx W D' ((f ρ st).toS ρ k))
    (hk : ∀ b st1 W1 H1 s1, W.le W1 → Inv X pins σ H1 s1 → Sok X.K L W1 st1 H1 → OutS X.K L Wx W1 D' (k b st1) → P b s1) :
    wpAny (model X.prog X.w) X.A (isTrue e X.env (eval e X.env)) P X.xe s := by
  refine h.seq I S E rfl (fun x st' q => ?_) (fun q => ?_) fun d st1 W1 H1 s1 q e1 I1 S1 => ?_
  · rw [q] at o; exact fun W' H' cls dx e' S' R' => o W' H' σ cls dx e' S' (E.mono e') R'
  · rw [q] at o; exact o
  · rw [q] at o; exact hk d st1 W1 H1 s1 e1 I1 S1 (OutS.mono e1 o)
end
end
end Gm
namespace Gm
open PySem PySem.Spec PyProof.Rows L2
/-! ### expressions -/
def xVar (i : Nat) : Fe := fun ρ st => match ρ[i]? with | some (some d) => .ok d st | _ => .stuck
def xK (d : D) : Fe := fun _ st => .ok d st
def xNo : Fe := fun _ _ => .stuck
def xUn (g : D → Store → Res D) (f : Fe) : Fe := fun ρ st => (f ρ st).bind g
def xBin (g : D → D → Store → Res D) (f h : Fe) : Fe := fun ρ st => (f ρ st).bind fun a st => (h ρ st).bind fun b st => g a b st
def aNil : Fa := fun _ st => .ok [] st
def aCons (f : Fe) (r : Fa) : Fa := fun ρ st => (f ρ st).bind fun a st => (r ρ st).bind fun l st => .ok (a :: l) st
def xTup (r : Fa) : Fe := fun ρ st => (r ρ st).bind fun l st => .ok (.tup l) st
def newLst (l : List D) (st : Store) : Res D := .ok (.ref st.length) (st ++ [.lst l])
def xLst (r : Fa) : Fe := fun ρ st => (r ρ st).bind newLst
def tOf (g : D → Store → Res Bool) (f : Fe) : Ft := fun ρ st => (f ρ st).bind g
def tNo : Ft := fun _ _ => .stuck
def tNot (t : Ft) : Ft := fun ρ st => (t ρ st).bind fun b st => .ok (!b) st
def tAnd (t u : Ft) : Ft := fun ρ st => (t ρ st).bind fun b st => if b then u ρ st else .ok false st
def tOr (t u : Ft) : Ft := fun ρ st => (t ρ st).bind fun b st => if b then .ok true st else u ρ st
def xIf (t : Ft) (f g : Fe) : Fe := fun ρ st => (t ρ st).bind fun b st => if b then f ρ st else g ρ st
def xNot (g : D → Store → Res Bool) (f : Fe) : Fe := fun ρ st => (f ρ st).bind fun d st => (g d st).bind fun b st => .ok (.bl (!b)) st
def xAnd (g : D → Store → Res Bool) (f h : Fe) : Fe := fun ρ st => (f ρ st).bind fun d st => (g d st).bind fun b st => if b then h ρ st else .ok d st
def xOr (g : D → Store → Res Bool) (f h : Fe) : Fe := fun ρ st => (f ρ st).bind fun d st => (g d st).bind fun b st => if b then .ok d st else h ρ st
/-- a op b op' c -/
def xChain (g g' : D → D → Store → Res D) (tr : D → Store → Res Bool) (f h k : Fe) : Fe := fun ρ st => (f ρ st).bind fun a st => (h ρ st).bind fun b st => (g a b st).bind fun c st => (tr c st).bind fun q st =>
  if q then (k ρ st).bind fun e st => g' b e st else .ok c st
def tChain (g g' : D → D → Store → Res D) (tr : D → Store → Res Bool) (f h k : Fe) : Ft := fun ρ st => (f ρ st).bind fun a st => (h ρ st).bind fun b st => (g a b st).bind fun c st => (tr c st).bind fun q st =>
  if q then (k ρ st).bind fun e st => (g' b e st).bind tr else .ok false st

section
variable {L : Lw} {X : Cx} {Wx : WX} {a b c : Expr} {f h k : Fe} {pos : Pos}
theorem re_no {e : Expr} : RE L X Wx e xNo := ⟨fun _ _ _ _ _ _ _ _ _ _ _ o => o.elim⟩
theorem rt_no {e : Expr} : RT L X Wx e tNo := ⟨fun _ _ _ _ _ _ _ _ _ _ _ o => o.elim⟩
theorem rw_no {e : Expr} : RW L X Wx e tNo := ⟨fun _ _ _ _ _ _ _ _ _ _ _ _ o => o.elim⟩
theorem RE.of_pe {e : Expr} {t : TE} (p : PE X e t) (hf : ∀ σ H W st ρ Q, Sok X.K L W st H → EnR X.K L W σ ρ → Out X.K L Wx W σ (okE X.K L Q) (f ρ st) → t σ H Q) : RE L X Wx e f :=
  ⟨fun pins s σ H W st ρ Q I S E o => p.run pins s σ H Q I (hf σ H W st ρ Q S E o)⟩
theorem re_var {i : Nat} {x : Str} (p : PE X (.Name x pos) (tVar i)) : RE L X Wx (.Name x pos) (xVar i) := RE.of_pe p fun σ H W st ρ Q S E o => by
  unfold xVar at o
  cases h1 : ρ[i]? with
  | none => rw [h1] at o; exact o.elim
  | some z =>
    cases z with
    | none => rw [h1] at o; exact o.elim
    | some d =>
      rw [h1] at o
      obtain ⟨v, e1, r⟩ := E.2 i d h1
      exact ⟨v, e1, o W H .rfl' S v r⟩
theorem re_k {e : Expr} {v : V} {d : D} (p : PE X e (tC v)) (r : ∀ W, Rl X.K L W d v) : RE L X Wx e (xK d) := RE.of_pe p fun σ H W st ρ Q S E o => o W H .rfl' S v (r W)
theorem re_int {i : Int} {j : Nat} : RE L X Wx (.Constant (.int i) j pos) (xK (.int i)) := re_k pe_int fun _ => Rl.int.mpr rfl
theorem re_bl {i : Bool} {j : Nat} : RE L X Wx (.Constant (.bool i) j pos) (xK (.bl i)) := re_k pe_bl fun _ => Rl.bl.mpr rfl
theorem re_non {j : Nat} : RE L X Wx (.Constant .none j pos) (xK .non) := re_k pe_non fun _ => Rl.non.mpr rfl
theorem re_str {x : Str} {j : Nat} : RE L X Wx (.Constant (.str x) j pos) (xK (.str x)) := re_k pe_str fun _ => Rl.str.mpr rfl

theorem binRun {g : D → D → Store → Res D} {F : Value → Value → Sem Value} {P : Value → Shared → Prop} (ha : RE L X Wx a f) (hb : RE L X Wx b h) {pins : List (Addr × Obj)} {s : Shared} {σ : St} {H : Hp} {W : Wd} {st : Store} {ρ : Ev} {β : Type} {Ok : Wd → Hp → β → Prop} {k : D → D → Store → Res β}
    (I : Inv X pins σ H s) (S : Sok X.K L W st H) (E : EnR X.K L W σ ρ) (o : Out X.K L Wx W σ Ok ((f ρ st).bind fun a st => (h ρ st).bind fun b st => k a b st))
    (hk : ∀ d1 d2 st2 W2 H2 x y v u s2, W.le W2 → Inv X pins σ H2 s2 → Sok X.K L W2 st2 H2 → Rl X.K L W2 d1 x → Rl X.K L W2 d2 y → RelV x v → RelV y u → Out X.K L Wx W2 σ Ok (k d1 d2 st2) → wpAny (model X.prog X.w) X.A (F v u) P X.xe s2) :
    wpAny (model X.prog X.w) X.A (eval a X.env) (fun v s₁ => wpAny (model X.prog X.w) X.A (eval b X.env) (fun u s₂ => wpAny (model X.prog X.w) X.A (F v u) P X.xe s₂) X.xe s₁) X.xe s := by
  refine ha.bind I S E o fun d1 st1 W1 H1 x v s1 e1 I1 S1 R1 r1 o1 => ?_
  refine hb.bind I1 S1 (E.mono e1) o1 fun d2 st2 W2 H2 y u s2 e2 I2 S2 R2 r2 o2 => ?_
  exact hk d1 d2 st2 W2 H2 x y v u s2 (e1.trans e2) I2 S2 (R1.mono e2) R2 r1 r2 o2
theorem re_bin {op : Operator} {g : D → D → Store → Res D} (ho : R2v L X Wx (binaryOp op) g) (ha : RE L X Wx a f) (hb : RE L X Wx b h) : RE L X Wx (.BinOp a op b pos) (xBin g f h) :=
  ⟨fun pins s σ H W st ρ Q I S E o => wpAny_BinOp (binRun (F := binaryOp op) (g := g) ha hb I S E o fun d1 d2 st2 W2 H2 x y v u s2 _ I2 S2 R1 R2 r1 r2 o2 => ho pins s2 σ H2 W2 st2 d1 d2 x y v u Q I2 S2 R1 R2 r1 r2 o2)⟩
theorem re_un {op : UnaryOp} {g : D → Store → Res D} (ho : R1v L X Wx (unaryOp op) g) (ha : RE L X Wx a f) : RE L X Wx (.UnaryOp op a pos) (xUn g f) :=
  ⟨fun pins s σ H W st ρ Q I S E o => UnaryOp_ (ha.bind I S E o fun d1 st1 W1 H1 x v s1 e1 I1 S1 R1 r1 o1 => ho pins s1 σ H1 W1 st1 d1 x v Q I1 S1 R1 r1 o1)⟩
theorem re_cmp {op : CmpOp} {g : D → D → Store → Res D} (ho : R2v L X Wx (compareOp op) g) (ha : RE L X Wx a f) (hb : RE L X Wx b h) (hm : behindInMarks op b = false) : RE L X Wx (.Compare a [op] [b] pos) (xBin g f h) :=
  ⟨fun pins s σ H W st ρ Q I S E o => wpAny_Compare1 (binRun (F := compareOp op) (g := g) ha hb I S E o fun d1 d2 st2 W2 H2 x y v u s2 _ I2 S2 R1 R2 r1 r2 o2 => ho pins s2 σ H2 W2 st2 d1 d2 x y v u Q I2 S2 R1 R2 r1 r2 o2) hm⟩

/-- a value's operation, then more -/
theorem R2v.bind {F : Value → Value → Sem Value} {g : D → D → Store → Res D} (ho : R2v L X Wx F g) {pins : List (Addr × Obj)} {s : Shared} {σ : St} {H : Hp} {W : Wd} {st : Store} {d1 d2 : D} {x y : V} {v u : Value} {β : Type} {Ok : Wd → Hp → β → Prop} {k : D → Store → Res β} {P : Value → Shared → Prop}
    (I : Inv X pins σ H s) (S : Sok X.K L W st H) (R1 : Rl X.K L W d1 x) (R2 : Rl X.K L W d2 y) (r1 : RelV x v) (r2 : RelV y u) (o : Out X.K L Wx W σ Ok ((g d1 d2 st).bind k))
    (hk : ∀ d st1 W1 H1 z w s1, W.le W1 → Inv X pins σ H1 s1 → Sok X.K L W1 st1 H1 → Rl X.K L W1 d z → RelV z w → Out X.K L Wx W1 σ Ok (k d st1) → P w s1) : wpAny (model X.prog X.w) X.A (F v u) P X.xe s := by
  cases q : g d1 d2 st with
  | ok d st1 =>
    rw [q] at o
    refine thn (ho pins s σ H W st d1 d2 x y v u (fun z H1 => ∃ W1, W.le W1 ∧ Sok X.K L W1 st1 H1 ∧ Rl X.K L W1 d z) I S R1 R2 r1 r2 ?_) fun w s1 ⟨z, H1, I1, rz, W1, e1, S1, Rz⟩ => hk d st1 W1 H1 z w s1 e1 I1 S1 Rz rz (Out.mono e1 o)
    rw [q]
    exact fun W' H' e' S' z R' => ⟨W', e', S', R'⟩
  | err x' st1 =>
    rw [q] at o
    refine thn (ho pins s σ H W st d1 d2 x y v u (fun _ _ => False) I S R1 R2 r1 r2 ?_) fun w s1 ⟨z, H1, I1, rz, hz⟩ => hz.elim
    rw [q]
    exact o
  | stuck => rw [q] at o; exact o.elim
theorem R1v.bind {F : Value → Sem Value} {g : D → Store → Res D} (ho : R1v L X Wx F g) {pins : List (Addr × Obj)} {s : Shared} {σ : St} {H : Hp} {W : Wd} {st : Store} {d1 : D} {x : V} {v : Value} {β : Type} {Ok : Wd → Hp → β → Prop} {k : D → Store → Res β} {P : Value → Shared → Prop}
    (I : Inv X pins σ H s) (S : Sok X.K L W st H) (R1 : Rl X.K L W d1 x) (r1 : RelV x v) (o : Out X.K L Wx W σ Ok ((g d1 st).bind k))
    (hk : ∀ d st1 W1 H1 z w s1, W.le W1 → Inv X pins σ H1 s1 → Sok X.K L W1 st1 H1 → Rl X.K L W1 d z → RelV z w → Out X.K L Wx W1 σ Ok (k d st1) → P w s1) : wpAny (model X.prog X.w) X.A (F v) P X.xe s := by
  cases q : g d1 st with
  | ok d st1 =>
    rw [q] at o
    refine thn (ho pins s σ H W st d1 x v (fun z H1 => ∃ W1, W.le W1 ∧ Sok X.K L W1 st1 H1 ∧ Rl X.K L W1 d z) I S R1 r1 ?_) fun w s1 ⟨z, H1, I1, rz, W1, e1, S1, Rz⟩ => hk d st1 W1 H1 z w s1 e1 I1 S1 Rz rz (Out.mono e1 o)
    rw [q]
    exact fun W' H' e' S' z R' => ⟨W', e', S', R'⟩
  | err x' st1 =>
    rw [q] at o
    refine thn (ho pins s σ H W st d1 x v (fun _ _ => False) I S R1 r1 ?_) fun w s1 ⟨z, H1, I1, rz, hz⟩ => hz.elim
    rw [q]
    exact o
  | stuck => rw [q] at o; exact o.elim
theorem Rtv.bind {g : D → Store → Res Bool} (ho : Rtv L X Wx g) {pins : List (Addr × Obj)} {s : Shared} {σ : St} {H : Hp} {W : Wd} {st : Store} {d1 : D} {x : V} {v : Value} {β : Type} {Ok : Wd → Hp → β → Prop} {k : Bool → Store → Res β} {P : Bool → Shared → Prop}
    (I : Inv X pins σ H s) (S : Sok X.K L W st H) (R1 : Rl X.K L W d1 x) (r1 : RelV x v) (o : Out X.K L Wx W σ Ok ((g d1 st).bind k))
    (hk : ∀ b st1 W1 H1 s1, W.le W1 → Inv X pins σ H1 s1 → Sok X.K L W1 st1 H1 → Out X.K L Wx W1 σ Ok (k b st1) → P b s1) : wpAny (model X.prog X.w) X.A (truthy v) P X.xe s := by
  cases q : g d1 st with
  | ok d st1 =>
    rw [q] at o
    refine thn (ho pins s σ H W st d1 x v (fun b H1 => b = d ∧ ∃ W1, W.le W1 ∧ Sok X.K L W1 st1 H1) I S R1 r1 ?_) fun w s1 ⟨H1, I1, e, W1, e1, S1⟩ => by subst e; exact hk _ st1 W1 H1 s1 e1 I1 S1 (Out.mono e1 o)
    rw [q]
    exact fun W' H' e' S' => ⟨rfl, W', e', S'⟩
  | err x' st1 =>
    rw [q] at o
    refine thn (ho pins s σ H W st d1 x v (fun _ _ => False) I S R1 r1 ?_) fun w s1 ⟨H1, I1, hz⟩ => hz.elim
    rw [q]
    exact o
  | stuck => rw [q] at o; exact o.elim

/-- .. as a test -/
theorem rt_cmp {op : CmpOp} {g : D → D → Store → Res D} {tr : D → Store → Res Bool} (ht : Rtv L X Wx tr) (ho : R2v L X Wx (compareOp op) g) (ha : RE L X Wx a f) (hb : RE L X Wx b h) (hm : behindInMarks op b = false) : RT L X Wx (.Compare a [op] [b] pos) (tOf tr (xBin g f h)) := by
  refine ⟨fun pins s σ H W st ρ Q I S E o => wpAny_isTrue_Compare1 ?_ hm⟩
  have o' : Out X.K L Wx W σ (okT Q) ((f ρ st).bind fun a st => (h ρ st).bind fun b st => (g a b st).bind tr) := by
    unfold tOf xBin at o
    revert o
    cases f ρ st with
    | ok d st1 =>
      simp only [Res.bind_ok]
      cases h ρ st1 with
      | ok d st1 => exact id
      | err x st1 => exact id
      | stuck => exact id
    | err x st1 => exact id
    | stuck => exact id
  refine binRun (g := g) (F := compareOp op) ha hb I S E o' fun d1 d2 st2 W2 H2 x y v u s2 _ I2 S2 R1 R2 r1 r2 o2 => ?_
  exact ho.bind I2 S2 R1 R2 r1 r2 o2 fun d st3 W3 H3 z w s3 e3 I3 S3 R3 r3 o3 => ht pins s3 σ H3 W3 st3 d z w Q I3 S3 R3 r3 o3
theorem rt_of {g : D → Store → Res Bool} (ht : Rtv L X Wx g) (ha : RE L X Wx a f) (he : ∀ whole, isTrue a X.env whole = (do let v ← whole; standAt a.pos; holding [v] (truthy v)) := by intro _; rfl) : RT L X Wx a (tOf g f) :=
  ⟨fun pins s σ H W st ρ Q I S E o => isTrue_plain (ha.bind I S E o fun d st1 W1 H1 x v s1 e1 I1 S1 R1 r1 o1 => ht pins s1 σ H1 W1 st1 d x v Q I1 S1 R1 r1 o1) (he _)⟩
theorem RW.rt {e : Expr} {t : Ft} (w : RW L X Wx e t) : RT L X Wx e t := ⟨w.run _⟩
theorem rw_and1 {t : Ft} (ha : RT L X Wx a t) : RW L X Wx (.BoolOp .And [a] pos) t := by
  refine ⟨fun wh pins s σ H W st ρ Q I S E o => isTrue_and (thn (ha.run pins s σ H W st ρ Q I S E o) fun c s1 q => ?_)⟩
  cases c with
  | true => exact isTrue_and_nil q
  | false => exact q
theorem rw_or1 {t : Ft} (ha : RT L X Wx a t) : RW L X Wx (.BoolOp .Or [a] pos) t := by
  refine ⟨fun wh pins s σ H W st ρ Q I S E o => isTrue_or (thn (ha.run pins s σ H W st ρ Q I S E o) fun c s1 q => ?_)⟩
  cases c with
  | false => exact isTrue_or_nil q
  | true => exact q
theorem rw_and {rest : List Expr} {t u : Ft} (ha : RT L X Wx a t) (hb : RW L X Wx (.BoolOp .And (b :: rest) pos) u) : RW L X Wx (.BoolOp .And (a :: b :: rest) pos) (tAnd t u) := by
  refine ⟨fun wh pins s σ H W st ρ Q I S E o => isTrue_and (ha.bind I S E o fun c st1 W1 H1 s1 e1 I1 S1 o1 => ?_)⟩
  cases c with
  | true => exact hb.run wh pins s1 σ H1 W1 st1 ρ Q I1 S1 (E.mono e1) o1
  | false => exact ⟨H1, I1, o1 W1 H1 .rfl' S1⟩
theorem rw_or {rest : List Expr} {t u : Ft} (ha : RT L X Wx a t) (hb : RW L X Wx (.BoolOp .Or (b :: rest) pos) u) : RW L X Wx (.BoolOp .Or (a :: b :: rest) pos) (tOr t u) := by
  refine ⟨fun wh pins s σ H W st ρ Q I S E o => isTrue_or (ha.bind I S E o fun c st1 W1 H1 s1 e1 I1 S1 o1 => ?_)⟩
  cases c with
  | false => exact hb.run wh pins s1 σ H1 W1 st1 ρ Q I1 S1 (E.mono e1) o1
  | true => exact ⟨H1, I1, o1 W1 H1 .rfl' S1⟩
theorem rt_not {t : Ft} (ha : RT L X Wx a t) : RT L X Wx (.UnaryOp .Not a pos) (tNot t) :=
  ⟨fun pins s σ H W st ρ Q I S E o => isTrue_not (ha.bind I S E o fun c st1 W1 H1 s1 e1 I1 S1 o1 => ⟨H1, I1, o1 W1 H1 .rfl' S1⟩)⟩
theorem rt_ifExp {t u : Ft} {v : Ft} (hc : RT L X Wx c t) (ha : RT L X Wx a u) (hb : RT L X Wx b v) : RT L X Wx (.IfExp c a b pos) (fun ρ st => (t ρ st).bind fun q st => if q then u ρ st else v ρ st) :=
  ⟨fun pins s σ H W st ρ Q I S E o => isTrue_IfExp (hc.bind I S E o fun d st1 W1 H1 s1 e1 I1 S1 o1 => by
    cases d with
    | true => exact ha.run pins s1 σ H1 W1 st1 ρ Q I1 S1 (E.mono e1) o1
    | false => exact hb.run pins s1 σ H1 W1 st1 ρ Q I1 S1 (E.mono e1) o1)⟩
/-- .. as values -/
theorem re_one {op : BoolOp} (ha : RE L X Wx a f) : RE L X Wx (.BoolOp op [a] pos) f := ⟨fun pins s σ H W st ρ Q I S E o => BoolOp_one (ha.run pins s σ H W st ρ Q I S E o)⟩
theorem re_and {rest : List Expr} {g : D → Store → Res Bool} (ht : Rtv L X Wx g) (ha : RE L X Wx a f) (hb : RE L X Wx (.BoolOp .And (b :: rest) pos) h) : RE L X Wx (.BoolOp .And (a :: b :: rest) pos) (xAnd g f h) := by
  refine ⟨fun pins s σ H W st ρ Q I S E o => BoolOp_and (ha.bind I S E o fun d st1 W1 H1 x v s1 e1 I1 S1 R1 r1 o1 => ht.bind I1 S1 R1 r1 o1 fun q st2 W2 H2 s2 e2 I2 S2 o2 => ?_)⟩
  cases q with
  | true => exact hb.run pins s2 σ H2 W2 st2 ρ Q I2 S2 (E.mono (e1.trans e2)) o2
  | false => exact ⟨x, H2, I2, r1, o2 W2 H2 .rfl' S2 x (R1.mono e2)⟩
theorem re_or {rest : List Expr} {g : D → Store → Res Bool} (ht : Rtv L X Wx g) (ha : RE L X Wx a f) (hb : RE L X Wx (.BoolOp .Or (b :: rest) pos) h) : RE L X Wx (.BoolOp .Or (a :: b :: rest) pos) (xOr g f h) := by
  refine ⟨fun pins s σ H W st ρ Q I S E o => BoolOp_or (ha.bind I S E o fun d st1 W1 H1 x v s1 e1 I1 S1 R1 r1 o1 => ht.bind I1 S1 R1 r1 o1 fun q st2 W2 H2 s2 e2 I2 S2 o2 => ?_)⟩
  cases q with
  | false => exact hb.run pins s2 σ H2 W2 st2 ρ Q I2 S2 (E.mono (e1.trans e2)) o2
  | true => exact ⟨x, H2, I2, r1, o2 W2 H2 .rfl' S2 x (R1.mono e2)⟩
theorem re_not {g : D → Store → Res Bool} (ht : Rtv L X Wx g) (ha : RE L X Wx a f) : RE L X Wx (.UnaryOp .Not a pos) (xNot g f) :=
  ⟨fun pins s σ H W st ρ Q I S E o => UnaryOp_ (ha.bind I S E o fun d st1 W1 H1 x v s1 e1 I1 S1 R1 r1 o1 => not_of (ht.bind I1 S1 R1 r1 o1 fun q st2 W2 H2 s2 e2 I2 S2 o2 => ⟨.bl (!q), H2, I2, rfl, o2 W2 H2 .rfl' S2 _ (Rl.bl.mpr rfl)⟩))⟩
theorem re_ifExp {t : Ft} (hc : RT L X Wx c t) (ha : RE L X Wx a f) (hb : RE L X Wx b h) : RE L X Wx (.IfExp c a b pos) (xIf t f h) :=
  ⟨fun pins s σ H W st ρ Q I S E o => wpAny_IfExp (hc.bind I S E o fun d st1 W1 H1 s1 e1 I1 S1 o1 => by
    cases d with
    | true => exact ha.run pins s1 σ H1 W1 st1 ρ Q I1 S1 (E.mono e1) o1
    | false => exact hb.run pins s1 σ H1 W1 st1 ρ Q I1 S1 (E.mono e1) o1)⟩
theorem re_chain {op op' : CmpOp} {g g' : D → D → Store → Res D} {tr : D → Store → Res Bool} (ht : Rtv L X Wx tr) (ho : R2v L X Wx (compareOp op) g) (ho' : R2v L X Wx (compareOp op') g') (ha : RE L X Wx a f) (hb : RE L X Wx b h) (hc : RE L X Wx c k)
    (hm : lastMarks [op, op'] [b, c] = false := by with_unfolding_all rfl) : RE L X Wx (.Compare a [op, op'] [b, c] pos) (xChain g g' tr f h k) := by
  refine ⟨fun pins s σ H W st ρ Q I S E o => Compare_chain (ha.bind I S E o fun d1 st1 W1 H1 x v s1 e1 I1 S1 R1 r1 o1 => chain_link (hb.bind I1 S1 (E.mono e1) o1 fun d2 st2 W2 H2 y u s2 e2 I2 S2 R2 r2 o2 =>
    ho.bind I2 S2 (R1.mono e2) R2 r1 r2 o2 fun d3 st3 W3 H3 z w s3 e3 I3 S3 R3 r3 o3 => ht.bind I3 S3 R3 r3 o3 fun q st4 W4 H4 s4 e4 I4 S4 o4 => ?_)) hm⟩
  cases q with
  | false => exact ite_ff ⟨z, H4, I4, r3, o4 W4 H4 .rfl' S4 z (R3.mono e4)⟩
  | true =>
    have E4 := E.mono (e1.trans (e2.trans (e3.trans e4)))
    exact ite_tt (chain_last (hc.bind I4 S4 E4 o4 fun d5 st5 W5 H5 z5 u5 s5 e5 I5 S5 R5 r5 o5 => ho' pins s5 σ H5 W5 st5 d2 d5 y z5 u u5 Q I5 S5 (R2.mono (e3.trans (e4.trans e5))) R5 r2 r5 o5))
theorem rt_chain {op op' : CmpOp} {g g' : D → D → Store → Res D} {tr : D → Store → Res Bool} (ht : Rtv L X Wx tr) (ho : R2v L X Wx (compareOp op) g) (ho' : R2v L X Wx (compareOp op') g') (ha : RE L X Wx a f) (hb : RE L X Wx b h) (hc : RE L X Wx c k)
    (hm : lastMarks [op, op'] [b, c] = false := by with_unfolding_all rfl) : RT L X Wx (.Compare a [op, op'] [b, c] pos) (tChain g g' tr f h k) := by
  refine ⟨fun pins s σ H W st ρ Q I S E o => isTrue_chain (ha.bind I S E o fun d1 st1 W1 H1 x v s1 e1 I1 S1 R1 r1 o1 => test_link (hb.bind I1 S1 (E.mono e1) o1 fun d2 st2 W2 H2 y u s2 e2 I2 S2 R2 r2 o2 =>
    ho.bind I2 S2 (R1.mono e2) R2 r1 r2 o2 fun d3 st3 W3 H3 z w s3 e3 I3 S3 R3 r3 o3 => ht.bind I3 S3 R3 r3 o3 fun q st4 W4 H4 s4 e4 I4 S4 o4 => ?_)) hm⟩
  cases q with
  | false => exact ite_ff ⟨H4, I4, o4 W4 H4 .rfl' S4⟩
  | true =>
    have E4 := E.mono (e1.trans (e2.trans (e3.trans e4)))
    exact ite_tt (test_last (hc.bind I4 S4 E4 o4 fun d5 st5 W5 H5 z5 u5 s5 e5 I5 S5 R5 r5 o5 => ho'.bind I5 S5 (R2.mono (e3.trans (e4.trans e5))) R5 r2 r5 o5 fun d6 st6 W6 H6 z6 u6 s6 e6 I6 S6 R6 r6 o6 => ht pins s6 σ H6 W6 st6 d6 z6 u6 Q I6 S6 R6 r6 o6))

/-! ### arguments, displays -/
theorem ra_nil : RA L X Wx [] aNil := ⟨fun ρ st ds st' e => by cases e; rfl, fun _ _ _ σ H W st ρ Q I S E o => Calls.spliced_nil ⟨[], H, I, .nil, o W H .rfl' S [] (Rls.nil.mpr rfl)⟩⟩
theorem ra_cons {es : List Expr} {r : Fa} (ha : RE L X Wx a f) (hr : RA L X Wx es r) (hs : starEach (a :: es) X.env = (false, eval a X.env) :: starEach es X.env := by rfl) : RA L X Wx (a :: es) (aCons f r) := by
  refine ⟨fun ρ st ds st' e => ?_, fun pos pins s σ H W st ρ Q I S E o => ?_⟩
  · unfold aCons at e
    revert e
    cases f ρ st with
    | ok d st1 =>
      simp only [Res.bind_ok]
      cases q : r ρ st1 with
      | ok l st2 => intro e; cases e; rw [List.length_cons, List.length_cons, hr.len _ _ _ _ q]
      | err x st1 => intro e; cases e
      | stuck => intro e; cases e
    | err x st1 => intro e; cases e
    | stuck => intro e; cases e
  · rw [hs]
    show wpAny _ _ (spliced ((false, eval a X.env) :: backTo pos (starEach es X.env))) _ _ s
    refine Calls.spliced_cons (ha.bind I S E o fun d st1 W1 H1 x v s1 e1 I1 S1 R1 r1 o1 => ?_)
    exact hr.bind I1 S1 (E.mono e1) o1 fun ds st2 W2 H2 vs us s2 _ e2 I2 S2 R2 r2 o2 => ⟨x :: vs, H2, I2, .cons r1 r2, o2 W2 H2 .rfl' S2 _ (Rls.mk (R1.mono e2) R2)⟩
theorem re_tup {es : List Expr} {r : Fa} {x1} (hr : RA L X Wx es r) (hz : es.length ≤ 1000 := by decide) : RE L X Wx (.Tuple es x1 pos) (xTup r) := by
  refine ⟨fun pins s σ H W st ρ Q I S E o => ?_⟩
  refine wpAny_Tuple_spliced (hr.bind I S E o fun ds st1 W1 H1 vs us s1 hl e1 I1 S1 R1 r1 o1 => ?_)
  have hlen : vs.length ≤ sizeLine := by rw [← R1.length, hl, sizeLine_eq]; omega
  refine ⟨by rw [← r1.length]; exact hlen, ?_⟩
  have hf : H1 s1.heap.objs.size = none := I1.hok.fresh (Nat.le_refl _)
  obtain ⟨e2, S2⟩ := S1.alloc_fz (o := .tup vs) hf
  refine ⟨.ref s1.heap.objs.size, upd H1 s1.heap.objs.size (.tup vs), I1.laid (t' := s1.toks) (fun b u e => Heap.get?_push_of_some _ e) (Nat.le_refl _) ⟨hlen, us, r1, ⟨_, Heap.get?_push_size _ rfl, rfl, _, rfl⟩⟩, rfl, ?_⟩
  exact o1 _ _ e2 S2 _ (Rl.tup.mpr ⟨_, vs, rfl, .inl (.inl (by show upd _ _ _ _ = _; exact upd_same)), R1.mono e2⟩)
theorem Sok.ofNew {K : PySem.W.Frag} {W : Wd} {st : Store} {H : Hp} {p : Addr} {ds : List D} {vs : List V} (S : Sok K L W st H) (hp : H p = none) (R : Rls K L W ds vs) : Sok K L (W.more p) (st ++ [.lst ds]) (upd H p (.lst vs)) :=
  S.alloc hp ⟨vs, upd_same, R.mono Wd.le_more⟩
theorem Rl.newRef {K : PySem.W.Frag} {W : Wd} {st : Store} {H : Hp} {p : Addr} (S : Sok K L W st H) : Rl K L (W.more p) (.ref st.length) (.ref p) := Rl.ref.mpr ⟨p, rfl, by
  show (W.io ++ [p])[st.length]? = some p
  rw [S.len, List.getElem?_concat_length]⟩
theorem re_lst {es : List Expr} {r : Fa} (hr : RA L X Wx es r) (hz : es.length ≤ 1000 := by decide) : RE L X Wx (.List es pos) (xLst r) := by
  refine ⟨fun pins s σ H W st ρ Q I S E o => ?_⟩
  refine wpAny_List_spliced (hr.bind I S E o fun ds st1 W1 H1 vs us s1 hl e1 I1 S1 R1 r1 o1 => ?_)
  have hlen : vs.length ≤ sizeLine := by rw [← R1.length, hl, sizeLine_eq]; omega
  refine ⟨by rw [← r1.length]; exact hlen, ?_⟩
  have hf : H1 s1.heap.objs.size = none := I1.hok.fresh (Nat.le_refl _)
  refine ⟨.ref s1.heap.objs.size, upd H1 s1.heap.objs.size (.lst vs), I1.laid (t' := s1.toks) (fun b u e => Heap.get?_push_of_some _ e) (Nat.le_refl _) ⟨hlen, us, 0, r1, Heap.get?_push_size _ rfl⟩, rfl, ?_⟩
  exact o1 _ _ Wd.le_more (S1.ofNew hf R1) _ (Rl.newRef S1)
end
end Gm
namespace Gm
open PySem PySem.Spec PyProof.Rows L2
/-! ### defs by their codes -/
abbrev Fn := Nat → List D → Store → Res D
/-- the promise: the def hands back what m says -/
def spM (K : PySem.W.Frag) (L : Lw) (n : Nat) (m : List D → Store → Res D) : Sp := fun vs H Q E => vs.length = n ∧ ∃ ds W st, Rls K L W ds vs ∧ Sok K L W st H ∧ Out K L (fun c d _ H => E c d H) W [] (okE K L Q) (m ds st)
/-- a call: the arguments that lack are filled up by a tail of defaults -/
def callD (T : Ls) (c : Fn) (f : Nat) (ds : List D) (st : Store) : Res D := match (T.dfl f).find? fun t => decide (ds.length + t.length = (T.fps f).length) with
  | some t => c f (ds ++ t) st
  | none => .stuck
theorem callD_some {T : Ls} {c : Fn} {f : Nat} {ds : List D} {st : Store} (h : callD T c f ds st ≠ .stuck) : ∃ t, t ∈ T.dfl f ∧ ds.length + t.length = (T.fps f).length ∧ callD T c f ds st = c f (ds ++ t) st := by
  unfold callD at h ⊢
  cases e : (T.dfl f).find? fun t => decide (ds.length + t.length = (T.fps f).length) with
  | none => rw [e] at h; exact absurd rfl h
  | some t => exact ⟨t, List.mem_of_find?_eq_some e, by simpa using List.find?_some e, rfl⟩
/-- codes of the names that operators look for -/
def opn : Operator → Nat
  | .Add => 1 | .Sub => 2 | .Mult => 3 | .FloorDiv => 4 | .Mod => 5 | .Pow => 6 | .BitAnd => 7 | .BitOr => 8 | .BitXor => 9 | _ => 0
def opr : Operator → Nat
  | .Add => 11 | .Sub => 12 | .Mult => 13 | .FloorDiv => 14 | .Mod => 15 | .Pow => 16 | .BitAnd => 17 | .BitOr => 18 | .BitXor => 19 | _ => 0
def cmn : CmpOp → Nat
  | .Eq => 21 | .Lt => 22 | .LtE => 23 | .Gt => 24 | .GtE => 25 | _ => 0
def cmr : CmpOp → Nat
  | .Eq => 21 | .Lt => 24 | .LtE => 25 | .Gt => 22 | .GtE => 23 | _ => 0
def nameOf : Nat → Str
  | 1 => "__add__" | 2 => "__sub__" | 3 => "__mul__" | 4 => "__floordiv__" | 5 => "__mod__" | 6 => "__pow__" | 7 => "__and__" | 8 => "__or__" | 9 => "__xor__"
  | 11 => "__radd__" | 12 => "__rsub__" | 13 => "__rmul__" | 14 => "__rfloordiv__" | 15 => "__rmod__" | 16 => "__rpow__" | 17 => "__rand__" | 18 => "__ror__" | 19 => "__rxor__"
  | 21 => "__eq__" | 22 => "__lt__" | 23 => "__le__" | 24 => "__gt__" | 25 => "__ge__" | 27 => "__contains__"
  | 31 => "__neg__" | 32 => "__invert__" | 33 => "__abs__" | 34 => "__bool__" | 35 => "__str__" | 36 => "__call__" | 37 => "__init__" | 38 => "__len__" | 39 => "__getitem__"
  | _ => ""
/-- what the words ask of an own class -/
structure ClsOk (K : PySem.W.Frag) (C : Addr) : Prop where
  cls : Cls K C
  first : PySem.W.selfFirst K C = true
  keep : PySem.W.keepIn K (.ref C) = true
def kinds : List String := ["NoneType", "bool", "int", "str", "list", "tuple", "dict"]
/-- what a def that declines is asked by -/
def niB : Nat := 1000000
/-- a def declines where nt says so, and leaves the store as it is -/
structure NiOk (L : Lw) (P : Program) (w : World) (K : PySem.W.Frag) (mg : Str → Option Value) (base : Heap) (k : Nat) (f : Addr) (fd : FuncData) (ps : List Str) (nt : List D → Store → Res D) : Prop where
  run : ∀ (A : Around) (outer : List Env) (s : Shared) (H : Hp) (args : Args) (us : List Value) (vs : List V) (ds : List D) (W : Wd) (st : Store) (E : XK), Room k A → Env0 P w K mg base A outer s H → BindsTo s fd args (ps.zip us) → Vals vs us → vs.length = ps.length → Rls K L W ds vs → Sok K L W st H → nt ds st = .ok (.bl true) st →
    codeAny (model P w) A (.call (.ref f) args) (fun r s' => match r with
      | .ok (.ret u) => u = .notImplemented ∧ CE outer P w H s (fun v H' => v = .non ∧ ∃ W', W.le W' ∧ Sok K L W' st H') .none s'
      | .ok _ => False
      | .error e => L2.CX P w outer H s E e s') s
structure FOk (L : Lw) (P : Program) (w : World) (K : PySem.W.Frag) (mg : Str → Option Value) (base : Heap) (k : Nat) (c : Fn) : Prop where
  fn : ∀ f, L.isF f = true → FnOk P w K mg base (L2.CX P w) k (L.fad f) (L.fdt f) (L.fps f) (spM K L (L.fps f).length (c f))
  kp : ∀ f, L.isF f = true → PySem.W.keepIn K (.ref (L.fad f)) = true
  fi : ∀ f, L.isF f = true → PySem.W.fnIn K (L.fad f) = true
  bt : ∀ f, L.isF f = true → ∀ t ∈ L.dfl f, ∃ dvs dsV, Binds K (L.fdt f) (L.fps f) dsV ∧ Vals dvs dsV ∧ ∀ W, Rls K L W t dvs
  mt : ∀ i m f, L.meth i m = some f → L.isC i = true ∧ L.isF f = true ∧ Meth K (L.cad i) (L.nm m) (L.fad f)
  mi : ∀ i f, L.meth i 37 = some f → Mk K (L.cad i) (L.fad f)
  pr : ∀ i m f, L.prop i m = some f → L.isC i = true ∧ L.isF f = true ∧ ∃ p, PropOf K (L.cad i) (L.nm m) p (L.fad f)
  cl : ∀ i, L.isC i = true → ClsOk K (L.cad i)
  la : ∀ i g, g ∈ L.lay i → g ∈ L.atn i
  ly : ∀ i g, L.isC i = true → g ∈ L.atn i → NoAttr K (L.cad i) (L.nm g)
  li : ∀ i g h, L.isC i = true → g ∈ L.atn i → h ∈ L.atn i → L.nm g = L.nm h → g = h
  lm : ∀ i g m f, g ∈ L.atn i → L.meth i m = some f → L.nm g ≠ L.nm m
  ci : ∀ i j, L.isC i = true → L.isC j = true → L.cad i = L.cad j → i = j
  nm : ∀ n, n ≠ 0 → n < 40 → nameOf n ≠ "" → L.nm n = nameOf n
  bi : ∀ (op : Operator), opn op ≠ 0 → ∃ fo ro, PySem.W.findIn K (.type "int") (PySem.dunder op.info.2) = some fo ∧ PySem.W.findIn K (.type "int") (dunderR op.info.2) = some ro
  /-- an operator's names in a class: a def of one's own or none -/
  rf : ∀ i (op : Operator), L.isC i = true → opn op ≠ 0 → ∃ rc, PySem.W.findIn K (.ref (L.cad i)) (dunderR op.info.2) = some rc ∧ (rc = none ∨ ∃ g : Addr, rc = some (.ref g))
  /-- no class of these is within another -/
  sb : ∀ i j, L.isC i = true → L.isC j = true → i ≠ j → PySem.W.subIn K (.ref (L.cad i)) (.ref (L.cad j)) = some false ∧ L.cad i ≠ L.cad j
  sT : ∀ i, L.isC i = true → PySem.W.subIn K (.type "int") (.ref (L.cad i)) = some false ∧ PySem.W.subIn K (.ref (L.cad i)) (.type "int") = some false
  /-- what every class has from object -/
  ob : ∀ i, L.isC i = true → PySem.W.mroIn K (L.cad i) (.type "object") = some true
  oc : ∀ i, L.isC i = true → PySem.W.findIn K (.ref (L.cad i)) "__class__" = some (some (.builtin "object.__class__"))
  og : PySem.W.specialIn K (.builtin "object.__class__") "__get__" = some (some (.builtin "getset_descriptor.__get__"))
  ot : PySem.W.takesIn K (.builtin "object.__class__") = some true
  ne : ∀ i f, L.meth i 21 = some f → PySem.W.findIn K (.ref (L.cad i)) "__ne__" = some (some (.builtin "object.__ne__"))
  tb : ∀ i, L.isC i = true → L.meth i 34 = none → L.meth i 38 = none → PySem.W.findIn K (.ref (L.cad i)) "__bool__" = some none ∧ PySem.W.findIn K (.ref (L.cad i)) "__len__" = some none
  /-- isinstance -/
  ko : ∀ i j, L.isC i = true → L.isC j = true → PySem.W.kitOne K (.ref (L.cad i)) (.ref (L.cad j)) = some (L.sub i j)
  kt : ∀ j t, L.isC j = true → t ∈ kinds → PySem.W.kitOne K (.type t) (.ref (L.cad j)) = some false
  kb : ∀ i t, L.isC i = true → t ∈ kinds → PySem.W.kitOne K (.ref (L.cad i)) (.type t) = some false
  no : ∀ f, L.isF f = true → NiOk L P w K mg base k (L.fad f) (L.fdt f) (L.fps f) (c (f + niB))
structure Gd (L : Lw) (X : Cx) (Wx : WX) (k : Nat) (c : Fn) : Prop where
  fo : FOk L X.prog X.w X.K X.mg X.base k c
  room : Room (k + 9) X.A
  tk : Takes X Wx
  calm : X.calm = true
  po : PassesOwn (model X.prog X.w) X.A X.env X.xe
  nd : X.N.Nodup
theorem opn_name {op : Operator} (h : opn op ≠ 0) : nameOf (opn op) = PySem.dunder op.info.2 ∧ nameOf (opn op) ≠ "" ∧ opn op < 40 := by
  cases op <;> first | exact absurd rfl h | decide +kernel
theorem opr_name {op : Operator} (h : opn op ≠ 0) : nameOf (opr op) = dunderR op.info.2 ∧ nameOf (opr op) ≠ "" ∧ opr op < 40 ∧ opr op ≠ 0 := by
  cases op <;> first | exact absurd rfl h | decide +kernel

theorem NiOk.none {L : Lw} {P : Program} {w : World} {K : PySem.W.Frag} {mg : Str → Option Value} {base : Heap} {k : Nat} {f : Addr} {fd : FuncData} {ps : List Str} {nt : List D → Store → Res D} (h : ∀ ds st, nt ds st ≠ .ok (.bl true) st) : NiOk L P w K mg base k f fd ps nt :=
  ⟨fun A outer s H args us vs ds W st E _ _ _ _ _ _ _ hn => absurd hn (h ds st)⟩
section
variable {L : Lw} {X : Cx} {Wx : WX} {k : Nat} {c : Fn}
theorem Gd.sub (G : Gd L X Wx k c) : Sub X (k + 9) X.A := ⟨G.room, rfl⟩
/-- a def is called with values, here or within a built-in -/
theorem Gd.callC (G : Gd L X Wx k c) {A : Around} (sb : Sub X k A) {f : Nat} (hf : L.isF f = true) {pins : List (Addr × Obj)} {s : Shared} {σ : St} {H : Hp} {W : Wd} {st : Store} {ds : List D} {vs : List V} {us : List Value} {Q : VK} (I : Inv X pins σ H s) (S : Sok X.K L W st H)
    (R : Rls X.K L W ds vs) (r : Vals vs us) (o : Out X.K L Wx W σ (okE X.K L Q) (callD L.toLs c f ds st)) :
    codeAny (model X.prog X.w) A (.call (.ref (L.fad f)) ⟨us, []⟩) (fun r s' => match r with | .ok (.ret v) => EP X pins σ Q v s' | .ok _ => False | .error e => X.xe e s') s := by
  obtain ⟨t, ht, hl, ec⟩ := callD_some (T := L.toLs) (c := c) (f := f) (ds := ds) (st := st) fun z => by rw [z] at o; exact o
  rw [ec] at o
  obtain ⟨dvs, dsV, hb, hd, hT⟩ := G.fo.bt f hf t ht
  have R2 := R.append (hT W)
  have r2 : Vals (vs ++ dvs) (us ++ dsV) := r.append hd
  have hl' : (ds ++ t).length = (L.fps f).length := by rw [List.length_append]; exact hl
  have hsp : spM X.K L (L.fps f).length (c f) (vs ++ dvs) H Q (WE Wx σ) := by
    refine ⟨by rw [← R2.length]; exact hl', ds ++ t, W, st, R2, S, ?_⟩
    revert o
    cases c f (ds ++ t) st with
    | ok d st' => exact id
    | err x st' => exact id
    | stuck => exact id
  have e0 : Env0 X.prog X.w X.K X.mg X.base A X.stack s H := by
    have e := I.env0
    exact ⟨by rw [sb.fr]; exact e.frames, e.mod, e.bs, e.bsz, e.funs, e.frf, e.hok, e.bare⟩
  have hl2 : (us ++ dsV).length = (L.fps f).length := by rw [← r2.length, ← R2.length]; exact hl'
  refine codeAny_mono ((G.fo.fn f hf).run A X.stack s H ⟨us, []⟩ (us ++ dsV) (vs ++ dvs) Q (WE Wx σ) sb.room e0 (hb s us I.kIn hl2) r2 hsp) fun r s' hq => ?_
  cases r with
  | error e => exact passAt G.tk σ pins H s e s' I hq
  | ok fl =>
    cases fl with
    | ret u => exact I.after hq
    | next => exact False.elim hq
    | brk => exact False.elim hq
    | cont => exact False.elim hq
/-- a def that declines is called -/
theorem Gd.callN (G : Gd L X Wx k c) {f : Nat} (hf : L.isF f = true) {pins : List (Addr × Obj)} {s : Shared} {σ : St} {H : Hp} {W : Wd} {st : Store} {ds : List D} {vs : List V} {us : List Value} (I : Inv X pins σ H s) (S : Sok X.K L W st H)
    (R : Rls X.K L W ds vs) (r : Vals vs us) (hd : [] ∈ L.dfl f) (hl : ds.length = (L.fps f).length) (hn : c (f + niB) ds st = .ok (.bl true) st) :
    wpAny (model X.prog X.w) X.A (PySem.call (.ref (L.fad f)) us) (fun v s' => v = .notImplemented ∧ ∃ W' H', W.le W' ∧ Inv X pins σ H' s' ∧ Sok X.K L W' st H') X.xe s := by
  have sb : Sub X k X.A := ⟨G.room.mono (Nat.le_add_right k 9), rfl⟩
  obtain ⟨dvs, dsV, hb, hdd, hT⟩ := G.fo.bt f hf [] hd
  have e1 : dvs = [] := Rls.nil.mp (hT W)
  subst e1
  cases hdd
  have e0 : Env0 X.prog X.w X.K X.mg X.base X.A X.stack s H := I.env0
  have hl' : vs.length = (L.fps f).length := by rw [← R.length]; exact hl
  have hl2 : (us ++ []).length = (L.fps f).length := by rw [List.append_nil, ← r.length]; exact hl'
  have hbt := hb s us I.kIn hl2
  rw [List.append_nil] at hbt
  refine wpAny_call (codeAny_mono ((G.fo.no f hf).run X.A X.stack s H ⟨us, []⟩ us vs ds W st (WE Wx σ) sb.room e0 hbt r hl' R S hn) fun r s' hq => ?_)
  cases r with
  | error e => exact passAt G.tk σ pins H s e s' I hq
  | ok fl =>
    cases fl with
    | ret u =>
      obtain ⟨rfl, hq⟩ := hq
      obtain ⟨v, H', I', _, _, W', e', S'⟩ := I.after hq
      exact ⟨rfl, W', H', e', I', S'⟩
    | next => exact False.elim hq
    | brk => exact False.elim hq
    | cont => exact False.elim hq
theorem Gd.callA (G : Gd L X Wx k c) {A : Around} (sb : Sub X k A) {f : Nat} (hf : L.isF f = true) {pins : List (Addr × Obj)} {s : Shared} {σ : St} {H : Hp} {W : Wd} {st : Store} {ds : List D} {vs : List V} {us : List Value} {Q : VK} (I : Inv X pins σ H s) (S : Sok X.K L W st H)
    (R : Rls X.K L W ds vs) (r : Vals vs us) (o : Out X.K L Wx W σ (okE X.K L Q) (callD L.toLs c f ds st)) :
    wpAny (model X.prog X.w) A (PySem.call (.ref (L.fad f)) us) (EP X pins σ Q) X.xe s := wpAny_call (G.callC sb hf I S R r o)
theorem Gd.call (G : Gd L X Wx k c) {f : Nat} (hf : L.isF f = true) {pins : List (Addr × Obj)} {s : Shared} {σ : St} {H : Hp} {W : Wd} {st : Store} {ds : List D} {vs : List V} {us : List Value} {Q : VK} (I : Inv X pins σ H s) (S : Sok X.K L W st H)
    (R : Rls X.K L W ds vs) (r : Vals vs us) (o : Out X.K L Wx W σ (okE X.K L Q) (callD L.toLs c f ds st)) :
    wpAny (model X.prog X.w) X.A (PySem.call (.ref (L.fad f)) us) (EP X pins σ Q) X.xe s :=
  G.callA ⟨G.room.mono (Nat.le_add_right k 9), rfl⟩ hf I S R r o
theorem inst_of {pins : List (Addr × Obj)} {s : Shared} {σ : St} {H : Hp} {W : Wd} {st : Store} {i : Nat} {ds : List D} {x : V} (I : Inv X pins σ H s) (S : Sok X.K L W st H) (R : Rl X.K L W (.obj i ds) x) :
    ∃ a dx od, x = .ref a ∧ PySem.W.InstAt s.heap a (PySem.W.instObj (L.cad i) dx) (L.cad i) (some od) := by
  obtain ⟨a, dx, vs, rfl, h1, h2, h3⟩ := Rl.obj.mp R
  obtain ⟨mA, J, _⟩ := ins_get I.hok (S.fz _ _ h1)
  obtain ⟨od, J, _⟩ := J.look
  exact ⟨a, dx, od, rfl, J⟩
end
open Classical in
noncomputable def intBin (op : Operator) (i j : Int) (st : Store) : Res D := match op with
  | .Add => .ok (.int (i + j)) st
  | .Sub => .ok (.int (i - j)) st
  | .Mult => if IntMulOk i j then .ok (.int (i * j)) st else .stuck
  | .FloorDiv => if j ≠ 0 ∧ j.natAbs.log2 < 9000 then .ok (.int (i.fdiv j)) st else .stuck
  | .Mod => if j ≠ 0 then .ok (.int (i.fmod j)) st else .stuck
  | .Pow => if 0 ≤ j ∧ j ≤ 1000000 ∧ i.natAbs < 2 ^ 64 then .ok (.int (i ^ j.toNat)) st else .stuck
  | _ => .stuck
section
variable {L : Lw} {X : Cx} {Wx : WX} {k : Nat} {c : Fn}
theorem EP.of_ok {K : PySem.W.Frag} {pins : List (Addr × Obj)} {s : Shared} {σ : St} {H : Hp} {W : Wd} {st : Store} {d : D} {v : V} {u : Value} {Q : VK} (I : Inv X pins σ H s) (S : Sok X.K L W st H) (R : Rl X.K L W d v) (r : RelV v u)
    (o : Out X.K L Wx W σ (okE X.K L Q) (.ok d st)) : EP X pins σ Q u s := ⟨v, H, I, r, o W H .rfl' S v R⟩
theorem intBin_ok {op : Operator} {pins : List (Addr × Obj)} {s : Shared} {σ : St} {H : Hp} {W : Wd} {st : Store} {i j : Int} {t u : Tok} {Q : VK} (I : Inv X pins σ H s) (S : Sok X.K L W st H)
    (o : Out X.K L Wx W σ (okE X.K L Q) (intBin op i j st)) : wpAny (model X.prog X.w) X.A (binaryOp op (.int i t) (.int j u)) (EP X pins σ Q) X.xe s := by
  have fin : ∀ {n : Int} {tk : Nat} {t : Tok}, Out X.K L Wx W σ (okE X.K L Q) (.ok (.int n) st) → EP X pins σ Q (.int n t) { s with toks := tk } := fun {n tk t} o => EP.of_ok (K := X.K) (I.tok _) S (Rl.int.mpr rfl) ⟨t, rfl⟩ o
  unfold intBin at o
  cases op with
  | Add => exact add_int (fin o)
  | Sub => exact sub_int (fin o)
  | Mult =>
    dsimp only at o
    split at o
    · rename_i hm; exact mul_int (fin o) hm
    · exact o.elim
  | FloorDiv =>
    dsimp only at o
    split at o
    · rename_i hm; exact floordiv_int hm.1 (fin o) (.inl (PyProof.noPylong_of_log2 hm.2))
    · exact o.elim
  | Mod =>
    dsimp only at o
    split at o
    · rename_i hm; exact mod_int' hm (fin o)
    · exact o.elim
  | Pow =>
    dsimp only at o
    split at o
    · rename_i hm; exact pow_int_small hm.1 hm.2.1 hm.2.2 (fin o)
    · exact o.elim
  | _ => exact o.elim
end
end Gm
namespace Gm
open PySem PySem.Spec PySem.Calls PyProof.Rows PySem.W
/-! ### operators of own classes, at the library's level -/
/-- an int's own answer to an operator with an instance -/
structure IntOp (op : Operator) (B : Builtin) (id : String) : Prop where
  slot : Slot "int" (PySem.dunder op.info.2) id
  fills : fillsNumberSlot (.type "int") op.info.2 = pure true
  entry : entryFor table id = some B
  args : ∀ a b, argsOk id ⟨[a, b], []⟩
  no : ∀ (a : Int) (t : Tok) (l C dx : Addr), Meets (B ⟨[.int a t, .ref l], []⟩) (fun _ R s => s.heap.get? l = some (instObj C dx) ∧ R (.ok (.ret Value.notImplemented)) s)
theorem io_add : IntOp .Add Builtin.«int.__add__» "int.__add__" := ⟨PySem.F.slot_int_add, PySem.F.fills_int_add, PySem.F.entry_int_add, PySem.F.args_int_add_2, fun a t l C dx => .of_wp fun prog w A R s h => by
  obtain ⟨hp, g, d, tk, os⟩ := s; obtain ⟨hl, h⟩ := h; wp_walk; exact ⟨_, rfl, h⟩⟩
theorem io_sub : IntOp .Sub Builtin.«int.__sub__» "int.__sub__" := ⟨PySem.F.slot_int_sub, PySem.F.fills_int_sub, PySem.F.entry_int_sub, PySem.F.args_int_sub_2, fun a t l C dx => .of_wp fun prog w A R s h => by
  obtain ⟨hp, g, d, tk, os⟩ := s; obtain ⟨hl, h⟩ := h; wp_walk; exact ⟨_, rfl, h⟩⟩
theorem io_mul : IntOp .Mult Builtin.«int.__mul__» "int.__mul__" := ⟨PySem.F.slot_int_mul, PySem.F.fills_int_mul, PySem.F.entry_int_mul, PySem.F.args_int_mul_2, fun a t l C dx => .of_wp fun prog w A R s h => by
  obtain ⟨hp, g, d, tk, os⟩ := s; obtain ⟨hl, h⟩ := h; wp_walk; exact ⟨_, rfl, h⟩⟩
theorem io_floordiv : IntOp .FloorDiv Builtin.«int.__floordiv__» "int.__floordiv__" := ⟨PySem.F.slot_int_floordiv, PySem.F.fills_int_floordiv, PySem.F.entry_int_floordiv, PySem.F.args_int_floordiv_2, fun a t l C dx => .of_wp fun prog w A R s h => by
  obtain ⟨hp, g, d, tk, os⟩ := s; obtain ⟨hl, h⟩ := h; wp_walk; exact ⟨_, rfl, h⟩⟩
theorem io_mod : IntOp .Mod Builtin.«int.__mod__» "int.__mod__" := ⟨PySem.F.slot_int_mod, PySem.F.fills_int_mod, PySem.F.entry_int_mod, PySem.F.args_int_mod_2, fun a t l C dx => .of_wp fun prog w A R s h => by
  obtain ⟨hp, g, d, tk, os⟩ := s; obtain ⟨hl, h⟩ := h; wp_walk; exact ⟨_, rfl, h⟩⟩

section
variable {prog : Program} {w : World} {A : Around} {E : Value → Shared → Prop} {s : Shared} {K : Frag} {x C C2 L f : Addr} {h₀ : Heap} {m : Str → Option Value} {ox : Obj} {od : Option Obj}
/-- own op own, of unlike classes that both have the operator -/
theorem own_own {op : Operator} {b g : Addr} {oy : Obj} {od2 : Option Obj} {rc : Option Value} {Q : Value → Shared → Prop} (F : Fr h₀ L s.heap m) (X₀ : K.In h₀) (I : InstAt s.heap x ox C od) (J : InstAt s.heap b oy C2 od2) (hne : C ≠ C2)
    (hc : selfFirst K C = true) (hc2 : selfFirst K C2 = true)
    (hs : findIn K (.ref C) (PySem.dunder op.info.2) = some (some (.ref f))) (hf : isFn K (.ref f) = true) (hr : findIn K (.ref C) (dunderR op.info.2) = some rc) (hp : rc = none ∨ ∃ g : Addr, rc = some (.ref g))
    (hs2 : findIn K (.ref C2) (PySem.dunder op.info.2) = some (some (.ref g))) {rc2 : Option Value} (hr2 : findIn K (.ref C2) (dunderR op.info.2) = some rc2) (hp2 : rc2 = none ∨ ∃ g : Addr, rc2 = some (.ref g))
    (hsub : subIn K (.ref C2) (.ref C) = some false)
    (h : wpAny (model prog w) A (call (.ref f) [.ref x, .ref b]) (PySem.W.CmpBack Q) E s) : wpAny (model prog w) A (binaryOp op (.ref x) (.ref b)) Q E s := by
  have X := X₀.keeps F.keep
  obtain ⟨cd, rest, hcd, hm⟩ := ksp_first hc
  obtain ⟨cd2, rest2, hcd2, hm2⟩ := ksp_first hc2
  rcases hi : op.info with ⟨sym, nm'⟩
  rw [hi] at hs hr hs2 hr2
  dsimp only at hs hr hs2 hr2
  have one := ksp_try X I hs hf h
  obtain ⟨hh, g', d, tt, os⟩ := s
  have L1 : Looks (model prog w) hh (typeOf (.ref x)) (.ref C) := I.type
  have L2 : Looks (model prog w) hh (typeOf (.ref b)) (.ref C2) := J.type
  have L3 : Looks (model prog w) hh (fillsNumberSlot (.ref C) nm') true := fills_K X hcd hm hs
  have L4 : Looks (model prog w) hh (fillsNumberSlot (.ref C2) nm') true := fills_K X hcd2 hm2 hs2
  have L5 : Looks (model prog w) hh (isSubtype (.ref C2) (.ref C)) false := looks_subIn X hsub
  have L6 : Looks (model prog w) hh (numberSlotInPython (.ref C) nm') true := ksp_inPy X hs hr hp
  have L7 : Looks (model prog w) hh (numberSlotInPython (.ref C2) nm') true := ksp_inPy X hs2 hr2 hp2
  have hne' : (Value.ref C == Value.ref C2) = false := Bool.eq_false_iff.mpr fun q => hne (by cases beq_iff_eq.mp q; rfl)
  simp only [binaryOp, hi]
  refine wpAny_holding (wpAny_bind ?_)
  unfold binaryOp1
  refine wpAny_bind (L1.at (wpAny_bind (L2.at (wpAny_bind (L3.at ?_)))))
  simp only [hne', Bool.false_eq_true, if_false]
  ksp_lk
  refine wpAny_mono one (fun r s' hr' => ?_) fun _ _ e => e
  obtain ⟨v, rfl, hq⟩ := hr'
  ksp_lk
  exact hq

/-- int op own -/
theorem int_own {op : Operator} {B : Builtin} {id : String} {b g : Addr} {dx : Addr} {i : Int} {t : Tok} {od2 : Option Obj} {Q : Value → Shared → Prop} (io : IntOp op B id) (F : Fr h₀ L s.heap m) (X₀ : K.In h₀) (J : InstAt s.heap b (instObj C dx) C od2)
    (hc : selfFirst K C = true) (hs : findIn K (.ref C) (PySem.dunder op.info.2) = some (some (.ref g))) (hr : findIn K (.ref C) (dunderR op.info.2) = some (some (.ref f))) (hf : isFn K (.ref f) = true) (hsub : subIn K (.ref C) (.type "int") = some false)
    (h : wpAny (model prog w) A (call (.ref f) [.ref b, .int i t]) (PySem.W.CmpBack Q) E s) : wpAny (model prog w) A (binaryOp op (.int i t) (.ref b)) Q E s := by
  have X := X₀.keeps F.keep
  obtain ⟨cd, rest, hcd, hm⟩ := ksp_first hc
  obtain ⟨slot, fills, entry, args, no⟩ := io
  rcases hi : op.info with ⟨sym, nm'⟩
  rw [hi] at hs hr slot fills
  dsimp only at hs hr slot fills
  have two := ksp_try X J hr hf h
  have hb := J.at_
  have T1 : s.TypeIs (.int i t) "int" := typeIs_int s i t
  have L1 : Looks (model prog w) s.heap (typeOf (.int i t)) (.type "int") := Looks.of_pure rfl
  have L2 : Looks (model prog w) s.heap (typeOf (.ref b)) (.ref C) := J.type
  have L3 : Looks (model prog w) s.heap (fillsNumberSlot (.type "int") nm') true := Looks.of_pure fills
  have L4 : Looks (model prog w) s.heap (fillsNumberSlot (.ref C) nm') true := fills_K X hcd hm hs
  have L5 : Looks (model prog w) s.heap (isSubtype (.ref C) (.type "int")) false := looks_subIn X hsub
  have L6 : Looks (model prog w) s.heap (numberSlotInPython (.type "int") nm') false := Looks.of_pure rfl
  have hne : (Value.type "int" == Value.ref C) = false := Bool.eq_false_iff.mpr fun q => by cases beq_iff_eq.mp q
  have dec : ∀ {Q : Option Value → Shared → Prop}, Q none s → wpAny (model prog w) A (tryMethod (.int i t) (PySem.dunder nm') (.ref b)) Q E s := fun {Q} q =>
    wpAny_tryMethod_declines T1 slot (call_meets slot T1 entry (args _ _) (no i t b C dx) ⟨hb, rfl, q⟩)
  simp only [binaryOp, hi]
  refine wpAny_holding (wpAny_bind ?_)
  unfold binaryOp1
  refine wpAny_bind (L1.here (wpAny_bind (L2.here (wpAny_bind (L3.here ?_)))))
  simp only [hne, Bool.false_eq_true, if_false]
  refine wpAny_bind (L4.here ?_)
  simp only [Bool.and_self, if_true]
  refine wpAny_bind (L5.here ?_)
  simp only [Bool.false_eq_true, if_false, Bool.not_false, Bool.and_self, if_true, pure_bind]
  refine wpAny_bind (L6.here ?_)
  simp only [Bool.false_eq_true, if_false, Bool.not_false, Bool.and_self, if_true, pure_bind]
  refine wpAny_bind (dec ?_)
  simp only [pure_bind, Bool.false_eq_true, if_false, Bool.not_false, Bool.and_self, if_true]
  refine wpAny_bind (wpAny_mono two (fun r s' hr' => ?_) fun _ _ e => e)
  obtain ⟨v, rfl, hq⟩ := hr'
  dsimp only
  exact wpAny_bind (wpAny_rule (wpAny_pure (wpAny_pure hq)))
end
section
variable {prog : Program} {w : World} {A : Around} {E : Value → Shared → Prop} {s : Shared} {K : Frag} {x C C2 L f g g2 : Addr} {h₀ : Heap} {m : Str → Option Value} {ox : Obj} {od : Option Obj}
theorem try_ni {R : Shared → Prop} {name : Str} {b : Value} (X : K.In s.heap) (I : InstAt s.heap x ox C od) (hs : findIn K (.ref C) name = some (some (.ref f))) (hf : isFn K (.ref f) = true)
    (h : wpAny (model prog w) A (call (.ref f) [.ref x, b]) (fun v s' => v = .notImplemented ∧ R s') E s) : wpAny (model prog w) A (tryMethod (.ref x) name b) (fun r s' => r = none ∧ R s') E s := by
  unfold tryMethod
  refine wpAny_bind (special_fn X I hs (beq_iff_eq.mp hf) (wpAny_mono h (fun v s' hv => ?_) fun _ _ e => e))
  obtain ⟨rfl, hv⟩ := hv
  exact wpAny_pure ⟨rfl, hv⟩
/-- the left one declines, the right one's reflected def answers -/
theorem own_ni {op : Operator} {b : Addr} {oy : Obj} {od2 : Option Obj} {rc : Option Value} {Q : Value → Shared → Prop} (F : Fr h₀ L s.heap m) (X₀ : K.In h₀) (I : InstAt s.heap x ox C od) (J : InstAt s.heap b oy C2 od2) (hne : C ≠ C2)
    (hc : selfFirst K C = true) (hc2 : selfFirst K C2 = true)
    (hs : findIn K (.ref C) (PySem.dunder op.info.2) = some (some (.ref f))) (hf : isFn K (.ref f) = true) (hr : findIn K (.ref C) (dunderR op.info.2) = some rc) (hp : rc = none ∨ ∃ g : Addr, rc = some (.ref g))
    (hs2 : findIn K (.ref C2) (PySem.dunder op.info.2) = some (some (.ref g2))) (hr2 : findIn K (.ref C2) (dunderR op.info.2) = some (some (.ref g))) (hg : isFn K (.ref g) = true)
    (hsub : subIn K (.ref C2) (.ref C) = some false)
    (h : wpAny (model prog w) A (call (.ref f) [.ref x, .ref b]) (fun v s' => v = .notImplemented ∧ K.In s'.heap ∧ (∃ ox od, InstAt s'.heap x ox C od) ∧ (∃ oy od, InstAt s'.heap b oy C2 od) ∧ wpAny (model prog w) A (call (.ref g) [.ref b, .ref x]) (PySem.W.CmpBack Q) E s') E s) : wpAny (model prog w) A (binaryOp op (.ref x) (.ref b)) Q E s := by
  have X := X₀.keeps F.keep
  obtain ⟨cd, rest, hcd, hm⟩ := ksp_first hc
  obtain ⟨cd2, rest2, hcd2, hm2⟩ := ksp_first hc2
  rcases hi : op.info with ⟨sym, nm'⟩
  rw [hi] at hs hr hs2 hr2
  dsimp only at hs hr hs2 hr2
  have one := try_ni X I hs hf h
  have L1 : Looks (model prog w) s.heap (typeOf (.ref x)) (.ref C) := I.type
  have L2 : Looks (model prog w) s.heap (typeOf (.ref b)) (.ref C2) := J.type
  have L3 : Looks (model prog w) s.heap (fillsNumberSlot (.ref C) nm') true := fills_K X hcd hm hs
  have L4 : Looks (model prog w) s.heap (fillsNumberSlot (.ref C2) nm') true := fills_K X hcd2 hm2 hs2
  have L5 : Looks (model prog w) s.heap (isSubtype (.ref C2) (.ref C)) false := looks_subIn X hsub
  have L6 : Looks (model prog w) s.heap (numberSlotInPython (.ref C) nm') true := ksp_inPy X hs hr hp
  have L7 : Looks (model prog w) s.heap (numberSlotInPython (.ref C2) nm') true := ksp_inPy X hs2 hr2 (.inr ⟨g, rfl⟩)
  have hne' : (Value.ref C == Value.ref C2) = false := Bool.eq_false_iff.mpr fun q => hne (by cases beq_iff_eq.mp q; rfl)
  simp only [binaryOp, hi]
  refine wpAny_holding (wpAny_bind ?_)
  unfold binaryOp1
  refine wpAny_bind (L1.here (wpAny_bind (L2.here (wpAny_bind (L3.here ?_)))))
  simp only [hne', Bool.false_eq_true, if_false]
  refine wpAny_bind (L4.here ?_)
  simp only [Bool.and_self, if_true]
  refine wpAny_bind (L5.here ?_)
  simp only [Bool.false_eq_true, if_false, Bool.not_false, Bool.and_self, if_true, pure_bind]
  refine wpAny_bind (L6.here ?_)
  simp only [Bool.false_eq_true, if_false, Bool.not_false, Bool.and_self, if_true, pure_bind]
  refine wpAny_bind (L7.here ?_)
  simp only [Bool.not_true, Bool.false_eq_true, if_false, Bool.not_false, Bool.and_self, if_true, pure_bind]
  refine wpAny_bind (wpAny_mono one (fun r s' hr' => ?_) fun _ _ e => e)
  obtain ⟨rfl, X', ⟨ox', od', I'⟩, ⟨oy', od2', J'⟩, h2⟩ := hr'
  have two := ksp_try X' J' hr2 hg h2
  have L1' : Looks (model prog w) s'.heap (typeOf (.ref x)) (.ref C) := I'.type
  have L2' : Looks (model prog w) s'.heap (typeOf (.ref b)) (.ref C2) := J'.type
  simp only [pure_bind, Bool.false_eq_true, if_false, Bool.not_false, Bool.and_self, if_true]
  refine wpAny_bind (L1'.here (wpAny_bind (L2'.here ?_)))
  simp only [hne', pure_bind, Bool.false_eq_true, if_false, Bool.not_false, Bool.and_self, if_true]
  refine wpAny_bind (wpAny_mono two (fun r s' hr' => ?_) fun _ _ e => e)
  obtain ⟨v, rfl, hq⟩ := hr'
  dsimp only
  exact wpAny_bind (wpAny_rule (wpAny_pure (wpAny_pure hq)))
end
end Gm
namespace Gm
open PySem PySem.Spec PyProof.Rows L2
/-! ### what a call leaves behind is cleared away -/
mutual
def noRef (n : Nat) : D → Bool
  | .ref m => decide (m < n)
  | .tup ds => noRefs n ds
  | .obj _ ds => noRefs n ds
  | _ => true
def noRefs (n : Nat) : List D → Bool
  | [] => true
  | d :: ds => noRef n d && noRefs n ds
end
@[simp] theorem noRefs_nil (n : Nat) : noRefs n [] = true := by unfold noRefs; rfl
@[simp] theorem noRefs_cons (n : Nat) (d : D) (ds : List D) : noRefs n (d :: ds) = (noRef n d && noRefs n ds) := by rw [noRefs]
@[simp] theorem noRef_tup (n : Nat) (ds : List D) : noRef n (.tup ds) = noRefs n ds := by rw [noRef]
@[simp] theorem noRef_obj (n c : Nat) (ds : List D) : noRef n (.obj c ds) = noRefs n ds := by rw [noRef]
@[simp] theorem noRef_ref (n m : Nat) : noRef n (.ref m) = decide (m < n) := by rw [noRef]
@[simp] theorem noRef_int (n : Nat) (i : Int) : noRef n (.int i) = true := by simp [noRef]
@[simp] theorem noRef_bl (n : Nat) (i : Bool) : noRef n (.bl i) = true := by simp [noRef]
@[simp] theorem noRef_str (n : Nat) (i : Str) : noRef n (.str i) = true := by simp [noRef]
@[simp] theorem noRef_fn (n f : Nat) : noRef n (.fn f) = true := by simp [noRef]
@[simp] theorem noRef_non (n : Nat) : noRef n .non = true := by simp [noRef]
theorem noRefs_iff {n : Nat} : ∀ {ds : List D}, noRefs n ds = true ↔ ∀ d ∈ ds, noRef n d = true
  | [] => by simp
  | d :: ds => by
    rw [noRefs_cons, Bool.and_eq_true, noRefs_iff (ds := ds)]
    simp
def noRefC (n : Nat) : Cell → Bool
  | .lst ds => noRefs n ds
  | .rol ds => noRefs n ds
  | .dic kvs => noRefs n (kvs.map (·.2))
  | .ins _ fs => noRefs n (fs.map (·.2))
  | .dead => true
section
variable {K : PySem.W.Frag} {L : Lw} {W W' : Wd}
mutual
theorem Rl.known : ∀ {d : D} {v : V}, Rl K L W d v → noRef W.io.length d = true
  | .non, _, _ => by simp
  | .bl _, _, _ => by simp
  | .int _, _, _ => by simp
  | .str _, _, _ => by simp
  | .tup ds, v, h => by
    obtain ⟨a, vs, _, _, h2⟩ := Rl.tup.mp h
    rw [noRef_tup]; exact Rls.known h2
  | .obj c ds, v, h => by
    obtain ⟨a, dx, vs, _, _, _, h2⟩ := Rl.obj.mp h
    rw [noRef_obj]; exact Rls.known h2
  | .ref n, v, h => by
    obtain ⟨a, _, h2⟩ := Rl.ref.mp h
    rw [noRef_ref, decide_eq_true_eq]
    exact (List.getElem?_eq_some_iff.mp h2).1
  | .fn _, _, _ => by simp
theorem Rls.known : ∀ {ds : List D} {vs : List V}, Rls K L W ds vs → noRefs W.io.length ds = true
  | [], _, _ => by simp
  | d :: ds, vs, h => by
    obtain ⟨v, vs', _, h1, h2⟩ := Rls.cons.mp h
    rw [noRefs_cons, Rl.known h1, Rls.known h2]; rfl
end
mutual
theorem Rl.cut {n : Nat} (hf : W'.fz = W.fz) (hi : ∀ m a, m < n → W.io[m]? = some a → W'.io[m]? = some a) : ∀ {d : D} {v : V}, noRef n d = true → Rl K L W d v → Rl K L W' d v
  | .non, _, _, h => Rl.non.mpr (Rl.non.mp h)
  | .bl _, _, _, h => Rl.bl.mpr (Rl.bl.mp h)
  | .int _, _, _, h => Rl.int.mpr (Rl.int.mp h)
  | .str _, _, _, h => Rl.str.mpr (Rl.str.mp h)
  | .tup ds, v, q, h => by
    obtain ⟨a, vs, e, h1, h2⟩ := Rl.tup.mp h
    rw [noRef_tup] at q
    exact Rl.tup.mpr ⟨a, vs, e, by rw [hf]; exact h1, Rls.cut hf hi q h2⟩
  | .obj c ds, v, q, h => by
    obtain ⟨a, dx, vs, e, h1, h3, h2⟩ := Rl.obj.mp h
    rw [noRef_obj] at q
    exact Rl.obj.mpr ⟨a, dx, vs, e, by rw [hf]; exact h1, h3, Rls.cut hf hi q h2⟩
  | .ref m, v, q, h => by
    obtain ⟨a, e, h2⟩ := Rl.ref.mp h
    rw [noRef_ref, decide_eq_true_eq] at q
    exact Rl.ref.mpr ⟨a, e, hi m a q h2⟩
  | .fn _, _, _, h => Rl.fn.mpr (Rl.fn.mp h)
theorem Rls.cut {n : Nat} (hf : W'.fz = W.fz) (hi : ∀ m a, m < n → W.io[m]? = some a → W'.io[m]? = some a) : ∀ {ds : List D} {vs : List V}, noRefs n ds = true → Rls K L W ds vs → Rls K L W' ds vs
  | [], _, _, h => Rls.nil.mpr (Rls.nil.mp h)
  | d :: ds, vs, q, h => by
    obtain ⟨v, vs', e, h1, h2⟩ := Rls.cons.mp h
    rw [noRefs_cons, Bool.and_eq_true] at q
    exact Rls.cons.mpr ⟨v, vs', e, Rl.cut hf hi q.1 h1, Rls.cut hf hi q.2 h2⟩
end
theorem RKv.cut {n : Nat} (hf : W'.fz = W.fz) (hi : ∀ m a, m < n → W.io[m]? = some a → W'.io[m]? = some a) {kvs : List (Key × D)} {vs : List (Key × V)} (h : RKv K L W kvs vs) : noRefs n (kvs.map (·.2)) = true → RKv K L W' kvs vs := by
  induction h with
  | nil => exact fun _ => .nil
  | cons r _ ih =>
    intro q
    rw [List.map_cons, noRefs_cons, Bool.and_eq_true] at q
    exact .cons (r.cut hf hi q.1) (ih q.2)
theorem RKv.known {kvs : List (Key × D)} {vs : List (Key × V)} (h : RKv K L W kvs vs) : noRefs W.io.length (kvs.map (·.2)) = true := by
  induction h with
  | nil => simp
  | cons r _ ih => rw [List.map_cons, noRefs_cons, r.known, ih]; rfl
theorem CellR.known {H : Hp} {a : Addr} {c : Cell} (h : CellR K L W H a c) : noRefC W.io.length c = true := by
  cases c with
  | lst ds => obtain ⟨vs, _, h2⟩ := h; exact h2.known
  | rol ds => obtain ⟨vs, _, h2⟩ := h; exact h2.known
  | dic ds => obtain ⟨vs, _, h2⟩ := h; exact h2.known
  | ins c ds => obtain ⟨_, vs, _, h2⟩ := h; exact h2.known
  | dead => rfl
theorem CellR.cut {n : Nat} (hf : W'.fz = W.fz) (hi : ∀ m a, m < n → W.io[m]? = some a → W'.io[m]? = some a) {H : Hp} {a : Addr} {c : Cell} (q : noRefC n c = true) (h : CellR K L W H a c) : CellR K L W' H a c := by
  cases c with
  | lst ds => obtain ⟨vs, h1, h2⟩ := h; exact ⟨vs, h1, h2.cut hf hi q⟩
  | rol ds => obtain ⟨vs, h1, h2⟩ := h; exact ⟨vs, h1, h2.cut hf hi q⟩
  | dic ds => obtain ⟨vs, h1, h2⟩ := h; exact ⟨vs, h1, h2.cut hf hi q⟩
  | ins c ds => obtain ⟨dx, vs, h1, h2⟩ := h; exact ⟨dx, vs, h1, h2.cut hf hi q⟩
  | dead => trivial
end
/-- the cells that stood are as they were, or know nothing new -/
def Kept (st st' : Store) : Prop := ∀ i c, i < st.length → st'[i]? = some c → st[i]? = some c ∨ noRefC st.length c = true
theorem Kept.rfl' (st : Store) (e : Store) : Kept st (st ++ e) := fun i c hi h => by
  rw [List.getElem?_append_left hi] at h; exact .inl h
theorem Kept.set (st : Store) (n : Nat) (c : Cell) (e : Store) (hc : noRefC st.length c = true) : Kept st (st.set n c ++ e) := fun i x hi h => by
  rw [List.getElem?_append_left (by rw [List.length_set]; exact hi)] at h
  by_cases hn : n = i
  · subst hn
    rw [List.getElem?_set_self hi] at h; cases h
    exact .inr hc
  · rw [List.getElem?_set_ne hn] at h
    exact .inl h
open Classical in
noncomputable def tidy (st : Store) (r : Res D) : Res D := match r with
  | .ok d st' =>
    if Kept st st' then
      if noRef st.length d = true then .ok d (st'.take st.length)
      else match d with
        | .ref m => match st'[m]? with
          | some (.lst ds) => if noRefs st.length ds = true then .ok (.ref st.length) (st'.take st.length ++ [.lst ds]) else .ok d st'
          | some (.dic ds) => if noRefs st.length (ds.map (·.2)) = true then .ok (.ref st.length) (st'.take st.length ++ [.dic ds]) else .ok d st'
          | _ => .ok d st'
        | _ => .ok d st'
    else .ok d st'
  | .err x st' => if Kept st st' ∧ noRefs st.length x.ds = true then .err x (st'.take st.length) else .err x st'
  | .stuck => .stuck
theorem tidy_pure {st st' : Store} {d : D} (hk : Kept st st') (hd : noRef st.length d = true) : tidy st (.ok d st') = .ok d (st'.take st.length) := by
  unfold tidy; simp only; rw [if_pos hk, if_pos hd]
theorem tidy_list {st st' : Store} {m : Nat} {ds : List D} (hk : Kept st st') (hm : st.length ≤ m) (hc : st'[m]? = some (.lst ds)) (hd : noRefs st.length ds = true) : tidy st (.ok (.ref m) st') = .ok (.ref st.length) (st'.take st.length ++ [.lst ds]) := by
  have h1 : ¬ noRef st.length (.ref m) = true := by simp; exact hm
  unfold tidy; simp only; rw [if_pos hk, if_neg h1, hc]
  simp only
  rw [if_pos hd]
theorem tidy_err {st st' : Store} {x : Exn} (hk : Kept st st') (hd : noRefs st.length x.ds = true) : tidy st (.err x st') = .err x (st'.take st.length) := by
  unfold tidy; simp only; rw [if_pos ⟨hk, hd⟩]
/-- .. in the common case: nothing that stood was changed -/
theorem tidy_same {st e : Store} {d : D} (hd : noRef st.length d = true) : tidy st (.ok d (st ++ e)) = .ok d st := by
  rw [tidy_pure (Kept.rfl' st e) hd, List.take_left]
theorem tidy_same0 {st : Store} {d : D} (hd : noRef st.length d = true) : tidy st (.ok d st) = .ok d st := by
  have := tidy_same (e := []) hd
  rwa [List.append_nil] at this
theorem tidy_set {st e : Store} {d : D} {n : Nat} {c : Cell} (hc : noRefC st.length c = true) (hd : noRef st.length d = true) : tidy st (.ok d (st.set n c ++ e)) = .ok d (st.set n c) := by
  rw [tidy_pure (Kept.set st n c e hc) hd, List.take_append_of_le_length (by rw [List.length_set]; exact Nat.le_refl _), List.take_of_length_le (by rw [List.length_set]; exact Nat.le_refl _)]
theorem tidy_set0 {st : Store} {d : D} {n : Nat} {c : Cell} (hc : noRefC st.length c = true) (hd : noRef st.length d = true) : tidy st (.ok d (st.set n c)) = .ok d (st.set n c) := by
  have := tidy_set (e := []) (n := n) hc hd
  rwa [List.append_nil] at this
section
variable {K : PySem.W.Frag} {L : Lw} {W W' : Wd} {st st' : Store} {H H' : Hp}
theorem Wd.le_len (e : W.le W') : W.io.length ≤ W'.io.length := by
  cases q : W.io.length with
  | zero => exact Nat.zero_le _
  | succ n =>
    have h1 : n < W.io.length := by rw [q]; exact Nat.lt_succ_self n
    have h2 := e.2 n _ (List.getElem?_eq_getElem h1)
    exact (List.getElem?_eq_some_iff.mp h2).1
/-- the cells behind the n-th forgotten -/
theorem Sok.trunc (s : Sok K L W st H) (s' : Sok K L W' st' H') (e : W.le W') (hk : Kept st st') : W.le ⟨W'.fz, W'.io.take st.length⟩ ∧ Sok K L ⟨W'.fz, W'.io.take st.length⟩ (st'.take st.length) H' ∧
    ∀ m a, m < st.length → W'.io[m]? = some a → (⟨W'.fz, W'.io.take st.length⟩ : Wd).io[m]? = some a := by
  have hi : ∀ m a, m < st.length → W'.io[m]? = some a → (⟨W'.fz, W'.io.take st.length⟩ : Wd).io[m]? = some a := fun m a hm h => by
    show (W'.io.take st.length)[m]? = some a
    rw [List.getElem?_take_of_lt hm]; exact h
  have back : ∀ {n x}, (st'.take st.length)[n]? = some x → n < st.length ∧ st'[n]? = some x := fun {n x} h => by
    have hl : n < (st'.take st.length).length := (List.getElem?_eq_some_iff.mp h).1
    rw [List.length_take] at hl
    have hn : n < st.length := by omega
    rw [List.getElem?_take_of_lt hn] at h
    exact ⟨hn, h⟩
  have backI : ∀ {n : Nat} {a : Addr}, (W'.io.take st.length)[n]? = some a → W'.io[n]? = some a := fun {n a} h => by
    have hl : n < (W'.io.take st.length).length := (List.getElem?_eq_some_iff.mp h).1
    rw [List.length_take] at hl
    rwa [List.getElem?_take_of_lt (by omega)] at h
  refine ⟨⟨e.1, fun m a h => ?_⟩, ⟨s'.fz, ?_, fun n c a h1 h2 => ?_, fun n c a h1 h2 h3 => ?_, fun m n c c' a h1 h2 l1 l2 h3 h4 => ?_⟩, hi⟩
  · have hm : m < st.length := by rw [s.len]; exact (List.getElem?_eq_some_iff.mp h).1
    exact hi m a hm (e.2 m a h)
  · show (st'.take st.length).length = (W'.io.take st.length).length
    rw [List.length_take, List.length_take, s'.len]
  · obtain ⟨hn, h1⟩ := back h1
    have h2 := backI h2
    refine CellR.cut (W := W') (n := st.length) (by rfl) hi ?_ (s'.cell n c a h1 h2)
    rcases hk n c hn h1 with h | h
    · have hl : n < W.io.length := by rw [← s.len]; exact hn
      have := (s.cell n c _ h (List.getElem?_eq_getElem hl)).known
      rwa [← s.len] at this
    · exact h
  · exact s'.ap n c a (back h1).2 h2 (backI h3)
  · exact s'.inj m n c c' a (back h1).2 (back h2).2 l1 l2 (backI h3) (backI h4)
/-- .. but for one, which becomes the last -/
theorem Sok.trunc1 (s : Sok K L W st H) (s' : Sok K L W' st' H') (e : W.le W') (hk : Kept st st') {m : Nat} {a : Addr} {c : Cell} (hm : st.length ≤ m) (hc : st'[m]? = some c) (ha : W'.io[m]? = some a) (hl : c.live = true) (hr : noRefC st.length c = true) :
    W.le ⟨W'.fz, W'.io.take st.length ++ [a]⟩ ∧ Sok K L ⟨W'.fz, W'.io.take st.length ++ [a]⟩ (st'.take st.length ++ [c]) H' ∧ (W'.io.take st.length).length = st.length := by
  obtain ⟨e1, s1, hi⟩ := s.trunc s' e hk
  have hlen : (st'.take st.length).length = st.length := by
    rw [List.length_take]
    have := (List.getElem?_eq_some_iff.mp hc).1
    omega
  have hlenI : (W'.io.take st.length).length = st.length := by
    have z : (st'.take st.length).length = (W'.io.take st.length).length := s1.len
    rw [← z]; exact hlen
  have hi' : ∀ m a', m < st.length → W'.io[m]? = some a' → (⟨W'.fz, W'.io.take st.length ++ [a]⟩ : Wd).io[m]? = some a' := fun m a' hm h => by
    show (W'.io.take st.length ++ [a])[m]? = some a'
    rw [List.getElem?_append_left (by rw [hlenI]; exact hm)]
    exact hi m a' hm h
  have split : ∀ {n x b}, (st'.take st.length ++ [c])[n]? = some x → (W'.io.take st.length ++ [a])[n]? = some b → (n < st.length ∧ (st'.take st.length)[n]? = some x ∧ (W'.io.take st.length)[n]? = some b) ∨ (n = st.length ∧ x = c ∧ b = a) := fun {n x b} h1 h2 => by
    by_cases hn : n < st.length
    · rw [List.getElem?_append_left (by rw [hlen]; exact hn)] at h1
      rw [List.getElem?_append_left (by rw [hlenI]; exact hn)] at h2
      exact .inl ⟨hn, h1, h2⟩
    · have hl2 : n < (st'.take st.length ++ [c]).length := (List.getElem?_eq_some_iff.mp h1).1
      rw [List.length_append, List.length_singleton, hlen] at hl2
      have hn' : n = st.length := by omega
      subst hn'
      rw [List.getElem?_append_right (by rw [hlen]; exact Nat.le_refl _), hlen, Nat.sub_self] at h1
      rw [List.getElem?_append_right (by rw [hlenI]; exact Nat.le_refl _), hlenI, Nat.sub_self] at h2
      simp at h1 h2
      exact .inr ⟨rfl, h1.symm, h2.symm⟩
  have old : ∀ {n x b}, (st'.take st.length)[n]? = some x → (W'.io.take st.length)[n]? = some b → n < st.length → st'[n]? = some x ∧ W'.io[n]? = some b := fun {n x b} h1 h2 hn => by
    rw [List.getElem?_take_of_lt hn] at h1 h2
    exact ⟨h1, h2⟩
  refine ⟨⟨e1.1, fun n b h => ?_⟩, ⟨s1.fz, ?_, fun n x b h1 h2 => ?_, fun n x b h1 h2 h3 => ?_, fun p n x y b h1 h2 l1 l2 h3 h4 => ?_⟩, hlenI⟩
  · have hn : n < st.length := by rw [s.len]; exact (List.getElem?_eq_some_iff.mp h).1
    exact hi' n b hn (e.2 n b h)
  · show (st'.take st.length ++ [c]).length = (W'.io.take st.length ++ [a]).length
    rw [List.length_append, List.length_append, hlen, hlenI]; rfl
  · rcases split h1 h2 with ⟨hn, g1, g2⟩ | ⟨_, rfl, rfl⟩
    · have kn : noRefC st.length x = true := by
        rcases hk n x hn (old g1 g2 hn).1 with h | h
        · have hl : n < W.io.length := by rw [← s.len]; exact hn
          have := (s.cell n x _ h (List.getElem?_eq_getElem hl)).known
          rwa [← s.len] at this
        · exact h
      exact CellR.cut (W := W') (n := st.length) (by rfl) hi' kn (s'.cell n x b (old g1 g2 hn).1 (old g1 g2 hn).2)
    · exact CellR.cut (W := W') (n := st.length) (by rfl) hi' hr (s'.cell m x b hc ha)
  · rcases split h1 h3 with ⟨hn, g1, g2⟩ | ⟨_, rfl, rfl⟩
    · exact s'.ap n x b (old g1 g2 hn).1 h2 (old g1 g2 hn).2
    · exact s'.ap m x b hc h2 ha
  · rcases split h1 h3 with ⟨hn, g1, g2⟩ | ⟨rfl, rfl, rfl⟩
    · rcases split h2 h4 with ⟨hn2, g3, g4⟩ | ⟨rfl, rfl, rfl⟩
      · exact s'.inj p n x y b (old g1 g2 hn).1 (old g3 g4 hn2).1 l1 l2 (old g1 g2 hn).2 (old g3 g4 hn2).2
      · have := s'.inj p m x y b (old g1 g2 hn).1 hc l1 l2 (old g1 g2 hn).2 ha
        omega
    · rcases split h2 h4 with ⟨hn2, g3, g4⟩ | ⟨rfl, rfl, _⟩
      · have := s'.inj m n x y b hc (old g3 g4 hn2).1 l1 l2 ha (old g3 g4 hn2).2
        omega
      · rfl
theorem tidy_ok {Wx : WX} {σ : St} {Q : VK} {r : Res D} (s : Sok K L W st H) (o : Out K L Wx W σ (okE K L Q) (tidy st r)) : Out K L Wx W σ (okE K L Q) r := by
  cases r with
  | stuck => exact o
  | err x st' =>
    intro W' H' cls dx e S' R
    unfold tidy at o
    simp only at o
    split at o
    · rename_i h
      obtain ⟨e2, S2, hi⟩ := s.trunc S' e h.1
      refine o _ H' cls dx e2 S2 ⟨R.1, ?_⟩
      rcases R.2 with h2 | ⟨d, vs, h2, h3, h4, h5⟩
      · exact .inl h2
      · exact .inr ⟨d, vs, h2, h3, h4, Rls.cut (W := W') (n := st.length) (by rfl) hi h.2 h5⟩
    · exact o W' H' cls dx e S' R
  | ok d st' =>
    intro W' H' e S' v R
    unfold tidy at o
    simp only at o
    split at o
    · rename_i hk
      split at o
      · rename_i hd
        obtain ⟨e2, S2, hi⟩ := s.trunc S' e hk
        exact o _ H' e2 S2 v (Rl.cut (W := W') (n := st.length) (by rfl) hi hd R)
      · rename_i hd
        split at o
        · rename_i m
          have hm : st.length ≤ m := by
            have : ¬ m < st.length := fun z => hd (by simp [z])
            omega
          obtain ⟨a, ev, ha⟩ := Rl.ref.mp R
          split at o
          · rename_i ds hc
            split at o
            · rename_i hr
              obtain ⟨e2, S2, hl⟩ := s.trunc1 S' e hk hm hc ha rfl hr
              refine o _ H' e2 S2 v (Rl.ref.mpr ⟨a, ev, ?_⟩)
              show (W'.io.take st.length ++ [a])[st.length]? = some a
              rw [List.getElem?_append_right (by rw [hl]; exact Nat.le_refl _), hl, Nat.sub_self]; rfl
            · exact o W' H' e S' v R
          · rename_i ds hc
            split at o
            · rename_i hr
              obtain ⟨e2, S2, hl⟩ := s.trunc1 S' e hk hm hc ha rfl hr
              refine o _ H' e2 S2 v (Rl.ref.mpr ⟨a, ev, ?_⟩)
              show (W'.io.take st.length ++ [a])[st.length]? = some a
              rw [List.getElem?_append_right (by rw [hl]; exact Nat.le_refl _), hl, Nat.sub_self]; rfl
            · exact o W' H' e S' v R
          · exact o W' H' e S' v R
        · exact o W' H' e S' v R
    · exact o W' H' e S' v R
end
end Gm
namespace Gm
open PySem PySem.Spec PyProof.Rows L2
/-! ### statements -/
def sNo : Fs := fun _ _ => .stuck
def sNx : Fs := fun ρ st => .nx ρ st
def sBk : Fs := fun ρ st => .bk ρ st
def sCt : Fs := fun ρ st => .ct ρ st
def SR.seq (r : SR) (b : Fs) : SR := match r with
  | .nx ρ st => b ρ st
  | r => r
@[simp] theorem SR.seq_nx (ρ : Ev) (st : Store) (b : Fs) : (SR.nx ρ st).seq b = b ρ st := rfl
@[simp] theorem SR.seq_rt (d : D) (st : Store) (b : Fs) : (SR.rt d st).seq b = .rt d st := rfl
@[simp] theorem SR.seq_bk (ρ : Ev) (st : Store) (b : Fs) : (SR.bk ρ st).seq b = .bk ρ st := rfl
@[simp] theorem SR.seq_ct (ρ : Ev) (st : Store) (b : Fs) : (SR.ct ρ st).seq b = .ct ρ st := rfl
@[simp] theorem SR.seq_err (x : Exn) (ρ : Ev) (st : Store) (b : Fs) : (SR.err x ρ st).seq b = .err x ρ st := rfl
@[simp] theorem SR.seq_stuck (b : Fs) : SR.stuck.seq b = .stuck := rfl
def sSeq (a b : Fs) : Fs := fun ρ st => (a ρ st).seq b
def sRet (f : Fe) : Fs := fun ρ st => (f ρ st).toS ρ fun d st => .rt d st
def sRetN : Fs := fun _ st => .rt .non st
def sIf (t : Ft) (a b : Fs) : Fs := fun ρ st => (t ρ st).toS ρ fun q st => if q then a ρ st else b ρ st
def sExpr (f : Fe) : Fs := fun ρ st => (f ρ st).toS ρ fun _ st => .nx ρ st
abbrev Fg := D → Ev → Store → Res Ev
def sAsg (f : Fe) (g : Fg) : Fs := fun ρ st => (f ρ st).toS ρ fun d st => match g d ρ st with
  | .ok ρ' st' => .nx ρ' st'
  | _ => .stuck
def gNm (i : Nat) : Fg := fun d ρ st => .ok (ρ.set i (some d)) st
def gsNil : List D → Ev → Store → Res Ev := fun ds ρ st => match ds with | [] => .ok ρ st | _ => .stuck
def gsCons (g : Fg) (r : List D → Ev → Store → Res Ev) : List D → Ev → Store → Res Ev := fun ds ρ st => match ds with
  | d :: ds => (g d ρ st).bind fun ρ st => r ds ρ st
  | [] => .stuck
def gTp (r : List D → Ev → Store → Res Ev) : Fg := fun d ρ st => match d with
  | .tup ds => r ds ρ st
  | _ => .stuck
/-- a, b = x, y -/
def sPar (i j : Nat) (r : Fa) : Fs := fun ρ st => (r ρ st).toS ρ fun ds st => match ds with
  | [d, e] => .nx ((ρ.set i (some d)).set j (some e)) st
  | _ => .stuck

section
variable {L : Lw} {X : Cx} {Wx : WX} {e : Expr} {f : Fe} {pos : Pos}
theorem rs_no {st : Stmt} : RS L X Wx st sNo := ⟨fun _ _ _ _ _ _ _ _ _ _ _ o => o.elim⟩
theorem rss_no {st : List Stmt} : RSs L X Wx st sNo := ⟨fun _ _ _ _ _ _ _ _ _ _ _ o => o.elim⟩
theorem rss_nil : RSs L X Wx [] sNx := ⟨fun _ _ σ H W sto ρ D I S E o => wpAny_execs_nil ⟨σ, H, I, o W H σ .rfl' S E⟩⟩
theorem rss_cons {st : Stmt} {rest : List Stmt} {a b : Fs} (h1 : RS L X Wx st a) (h2 : RSs L X Wx rest b) : RSs L X Wx (st :: rest) (sSeq a b) := by
  refine ⟨fun pins s σ H W sto ρ D I S E o => ?_⟩
  unfold sSeq at o
  have go : ∀ D', OutS X.K L Wx W D' (a ρ sto) → (∀ σ' H', D'.nx σ' H' → ∃ W' ρ' st', Sok X.K L W' st' H' ∧ EnR X.K L W' σ' ρ' ∧ OutS X.K L Wx W' D (b ρ' st')) → D'.rt = D.rt → D'.bk = D.bk → D'.ct = D.ct →
      wpAny (model X.prog X.w) X.A (execs (st :: rest) X.env) (SP X pins D) X.xe s := fun D' o' hn hr hb hc => by
    refine wpAny_execs_cons (thn (h1.run pins s σ H W sto ρ D' I S E o') fun fl s1 q => ?_)
    cases fl with
    | next =>
      obtain ⟨σ', H', I', q⟩ := q
      obtain ⟨W', ρ', st', S', E', o2⟩ := hn σ' H' q
      exact h2.run pins s1 σ' H' W' st' ρ' D I' S' E' o2
    | ret v => obtain ⟨v', σ', H', I', r', q⟩ := q; exact ⟨v', σ', H', I', r', by rw [← hr]; exact q⟩
    | brk => obtain ⟨σ', H', I', q⟩ := q; exact ⟨σ', H', I', by rw [← hb]; exact q⟩
    | cont => obtain ⟨σ', H', I', q⟩ := q; exact ⟨σ', H', I', by rw [← hc]; exact q⟩
  cases q : a ρ sto with
  | nx ρ' st' =>
    rw [q] at o
    refine go { D with nx := fun σ' H' => ∃ W', W.le W' ∧ Sok X.K L W' st' H' ∧ EnR X.K L W' σ' ρ' } (by rw [q]; exact fun W' H' σ' e' S' E' => ⟨W', e', S', E'⟩) (fun σ' H' ⟨W', e', S', E'⟩ => ⟨W', ρ', st', S', E', OutS.mono e' o⟩) rfl rfl rfl
  | rt d st' => rw [q] at o; exact go { D with nx := fun _ _ => False } (by rw [q]; exact o) (fun _ _ z => z.elim) rfl rfl rfl
  | bk d st' => rw [q] at o; exact go { D with nx := fun _ _ => False } (by rw [q]; exact o) (fun _ _ z => z.elim) rfl rfl rfl
  | ct d st' => rw [q] at o; exact go { D with nx := fun _ _ => False } (by rw [q]; exact o) (fun _ _ z => z.elim) rfl rfl rfl
  | err x d st' => rw [q] at o; exact go { D with nx := fun _ _ => False } (by rw [q]; exact o) (fun _ _ z => z.elim) rfl rfl rfl
  | stuck => rw [q] at o; exact o.elim
theorem rss_one {st : Stmt} {a : Fs} (h1 : RS L X Wx st a) : RSs L X Wx [st] a := by
  have h := rss_cons h1 rss_nil
  refine ⟨fun pins s σ H W sto ρ D I S E o => h.run pins s σ H W sto ρ D I S E ?_⟩
  unfold sSeq
  revert o
  cases a ρ sto with
  | nx ρ' st' => exact id
  | _ => exact id
theorem rs_pass : RS L X Wx (.Pass pos) sNx := ⟨fun _ _ σ H W sto ρ D I S E o => wpAny_Pass ⟨σ, H, I, o W H σ .rfl' S E⟩⟩
theorem rs_break : RS L X Wx (.Break pos) sBk := ⟨fun _ _ σ H W sto ρ D I S E o => wpAny_Break ⟨σ, H, I, o W H σ .rfl' S E⟩⟩
theorem rs_continue : RS L X Wx (.Continue pos) sCt := ⟨fun _ _ σ H W sto ρ D I S E o => wpAny_Continue ⟨σ, H, I, o W H σ .rfl' S E⟩⟩
theorem rs_ret (he : RE L X Wx e f) : RS L X Wx (.Return (some e) pos) (sRet f) :=
  ⟨fun pins s σ H W sto ρ D I S E o => wpAny_Return_some (he.bindS I S E o fun d st1 W1 H1 v u s1 e1 I1 S1 R1 r1 o1 => ⟨v, σ, H1, I1, r1, o1 W1 H1 v .rfl' S1 R1⟩)⟩
theorem rs_retN : RS L X Wx (.Return none pos) sRetN := ⟨fun _ _ σ H W sto ρ D I S E o => wpAny_Return_none ⟨.non, σ, H, I, rfl, o W H .non .rfl' S (Rl.non.mpr rfl)⟩⟩
theorem rs_if {c : Expr} {a b : List Stmt} {t : Ft} {fa fb : Fs} (hc : RT L X Wx c t) (ha : RSs L X Wx a fa) (hb : RSs L X Wx b fb) : RS L X Wx (.If c a b pos) (sIf t fa fb) :=
  ⟨fun pins s σ H W sto ρ D I S E o => wpAny_If (hc.bindS I S E o fun q st1 W1 H1 s1 e1 I1 S1 o1 => by
    cases q with
    | true => exact ha.run pins s1 σ H1 W1 st1 ρ D I1 S1 (E.mono e1) o1
    | false => exact hb.run pins s1 σ H1 W1 st1 ρ D I1 S1 (E.mono e1) o1)⟩
theorem rs_expr (he : RE L X Wx e f) (hs : swapsWith e none pos.line X.env = pure false := by rfl) : RS L X Wx (.Expr e pos) (sExpr f) :=
  ⟨fun pins s σ H W sto ρ D I S E o => wpAny_Expr_any (he.bindS I S E o fun d st1 W1 H1 v u s1 e1 I1 S1 R1 r1 o1 => ⟨σ, H1, I1, o1 W1 H1 σ .rfl' S1 (E.mono e1)⟩) I.quiet hs⟩

/-! ### targets -/
def OutG (K : PySem.W.Frag) (L : Lw) (W : Wd) (Q : Ev → Store → St → Hp → Prop) : Res Ev → Prop
  | .ok ρ st => ∀ W' H' σ', W.le W' → Sok K L W' st H' → EnR K L W' σ' ρ → Q ρ st σ' H'
  | _ => False
/-- slots outside ts are as they were -/
def Fram (ts : List Nat) (σ σ' : St) : Prop := σ'.length = σ.length ∧ ∀ i, i ∉ ts → σ'[i]? = σ[i]?
theorem Fram.rfl' {ts : List Nat} {σ : St} : Fram ts σ σ := ⟨rfl, fun _ _ => rfl⟩
theorem Fram.trans {ts us : List Nat} {σ σ1 σ2 : St} (a : Fram ts σ σ1) (b : Fram us σ1 σ2) : Fram (ts ++ us) σ σ2 := ⟨b.1.trans a.1, fun i h => by
  rw [List.mem_append, not_or] at h
  rw [b.2 i h.2, a.2 i h.1]⟩
structure RG (L : Lw) (X : Cx) (target : Expr) (g : Fg) (ts : List Nat) : Prop where
  run : ∀ (pins : List (Addr × Obj)) (s : Shared) (σ : St) (H : Hp) (W : Wd) (st : Store) (ρ : Ev) (d : D) (v : V) (u : Value) (ρ' : Ev) (st' : Store), Inv X pins σ H s → Sok X.K L W st H → EnR X.K L W σ ρ → Rl X.K L W d v → RelV v u → g d ρ st = .ok ρ' st' →
    wpAny (model X.prog X.w) X.A (assign target X.env u) (fun _ s' => ∃ W' σ' H', W.le W' ∧ Inv X pins σ' H' s' ∧ Sok X.K L W' st' H' ∧ EnR X.K L W' σ' ρ' ∧ Fram ts σ σ') X.xe s
structure RGs (L : Lw) (X : Cx) (tgs : List Expr) (g : List D → Ev → Store → Res Ev) (ts : List Nat) : Prop where
  run : ∀ (pins : List (Addr × Obj)) (s : Shared) (σ : St) (H : Hp) (W : Wd) (st : Store) (ρ : Ev) (ds : List D) (vs : List V) (us : List Value) (ρ' : Ev) (st' : Store), Inv X pins σ H s → Sok X.K L W st H → EnR X.K L W σ ρ → Rls X.K L W ds vs → Vals vs us → g ds ρ st = .ok ρ' st' →
    wpAny (model X.prog X.w) X.A (assignInOrder ((assignEach tgs X.env).map (·.2)) us) (fun _ s' => ∃ W' σ' H', W.le W' ∧ Inv X pins σ' H' s' ∧ Sok X.K L W' st' H' ∧ EnR X.K L W' σ' ρ' ∧ Fram ts σ σ') X.xe s
  len : ∀ ds ρ st ρ' st', g ds ρ st = .ok ρ' st' → ds.length = tgs.length
theorem EnR.set {K : PySem.W.Frag} {W : Wd} {σ : St} {ρ : Ev} {i : Nat} {d : D} {v : V} (E : EnR K L W σ ρ) (R : Rl K L W d v) : EnR K L W (σ.set i (some v)) (ρ.set i (some d)) := by
  refine ⟨by rw [List.length_set, List.length_set]; exact E.1, fun j d' h => ?_⟩
  by_cases hj : i = j
  · subst hj
    have hl : i < ρ.length := by
      have := (List.getElem?_eq_some_iff.mp h).1
      rwa [List.length_set] at this
    rw [List.getElem?_set_self hl] at h
    cases h
    exact ⟨v, by rw [List.getElem?_set_self (by rw [← E.1]; exact hl)], R⟩
  · rw [List.getElem?_set_ne hj] at h
    obtain ⟨v', h1, h2⟩ := E.2 j d' h
    exact ⟨v', by rw [List.getElem?_set_ne hj]; exact h1, h2⟩
theorem rg_name {i : Nat} {x : Str} (p : PG X (.Name x pos) (gName i)) : RG L X (.Name x pos) (gNm i) [i] := by
  refine ⟨fun pins s σ H W st ρ d v u ρ' st' I S E R r o => ?_⟩
  unfold gNm at o
  cases o
  refine thn (p.run pins s σ H v u (fun σ' H' => σ' = σ.set i (some v) ∧ H' = H) I r ⟨rfl, rfl⟩) fun _ s' ⟨σ', H', I', e1, e2⟩ => ?_
  subst e1; subst e2
  exact ⟨W, _, _, .rfl', I', S, E.set R, by rw [List.length_set], fun j hj => List.getElem?_set_ne (fun e => hj (by simp [e]))⟩
theorem rgs_nil : RGs L X [] gsNil [] := by
  refine ⟨fun pins s σ H W st ρ ds vs us ρ' st' I S E R r o => ?_, fun ds ρ st ρ' st' o => ?_⟩
  · unfold gsNil at o
    cases ds with
    | nil =>
      cases o
      rw [Rls.nil.mp R] at r
      cases r
      exact assignInOrder_nil ⟨W, σ, H, .rfl', I, S, E, .rfl'⟩
    | cons _ _ => cases o
  · unfold gsNil at o
    cases ds with
    | nil => rfl
    | cons _ _ => cases o
theorem rgs_cons {t : Expr} {ts : List Expr} {g : Fg} {r : List D → Ev → Store → Res Ev} {s1 s2 : List Nat} (h1 : RG L X t g s1) (h2 : RGs L X ts r s2)
    (hs : (assignEach (t :: ts) X.env).map (·.2) = assign t X.env :: (assignEach ts X.env).map (·.2) := by rfl) : RGs L X (t :: ts) (gsCons g r) (s1 ++ s2) := by
  refine ⟨fun pins s σ H W st ρ ds vs us ρ' st' I S E R rr o => ?_, fun ds ρ st ρ' st' o => ?_⟩
  · unfold gsCons at o
    cases ds with
    | nil => cases o
    | cons d ds =>
      obtain ⟨v, vs', rfl, R1, R2⟩ := Rls.cons.mp R
      cases rr with
      | cons r1 r2 =>
        rw [hs]
        dsimp only at o
        cases q : g d ρ st with
        | ok ρ1 st1 =>
          rw [q, Res.bind_ok] at o
          refine assignInOrder_cons (thn (h1.run pins s σ H W st ρ d v _ ρ1 st1 I S E R1 r1 q) fun _ s1 ⟨W1, σ1, H1, e1, I1, S1, E1, F1⟩ => ?_)
          exact thn (h2.run pins s1 σ1 H1 W1 st1 ρ1 ds vs' _ ρ' st' I1 S1 E1 (R2.mono e1) r2 o) fun _ s2 ⟨W2, σ2, H2, e2, I2, S2, E2, F2⟩ => ⟨W2, σ2, H2, e1.trans e2, I2, S2, E2, F1.trans F2⟩
        | err x st1 => rw [q] at o; cases o
        | stuck => rw [q] at o; cases o
  · unfold gsCons at o
    cases ds with
    | nil => cases o
    | cons d ds =>
      dsimp only at o
      cases q : g d ρ st with
      | ok ρ1 st1 => rw [q, Res.bind_ok] at o; rw [List.length_cons, List.length_cons, h2.len _ _ _ _ _ o]
      | err x st1 => rw [q] at o; cases o
      | stuck => rw [q] at o; cases o
theorem rg_tup {es : List Expr} {k : Nat} {r : List D → Ev → Store → Res Ev} {ts : List Nat} (hc : X.calm = true) (h : RGs L X es r ts)
    (hn : (assignEach es X.env).length = es.length := by rfl) (hst : (assignEach es X.env).findIdx? (·.1) = none := by rfl) : RG L X (.Tuple es k pos) (gTp r) ts := by
  refine ⟨fun pins s σ H W st ρ d v u ρ' st' I S E R rr o => ?_⟩
  unfold gTp at o
  cases d with
  | tup ds =>
    dsimp only at o
    obtain ⟨a, vs, rfl, h1, h2⟩ := Rl.tup.mp R
    cases rr
    obtain ⟨its, rv, ht, hz⟩ := I.tuple (SqT_mono S.fz h1)
    have hl := h.len _ _ _ _ _ o
    refine assign_Tuple_tuple (I.ok.hd hc) ht (by simp only [List.size_toArray]; rw [hn, ← hl, h2.length, rv.length]) hst fun h' hx => ?_
    have I1 : Inv X pins σ H { s with heap := h' } := I.kept (t' := s.toks) fun b o e => hx b o (Nat.ne_of_lt (Heap.lt_size e)) e
    exact h.run pins _ σ H W st ρ ds vs _ ρ' st' I1 S E h2 (by simpa using rv) o
  | _ => cases o
theorem rs_asg {tg : Expr} {g : Fg} {ts : List Nat} (he : RE L X Wx e f) (hg : RG L X tg g ts) (hs : swapsWithSole [tg] e pos.line X.env = pure false := by rfl) (hw : swappedStores [tg] e X.env = pure none := by rfl)
    (h1 : (assignEach [tg] X.env).map (·.2) = [assign tg X.env] := by rfl) : RS L X Wx (.Assign [tg] e pos) (sAsg f g) := by
  refine ⟨fun pins s σ H W sto ρ D I S E o => wpAny_Assign_stores (he.bindS I S E o fun d st1 W1 H1 v u s1 e1 I1 S1 R1 r1 o1 => ?_) hs hw⟩
  rw [h1]
  cases q : g d ρ st1 with
  | ok ρ' st' =>
    rw [q] at o1
    exact thn (hg.run pins s1 σ H1 W1 st1 ρ d v u ρ' st' I1 S1 (E.mono e1) R1 r1 q) fun _ s2 ⟨W2, σ2, H2, e2, I2, S2, E2, _⟩ => ⟨σ2, H2, I2, o1 W2 H2 σ2 e2 S2 E2⟩
  | err x st' => rw [q] at o1; exact o1.elim
  | stuck => rw [q] at o1; exact o1.elim
theorem rs_set {i : Nat} {x : Str} {pos' : Pos} (hN : X.N.Nodup) (hi : X.N[i]? = some x) (hx : Loc X.env.scope x) (he : RE L X Wx e f) (hs : swapsWith e (some (.Name x pos')) pos.line X.env = pure false := by rfl) (hf : X.fn x = true ∨ X.env.scope.names.lookup x = some .local := by first | exact .inl rfl | exact .inr rfl | assumption) :
    RS L X Wx (.Assign [.Name x pos'] e pos) (sAsg f (gNm i)) := by
  refine ⟨fun pins s σ H W sto ρ D I S E o => wpAny_Assign_Name (he.bindS I S E o fun d st1 W1 H1 v u s1 e1 I1 S1 R1 r1 o1 => ?_) hs⟩
  exact store_ok I1 hN hi hx r1 (fun s2 I2 => ⟨_, H1, I2, o1 W1 H1 _ .rfl' S1 ((E.mono e1).set R1)⟩) hf
/-- from the library's rule for a, b = x, y -/
theorem rs_par {i j : Nat} {x y : Str} {a b : Expr} {r : Fa} {px py pt : Pos} {kt k2 : _} {pt2 : Pos} (hc : X.calm = true) (hN : X.N.Nodup) (hi : X.N[i]? = some x) (hj : X.N[j]? = some y) (hij : i ≠ j)
    (hx : X.env.scope.names.lookup x = some .local) (hy : X.env.scope.names.lookup y = some .local) (ha : RA L X Wx [a, b] r)
    (hw : swappedStores [.Tuple [.Name x px, .Name y py] kt pt] (.Tuple [a, b] k2 pt2) X.env = pure (some [x, y]) := by rfl)
    (hs : swapsWithSole [.Tuple [.Name x px, .Name y py] kt pt] (.Tuple [a, b] k2 pt2) pos.line X.env = pure false := by rfl) :
    RS L X Wx (.Assign [.Tuple [.Name x px, .Name y py] kt pt] (.Tuple [a, b] k2 pt2) pos) (sPar i j r) := by
  have hlen := ha.len
  refine ⟨fun pins s σ H W sto ρ D I S E o => ?_⟩
  cases q : r ρ sto with
  | ok ds st1 =>
    have hl := hlen _ _ _ _ q
    unfold sPar at o
    rw [q, Res.toS_ok] at o
    match ds, hl with
    | [d1, d2], _ =>
      dsimp only at o
      have p : PA X [a, b] (fun σ' H' Q => σ' = σ ∧ H' = H ∧ ∀ W1 H1 vs, W.le W1 → Sok X.K L W1 st1 H1 → Rls X.K L W1 [d1, d2] vs → Q vs H1) :=
        ⟨fun pos pins' s' σ' H' Q I' h' => by
          obtain ⟨e1, e2, h'⟩ := h'
          subst e1; subst e2
          refine ha.run pos pins' s' σ' H' W sto ρ Q I' S E ?_
          rw [q]
          exact fun W' H' e' S' vs R' => h' W' H' vs e' S' R'⟩
      refine (ps_par hc hN hi hj hij hx hy p hw hs).run pins s σ H D I ⟨rfl, rfl, fun W1 H1 vs e1 S1 R1 => ?_⟩
      obtain ⟨v, vs1, rfl, Ra, R1⟩ := Rls.cons.mp R1
      obtain ⟨w, vs2, rfl, Rb, R1⟩ := Rls.cons.mp R1
      rw [Rls.nil.mp R1]
      exact ⟨v, w, rfl, o W1 H1 _ e1 S1 (((E.mono e1).set Ra).set Rb)⟩
  | err x st1 =>
    unfold sPar at o
    rw [q, Res.toS_err] at o
    have p : PA X [a, b] (fun σ' H' Q => σ' = σ ∧ H' = H) :=
      ⟨fun pos pins' s' σ' H' Q I' h' => by
        obtain ⟨e1, e2⟩ := h'
        subst e1; subst e2
        refine thn (ha.run pos pins' s' σ' H' W sto ρ (fun _ _ => False) I' S E ?_) fun _ _ ⟨_, _, _, _, z⟩ => z.elim
        rw [q]
        exact fun W' H' cls dx e' S' R' => o W' H' σ' cls dx e' S' (E.mono e') R'⟩
    exact (ps_par hc hN hi hj hij hx hy p hw hs).run pins s σ H D I ⟨rfl, rfl⟩
  | stuck => unfold sPar at o; rw [q, Res.toS_stuck] at o; exact o.elim
end
end Gm
namespace Gm
open PySem PySem.Spec PyProof.Rows L2
/-! ### a def -/
def startE (n : Nat) (ds : List D) : Ev := ds.map some ++ List.replicate (n - ds.length) none
def runB (n : Nat) (b : Fs) (ds : List D) (st : Store) : Res D := match b (startE n ds) st with
  | .nx _ st => .ok .non st
  | .rt d st => .ok d st
  | .err x _ st => .err x st
  | _ => .stuck
noncomputable def fnD (n : Nat) (b : Fs) : List D → Store → Res D := fun ds st => tidy st (runB n b ds st)
/-- a def of the text as it stands behind the top, whatever its defaults -/
structure FunG (K : PySem.W.Frag) (x qual : Str) (st : Stmt) (f : Addr) (fd : FuncData) : Prop where
  ex : ∃ (oc : Value) (od : Option Addr) (dV kV doc pm : Value) (an : Option Addr) (cdv ct : Value) (osl : Array (Option Value)),
    fd = PySem.W.fnOf x qual (defArgs st) (defBody st) (defScope st) dV kV doc pm an cdv ct ∧ K.lookup f = some ⟨oc, od, .func fd, osl⟩ ∧ PySem.W.codeIn K cdv qual = true
theorem start_ok {K : PySem.W.Frag} {L : Lw} {W : Wd} : ∀ {ds : List D} {vs : List V} (n : Nat), Rls K L W ds vs → EnR K L W (vs.map some ++ List.replicate (n - vs.length) none) (startE n ds) := by
  intro ds vs n h
  refine ⟨?_, fun i d e => ?_⟩
  · unfold startE
    rw [List.length_append, List.length_append, List.length_map, List.length_map, List.length_replicate, List.length_replicate, h.length]
  · unfold startE at e
    by_cases hi : i < ds.length
    · rw [List.getElem?_append_left (by rw [List.length_map]; exact hi), List.getElem?_map] at e
      cases q : ds[i]? with
      | none => rw [q] at e; cases e
      | some d' =>
        rw [q] at e
        cases e
        obtain ⟨v, h1, h2⟩ := h.get q
        refine ⟨v, ?_, h2⟩
        rw [List.getElem?_append_left (by rw [List.length_map, ← h.length]; exact hi), List.getElem?_map, h1]
        rfl
    · rw [List.getElem?_append_right (by rw [List.length_map]; omega)] at e
      rw [List.getElem?_replicate] at e
      split at e <;> cases e
section
variable {P : Program} {w : World} {K : PySem.W.Frag} {mg : Str → Option Value} {base : Heap} {L : Lw}
theorem fn_rule {x qual : Str} {st : Stmt} {f : Addr} {fd : FuncData} {N ps : List Str} {k : Nat} {c : Fn} {b : Fs} (F : FunG K x qual st f fd) (S : FnScope N ps (defScope st)) (fo : FOk L P w K mg base k c)
    (hc : ∀ (cdv : Value) (A : Around) (outer : List Env) (s : Shared) (H : Hp) (E : XK), (cxOf (L2.CX P w) P w K mg base N qual (defScope st) f cdv A outer s H E).calm = true)
    (hbody : ∀ (X : Cx) (Wx : WX), (∃ (cdv : Value) (A : Around) (outer : List Env) (s : Shared) (H : Hp) (E : XK), X = cxOf (L2.CX P w) P w K mg base N qual (defScope st) f cdv A outer s H E) → Gd L X Wx k c → RSs L X Wx (defBody st) b) :
    FnOk P w K mg base (L2.CX P w) (k + 10) f fd ps (spM K L ps.length (fnD N.length b)) := by
  obtain ⟨oc, od, dV, kV, doc, pm, an, cdv, ct, osl, rfl, lk, hcd⟩ := F.ex
  refine fn_of lk hcd S (fun vs H Q E h => h.1) fun A outer s H vs Q E hr hsp => ?_
  obtain ⟨hl, ds, W, sto, R, So, o⟩ := hsp
  let X := cxOf (L2.CX P w) P w K mg base N qual (defScope st) f cdv A outer s H E
  have G : Gd L X (fun cls d _ H => E cls d H) k c := ⟨fo, hr, takes_of rfl rfl rfl rfl, hc cdv A outer s H E, passes_of rfl, S.nd⟩
  have hb := hbody X _ ⟨cdv, A, outer, s, H, E, rfl⟩ G
  refine ⟨fun D σ H' => σ = L2.start N vs ∧ H' = H ∧ OutS K L (fun cls d _ H => E cls d H) W D (b (startE N.length ds) sto), ⟨fun pins s' σ H' D I h => ?_⟩, rfl, rfl, ?_⟩
  · obtain ⟨rfl, rfl, h⟩ := h
    exact hb.run pins s' _ _ W sto _ D I So (by unfold L2.start; exact start_ok _ R) h
  · have o2 := tidy_ok (K := K) (L := L) (W := W) (σ := []) So o
    unfold runB at o2
    cases q : b (startE N.length ds) sto with
    | nx ρ st' => rw [q] at o2; exact fun W' H' σ' e' S' E' => o2 W' H' e' S' .non (Rl.non.mpr rfl)
    | rt d st' => rw [q] at o2; exact fun W' H' v e' S' R' => o2 W' H' e' S' v R'
    | bk ρ st' => rw [q] at o2; exact o2.elim
    | ct ρ st' => rw [q] at o2; exact o2.elim
    | err x ρ st' => rw [q] at o2; exact fun W' H' σ' cls dx e' S' E' R' => o2 W' H' cls dx e' S' R'
    | stuck => rw [q] at o2; exact o2.elim
end

/-- a def of the text that declines: its first statement is the test -/
theorem ni_rule {P : Program} {w : World} {K : PySem.W.Frag} {mg : Str → Option Value} {base : Heap} {L : Lw} {x qual : Str} {st : Stmt} {f : Addr} {fd : FuncData} {N ps : List Str} {k : Nat} {c : Fn} {t : Ft} {te : Expr} {els rest : List Stmt} {p1 p2 p3 : Pos} (F : FunG K x qual st f fd) (S : FnScope N ps (defScope st)) (fo : FOk L P w K mg base k c)
    (hc : ∀ (cdv : Value) (A : Around) (outer : List Env) (s : Shared) (H : Hp) (E : XK), (cxOf (L2.CX P w) P w K mg base N qual (defScope st) f cdv A outer s H E).calm = true)
    (hb : defBody st = .If te [.Return (some (.Name "NotImplemented" p1)) p2] els p3 :: rest)
    (hg : ∀ (cdv : Value) (A : Around) (outer : List Env) (s : Shared) (H : Hp) (E : XK), Gl (cxOf (L2.CX P w) P w K mg base N qual (defScope st) f cdv A outer s H E) "NotImplemented") (hm : mg "NotImplemented" = none)
    (ht : ∀ (X : Cx) (Wx : WX), (∃ (cdv : Value) (A : Around) (outer : List Env) (s : Shared) (H : Hp) (E : XK), X = cxOf (L2.CX P w) P w K mg base N qual (defScope st) f cdv A outer s H E) → Gd L X Wx k c → RT L X Wx te t) :
    NiOk L P w K mg base (k + 10) f fd ps (fun ds sto => (t (startE N.length ds) sto).bind fun b sto => .ok (.bl b) sto) := by
  obtain ⟨oc, od, dV, kV, doc, pm, an, cdv, ct, osl, rfl, lk, hcd⟩ := F.ex
  refine ⟨fun A outer s H args us vs ds W sto E hr e0 hbt r hl R So hn => ?_⟩
  have KX : K.In s.heap := e0.mod.kin.keeps fun b o e => (e0.bs b o e).1
  have lim : s.heap.NoLimit := e0.mod.nolimit.keeps fun b o e => (e0.bs b o e).1
  have hkind : ∀ y ∈ ps.zip us, (defScope st).names.lookup y.1 = some .local ∨ ((defScope st).names.lookup y.1 = some .cell ∧ ((cellsFrom (s.heap.objs.size + 1) (defScope st).names []).lookup y.1).isSome = true) := fun ⟨n, v⟩ hy => by
    rcases S.par n (List.of_mem_zip hy).1 with q | q
    · exact .inl q
    · exact .inr ⟨q, PySem.W.cellsFrom_some _ _ _ (.inl q)⟩
  refine codeAny_call_function hr.depth (KX _ _ lk) rfl S.co S.gen rfl (PySem.W.codeRec_of KX hcd) (hbt _ _ _ _ ?_)
  refine wpAny_newFunctionEnv_cells S.kind hkind fun env he s1 x => ?_
  subst he
  refine ⟨lim.keeps x.toInCall.keep, codeAny_func ?_⟩
  let X := cxOf (L2.CX P w) P w K mg base N qual (defScope st) f cdv A outer s H E
  have G : Gd L X (fun cls d _ H => E cls d H) k c := ⟨fo, hr.deeper _, takes_of rfl rfl rfl rfl, hc cdv A outer s H E, passes_of rfl, S.nd⟩
  have T := ht X _ ⟨cdv, A, outer, s, H, E, rfl⟩ G
  have I : Inv X [] (L2.start N vs) H s1 := inv_start S hr.hd e0 hl r x
  rw [hb]
  have hn' : t (startE N.length ds) sto = .ok true sto := by
    cases q : t (startE N.length ds) sto with
    | ok b s2 =>
      rw [q] at hn
      have : Res.ok (D.bl b) s2 = .ok (.bl true) sto := hn
      cases this
      rfl
    | err y s2 => rw [q] at hn; cases hn
    | stuck => rw [q] at hn; cases hn
  refine wpAny_execs_cons (thn (wpAny_If (thn (T.run [] s1 (L2.start N vs) H W sto _ (fun b H' => b = true ∧ ∃ W', W.le W' ∧ Sok K L W' sto H') I So (by unfold L2.start; exact start_ok _ R) ?_) fun d s2 ⟨H1, I1, hd, W', e', S'⟩ => ?_)) fun fl s2 q => q)
  · rw [hn']
    exact fun W' H' e' S' => ⟨rfl, W', e', S'⟩
  · subst hd
    refine wpAny_execs_cons (thn (wpAny_Return_some (ld_blt (u := .notImplemented) I1 (hg cdv A outer s H E) hm rfl ?_ (by decide) (by decide))) fun fl s3 q => q)
    exact ⟨rfl, .non, H1, I1.os, I1.bare, I1.base, I1.hok, rfl, rfl, W', e', S'⟩
section
variable {L : Lw} {X : Cx} {Wx : WX} {k : Nat} {c : Fn} {e o fe : Expr} {es : List Expr} {f : Fe} {r : Fa} {x m : Str} {p pos apos : Pos}
/-! ### calls -/
def xCall (T : Ls) (c : Fn) (i : Nat) (r : Fa) : Fe := fun ρ st => (r ρ st).bind fun ds st => callD T c i ds st
theorem re_call {i : Nat} (G : Gd L X Wx k c) (hf : L.isF i = true) (hg : Gl X x) (hm : X.mg x = some (.ref (L.fad i))) (ha : RA L X Wx (e :: es) r) (hdb : (x == ("__debug__" : Str)) = false := by decide)
    (he : starEach (e :: es) X.env = (false, eval e X.env) :: starEach es X.env := by rfl) (hpl : (backTo pos (starEach es X.env)).any (·.1) = false := by rfl) :
    RE L X Wx (.Call (.Name x p) (e :: es) [] pos) (xCall L.toLs c i r) := by
  refine ⟨fun pins s σ H W st ρ Q I S E o => ?_⟩
  refine wpAny_Call_Name_kw (ld_glob I hg hm ?_ hdb)
  refine PySem.W.callWith_K (h₀ := X.base) I.ok.mod.kin (G.fo.kp i hf) (ha.bind I S E o fun ds st1 W1 H1 vs us s1 hl e1 I1 S1 R1 r1 o1 => ⟨I1.kIn, ?_⟩) he hpl
  exact G.call hf I1 S1 R1 r1 o1
theorem re_call0 {i : Nat} (G : Gd L X Wx k c) (hf : L.isF i = true) (hg : Gl X x) (hm : X.mg x = some (.ref (L.fad i))) (hdb : (x == ("__debug__" : Str)) = false := by decide) :
    RE L X Wx (.Call (.Name x p) [] [] pos) (xCall L.toLs c i aNil) := by
  refine ⟨fun pins s σ H W st ρ Q I S E o => ?_⟩
  refine wpAny_Call_Name_kw (ld_glob I hg hm ?_ hdb)
  exact PySem.W.callWith_K0 I.kIn (G.fo.kp i hf) (G.call (us := []) hf I S (Rls.nil.mpr rfl) .nil o)
/-! ### making -/
def made (T : Ls) (i n : Nat) (st' : Store) : Res D := match st'[n]? with
  | some (.ins j fs) => if j = i ∧ fs.map (·.1) = T.lay i then .ok (.obj i (fs.map (·.2))) (st'.set n .dead) else .ok (.ref n) st'
  | _ => .ok (.ref n) st'
def makeR (T : Ls) (c : Fn) (i f : Nat) (ds : List D) (st : Store) : Res D := match callD T c f (.ref st.length :: ds) (st ++ [.ins i []]) with
  | .ok .non st' => made T i st.length st'
  | .ok _ _ => .stuck
  | .err x st' => .err x st'
  | .stuck => .stuck
noncomputable def mkD (T : Ls) (c : Fn) (i : Nat) (ds : List D) (st : Store) : Res D := match T.meth i 37 with
  | some f => tidy st (makeR T c i f ds st)
  | none => .stuck
theorem Gd.make (G : Gd L X Wx k c) {i : Nat} {pins : List (Addr × Obj)} {s : Shared} {σ : St} {H : Hp} {W : Wd} {st : Store} {ds : List D} {vs : List V} {us : List Value} {Q : VK} (I : Inv X pins σ H s) (S : Sok X.K L W st H)
    (R : Rls X.K L W ds vs) (r : Vals vs us) (o : Out X.K L Wx W σ (okE X.K L Q) (mkD L.toLs c i ds st)) :
    wpAny (model X.prog X.w) X.A (PySem.call (.ref (L.cad i)) us) (EP X pins σ Q) X.xe s := by
  unfold mkD at o
  cases hm : L.meth i 37 with
  | none => rw [hm] at o; exact o.elim
  | some f =>
    rw [hm] at o
    dsimp only at o
    have o2 := tidy_ok (σ := σ) S o
    clear o
    have M := G.fo.mi i f hm
    obtain ⟨hC, hf, _⟩ := G.fo.mt i 37 f hm
    have hn : callD L.toLs c f (.ref st.length :: ds) (st ++ [.ins i []]) ≠ .stuck := fun z => by unfold makeR at o2; rw [z] at o2; exact o2
    obtain ⟨t, ht, hl, ec⟩ := callD_some hn
    obtain ⟨dvs, dsV, hb, hd, hT⟩ := G.fo.bt f hf t ht
    have I2 := Inv.made (C := L.cad i) I
    have fr1 : H s.heap.objs.size = none := I.hok.fresh (Nat.le_refl _)
    have fr2 : H (s.heap.objs.size + 1) = none := I.hok.fresh (Nat.le_succ _)
    have nex : s.heap.objs.size + 1 ≠ s.heap.objs.size := Nat.succ_ne_self _
    have S1 : Sok X.K L W st (upd H s.heap.objs.size (.own (s.heap.objs.size + 1))) := S.grow (upd_grow fr1)
    have S2 := S1.alloc (p := s.heap.objs.size + 1) (o := .ins (L.cad i) s.heap.objs.size []) (c := .ins i []) (by rw [upd_ne nex]; exact fr2) ⟨s.heap.objs.size, [], upd_same, Rls.nil.mpr rfl⟩
    have R2 : Rls X.K L (W.more (s.heap.objs.size + 1)) (.ref st.length :: (ds ++ t)) (.ref (s.heap.objs.size + 1) :: (vs ++ dvs)) := Rls.mk (Rl.newRef S) ((R.mono Wd.le_more).append (hT _))
    have r2 : Vals (V.ref (s.heap.objs.size + 1) :: (vs ++ dvs)) (Value.ref (s.heap.objs.size + 1) :: (us ++ dsV)) := .cons rfl (r.append hd)
    have hl' : (D.ref st.length :: (ds ++ t)).length = (L.fps f).length := by
      rw [List.length_cons] at hl
      rw [List.length_cons, List.length_append]
      omega
    have hsp : spM X.K L (L.fps f).length (c f) (V.ref (s.heap.objs.size + 1) :: (vs ++ dvs)) (upd (upd H s.heap.objs.size (.own (s.heap.objs.size + 1))) (s.heap.objs.size + 1) (.ins (L.cad i) s.heap.objs.size []))
        (fun v H2 => v = .non ∧ Q (.ref (s.heap.objs.size + 1)) H2) (WE Wx σ) := by
      refine ⟨by rw [← R2.length]; exact hl', _, _, _, R2, S2, ?_⟩
      unfold makeR at o2
      rw [ec] at o2
      have ecs : D.ref st.length :: (ds ++ t) = D.ref st.length :: ds ++ t := rfl
      rw [ecs]
      cases q : c f (D.ref st.length :: ds ++ t) (st ++ [.ins i []]) with
      | err x st' =>
        rw [q] at o2
        exact fun W' H' cls dx e' S' R' => o2 W' H' cls dx (Wd.le_more.trans e') S' R'
      | stuck => rw [q] at o2; exact o2
      | ok d st' =>
        rw [q] at o2
        cases d with
        | non =>
          intro W' H' e' S' v Rv
          refine ⟨Rl.non.mp Rv, ?_⟩
          have ha : W'.io[st.length]? = some (s.heap.objs.size + 1) := e'.2 _ _ (by
            show (W.io ++ [s.heap.objs.size + 1])[st.length]? = _
            rw [S.len, List.getElem?_concat_length])
          have asRef : Out X.K L Wx W σ (okE X.K L Q) (.ok (.ref st.length) st') → Q (.ref (s.heap.objs.size + 1)) H' := fun o3 => o3 W' H' (Wd.le_more.trans e') S' _ (Rl.ref.mpr ⟨_, rfl, ha⟩)
          dsimp only at o2
          unfold made at o2
          cases q2 : st'[st.length]? with
          | none => rw [q2] at o2; exact asRef o2
          | some cl =>
            rw [q2] at o2
            cases cl with
            | ins j fs =>
              dsimp only at o2
              by_cases hj : j = i ∧ fs.map (·.1) = L.lay i
              · rw [if_pos hj] at o2
                obtain ⟨rfl, hfs⟩ := hj
                obtain ⟨W2, e2, S3, R3⟩ := S'.finish q2 ha hfs
                exact o2 W2 H' ((Wd.le_more.trans e').trans e2) S3 _ R3
              · rw [if_neg hj] at o2
                exact asRef o2
            | lst _ => exact asRef o2
            | rol _ => exact asRef o2
            | dic _ => exact asRef o2
            | dead => exact asRef o2
        | _ => exact o2.elim
    have hl3 : (Value.ref (s.heap.objs.size + 1) :: us ++ dsV).length = (L.fps f).length := by
      have e := r2.length
      rw [← R2.length, hl'] at e
      exact e.symm
    have hr : Room (k + 1) X.A := G.room.mono (by omega)
    refine wpAny_call (make_map (f := L.fad f) I.kIn M.makes M.init (beq_iff_eq.mp M.fn) (codeAny_mono ((G.fo.fn f hf).run _ X.stack _ _ ⟨Value.ref (s.heap.objs.size + 1) :: us, []⟩ (Value.ref (s.heap.objs.size + 1) :: (us ++ dsV)) _ _ (WE Wx σ) (hr.make (L.cad i) us [])
      (I2.env0.make (L.cad i) us []) (hb _ (Value.ref (s.heap.objs.size + 1) :: us) I2.kIn hl3) r2 hsp) fun r s' hq' => ?_))
    cases r with
    | error e => exact passAt G.tk σ pins _ _ e s' I2 hq'
    | ok fl =>
      cases fl with
      | ret u =>
        obtain ⟨v, H', I3, rv, ev, q3⟩ := I2.after hq'
        subst ev
        exact ⟨rv, ⟨V.ref (s.heap.objs.size + 1), H', I3, rfl, q3⟩⟩
      | next => exact False.elim hq'
      | brk => exact False.elim hq'
      | cont => exact False.elim hq'
noncomputable def xMk (T : Ls) (c : Fn) (i : Nat) (r : Fa) : Fe := fun ρ st => (r ρ st).bind fun ds st => mkD T c i ds st
theorem re_mk {i f : Nat} (G : Gd L X Wx k c) (hf : L.meth i 37 = some f) (hg : Gl X x) (hm : X.mg x = some (.ref (L.cad i))) (ha : RA L X Wx (e :: es) r) (hdb : (x == ("__debug__" : Str)) = false := by decide)
    (he : starEach (e :: es) X.env = (false, eval e X.env) :: starEach es X.env := by rfl) (hpl : (backTo pos (starEach es X.env)).any (·.1) = false := by rfl) :
    RE L X Wx (.Call (.Name x p) (e :: es) [] pos) (xMk L.toLs c i r) := by
  refine ⟨fun pins s σ H W st ρ Q I S E o => ?_⟩
  refine wpAny_Call_Name_kw (ld_glob I hg hm ?_ hdb)
  refine PySem.W.callWith_K (h₀ := X.base) I.ok.mod.kin (G.fo.mi i f hf).kp (ha.bind I S E o fun ds st1 W1 H1 vs us s1 hl e1 I1 S1 R1 r1 o1 => ⟨I1.kIn, ?_⟩) he hpl
  exact G.make I1 S1 R1 r1 o1
theorem re_mk0 {i f : Nat} (G : Gd L X Wx k c) (hf : L.meth i 37 = some f) (hg : Gl X x) (hm : X.mg x = some (.ref (L.cad i))) (hdb : (x == ("__debug__" : Str)) = false := by decide) :
    RE L X Wx (.Call (.Name x p) [] [] pos) (xMk L.toLs c i aNil) := by
  refine ⟨fun pins s σ H W st ρ Q I S E o => ?_⟩
  refine wpAny_Call_Name_kw (ld_glob I hg hm ?_ hdb)
  exact PySem.W.callWith_K0 I.kIn (G.fo.mi i f hf).kp (G.make (us := []) I S (Rls.nil.mpr rfl) .nil o)
/-! ### attributes -/
def lookF (g : Nat) (fs : List (Nat × D)) : Option D := match fs with
  | [] => none
  | (h, d) :: r => if h = g then some d else lookF g r
def putC (g : Nat) (d : D) (fs : List (Nat × D)) : List (Nat × D) := match fs with
  | [] => [(g, d)]
  | (h, e) :: r => if h = g then (h, d) :: r else (h, e) :: putC g d r
def fldD (T : Ls) (c : Fn) (g : Nat) (d : D) (st : Store) : Res D := match d with
  | .obj i ds => if T.isC i = true ∧ g ∈ T.atn i then match lookF g ((T.lay i).zip ds) with | some d => .ok d st | none => .stuck else match T.prop i g with
    | some f => match callD T c f [d] st with
      | .ok d st => .ok d st
      | _ => .stuck
    | none => .stuck
  | .ref n => match st[n]? with
    | some (.ins i fs) => if T.isC i = true ∧ g ∈ T.atn i ∧ ∀ p ∈ fs, p.1 ∈ T.atn i then match lookF g fs with | some d => .ok d st | none => .stuck else .stuck
    | _ => .stuck
  | _ => .stuck
theorem lookF_at {K : PySem.W.Frag} {W : Wd} {nm : Nat → Str} {g : Nat} : ∀ {fs : List (Nat × D)} {vs : List V} {d : D}, (∀ p ∈ fs, nm p.1 = nm g → p.1 = g) → Rls K L W (fs.map (·.2)) vs → lookF g fs = some d → ∃ v, List.lookup (nm g) ((fs.map fun p => nm p.1).zip vs) = some v ∧ Rl K L W d v
  | [], vs, d, _, _, h => by cases h
  | (a, z) :: fs, vs, d, hi, R, h => by
    obtain ⟨v, vs', rfl, R1, R2⟩ := Rls.cons.mp R
    unfold lookF at h
    by_cases ha : a = g
    · rw [if_pos ha] at h
      cases h
      subst ha
      exact ⟨v, by simp [List.lookup], R1⟩
    · rw [if_neg ha] at h
      obtain ⟨v', h1, h2⟩ := lookF_at (nm := nm) (fun p hp => hi p (List.mem_cons_of_mem _ hp)) R2 h
      refine ⟨v', ?_, h2⟩
      have hb : (nm g == nm a) = false := beq_eq_false_iff_ne.mpr fun q => ha (hi (a, z) (List.mem_cons_self ..) q.symm)
      rw [List.map_cons, List.zip_cons_cons, List.lookup_cons, hb]
      exact h1
theorem zip_parts {α β : Type} : ∀ {l : List α} {m : List β}, l.length = m.length → (l.zip m).map (·.1) = l ∧ (l.zip m).map (·.2) = m
  | [], [], _ => ⟨rfl, rfl⟩
  | a :: l, b :: m, h => by
    obtain ⟨h1, h2⟩ := zip_parts (l := l) (m := m) (by simpa using h)
    exact ⟨by rw [List.zip_cons_cons, List.map_cons, h1], by rw [List.zip_cons_cons, List.map_cons, h2]⟩
theorem Gd.getAttr (G : Gd L X Wx k c) {b : Bool} {g : Nat} {pins : List (Addr × Obj)} {s : Shared} {σ : St} {H : Hp} {W : Wd} {st : Store} {d : D} {v : V} {u : Value} {Q : VK} (I : Inv X pins σ H s) (S : Sok X.K L W st H)
    (R : Rl X.K L W d v) (r : RelV v u) (o : Out X.K L Wx W σ (okE X.K L Q) (fldD L.toLs c g d st)) :
    wpAny (model X.prog X.w) X.A (PySem.getAttr u (L.nm g) b) (EP X pins σ Q) X.xe s := by
  cases d with
  | obj i ds =>
    obtain ⟨a, dx, vs, rfl, h1, h2, h3⟩ := Rl.obj.mp R
    obtain rfl : u = Value.ref a := r
    unfold fldD at o
    dsimp only at o
    split at o
    · rename_i hc
      split at o
      · rename_i d hd
        obtain ⟨z1, z2⟩ := zip_parts h2
        obtain ⟨v, h4, h5⟩ := lookF_at (K := X.K) (W := W) (nm := L.nm) (fs := (L.lay i).zip ds) (vs := vs) (fun p hp q => G.fo.li i _ _ hc.1 (G.fo.la i _ (List.of_mem_zip hp).1) hc.2 q) (by rw [z2]; exact h3) hd
        have e1 : ((L.lay i).zip ds).map (fun p => L.nm p.1) = (L.lay i).map L.nm := by
          rw [show (fun p : Nat × D => L.nm p.1) = L.nm ∘ (·.1) from rfl, ← List.map_map, z1]
        rw [e1] at h4
        exact getattr_ok I (S.fz _ _ h1) (G.fo.cl i hc.1).cls (G.fo.ly i g hc.1 hc.2) h4 fun u' s' I' r' => ⟨v, H, I', r', o W H .rfl' S v h5⟩
      · exact o.elim
    · split at o
      · rename_i f hp
        obtain ⟨hC, hF, p, hP⟩ := G.fo.pr i g f hp
        have hn : callD L.toLs c f [.obj i ds] st ≠ .stuck := fun z => by rw [z] at o; exact o
        obtain ⟨t, ht, hl, ec⟩ := callD_some hn
        obtain ⟨dvs, dsV, hb, hd, hT⟩ := G.fo.bt f hF t ht
        rw [ec] at o
        refine getprop_ok (CX := L2.CX X.prog X.w) (E := fun _ _ _ => False) I (S.fz _ _ h1) (G.fo.cl i hC).cls hP (G.fo.fn f hF) (G.room.mono (by omega)) hb hd (fun _ _ _ _ _ _ _ ⟨_, _, _, _, _, _, _, _, _, _, _, _, z⟩ => z) ?_
        have R2 : Rls X.K L W ([D.obj i ds] ++ t) (V.ref a :: dvs) := Rls.mk R (hT W)
        refine ⟨by rw [← R2.length, List.length_append]; exact hl, _, W, st, R2, S, ?_⟩
        revert o
        cases c f ([D.obj i ds] ++ t) st with
        | ok d st' => exact id
        | err x st' => exact fun z => z.elim
        | stuck => exact id
      · exact o.elim
  | ref n =>
    obtain ⟨a, rfl, h1⟩ := Rl.ref.mp R
    obtain rfl : u = Value.ref a := r
    unfold fldD at o
    dsimp only at o
    split at o
    · rename_i i fs hn
      split at o
      · rename_i hc
        split at o
        · rename_i d hd
          obtain ⟨dx, vs, h2, h3⟩ := S.cell n _ a hn h1
          obtain ⟨v, h4, h5⟩ := lookF_at (K := X.K) (W := W) (nm := L.nm) (fun p hp q => G.fo.li i _ _ hc.1 (hc.2.2 p hp) hc.2.1 q) h3 hd
          exact getattr_ok I h2 (G.fo.cl i hc.1).cls (G.fo.ly i g hc.1 hc.2.1) h4 fun u' s' I' r' => ⟨v, H, I', r', o W H .rfl' S v h5⟩
        · exact o.elim
      · exact o.elim
    · exact o.elim
  | _ => exact o.elim
def xFld (T : Ls) (c : Fn) (g : Nat) (f : Fe) : Fe := fun ρ st => (f ρ st).bind fun d st => fldD T c g d st
theorem re_fld {g : Nat} (G : Gd L X Wx k c) (he : RE L X Wx e f) (hn : x = L.nm g := by rfl) (hab : attributeBase e x X.env (eval e X.env) = eval e X.env := by rfl) : RE L X Wx (.Attribute e x pos) (xFld L.toLs c g f) := by
  refine ⟨fun pins s σ H W st ρ Q I S E o => ?_⟩
  refine attr_of hab (he.bind I S E o fun d st1 W1 H1 v u s1 e1 I1 S1 R1 r1 o1 => ?_)
  rw [hn]
  exact G.getAttr I1 S1 R1 r1 o1
/-! ### methods -/
def mthD (T : Ls) (c : Fn) (m : Nat) (d : D) (ds : List D) (st : Store) : Res D := match d with
  | .obj i _ => match T.meth i m with
    | some f => callD T c f (d :: ds) st
    | none => .stuck
  | .ref n => match st[n]? with
    | some (.ins i fs) => if ∀ p ∈ fs, p.1 ∈ T.atn i then match T.meth i m with
      | some f => callD T c f (d :: ds) st
      | none => .stuck else .stuck
    | _ => .stuck
  | _ => .stuck
def xMeth (T : Ls) (c : Fn) (m : Nat) (f : Fe) (r : Fa) : Fe := fun ρ st => (f ρ st).bind fun d st => (r ρ st).bind fun ds st => mthD T c m d ds st
/-- who the method is, before the arguments -/
def whoD (T : Ls) (m : Nat) (d : D) (st : Store) : Option Nat := match d with
  | .obj i _ => T.meth i m
  | .ref n => match st[n]? with
    | some (.ins i fs) => if ∀ p ∈ fs, p.1 ∈ T.atn i then T.meth i m else none
    | _ => none
  | _ => none
def xMethW (T : Ls) (c : Fn) (m : Nat) (f : Fe) (r : Fa) : Fe := fun ρ st => (f ρ st).bind fun d st => match whoD T m d st with
  | some g => (r ρ st).bind fun ds st => callD T c g (d :: ds) st
  | none => .stuck
theorem lookup_no {vs : List V} {x : Str} : ∀ {l : List Str}, (∀ y ∈ l, y ≠ x) → List.lookup x (l.zip vs) = none
  | [], _ => rfl
  | y :: l, h => by
    cases vs with
    | nil => rfl
    | cons v vs =>
      have hb : (x == y) = false := beq_eq_false_iff_ne.mpr fun q => h y (List.mem_cons_self ..) q.symm
      rw [List.zip_cons_cons, List.lookup_cons, hb]
      exact lookup_no fun z hz => h z (List.mem_cons_of_mem _ hz)
theorem Gd.who (G : Gd L X Wx k c) {m f : Nat} {pins : List (Addr × Obj)} {s : Shared} {σ : St} {H : Hp} {W : Wd} {st : Store} {d : D} {v : V} {pl : Sem Bool} {Q : Value × List Value → Shared → Prop} (I : Inv X pins σ H s) (S : Sok X.K L W st H)
    (R : Rl X.K L W d v) (h : whoD L.toLs m d st = some f) (q : ∀ a, v = .ref a → L.isF f = true → Q (.ref (L.fad f), [.ref a]) s) :
    ∃ a, v = .ref a ∧ wpAny (model X.prog X.w) X.A (PySem.getMethod (.ref a) (L.nm m) pl) Q X.xe s := by
  cases d with
  | obj i ds =>
    obtain ⟨a, dx, vs, rfl, h1, h2, h3⟩ := Rl.obj.mp R
    have h' : L.meth i m = some f := h
    obtain ⟨hC, hF, hM⟩ := G.fo.mt i m f h'
    refine ⟨a, rfl, getmeth_ok I (S.fz _ _ h1) (G.fo.cl i hC).cls hM (lookup_no fun y hy => ?_) (q a rfl hF)⟩
    obtain ⟨g, hg, rfl⟩ := List.mem_map.mp hy
    exact G.fo.lm i g m f (G.fo.la i g hg) h'
  | ref n =>
    obtain ⟨a, rfl, h1⟩ := Rl.ref.mp R
    unfold whoD at h
    dsimp only at h
    split at h
    · rename_i i fs hn
      split at h
      · rename_i hc
        obtain ⟨hC, hF, hM⟩ := G.fo.mt i m f h
        obtain ⟨dx, vs, h2, h3⟩ := S.cell n _ a hn h1
        refine ⟨a, rfl, getmeth_ok I h2 (G.fo.cl i hC).cls hM (lookup_no fun y hy => ?_) (q a rfl hF)⟩
        obtain ⟨p, hp, rfl⟩ := List.mem_map.mp hy
        exact G.fo.lm i p.1 m f (hc p hp) h
      · cases h
    · cases h
  | _ => cases h
theorem re_meth {pl : Sem Bool} {i : Nat} (G : Gd L X Wx k c) (he : RE L X Wx o f) (ha : RA L X Wx (e :: es) r) (hn : m = L.nm i := by rfl)
    (hst : starEach (e :: es) X.env = (false, eval e X.env) :: starEach es X.env := by rfl) (hpl : (backTo pos (starEach es X.env)).any (·.1) = false := by rfl)
    (ht : eval (.Call (.Attribute o m apos) (e :: es) [] pos) X.env = (do
      let ov ← eval o X.env
      standAt apos.atName
      let (f, first) ← holding [ov] (getMethod ov m pl)
      callWith pos f first (backTo pos (starEach (e :: es) X.env)) (backToKw pos (keywordEach [] X.env))) := by rfl) :
    RE L X Wx (.Call (.Attribute o m apos) (e :: es) [] pos) (xMethW L.toLs c i f r) := by
  refine ⟨fun pins s σ H W st ρ Q I S E o => ?_⟩
  refine PySem.W.methodCall_KW (pl := pl) (he.bind I S E o fun d st1 W1 H1 v u s1 e1 I1 S1 R1 r1 o1 => ?_) ht
  split at o1
  · rename_i g hw
    obtain ⟨a, rfl, hh⟩ := G.who (pl := pl) I1 S1 R1 hw (Q := fun q s₁ => wpAny (model X.prog X.w) X.A (callWith pos q.1 q.2 (backTo pos (starEach (e :: es) X.env)) (backToKw pos (keywordEach [] X.env))) (EP X pins σ Q) X.xe s₁) fun a ea hF => by
      subst ea
      refine PySem.W.callWith_K (first := [.ref a]) (h₀ := X.base) I1.ok.mod.kin (G.fo.kp g hF) (ha.bind I1 S1 (E.mono e1) o1 fun ds st2 W2 H2 vs us s2 hl e2 I2 S2 R2 r2 o2 => ⟨I2.kIn, ?_⟩) hst hpl
      exact G.call (us := .ref a :: us) hF I2 S2 (Rls.mk (R1.mono e2) R2) (.cons rfl r2) o2
    obtain rfl : u = Value.ref a := r1
    rw [hn]
    exact hh
  · exact o1.elim
theorem re_meth0 {pl : Sem Bool} {i : Nat} (G : Gd L X Wx k c) (he : RE L X Wx o f) (hn : m = L.nm i := by rfl)
    (ht : eval (.Call (.Attribute o m apos) [] [] pos) X.env = (do
      let ov ← eval o X.env
      standAt apos.atName
      let (f, first) ← holding [ov] (getMethod ov m pl)
      callWith pos f first (backTo pos (starEach [] X.env)) (backToKw pos (keywordEach [] X.env))) := by rfl) :
    RE L X Wx (.Call (.Attribute o m apos) [] [] pos) (xMethW L.toLs c i f aNil) := by
  refine ⟨fun pins s σ H W st ρ Q I S E o => ?_⟩
  refine PySem.W.methodCall_KW (pl := pl) (he.bind I S E o fun d st1 W1 H1 v u s1 e1 I1 S1 R1 r1 o1 => ?_) ht
  split at o1
  · rename_i g hw
    obtain ⟨a, rfl, hh⟩ := G.who (pl := pl) I1 S1 R1 hw (Q := fun q s₁ => wpAny (model X.prog X.w) X.A (callWith pos q.1 q.2 (backTo pos (starEach [] X.env)) (backToKw pos (keywordEach [] X.env))) (EP X pins σ Q) X.xe s₁) fun a ea hF => by
      subst ea
      exact PySem.W.callWith_K0 (first := [.ref a]) I1.kIn (G.fo.kp g hF) (G.call (us := [.ref a]) hF I1 S1 (Rls.mk R1 (Rls.nil.mpr rfl)) (.cons rfl .nil) o1)
    obtain rfl : u = Value.ref a := r1
    rw [hn]
    exact hh
  · exact o1.elim
/-! ### storing attributes -/
def setD (T : Ls) (g : Nat) (d o : D) (st : Store) : Res Store := match o with
  | .ref n => match st[n]? with
    | some (.ins i fs) => if T.isC i = true ∧ g ∈ T.atn i ∧ fs.length < 1000 ∧ ∀ p ∈ fs, p.1 ∈ T.atn i then .ok (st.set n (.ins i (putC g d fs))) st else .stuck
    | _ => .stuck
  | _ => .stuck
def sFldD (T : Ls) (g : Nat) (fo fv : Fe) : Fs := fun ρ st => (fv ρ st).toS ρ fun d st => (fo ρ st).toS ρ fun o st => match setD T g d o st with
  | .ok st' _ => .nx ρ st'
  | _ => .stuck
theorem putC_at {K : PySem.W.Frag} {W : Wd} {nm : Nat → Str} {g : Nat} {d : D} {v : V} : ∀ {fs : List (Nat × D)} {vs : List V}, (∀ p ∈ fs, nm p.1 = nm g → p.1 = g) → Rls K L W (fs.map (·.2)) vs → Rl K L W d v →
    ∃ us, putF (nm g) v ((fs.map fun p => nm p.1).zip vs) = ((putC g d fs).map fun p => nm p.1).zip us ∧ Rls K L W ((putC g d fs).map (·.2)) us
  | [], vs, _, R, Rv => ⟨[v], by rw [Rls.nil.mp R]; rfl, Rls.mk Rv (Rls.nil.mpr rfl)⟩
  | (a, z) :: fs, vs, hi, R, Rv => by
    obtain ⟨u, vs', rfl, R1, R2⟩ := Rls.cons.mp R
    by_cases ha : a = g
    · subst ha
      refine ⟨v :: vs', ?_, ?_⟩
      · unfold putC
        rw [if_pos rfl]
        show (if nm a = nm a then _ else _) = _
        rw [if_pos rfl]
        rfl
      · unfold putC
        rw [if_pos rfl]
        exact Rls.mk Rv R2
    · obtain ⟨us, h1, h2⟩ := putC_at (nm := nm) (fun p hp => hi p (List.mem_cons_of_mem _ hp)) R2 Rv
      refine ⟨u :: us, ?_, ?_⟩
      · unfold putC
        rw [if_neg ha]
        show (if nm a = nm g then _ else (nm a, u) :: putF (nm g) v ((fs.map fun p => nm p.1).zip vs')) = _
        rw [if_neg fun q => ha (hi (a, z) (List.mem_cons_self ..) q), h1]
        rfl
      · unfold putC
        rw [if_neg ha]
        exact Rls.mk R1 h2
theorem rs_fld {g : Nat} {fo fv : Fe} {value : Expr} {pos' : Pos} (G : Gd L X Wx k c) (ha : RE L X Wx o fo) (hv : RE L X Wx value fv) (hn : x = L.nm g := by rfl) (hs : swapsWith value (some (.Attribute o x pos')) pos.line X.env = pure false := by rfl) :
    RS L X Wx (.Assign [.Attribute o x pos'] value pos) (sFldD L.toLs g fo fv) := by
  refine ⟨fun pins s σ H W sto ρ D I S E oo => ?_⟩
  refine plainObj_wpAny_Assign_Attribute (hv.bindS I S E oo fun d st1 W1 H1 v u s1 e1 I1 S1 R1 r1 o1 => ha.bindS I1 S1 (E.mono e1) o1 fun od st2 W2 H2 x v2 s2 e2 I2 S2 R2 r2 o2 => ?_) hs
  cases od with
  | ref n =>
    obtain ⟨a, rfl, h1⟩ := Rl.ref.mp R2
    obtain rfl : v2 = Value.ref a := r2
    unfold setD at o2
    dsimp only at o2
    cases hst : st2[n]? with
    | none => rw [hst] at o2; exact o2.elim
    | some cl =>
      rw [hst] at o2
      cases cl with
      | ins i fs =>
        dsimp only at o2
        by_cases hc : L.isC i = true ∧ g ∈ L.atn i ∧ fs.length < 1000 ∧ ∀ p ∈ fs, p.1 ∈ L.atn i
        · rw [if_pos hc] at o2
          obtain ⟨hC, hg, hz, hall⟩ := hc
          obtain ⟨dx, vs, h2, h3⟩ := S2.cell n _ a hst h1
          rw [hn]
          obtain ⟨us, h4, h5⟩ := putC_at (K := X.K) (W := W2) (nm := L.nm) (g := g) (fun p hp q => G.fo.li i _ _ hC (hall p hp) hg q) h3 (R1.mono e2)
          refine setattr_ok I2 h2 (G.fo.cl i hC).cls (G.fo.ly i g hC hg) (by rw [List.length_zip, List.length_map]; omega) r1 fun s3 I3 => ⟨σ, _, I3, ?_⟩
          exact o2 W2 _ σ .rfl' (S2.write hst rfl h1 ⟨dx, us, by rw [upd_same, h4], h5⟩) (E.mono (e1.trans e2))
        · rw [if_neg hc] at o2; exact o2.elim
      | _ => exact o2.elim
  | _ => exact o2.elim
end
end Gm
namespace Gm
open PySem PySem.Spec PyProof.Rows L2
/-! ### equality -/
/-- data without instances, as the library compares them -/
def pyD : Nat → Store → D → Option PyData
  | 0, _, _ => none
  | n + 1, st, d => match d with
    | .non => some .none
    | .bl b => some (.bool b)
    | .int i => some (.int i)
    | .str x => some (.str x)
    | .tup ds => (ds.mapM (pyD n st)).map .tuple
    | .ref m => match st[m]? with
      | some (.lst ds) => (ds.mapM (pyD n st)).map .list
      | _ => none
    | .obj _ _ => none
    | .fn _ => none
section
variable {K : PySem.W.Frag} {L : Lw} {W : Wd} {st : Store} {H : Hp}
theorem pyD_all {f : D → Option PyData} (hf : ∀ d v p, Rl K L W d v → f d = some p → Dp K H v p) : ∀ {ds : List D} {vs : List V} {ps : List PyData}, Rls K L W ds vs → ds.mapM f = some ps → DpAll K H vs ps
  | [], vs, ps, R, h => by
    rw [Rls.nil.mp R]
    have : ps = [] := by simpa using h.symm
    subst this
    exact .nil
  | d :: ds, vs, ps, R, h => by
    obtain ⟨v, vs', rfl, R1, R2⟩ := Rls.cons.mp R
    rw [List.mapM_cons] at h
    cases q : f d with
    | none => rw [q] at h; cases h
    | some p =>
      rw [q] at h
      cases q2 : ds.mapM f with
      | none => rw [q2] at h; cases h
      | some ps' =>
        rw [q2] at h
        cases h
        exact .cons (hf d v p R1 q) (pyD_all hf R2 q2)
theorem pyD_ok (S : Sok K L W st H) : ∀ (n : Nat) (d : D) (v : V) (p : PyData), Rl K L W d v → pyD n st d = some p → Dp K H v p
  | 0, _, _, _, _, h => by cases h
  | n + 1, .non, v, p, R, h => by rw [Rl.non.mp R]; cases h; exact .non
  | n + 1, .bl b, v, p, R, h => by rw [Rl.bl.mp R]; cases h; exact .bl b
  | n + 1, .int b, v, p, R, h => by rw [Rl.int.mp R]; cases h; exact .int b
  | n + 1, .str b, v, p, R, h => by rw [Rl.str.mp R]; cases h; exact .str b
  | n + 1, .tup ds, v, p, R, h => by
    obtain ⟨a, vs, rfl, h1, h2⟩ := Rl.tup.mp R
    unfold pyD at h
    obtain ⟨ps, h3, rfl⟩ := Option.map_eq_some_iff.mp h
    exact .tup (SqT_mono S.fz h1) (pyD_all (fun d v p => pyD_ok S n d v p) h2 h3)
  | n + 1, .obj _ _, v, p, R, h => by cases h
  | n + 1, .fn _, v, p, R, h => by cases h
  | n + 1, .ref m, v, p, R, h => by
    obtain ⟨a, rfl, h1⟩ := Rl.ref.mp R
    unfold pyD at h
    dsimp only at h
    split at h
    · rename_i ds hc
      obtain ⟨ps, h3, rfl⟩ := Option.map_eq_some_iff.mp h
      obtain ⟨vs, h4, h5⟩ := S.cell m _ a hc h1
      exact .lst (.inl (.inl h4)) (pyD_all (fun d v p => pyD_ok S n d v p) h5 h3)
    · cases h
end
mutual
/-- no cell within; every instance of a known class -/
def okC (T : Ls) : D → Bool
  | .ref _ => false
  | .fn _ => false
  | .tup ds => okCs T ds
  | .obj c ds => T.isC c && okCs T ds
  | _ => true
def okCs (T : Ls) : List D → Bool
  | [] => true
  | d :: ds => okC T d && okCs T ds
end
@[simp] theorem okCs_nil (T : Ls) : okCs T [] = true := by rw [okCs]
@[simp] theorem okCs_cons (T : Ls) (d : D) (ds : List D) : okCs T (d :: ds) = (okC T d && okCs T ds) := by rw [okCs]
@[simp] theorem okC_tup (T : Ls) (ds : List D) : okC T (.tup ds) = okCs T ds := by rw [okC]
@[simp] theorem okC_obj (T : Ls) (c : Nat) (ds : List D) : okC T (.obj c ds) = (T.isC c && okCs T ds) := by rw [okC]
@[simp] theorem okC_ref (T : Ls) (m : Nat) : okC T (.ref m) = false := by rw [okC]
@[simp] theorem okC_fn (T : Ls) (m : Nat) : okC T (.fn m) = false := by rw [okC]
@[simp] theorem okC_int (T : Ls) (i : Int) : okC T (.int i) = true := by simp [okC]
@[simp] theorem okC_bl (T : Ls) (i : Bool) : okC T (.bl i) = true := by simp [okC]
@[simp] theorem okC_str (T : Ls) (i : Str) : okC T (.str i) = true := by simp [okC]
@[simp] theorem okC_non (T : Ls) : okC T .non = true := by simp [okC]
/-- two data that may be one object are equal, and then nothing was done -/
noncomputable def itemR (T : Ls) (d1 d2 : D) (st : Store) (r : Res Bool) : Res Bool := match r with
  | .ok b st' => open Classical in if okC T d1 = true ∧ okC T d2 = true ∧ (d1 = d2 → b = true ∧ st' = st) then .ok b st' else .stuck
  | .err x st' => open Classical in if okC T d1 = true ∧ okC T d2 = true ∧ d1 ≠ d2 then .err x st' else .stuck
  | .stuck => .stuck
noncomputable def eqAll (T : Ls) (q : D → D → Store → Res Bool) : List D → List D → Store → Res Bool
  | [], [], st => .ok true st
  | [], _ :: _, st => .ok false st
  | _ :: _, [], st => .ok false st
  | x :: xs, y :: ys, st => (itemR T x y st (q x y st)).bind fun b st => if b then eqAll T q xs ys st else .ok false st
def asB (d : D) (st : Store) : Res Bool := match d with
  | .bl b => .ok b st
  | _ => .stuck
/-- what may stand to the right of an instance -/
def rhs (T : Ls) : D → Bool
  | .obj j _ => T.isC j
  | .ref _ => false
  | .tup _ => false
  | .fn _ => false
  | _ => true
noncomputable def eqD (T : Ls) (c : Fn) : Nat → D → D → Store → Res Bool
  | 0, _, _, _ => .stuck
  | n + 1, d1, d2, st => match d1 with
    | .obj i _ => match T.meth i 21 with
      | some f => if rhs T d2 = true then (callD T c f [d1, d2] st).bind asB else .stuck
      | none => .stuck
    | _ => match pyD 6 st d1, pyD 6 st d2 with
      | some p, some q => if SeqAt.shaped p = true ∧ SeqAt.shaped q = true then .ok (PyData.eqv p q) st else .stuck
      | _, _ => match d1, d2 with
        | .tup xs, .tup ys => eqAll T (eqD T c n) xs ys st
        | _, _ => .stuck
/-! the values of tuples and instances tell their data -/
theorem Vals.inj {us : List Value} : ∀ {xs ys : List V}, Vals xs us → Vals ys us → (∀ x y u, RelV x u → RelV y u → x = y) → xs = ys := by
  intro xs ys h
  induction h generalizing ys with
  | nil => intro h2 _; cases h2; rfl
  | cons r _ ih =>
    intro h2 hi
    cases h2 with
    | cons r2 h3 => rw [hi _ _ _ r r2, ih h3 hi]
theorem zip_inj {β : Type} : ∀ {l : List Str} {xs ys : List β}, l.length = xs.length → l.length = ys.length → l.zip xs = l.zip ys → xs = ys
  | [], [], [], _, _, _ => rfl
  | a :: l, x :: xs, y :: ys, h1, h2, h => by
    rw [List.zip_cons_cons, List.zip_cons_cons] at h
    injection h with h3 h4
    cases h3
    rw [zip_inj (by simpa using h1) (by simpa using h2) h4]
section
variable {L : Lw} {X : Cx} {pins : List (Addr × Obj)} {s : Shared} {σ : St} {H : Hp} {W : Wd}
theorem sqT_inj (I : Inv X pins σ H s) (hi : ∀ x y u, RelV x u → RelV y u → x = y) {a : Addr} {xs ys : List V} (h1 : SqT X.K H a xs) (h2 : SqT X.K H a ys) : xs = ys := by
  obtain ⟨its, r, ⟨o, ho, hc, n, hd⟩, _⟩ := I.tuple h1
  obtain ⟨its2, r2, ⟨o2, ho2, hc2, n2, hd2⟩, _⟩ := I.tuple h2
  rw [ho] at ho2
  cases ho2
  rw [hd] at hd2
  injection hd2 with h3 _
  have h4 : its = its2 := by simpa using h3
  subst h4
  exact Vals.inj r r2 hi
end
def decV : Value → Option V
  | .none => some .non
  | .bool b => some (.bl b)
  | .int i _ => some (.int i)
  | .str x _ => some (.str x)
  | .bytes x _ => some (.byt x)
  | .float x _ => some (.flt x)
  | .ref a => some (.ref a)
  | .type n => some (.ty n)
  | _ => none
theorem decV_of : ∀ {x : V} {u : Value}, L2.RelV x u → decV u = some x
  | .non, u, h => by have h : u = .none := h; subst h; rfl
  | .bl b, u, h => by have h : u = .bool b := h; subst h; rfl
  | .int i, u, h => by obtain ⟨t, rfl⟩ : ∃ t, u = Value.int i t := h; rfl
  | .str i, u, h => by obtain ⟨t, rfl⟩ : ∃ t, u = Value.str i t := h; rfl
  | .byt i, u, h => by obtain ⟨t, rfl⟩ : ∃ t, u = Value.bytes i t := h; rfl
  | .flt i, u, h => by obtain ⟨t, rfl⟩ : ∃ t, u = Value.float i t := h; rfl
  | .ref a, u, h => by have h : u = .ref a := h; subst h; rfl
  | .ty n, u, h => by have h : u = .type n := h; subst h; rfl
theorem relV_inj (x y : V) (u : Value) (h1 : L2.RelV x u) (h2 : L2.RelV y u) : x = y := Option.some.inj ((decV_of h1).symm.trans (decV_of h2))
section
variable {L : Lw} {X : Cx} {pins : List (Addr × Obj)} {s : Shared} {σ : St} {H : Hp} {W : Wd} {st : Store}
theorem tup_not_ins (I : Inv X pins σ H s) {a C dx : Addr} {xs : List V} {fs : List (Str × V)} (h : SqT X.K H a xs) (e : H a = some (.ins C dx fs)) : False := by
  obtain ⟨its, r, ⟨o, ho, hc, n, hd⟩, _⟩ := I.tuple h
  obtain ⟨mA, J, _⟩ := ins_get I.hok e
  obtain ⟨od, J, _⟩ := J.look
  rw [J.at_] at ho
  cases ho
  cases hc
mutual
theorem Rl.inj (I : Inv X pins σ H s) (S : Sok X.K L W st H) (hc : ∀ i j, L.isC i = true → L.isC j = true → L.cad i = L.cad j → i = j) : ∀ {d e : D} {v : V}, okC L.toLs d = true → okC L.toLs e = true → Rl X.K L W d v → Rl X.K L W e v → d = e
  | .non, e, v, _, h2, R1, R2 => by
    rw [Rl.non.mp R1] at R2
    cases e with
    | non => rfl
    | bl b => cases Rl.bl.mp R2
    | int b => cases Rl.int.mp R2
    | str b => cases Rl.str.mp R2
    | tup ds => obtain ⟨_, _, h, _⟩ := Rl.tup.mp R2; cases h
    | obj c ds => obtain ⟨_, _, _, h, _⟩ := Rl.obj.mp R2; cases h
    | ref n => obtain ⟨_, h, _⟩ := Rl.ref.mp R2; cases h
    | fn n => rw [okC_fn] at h2; cases h2
  | .bl b, e, v, _, h2, R1, R2 => by
    rw [Rl.bl.mp R1] at R2
    cases e with
    | non => cases Rl.non.mp R2
    | bl b => cases Rl.bl.mp R2; rfl
    | int b => cases Rl.int.mp R2
    | str b => cases Rl.str.mp R2
    | tup ds => obtain ⟨_, _, h, _⟩ := Rl.tup.mp R2; cases h
    | obj c ds => obtain ⟨_, _, _, h, _⟩ := Rl.obj.mp R2; cases h
    | ref n => obtain ⟨_, h, _⟩ := Rl.ref.mp R2; cases h
    | fn n => rw [okC_fn] at h2; cases h2
  | .int b, e, v, _, h2, R1, R2 => by
    rw [Rl.int.mp R1] at R2
    cases e with
    | non => cases Rl.non.mp R2
    | bl b => cases Rl.bl.mp R2
    | int b => cases Rl.int.mp R2; rfl
    | str b => cases Rl.str.mp R2
    | tup ds => obtain ⟨_, _, h, _⟩ := Rl.tup.mp R2; cases h
    | obj c ds => obtain ⟨_, _, _, h, _⟩ := Rl.obj.mp R2; cases h
    | ref n => obtain ⟨_, h, _⟩ := Rl.ref.mp R2; cases h
    | fn n => rw [okC_fn] at h2; cases h2
  | .str b, e, v, _, h2, R1, R2 => by
    rw [Rl.str.mp R1] at R2
    cases e with
    | non => cases Rl.non.mp R2
    | bl b => cases Rl.bl.mp R2
    | int b => cases Rl.int.mp R2
    | str b => cases Rl.str.mp R2; rfl
    | tup ds => obtain ⟨_, _, h, _⟩ := Rl.tup.mp R2; cases h
    | obj c ds => obtain ⟨_, _, _, h, _⟩ := Rl.obj.mp R2; cases h
    | ref n => obtain ⟨_, h, _⟩ := Rl.ref.mp R2; cases h
    | fn n => rw [okC_fn] at h2; cases h2
  | .tup ds, e, v, h1, h2, R1, R2 => by
    obtain ⟨a, vs, rfl, q1, q2⟩ := Rl.tup.mp R1
    cases e with
    | non => cases Rl.non.mp R2
    | bl b => cases Rl.bl.mp R2
    | int b => cases Rl.int.mp R2
    | str b => cases Rl.str.mp R2
    | tup es =>
      obtain ⟨b, us, h, q3, q4⟩ := Rl.tup.mp R2
      cases h
      have e1 := sqT_inj I relV_inj (SqT_mono S.fz q1) (SqT_mono S.fz q3)
      subst e1
      rw [okC_tup] at h1 h2
      rw [Rls.inj I S hc h1 h2 q2 q4]
    | obj c es =>
      obtain ⟨b, dx, us, h, q3, _⟩ := Rl.obj.mp R2
      cases h
      exact (tup_not_ins I (SqT_mono S.fz q1) (S.fz _ _ q3)).elim
    | ref n => rw [okC_ref] at h2; cases h2
    | fn n => rw [okC_fn] at h2; cases h2
  | .obj c ds, e, v, h1, h2, R1, R2 => by
    obtain ⟨a, dx, vs, rfl, q1, q5, q2⟩ := Rl.obj.mp R1
    cases e with
    | non => cases Rl.non.mp R2
    | bl b => cases Rl.bl.mp R2
    | int b => cases Rl.int.mp R2
    | str b => cases Rl.str.mp R2
    | tup es =>
      obtain ⟨b, us, h, q3, _⟩ := Rl.tup.mp R2
      cases h
      exact (tup_not_ins I (SqT_mono S.fz q3) (S.fz _ _ q1)).elim
    | obj c2 es =>
      obtain ⟨b, dx2, us, h, q3, q6, q4⟩ := Rl.obj.mp R2
      cases h
      rw [q1] at q3
      injection q3 with q3
      injection q3 with e1 e2 e3
      rw [okC_obj, Bool.and_eq_true] at h1 h2
      have := hc c c2 h1.1 h2.1 e1
      subst this
      have e4 := zip_inj (by rw [List.length_map, q5, q2.length]) (by rw [List.length_map, q6, q4.length]) e3
      subst e4
      rw [Rls.inj I S hc h1.2 h2.2 q2 q4]
    | ref n => rw [okC_ref] at h2; cases h2
    | fn n => rw [okC_fn] at h2; cases h2
  | .ref n, e, v, h1, _, _, _ => by rw [okC_ref] at h1; cases h1
  | .fn n, e, v, h1, _, _, _ => by rw [okC_fn] at h1; cases h1
theorem Rls.inj (I : Inv X pins σ H s) (S : Sok X.K L W st H) (hc : ∀ i j, L.isC i = true → L.isC j = true → L.cad i = L.cad j → i = j) : ∀ {ds es : List D} {vs : List V}, okCs L.toLs ds = true → okCs L.toLs es = true → Rls X.K L W ds vs → Rls X.K L W es vs → ds = es
  | [], es, vs, _, _, R1, R2 => by
    rw [Rls.nil.mp R1] at R2
    cases es with
    | nil => rfl
    | cons e es => obtain ⟨_, _, h, _⟩ := Rls.cons.mp R2; cases h
  | d :: ds, es, vs, h1, h2, R1, R2 => by
    obtain ⟨v, vs', rfl, q1, q2⟩ := Rls.cons.mp R1
    cases es with
    | nil => cases Rls.nil.mp R2
    | cons e es =>
      obtain ⟨v2, vs2, h, q3, q4⟩ := Rls.cons.mp R2
      cases h
      rw [okCs_cons, Bool.and_eq_true] at h1 h2
      rw [Rl.inj I S hc h1.1 h2.1 q1 q3, Rls.inj I S hc h1.2 h2.2 q2 q4]
end
end
end Gm
namespace Gm
section
open PySem PySem.SeqAt
open AutoSeq1 (wpAny_loadPart')
open MeetsSeq MeetsSeq2 MeetsSeq3 SeqRoads2 GQ
variable {prog : Program} {w : World} {A : Around} {R : Result → Shared → Prop}
theorem tuple_eqH (l b : Addr) (items items2 : Array Value) (n n2 : Nat) (dd dd2 : Option Addr) (sl sl2 : Array (Option Value)) (I : Nat → Shared → Prop)
    (turn : ∀ i (h1 : i < items.size) (h2 : i < items2.size) s, I i s → wpAny (model prog w) A.in1 (eqBool items[i] items2[i]) (fun r s' => if r = true then I (i + 1) s' else R (.ok (.ret (.bool false))) s') (fun e s' => R (.error e) s') s)
    (fin : ∀ i s, I i s → i = min items.size items2.size → R (.ok (.ret (.bool (items.size == items2.size)))) s) {s : Shared} (hl1 : s.heap.get? l = some { cls := .type "tuple", dict := dd, data := .seq items n, slots := sl }) (hb1 : s.heap.get? b = some { cls := .type "tuple", dict := dd2, data := .seq items2 n2, slots := sl2 }) (h : I 0 s) :
    wpAny (model prog w) A.in1 (Builtin.«tuple.__eq__» ⟨[.ref l, .ref b], []⟩) (FinOf prog w A R) (fun e s' => R (.error e) s') s := by
  have f2 := AutoSeq1.sub_tuple_tuple
  have hZ : (items.toList.zip items2.toList).length = min items.size items2.size := by simp
  have h0 := h
  obtain ⟨hp, g, d, tk, os⟩ := s
  wp_walk using wpAny_loadPart' hl1, wpAny_loadPart' hb1, wpAny_forIn_list _ (fun rest b s' => (b.1 = none ∧ ∃ i, rest = (items.toList.zip items2.toList).drop i ∧ i ≤ min items.size items2.size ∧ I i s')) _
  case turn =>
    rintro ⟨y, x⟩ rest b s' ⟨hb', i, hz, hi, hI⟩
    have hlt : i < (items.toList.zip items2.toList).length := by
      rcases Nat.lt_or_ge i (items.toList.zip items2.toList).length with h' | h'
      · exact h'
      · rw [List.drop_of_length_le h'] at hz; cases hz
    have h1 : i < items.size := by omega
    have h2 : i < items2.size := by omega
    rw [List.drop_eq_getElem_cons hlt] at hz
    injection hz with hyx hrest
    have hy : y = items[i] := by have := congrArg Prod.fst hyx; simpa using this
    have hx : x = items2[i] := by have := congrArg Prod.snd hyx; simpa using this
    subst hy hx
    refine wpAny_bind (wpAny_mono (turn i h1 h2 s' hI) (fun r s2 q2 => ?_) fun _ _ x => x)
    cases r with
    | true =>
      wp_walk
      exact ⟨rfl, i + 1, hrest, by omega, q2⟩
    | false =>
      wp_walk
      exact q2
  case fin =>
    rintro ⟨b1, b2⟩ s' ⟨hb', i, hz, hi, hI⟩
    simp only at hb'
    subst hb'
    have hge : min items.size items2.size ≤ i := by
      rcases Nat.lt_or_ge i (items.toList.zip items2.toList).length with h' | h'
      · rw [List.drop_eq_getElem_cons h'] at hz; cases hz
      · exact hZ ▸ h'
    have hR := fin i s' hI (by omega)
    wp_walk
    simpa [Builtin.Tuple.tupleCompareSizes] using hR
  case h =>
    exact ⟨rfl, 0, rfl, Nat.zero_le _, h0⟩
theorem tuple_neH (l b : Addr) (items items2 : Array Value) (n n2 : Nat) (dd dd2 : Option Addr) (sl sl2 : Array (Option Value)) (I : Nat → Shared → Prop)
    (turn : ∀ i (h1 : i < items.size) (h2 : i < items2.size) s, I i s → wpAny (model prog w) A.in1 (eqBool items[i] items2[i]) (fun r s' => if r = true then I (i + 1) s' else R (.ok (.ret (.bool true))) s') (fun e s' => R (.error e) s') s)
    (fin : ∀ i s, I i s → i = min items.size items2.size → R (.ok (.ret (.bool (!(items.size == items2.size))))) s) {s : Shared} (hl1 : s.heap.get? l = some { cls := .type "tuple", dict := dd, data := .seq items n, slots := sl }) (hb1 : s.heap.get? b = some { cls := .type "tuple", dict := dd2, data := .seq items2 n2, slots := sl2 }) (h : I 0 s) :
    wpAny (model prog w) A.in1 (Builtin.«tuple.__ne__» ⟨[.ref l, .ref b], []⟩) (FinOf prog w A R) (fun e s' => R (.error e) s') s := by
  have f2 := AutoSeq1.sub_tuple_tuple
  have hZ : (items.toList.zip items2.toList).length = min items.size items2.size := by simp
  have h0 := h
  obtain ⟨hp, g, d, tk, os⟩ := s
  wp_walk using wpAny_loadPart' hl1, wpAny_loadPart' hb1, wpAny_forIn_list _ (fun rest b s' => (b.1 = none ∧ ∃ i, rest = (items.toList.zip items2.toList).drop i ∧ i ≤ min items.size items2.size ∧ I i s')) _
  case turn =>
    rintro ⟨y, x⟩ rest b s' ⟨hb', i, hz, hi, hI⟩
    have hlt : i < (items.toList.zip items2.toList).length := by
      rcases Nat.lt_or_ge i (items.toList.zip items2.toList).length with h' | h'
      · exact h'
      · rw [List.drop_of_length_le h'] at hz; cases hz
    have h1 : i < items.size := by omega
    have h2 : i < items2.size := by omega
    rw [List.drop_eq_getElem_cons hlt] at hz
    injection hz with hyx hrest
    have hy : y = items[i] := by have := congrArg Prod.fst hyx; simpa using this
    have hx : x = items2[i] := by have := congrArg Prod.snd hyx; simpa using this
    subst hy hx
    refine wpAny_bind (wpAny_mono (turn i h1 h2 s' hI) (fun r s2 q2 => ?_) fun _ _ x => x)
    cases r with
    | true =>
      wp_walk
      exact ⟨rfl, i + 1, hrest, by omega, q2⟩
    | false =>
      wp_walk
      exact q2
  case fin =>
    rintro ⟨b1, b2⟩ s' ⟨hb', i, hz, hi, hI⟩
    simp only at hb'
    subst hb'
    have hge : min items.size items2.size ≤ i := by
      rcases Nat.lt_or_ge i (items.toList.zip items2.toList).length with h' | h'
      · rw [List.drop_eq_getElem_cons h'] at hz; cases hz
      · exact hZ ▸ h'
    have hR := fin i s' hI (by omega)
    wp_walk
    simpa [Builtin.Tuple.tupleCompareSizes, bne] using hR
  case h =>
    exact ⟨rfl, 0, rfl, Nat.zero_le _, h0⟩
end
section
open PySem PySem.Spec
variable {prog : Program} {w : World} {A : Around} {E : Value → Shared → Prop} {s : Shared}
theorem rc_tupE {l b : Addr} {items items2 : Array Value} {Q : Value → Shared → Prop} (hu : A.units < cLine) (I : Nat → Shared → Prop) (hl : s.heap.IsTuple l items) (hb : s.heap.IsTuple b items2)
    (turn : ∀ i (h1 : i < items.size) (h2 : i < items2.size) s, I i s → wpAny (model prog w) A.in1 (eqBool items[i] items2[i]) (fun r s' => if r = true then I (i + 1) s' else Q (.bool false) s') E s)
    (fin : ∀ i s, I i s → i = min items.size items2.size → Q (.bool (items.size == items2.size)) s) (h : I 0 s) : wpAny (model prog w) A (richCompare .Eq (.ref l) (.ref b)) Q E s := by
  obtain ⟨⟨cls, dd, data, sl⟩, ho, hc, n, hd⟩ := id hl
  obtain ⟨⟨cls2, dd2, data2, sl2⟩, ho2, hc2, n2, hd2⟩ := id hb
  simp only at hc hd hc2 hd2
  subst hc hd hc2 hd2
  refine wpAny_richCompare_same_room (op := .Eq) ⟨_, ho, rfl⟩ ⟨_, ho2, rfl⟩ F.slot_tuple_eq (GQ.call_here F.slot_tuple_eq ⟨_, ho, rfl⟩ F.entry_tuple_eq (F.args_tuple_eq_2 _ _) ?_) hu
  refine tuple_eqH (R := wants (fun v s' => v ≠ .notImplemented ∧ Q v s') E) l b items items2 n n2 dd dd2 sl sl2 I (fun i h1 h2 s' q => ?_) (fun i s' q e => ⟨(fun x => nomatch x), fin i s' q e⟩) ho ho2 h
  refine wpAny_mono (turn i h1 h2 s' q) (fun r s2 q2 => ?_) fun _ _ x => x
  cases r with
  | true => exact q2
  | false => exact ⟨(fun x => nomatch x), q2⟩
theorem rc_tupN {l b : Addr} {items items2 : Array Value} {Q : Value → Shared → Prop} (hu : A.units < cLine) (I : Nat → Shared → Prop) (hl : s.heap.IsTuple l items) (hb : s.heap.IsTuple b items2)
    (turn : ∀ i (h1 : i < items.size) (h2 : i < items2.size) s, I i s → wpAny (model prog w) A.in1 (eqBool items[i] items2[i]) (fun r s' => if r = true then I (i + 1) s' else Q (.bool true) s') E s)
    (fin : ∀ i s, I i s → i = min items.size items2.size → Q (.bool (!(items.size == items2.size))) s) (h : I 0 s) : wpAny (model prog w) A (richCompare .NotEq (.ref l) (.ref b)) Q E s := by
  obtain ⟨⟨cls, dd, data, sl⟩, ho, hc, n, hd⟩ := id hl
  obtain ⟨⟨cls2, dd2, data2, sl2⟩, ho2, hc2, n2, hd2⟩ := id hb
  simp only at hc hd hc2 hd2
  subst hc hd hc2 hd2
  refine wpAny_richCompare_same_room (op := .NotEq) ⟨_, ho, rfl⟩ ⟨_, ho2, rfl⟩ F.slot_tuple_ne (GQ.call_here F.slot_tuple_ne ⟨_, ho, rfl⟩ F.entry_tuple_ne (F.args_tuple_ne_2 _ _) ?_) hu
  refine tuple_neH (R := wants (fun v s' => v ≠ .notImplemented ∧ Q v s') E) l b items items2 n n2 dd dd2 sl sl2 I (fun i h1 h2 s' q => ?_) (fun i s' q e => ⟨(fun x => nomatch x), fin i s' q e⟩) ho ho2 h
  refine wpAny_mono (turn i h1 h2 s' q) (fun r s2 q2 => ?_) fun _ _ x => x
  cases r with
  | true => exact q2
  | false => exact ⟨(fun x => nomatch x), q2⟩
end
/-! ### != by an own == -/
section
open PySem PySem.Spec PySem.Calls PyProof.Rows PySem.W
open Builtin
variable {prog : Program} {w : World} {A : Around} {E : Value → Shared → Prop} {s : Shared} {K : Frag} {x C L f : Addr} {h₀ : Heap} {m : Str → Option Value} {ox : Obj} {od : Option Obj} {b tb : Value}
theorem objNe_entry_K {Q : PySem.Fin → Shared → Prop} (hu : A.units < cLine) (X : K.In s.heap) (I : InstAt s.heap x ox C od) (hs : findIn K (.ref C) "__eq__" = some (some (.ref f))) (hf : isFn K (.ref f) = true)
    (h : wpAny (model prog w) A (call (.ref f) [.ref x, b]) (fun v s' => ∃ r, v = .bool r ∧ Q (.done (.ret (.bool (!r)))) s') E s) : wpAny (model prog w) A (Builtin.«object.__ne__» ⟨[.ref x, b], []⟩) Q E s := by
  obtain ⟨hh, g, d, t, os⟩ := s
  unfold Builtin.«object.__ne__»
  repeat (first
    | with_reducible refine wpAny_cRoomFor hu ?_
    | (refine wpAny_bind (m := callSpecialIfBound? (.ref x) (Str.ofString "__eq__") [b])
        (ifBound_K X I hs hf (wpAny_mono h (fun r s' hr => by
          obtain ⟨b, rfl, hq⟩ := hr
          repeat (first | exact hq | exact wpAny_pure hq | exact wpAny_truthy_bool hq | (refine wpAny_bind (m := truthy (.bool _)) (wpAny_truthy_bool ?_)) | wp_step)) fun _ _ e => e)))
    | wp_step)
theorem check_ne_K {M : Model} {Q : Unit → Shared → Prop} (X : K.In s.heap) (I : InstAt s.heap x ox C od) (hob : mroIn K C (.type "object") = some true) (q : Q () s) : wpAny M A (checkBuiltinCall "object.__ne__" ⟨[.ref x, b], []⟩) Q E s := by
  simp only [checkBuiltinCall, PySem.F.cmpKind_ne, PySem.F.cmpSplit_ne]
  have LI : Looks M s.heap (isInstance (.ref x) (.type "object")) true := by
    unfold isInstance
    exact I.type.andThen (looks_mroIn X hob)
  refine wpAny_bind (LI.here ?_)
  simp only [Bool.not_true, Bool.false_eq_true, if_false]
  have ha := PySem.F.cmpArgs_ne (.ref x) b
  cases hsig : Manifest.signature? "object.__ne__" with
  | none => exact wpAny_pure q
  | some sig =>
    simp only [argsOk, hsig] at ha
    have h2 : Bind.checkArgs "object.__ne__" sig ⟨[.ref x, b], []⟩ = pure () := ha
    show wpAny M A (Bind.checkArgs "object.__ne__" sig ⟨[.ref x, b], []⟩) Q E _
    rw [h2]; exact wpAny_pure q
theorem ne_K {Q : Value → Shared → Prop} (hu : A.units + 1 < cLine) (F : Fr h₀ L s.heap m) (X₀ : K.In h₀) (I : InstAt s.heap x ox C od) (hb : Looks (model prog w) s.heap (typeOf b) tb) (hn : notFirst K C tb = true)
    (hs : findIn K (.ref C) "__eq__" = some (some (.ref f))) (hf : isFn K (.ref f) = true) (hne : findIn K (.ref C) "__ne__" = some (some (.builtin "object.__ne__"))) (hob : mroIn K C (.type "object") = some true)
    (h : wpAny (model prog w) A.in1 (call (.ref f) [.ref x, b]) (fun v s' => ∃ r, v = .bool r ∧ Q (.bool (!r)) s') E s) : wpAny (model prog w) A (richCompare .NotEq (.ref x) b) Q E s := by
  have X := X₀.keeps F.keep
  have one : wpAny (model prog w) A (tryCompare (.ref x) "__ne__" b) (fun r s' => ∃ v, r = some v ∧ Q v s') E s := by
    unfold tryCompare
    have hk : wpAny (model prog w) A (call (.builtin "object.__ne__") ([.ref x] ++ [b])) (fun v s' => v ≠ .notImplemented ∧ Q v s') E s := by
      refine wpAny_call (codeAny_call_builtin PySem.F.cmp_object.ne.plain PySem.F.cmpEntry_ne (check_ne_K X I hob (objNe_entry_K (by show A.units + 1 < cLine; exact hu) X I hs hf (wpAny_mono h (fun v s' hv => ?_) fun _ _ e => e))))
      obtain ⟨r, rfl, hq⟩ := hv
      exact ⟨r, rfl, (fun z => nomatch z), hq⟩
    refine wpAny_bind (m := callSpecialIfBound? (.ref x) (Str.ofString "__ne__") [b]) ?_
    simp only [callSpecialIfBound?, bindSpecialIfBound?]
    refine wpAny_holding (wpAny_bind (wpAny_bind (wpAny_bind (I.type.here ((looks_findIn X hne).here ?_)))))
    refine wpAny_bind (wpAny_askSetting (wpAny_ite ?_))
    have fin : wpAny (model prog w) A (call (.builtin "object.__ne__") ([.ref x] ++ [b]) >>= fun v => pure (some v)) (fun r s' => wpAny (model prog w) A (match r with | some .notImplemented | none => pure none | some v => pure (some v)) (fun r s' => ∃ v, r = some v ∧ Q v s') E s') E s :=
      wpAny_bind (wpAny_mono hk (fun v s' h' => wpAny_pure (by
        obtain ⟨hne', hq⟩ := h'
        cases v <;> first | exact absurd rfl hne' | exact wpAny_pure ⟨_, rfl, hq⟩)) fun _ _ h' => h')
    have hB := PySem.F.cmp_object.ne.bind (.ref x)
    simp only [hB]
    split
    · exact wpAny_bind (wpAny_pure (wpAny_pure fin))
    · exact wpAny_tryCatch (wpAny_bind (wpAny_pure (wpAny_pure fin)))
  unfold richCompare
  simp only [oneThing_ref]
  refine wpAny_holding (wpAny_bind (wpAny_cRoomFor (Nat.lt_of_succ_lt hu) ?_))
  refine wpAny_bind (I.type.here (wpAny_bind (hb.here ?_)))
  split
  · rename_i q
    have e : subIn K tb (.ref C) = some false := by
      rcases Bool.or_eq_true_iff.mp hn with e | e
      · rw [beq_iff_eq.mp e] at q; simp at q
      · exact beq_iff_eq.mp e
    refine wpAny_bind ((looks_subIn X e).here ?_)
    simp only [Bool.false_eq_true, if_false]
    refine wpAny_bind (wpAny_mono one (fun r s' z => ?_) fun _ _ e => e)
    obtain ⟨v, rfl, hq⟩ := z
    exact wpAny_pure hq
  · refine wpAny_bind (wpAny_pure ?_)
    simp only [Bool.false_eq_true, if_false]
    refine wpAny_bind (wpAny_mono one (fun r s' z => ?_) fun _ _ e => e)
    obtain ⟨v, rfl, hq⟩ := z
    exact wpAny_pure hq
end
end Gm
namespace Gm
open PySem PySem.Spec PyProof.Rows L2
section
variable {L : Lw} {X : Cx} {Wx : WX} {k : Nat} {c : Fn}
/-- a bool comes out -/
def BP (X : Cx) (pins : List (Addr × Obj)) (σ : St) (Q : Bool → Hp → Prop) (neg : Bool) (u : Value) (s' : Shared) : Prop := ∃ b, u = .bool (b != neg) ∧ TP X pins σ Q b s'
theorem asB_bind {W : Wd} {σ : St} {Q : Bool → Hp → Prop} {r : Res D} (o : Out X.K L Wx W σ (okT Q) (r.bind asB)) : Out X.K L Wx W σ (okE X.K L (fun v H => ∃ b, v = .bl b ∧ Q b H)) r := by
  cases r with
  | ok d st =>
    cases d with
    | bl b => exact fun W' H' e' S' v R' => ⟨b, Rl.bl.mp R', o W' H' e' S'⟩
    | _ => exact o.elim
  | err x st => exact o
  | stuck => exact o
theorem Looks_typeOf_int {M : Model} {h : Heap} {i : Int} {t : Tok} : PySem.W.Looks M h (typeOf (.int i t)) (.type "int") := PySem.W.Looks.of_pure rfl
/-- the type of a datum's value, and how it stands to a class of one's own -/
theorem Gd.tyLook (G : Gd L X Wx k c) {i : Nat} (hi : L.isC i = true) {pins : List (Addr × Obj)} {s : Shared} {σ : St} {H : Hp} {W : Wd} {st : Store} {d : D} {y : V} {u : Value} (I : Inv X pins σ H s) (S : Sok X.K L W st H) (R : Rl X.K L W d y) (r : L2.RelV y u)
    (hd : rhs L.toLs d = true) : ∃ tb, PySem.W.Looks (model X.prog X.w) s.heap (typeOf u) tb ∧ PySem.W.notFirst X.K (L.cad i) tb = true := by
  have one : ∀ t : String, t ∈ kinds → PySem.W.notFirst X.K (L.cad i) (.type t) = true := fun t ht => by
    have h := G.fo.kt i t hi ht
    unfold PySem.W.kitOne at h
    rw [if_neg (by simp)] at h
    unfold PySem.W.kitCls at h
    dsimp only at h
    split at h
    · unfold PySem.W.notFirst
      rw [h]
      simp
    · cases h
  cases d with
  | non => rw [Rl.non.mp R] at r; cases r; exact ⟨_, PySem.W.Looks.of_pure rfl, one "NoneType" (by decide)⟩
  | bl b => rw [Rl.bl.mp R] at r; cases r; exact ⟨_, PySem.W.Looks.of_pure rfl, one "bool" (by decide)⟩
  | int b => rw [Rl.int.mp R] at r; obtain ⟨t, rfl⟩ := r; exact ⟨_, PySem.W.Looks.of_pure rfl, one "int" (by decide)⟩
  | str b => rw [Rl.str.mp R] at r; obtain ⟨t, rfl⟩ := r; exact ⟨_, PySem.W.Looks.of_pure rfl, one "str" (by decide)⟩
  | tup _ => cases hd
  | ref _ => cases hd
  | fn _ => cases hd
  | obj j ds =>
    obtain ⟨a, dx, od, rfl, J⟩ := inst_of I S R
    cases r
    refine ⟨_, J.type, ?_⟩
    by_cases hij : i = j
    · subst hij; simp [PySem.W.notFirst]
    · unfold PySem.W.notFirst
      rw [(G.fo.sb j i hd hi (Ne.symm hij)).1]
      simp
theorem eqBool_gen {M : Model} {A : Around} {E : Value → Shared → Prop} {s : Shared} {u v : Value} {Q : Bool → Shared → Prop} (hu : ∀ f t, u ≠ .float f t) (h : u = v → Q true s)
    (h2 : u ≠ v → wpAny M A (richCompare .Eq u v) (fun r s' => ∃ b, r = .bool b ∧ Q b s') E s) : wpAny M A (eqBool u v) Q E s := by
  unfold eqBool
  refine wpAny_holding ?_
  refine wpAny_ite_split (fun hab => ?_) (fun hab => ?_)
  · first
      | exact wpAny_rule (wpAny_pure (h (eq_of_beq hab)))
      | exact wpAny_bind (wpAny_rule (wpAny_pure (h (eq_of_beq hab))))
      | exact wpAny_pure (h (eq_of_beq hab))
  · have hne : u ≠ v := fun e => by subst e; exact absurd (beq_self_eq_true _) hab
    have fin : wpAny M A (richCompare .Eq u v >>= fun r => truthOfDropped r) Q E s := wpAny_bind (wpAny_mono (h2 hne) (fun r s' hr => by
      obtain ⟨b, rfl, q⟩ := hr
      exact wpAny_truthy_bool q) fun _ _ x => x)
    cases u with
    | float f t => exact absurd rfl (hu f t)
    | _ => exact fin
/-- an item's comparison within a tuple -/
theorem Gd.itemRun (G : Gd L X Wx k c) {A : Around} {pins : List (Addr × Obj)} {s : Shared} {σ : St} {H : Hp} {W : Wd} {st : Store} {d1 d2 : D} {x y : V} {u v : Value} {Q : Bool → Hp → Prop} {r : Res Bool} (I : Inv X pins σ H s) (S : Sok X.K L W st H)
    (R1 : Rl X.K L W d1 x) (R2 : Rl X.K L W d2 y) (r1 : L2.RelV x u) (r2 : L2.RelV y v) (o : Out X.K L Wx W σ (okT Q) (itemR L.toLs d1 d2 st r))
    (h : ∀ Q', Out X.K L Wx W σ (okT Q') r → wpAny (model X.prog X.w) A (richCompare .Eq u v) (BP X pins σ Q' false) X.xe s) :
    wpAny (model X.prog X.w) A (eqBool u v) (TP X pins σ Q) X.xe s := by
  have hfl : ∀ f t, u ≠ .float f t := fun f t e => by
    subst e
    cases d1 with
    | non => rw [Rl.non.mp R1] at r1; cases r1
    | bl b => rw [Rl.bl.mp R1] at r1; cases r1
    | int b => rw [Rl.int.mp R1] at r1; obtain ⟨_, z⟩ := r1; cases z
    | str b => rw [Rl.str.mp R1] at r1; obtain ⟨_, z⟩ := r1; cases z
    | tup _ => obtain ⟨a, vs, rfl, _⟩ := Rl.tup.mp R1; cases r1
    | obj _ _ => obtain ⟨a, dx, vs, rfl, _⟩ := Rl.obj.mp R1; cases r1
    | ref _ => obtain ⟨a, rfl, _⟩ := Rl.ref.mp R1; cases r1
    | fn _ => obtain ⟨rfl, _⟩ := Rl.fn.mp R1; cases r1
  have same : u = v → okC L.toLs d1 = true → okC L.toLs d2 = true → d1 = d2 := fun e h1 h2 => by
    subst e
    have := relV_inj x y u r1 r2
    subst this
    exact Rl.inj I S G.fo.ci h1 h2 R1 R2
  cases r with
  | stuck => exact o.elim
  | ok b st' =>
    unfold itemR at o
    dsimp only at o
    split at o
    · rename_i hc
      refine eqBool_gen hfl (fun e => ?_) (fun _ => wpAny_mono (h Q o) (fun r s' z => ?_) fun _ _ z => z)
      · obtain ⟨e1, e2⟩ := hc.2.2 (same e hc.1 hc.2.1)
        subst e1; subst e2
        exact ⟨H, I, o W H .rfl' S⟩
      · obtain ⟨b', e1, e2⟩ := z
        exact ⟨b', by simpa using e1, e2⟩
    · exact o.elim
  | err xx st' =>
    unfold itemR at o
    dsimp only at o
    split at o
    · rename_i hc
      refine eqBool_gen hfl (fun e => absurd (same e hc.1 hc.2.1) hc.2.2) (fun _ => wpAny_mono (h Q o) (fun r s' z => ?_) fun _ _ z => z)
      obtain ⟨b', e1, e2⟩ := z
      exact ⟨b', by simpa using e1, e2⟩
    · exact o.elim
/-- the loop over two tuples' items: what is left to compare -/
def Left (X : Cx) (L : Lw) (Wx : WX) (pins : List (Addr × Obj)) (σ : St) (q : D → D → Store → Res Bool) (Q : Bool → Hp → Prop) (xs ys : List D) (vs ws : List V) (i : Nat) (s' : Shared) : Prop :=
  ∃ W st H, Inv X pins σ H s' ∧ Sok X.K L W st H ∧ Rls X.K L W xs vs ∧ Rls X.K L W ys ws ∧ Out X.K L Wx W σ (okT Q) (eqAll L.toLs q (xs.drop i) (ys.drop i) st)
theorem Left.turn {q : D → D → Store → Res Bool} {Q : Bool → Hp → Prop} {xs ys : List D} {vs ws : List V} {pins : List (Addr × Obj)} {σ : St} (G : Gd L X Wx k c) {A : Around} {its its2 : List Value} (r1 : Vals vs its) (r2 : Vals ws its2) {neg : Bool}
    (hq : ∀ pins s σ H W st d1 d2 x y u v Q', Inv X pins σ H s → Sok X.K L W st H → Rl X.K L W d1 x → Rl X.K L W d2 y → L2.RelV x u → L2.RelV y v → Out X.K L Wx W σ (okT Q') (q d1 d2 st) → wpAny (model X.prog X.w) A.in1 (richCompare .Eq u v) (BP X pins σ Q' false) X.xe s)
    (i : Nat) (h1 : i < its.toArray.size) (h2 : i < its2.toArray.size) (s' : Shared) (l : Left X L Wx pins σ q Q xs ys vs ws i s') :
    wpAny (model X.prog X.w) A.in1 (eqBool its.toArray[i] its2.toArray[i]) (fun r s2 => if r = true then Left X L Wx pins σ q Q xs ys vs ws (i + 1) s2 else BP X pins σ Q neg (.bool neg) s2) X.xe s' := by
  obtain ⟨W, st, H, I, S, R1, R2, o⟩ := l
  have k1 : i < its.length := by simpa using h1
  have k2 : i < its2.length := by simpa using h2
  have l1 : i < xs.length := by rw [R1.length, r1.length]; exact k1
  have l2 : i < ys.length := by rw [R2.length, r2.length]; exact k2
  obtain ⟨x, hx, Rx⟩ := R1.get (List.getElem?_eq_getElem l1)
  obtain ⟨y, hy, Ry⟩ := R2.get (List.getElem?_eq_getElem l2)
  obtain ⟨u, hu, ru⟩ := r1.get hx
  obtain ⟨v, hv, rv⟩ := r2.get hy
  rw [List.getElem?_eq_getElem k1] at hu
  rw [List.getElem?_eq_getElem k2] at hv
  have e1 : its.toArray[i] = u := by rw [← Option.some.inj hu]; simp
  have e2 : its2.toArray[i] = v := by rw [← Option.some.inj hv]; simp
  rw [e1, e2]
  rw [List.drop_eq_getElem_cons l1, List.drop_eq_getElem_cons l2] at o
  unfold eqAll at o
  cases hr : itemR L.toLs xs[i] ys[i] st (q xs[i] ys[i] st) with
  | ok b st1 =>
    rw [hr, Res.bind_ok] at o
    refine wpAny_mono (G.itemRun (Q := fun b' H' => b' = b ∧ ∃ W', W.le W' ∧ Sok X.K L W' st1 H') I S Rx Ry ru rv (by rw [hr]; exact fun W' H' e' S' => ⟨rfl, W', e', S'⟩) fun Q' o' => hq pins s' σ H W st _ _ x y u v Q' I S Rx Ry ru rv o') (fun r s2 z => ?_) fun _ _ z => z
    obtain ⟨H2, I2, eb, W2, le2, S2⟩ := z
    subst eb
    cases r with
    | true => exact ⟨W2, st1, H2, I2, S2, R1.mono le2, R2.mono le2, Out.mono le2 o⟩
    | false => exact ⟨false, by cases neg <;> rfl, H2, I2, o W2 H2 le2 S2⟩
  | err xx st1 =>
    rw [hr] at o
    refine wpAny_mono (G.itemRun (Q := fun _ _ => False) I S Rx Ry ru rv (by rw [hr]; exact o) fun Q' o' => hq pins s' σ H W st _ _ x y u v Q' I S Rx Ry ru rv o') (fun r s2 z => ?_) fun _ _ z => z
    obtain ⟨_, _, z⟩ := z
    exact z.elim
  | stuck => rw [hr] at o; exact o.elim
theorem Left.fin {q : D → D → Store → Res Bool} {Q : Bool → Hp → Prop} {xs ys : List D} {vs ws : List V} {pins : List (Addr × Obj)} {σ : St} {its its2 : List Value} (r1 : Vals vs its) (r2 : Vals ws its2) {neg : Bool}
    (i : Nat) (s' : Shared) (l : Left X L Wx pins σ q Q xs ys vs ws i s') (hi : i = min its.toArray.size its2.toArray.size) : BP X pins σ Q neg (.bool ((its.toArray.size == its2.toArray.size) != neg)) s' := by
  obtain ⟨W, st, H, I, S, R1, R2, o⟩ := l
  simp only [List.size_toArray] at hi ⊢
  rw [← r1.length, ← r2.length, ← R1.length, ← R2.length] at hi ⊢
  refine ⟨xs.length == ys.length, rfl, H, I, ?_⟩
  rcases Nat.lt_trichotomy xs.length ys.length with h | h | h
  · have e1 : xs.drop i = [] := List.drop_of_length_le (by omega)
    have l2 : i < ys.length := by omega
    rw [e1, List.drop_eq_getElem_cons l2] at o
    unfold eqAll at o
    have e2 : (xs.length == ys.length) = false := beq_eq_false_iff_ne.mpr (by omega)
    rw [e2]
    exact o W H .rfl' S
  · have e1 : xs.drop i = [] := List.drop_of_length_le (by omega)
    have e3 : ys.drop i = [] := List.drop_of_length_le (by omega)
    rw [e1, e3] at o
    unfold eqAll at o
    have e2 : (xs.length == ys.length) = true := beq_iff_eq.mpr h
    rw [e2]
    exact o W H .rfl' S
  · have e1 : ys.drop i = [] := List.drop_of_length_le (by omega)
    have l2 : i < xs.length := by omega
    rw [e1, List.drop_eq_getElem_cons l2] at o
    unfold eqAll at o
    have e2 : (xs.length == ys.length) = false := beq_eq_false_iff_ne.mpr (by omega)
    rw [e2]
    exact o W H .rfl' S
end
end Gm
namespace Gm
open PySem PySem.Spec PyProof.Rows L2
section
variable {L : Lw} {X : Cx} {Wx : WX} {k : Nat} {c : Fn}
/-- what a == b is, the outermost step -/
noncomputable def eqTu (T : Ls) (q : D → D → Store → Res Bool) (d1 d2 : D) (st : Store) : Res Bool := match d1, d2 with
  | .tup xs, .tup ys => eqAll T q xs ys st
  | _, _ => .stuck
noncomputable def eqPl (T : Ls) (q : D → D → Store → Res Bool) (d1 d2 : D) (st : Store) : Res Bool := match pyD 6 st d1, pyD 6 st d2 with
  | some p, some q => if SeqAt.shaped p = true ∧ SeqAt.shaped q = true then .ok (PyData.eqv p q) st else .stuck
  | _, _ => eqTu T q d1 d2 st
noncomputable def eqTop (T : Ls) (c : Fn) (q : D → D → Store → Res Bool) (d1 d2 : D) (st : Store) : Res Bool := match d1 with
  | .obj i _ => match T.meth i 21 with
    | some f => if rhs T d2 = true then (callD T c f [d1, d2] st).bind asB else .stuck
    | none => .stuck
  | _ => eqPl T q d1 d2 st
theorem eqD_succ (T : Ls) (n : Nat) (d1 d2 : D) (st : Store) : eqD T c (n + 1) d1 d2 st = eqTop T c (eqD T c n) d1 d2 st := by
  cases d1 <;> rfl
inductive EqCase (L : Lw) (c : Fn) (q : D → D → Store → Res Bool) (d1 d2 : D) (st : Store) (r : Res Bool) : Prop where
  | own (i f : Nat) (ds : List D) (e : d1 = .obj i ds) (hm : L.meth i 21 = some f) (hd : rhs L.toLs d2 = true) (hr : r = (callD L.toLs c f [d1, d2] st).bind asB)
  | plain (p p' : PyData) (h1 : pyD 6 st d1 = some p) (h2 : pyD 6 st d2 = some p') (s1 : SeqAt.shaped p = true) (s2 : SeqAt.shaped p' = true) (hr : r = .ok (PyData.eqv p p') st)
  | tups (xs ys : List D) (e1 : d1 = .tup xs) (e2 : d2 = .tup ys) (hr : r = eqAll L.toLs q xs ys st)
  | no (hr : r = .stuck)
theorem eqTop_case (q : D → D → Store → Res Bool) (d1 d2 : D) (st : Store) : EqCase L c q d1 d2 st (eqTop L.toLs c q d1 d2 st) := by
  have tl : EqCase L c q d1 d2 st (eqTu L.toLs q d1 d2 st) := by
    cases d1 with
    | tup xs => cases d2 with
      | tup ys => exact .tups xs ys rfl rfl rfl
      | _ => exact .no rfl
    | _ => exact .no rfl
  have rest : (∀ i ds, d1 ≠ .obj i ds) → EqCase L c q d1 d2 st (eqPl L.toLs q d1 d2 st) := fun _ => by
    unfold eqPl
    cases h1 : pyD 6 st d1 with
    | none => exact tl
    | some p =>
      cases h2 : pyD 6 st d2 with
      | none => exact tl
      | some p' =>
        dsimp only
        split
        · rename_i hs; exact .plain p p' h1 h2 hs.1 hs.2 rfl
        · exact .no rfl
  cases d1 with
  | obj i ds =>
    unfold eqTop
    dsimp only
    cases hm : L.meth i 21 with
    | none => exact .no rfl
    | some f =>
      dsimp only
      split
      · rename_i hj; exact .own i f ds rfl hm hj rfl
      · exact .no rfl
  | _ => exact rest (fun i ds e => by cases e)
theorem Gd.eqRun (G : Gd L X Wx k c) : ∀ (n : Nat) {A : Around}, Sub X (k + 1 + n) A → ∀ (pins : List (Addr × Obj)) (s : Shared) (σ : St) (H : Hp) (W : Wd) (st : Store) (d1 d2 : D) (x y : V) (u v : Value) (Q : Bool → Hp → Prop),
    Inv X pins σ H s → Sok X.K L W st H → Rl X.K L W d1 x → Rl X.K L W d2 y → L2.RelV x u → L2.RelV y v → Out X.K L Wx W σ (okT Q) (eqD L.toLs c n d1 d2 st) →
    wpAny (model X.prog X.w) A (richCompare .Eq u v) (BP X pins σ Q false) X.xe s
  | 0, A, _, _, _, _, _, _, _, _, _, _, _, _, _, _, _, _, _, _, _, _, o => o.elim
  | n + 1, A, sb, pins, s, σ, H, W, st, d1, d2, x, y, u, v, Q, I, S, R1, R2, r1, r2, o => by
    rw [eqD_succ] at o
    have hu := sb.room.units
    rcases eqTop_case (L := L) (c := c) (eqD L.toLs c n) d1 d2 st with ⟨i, f, ds, e, hm, hd, hr⟩ | ⟨p, p', h1, h2, s1, s2, hr⟩ | ⟨xs, ys, e1, e2, hr⟩ | hr
    · subst e
      rw [hr] at o
      have o2 := asB_bind (X := X) o
      obtain ⟨hC, hF, M⟩ := G.fo.mt i 21 f hm
      obtain ⟨a, dx, od, rfl, J⟩ := inst_of I S R1
      cases r1
      obtain ⟨m, F⟩ := I.fr
      obtain ⟨tb, hb, hn⟩ := G.tyLook hC I S R2 r2 hd
      have hs := M.at_
      rw [G.fo.nm 21 (by decide) (by decide) (by decide)] at hs
      refine PySem.W.cmp_K (op := .Eq) sb.room.units0 F I.ok.mod.kin J hb hn hs M.fn ?_
      refine wpAny_mono (G.callA (sb.mono (by omega)) hF I S (Rls.mk R1 (Rls.mk R2 (Rls.nil.mpr rfl))) (.cons rfl (.cons r2 .nil)) o2) (fun r s' z => ?_) fun _ _ z => z
      obtain ⟨v', H', I', rv, b, rfl, q⟩ := z
      cases rv
      exact ⟨b, by simp, H', I', q⟩
    · rw [hr] at o
      obtain ⟨as, a1⟩ := Dp.reads I p x u (pyD_ok S 6 d1 x p R1 h1) r1
      obtain ⟨bs, a2⟩ := Dp.reads I p' y v (pyD_ok S 6 d2 y p' R2 h2) r2
      refine SeqAt.rcAt_reads a1 a2 (SeqAt.canLay_of_shaped s1) (SeqAt.canLay_of_shaped s2) (SeqAt.room_of_shaped s1 hu) X.prog X.w _ _ ⟨_, by simp, H, I, o W H .rfl' S⟩
    · subst e1; subst e2
      rw [hr] at o
      obtain ⟨a, vs, rfl, h1, h2⟩ := Rl.tup.mp R1
      obtain ⟨b, ws, rfl, h3, h4⟩ := Rl.tup.mp R2
      cases r1
      cases r2
      obtain ⟨its, q1, t1, _⟩ := I.tuple (SqT_mono S.fz h1)
      obtain ⟨its2, q2, t2, _⟩ := I.tuple (SqT_mono S.fz h3)
      refine rc_tupE sb.room.units0 (fun i s' => Left X L Wx pins σ (eqD L.toLs c n) Q xs ys vs ws i s') t1 t2 (fun i g1 g2 s' l => ?_) (fun i s' l e => ?_) ⟨W, st, H, I, S, h2, h4, o⟩
      · exact Left.turn G q1 q2 (neg := false) (fun pins s σ H W st d1 d2 x y u v Q' I S R1 R2 r1 r2 o => Gd.eqRun G n sb.in1 pins s σ H W st d1 d2 x y u v Q' I S R1 R2 r1 r2 o) i g1 g2 s' l
      · have := Left.fin q1 q2 (neg := false) i s' l e
        simpa using this
    · rw [hr] at o; exact o.elim
theorem Gd.neRun (G : Gd L X Wx k c) (n : Nat) {A : Around} (sb : Sub X (k + 1 + n) A) (pins : List (Addr × Obj)) (s : Shared) (σ : St) (H : Hp) (W : Wd) (st : Store) (d1 d2 : D) (x y : V) (u v : Value) (Q : Bool → Hp → Prop)
    (I : Inv X pins σ H s) (S : Sok X.K L W st H) (R1 : Rl X.K L W d1 x) (R2 : Rl X.K L W d2 y) (r1 : L2.RelV x u) (r2 : L2.RelV y v) (o : Out X.K L Wx W σ (okT Q) (eqD L.toLs c n d1 d2 st)) :
    wpAny (model X.prog X.w) A (richCompare .NotEq u v) (BP X pins σ Q true) X.xe s := by
  cases n with
  | zero => exact o.elim
  | succ n =>
    rw [eqD_succ] at o
    have hu := sb.room.units
    rcases eqTop_case (L := L) (c := c) (eqD L.toLs c n) d1 d2 st with ⟨i, f, ds, e, hm, hd, hr⟩ | ⟨p, p', h1, h2, s1, s2, hr⟩ | ⟨xs, ys, e1, e2, hr⟩ | hr
    · subst e
      rw [hr] at o
      have o2 := asB_bind (X := X) o
      obtain ⟨hC, hF, M⟩ := G.fo.mt i 21 f hm
      obtain ⟨a, dx, od, rfl, J⟩ := inst_of I S R1
      cases r1
      obtain ⟨m, F⟩ := I.fr
      obtain ⟨tb, hb, hn⟩ := G.tyLook hC I S R2 r2 hd
      have hs := M.at_
      rw [G.fo.nm 21 (by decide) (by decide) (by decide)] at hs
      refine ne_K (by have := sb.room.units; omega) F I.ok.mod.kin J hb hn hs M.fn (G.fo.ne i f hm) (G.fo.ob i hC) ?_
      refine wpAny_mono (G.callA (sb.in1.mono (Nat.le_trans (Nat.le_succ k) (Nat.le_add_right _ _))) hF I S (Rls.mk R1 (Rls.mk R2 (Rls.nil.mpr rfl))) (.cons rfl (.cons r2 .nil)) o2) (fun r s' z => ?_) fun _ _ z => z
      obtain ⟨v', H', I', rv, b, rfl, q⟩ := z
      cases rv
      exact ⟨b, rfl, b, by simp, H', I', q⟩
    · rw [hr] at o
      obtain ⟨as, a1⟩ := Dp.reads I p x u (pyD_ok S 6 d1 x p R1 h1) r1
      obtain ⟨bs, a2⟩ := Dp.reads I p' y v (pyD_ok S 6 d2 y p' R2 h2) r2
      have hq : BP X pins σ Q true (.bool (!PyData.eqv p p')) s := ⟨_, by simp, H, I, o W H .rfl' S⟩
      exact SeqAt.compareNe_shaped a1 a2 s1 s2 hu hq
    · subst e1; subst e2
      rw [hr] at o
      obtain ⟨a, vs, rfl, h1, h2⟩ := Rl.tup.mp R1
      obtain ⟨b, ws, rfl, h3, h4⟩ := Rl.tup.mp R2
      cases r1
      cases r2
      obtain ⟨its, q1, t1, _⟩ := I.tuple (SqT_mono S.fz h1)
      obtain ⟨its2, q2, t2, _⟩ := I.tuple (SqT_mono S.fz h3)
      refine rc_tupN sb.room.units0 (fun i s' => Left X L Wx pins σ (eqD L.toLs c n) Q xs ys vs ws i s') t1 t2 (fun i g1 g2 s' l => ?_) (fun i s' l e => ?_) ⟨W, st, H, I, S, h2, h4, o⟩
      · exact Left.turn G q1 q2 (neg := true) (fun pins s σ H W st d1 d2 x y u v Q' I S R1 R2 r1 r2 o => Gd.eqRun G n sb.in1 pins s σ H W st d1 d2 x y u v Q' I S R1 R2 r1 r2 o) i g1 g2 s' l
      · have := Left.fin q1 q2 (neg := true) i s' l e
        simpa using this
    · rw [hr] at o; exact o.elim
noncomputable def eqB (T : Ls) (c : Fn) (neg : Bool) (d1 d2 : D) (st : Store) : Res D := (eqD T c 6 d1 d2 st).bind fun b st => .ok (.bl (b != neg)) st
theorem Gd.subEq (G : Gd L X Wx k c) : Sub X (k + 1 + 6) X.A := ⟨G.room.mono (by omega), rfl⟩
theorem out_neg {W : Wd} {σ : St} {Q : VK} {neg : Bool} {r : Res Bool} (o : Out X.K L Wx W σ (okE X.K L Q) (r.bind fun b st => .ok (.bl (b != neg)) st)) : Out X.K L Wx W σ (okT fun b H => Q (.bl (b != neg)) H) r := by
  cases r with
  | ok b st => exact fun W' H' e' S' => o W' H' e' S' _ (Rl.bl.mpr rfl)
  | err x st => exact o
  | stuck => exact o
theorem BP.ep {pins : List (Addr × Obj)} {σ : St} {Q : VK} {neg : Bool} {u : Value} {s : Shared} (h : BP X pins σ (fun b H => Q (.bl (b != neg)) H) neg u s) : EP X pins σ Q u s := by
  obtain ⟨b, rfl, H, I, q⟩ := h
  exact ⟨.bl (b != neg), H, I, rfl, q⟩
theorem r2_eq (G : Gd L X Wx k c) : R2v L X Wx (compareOp .Eq) (eqB L.toLs c false) := fun pins s σ H W st d1 d2 x y v u Q I S R1 R2 r1 r2 o =>
  wpAny_mono (G.eqRun 6 G.subEq pins s σ H W st d1 d2 x y v u _ I S R1 R2 r1 r2 (out_neg o)) (fun _ _ z => BP.ep z) fun _ _ z => z
theorem r2_ne (G : Gd L X Wx k c) : R2v L X Wx (compareOp .NotEq) (eqB L.toLs c true) := fun pins s σ H W st d1 d2 x y v u Q I S R1 R2 r1 r2 o =>
  wpAny_mono (G.neRun 6 G.subEq pins s σ H W st d1 d2 x y v u _ I S R1 R2 r1 r2 (out_neg o)) (fun _ _ z => BP.ep z) fun _ _ z => z
/-! ### is None -/
def isNo (neg : Bool) (d1 d2 : D) (st : Store) : Res D := match d2 with
  | .non => match d1 with
    | .non => .ok (.bl (!neg)) st
    | _ => .ok (.bl neg) st
  | .bl b => match d1 with
    | .bl a => .ok (.bl ((a == b) != neg)) st
    | _ => .stuck
  | _ => .stuck
def D.isN : D → Bool
  | .non => true
  | _ => false
theorem non_iff {K : PySem.W.Frag} {W : Wd} {d : D} {x : V} (R : Rl K L W d x) : decide (x = .non) = d.isN := by
  cases d with
  | non => rw [Rl.non.mp R]; rfl
  | bl b => rw [Rl.bl.mp R]; rfl
  | int b => rw [Rl.int.mp R]; rfl
  | str b => rw [Rl.str.mp R]; rfl
  | tup _ => obtain ⟨a, vs, rfl, _⟩ := Rl.tup.mp R; rfl
  | obj _ _ => obtain ⟨a, dx, vs, rfl, _⟩ := Rl.obj.mp R; rfl
  | ref _ => obtain ⟨a, rfl, _⟩ := Rl.ref.mp R; rfl
  | fn _ => obtain ⟨rfl, _⟩ := Rl.fn.mp R; rfl
theorem r2_is : R2v L X Wx (compareOp .Is) (isNo false) := fun pins s σ H W st d1 d2 x y v u Q I S R1 R2 r1 r2 o => by
  cases d2 with
  | non =>
    refine op_isN pins s σ H x y v u Q I r1 r2 ⟨Rl.non.mp R2, ?_⟩
    rw [non_iff R1]
    cases d1 <;> exact o W H .rfl' S _ (Rl.bl.mpr rfl)
  | bl b =>
    cases d1 with
    | bl a =>
      refine op_is_bl pins s σ H x y v u Q I r1 r2 ⟨a, b, Rl.bl.mp R1, Rl.bl.mp R2, ?_⟩
      have e := o W H .rfl' S _ (Rl.bl.mpr rfl)
      cases a <;> cases b <;> exact e
    | _ => exact o.elim
  | _ => exact o.elim
theorem r2_isnot : R2v L X Wx (compareOp .IsNot) (isNo true) := fun pins s σ H W st d1 d2 x y v u Q I S R1 R2 r1 r2 o => by
  cases d2 with
  | non =>
    refine op_notN pins s σ H x y v u Q I r1 r2 ⟨Rl.non.mp R2, ?_⟩
    rw [non_iff R1]
    cases d1 <;> exact o W H .rfl' S _ (Rl.bl.mpr rfl)
  | bl b =>
    cases d1 with
    | bl a =>
      refine op_isnot_bl pins s σ H x y v u Q I r1 r2 ⟨a, b, Rl.bl.mp R1, Rl.bl.mp R2, ?_⟩
      have e := o W H .rfl' S _ (Rl.bl.mpr rfl)
      cases a <;> cases b <;> exact e
    | _ => exact o.elim
  | _ => exact o.elim
/-! ### truth -/
def truD (T : Ls) (c : Fn) (d : D) (st : Store) : Res Bool := match d with
  | .non => .ok false st
  | .bl b => .ok b st
  | .int i => .ok (i != 0) st
  | .str x => if x.length ≤ sizeLine then .ok ((x.length : Int) != 0) st else .stuck
  | .tup ds => .ok (!ds.isEmpty) st
  | .ref n => match st[n]? with
    | some (.lst ds) => .ok (!ds.isEmpty) st
    | some (.dic kvs) => .ok (!kvs.isEmpty) st
    | _ => .stuck
  | .obj i _ => match T.meth i 34 with
    | some f => (callD T c f [d] st).bind asB
    | none => if T.isC i = true ∧ T.meth i 38 = none then .ok true st else .stuck
  | .fn _ => .stuck
theorem isEmpty_rls {K : PySem.W.Frag} {W : Wd} {ds : List D} {vs : List V} (h : Rls K L W ds vs) : vs.isEmpty = ds.isEmpty := by
  cases ds with
  | nil => rw [Rls.nil.mp h]; rfl
  | cons d ds => obtain ⟨_, _, rfl, _⟩ := Rls.cons.mp h; rfl
theorem rtv_tru (G : Gd L X Wx k c) : Rtv L X Wx (truD L.toLs c) := fun pins s σ H W st d x v Q I S R r o => by
  have tr : ∀ b, TruV X.K x H b → Out X.K L Wx W σ (okT Q) (.ok b st) → wpAny (model X.prog X.w) X.A (truthy v) (TP X pins σ Q) X.xe s := fun b h o => tru_ok pins s σ H x v Q I r ⟨_, h, o W H .rfl' S⟩
  cases d with
  | non => obtain rfl := Rl.non.mp R; exact tr _ rfl o
  | bl b => obtain rfl := Rl.bl.mp R; exact tr _ rfl o
  | int b => obtain rfl := Rl.int.mp R; exact tr _ rfl o
  | str z =>
    obtain rfl := Rl.str.mp R
    unfold truD at o
    dsimp only at o
    split at o
    · rename_i hz; exact tr _ ⟨hz, rfl⟩ o
    · exact o.elim
  | tup ds =>
    obtain ⟨a, vs, rfl, h1, h2⟩ := Rl.tup.mp R
    exact tr _ (.inr (.inl ⟨vs, SqT_mono S.fz h1, rfl⟩)) (by rw [isEmpty_rls h2]; exact o)
  | ref n =>
    obtain ⟨a, rfl, h1⟩ := Rl.ref.mp R
    unfold truD at o
    dsimp only at o
    split at o
    · rename_i ds hn
      obtain ⟨vs, h2, h3⟩ := S.cell n _ a hn h1
      exact tr _ (.inl ⟨vs, .inl (.inl h2), rfl⟩) (by rw [isEmpty_rls h3]; exact o)
    · rename_i kvs hn
      obtain ⟨vs, h2, h3⟩ := S.cell n _ a hn h1
      exact tr _ (.inr (.inr ⟨vs, h2, rfl⟩)) (by cases h3 <;> exact o)
    · exact o.elim
  | fn n => exact o.elim
  | obj i ds =>
    obtain ⟨a, dx, od, rfl, J⟩ := inst_of I S R
    cases r
    obtain ⟨m, F⟩ := I.fr
    unfold truD at o
    dsimp only at o
    split at o
    · rename_i f hm
      obtain ⟨hC, hF, M⟩ := G.fo.mt i 34 f hm
      have hs := M.at_
      rw [G.fo.nm 34 (by decide) (by decide) (by decide)] at hs
      refine PySem.W.truthy_K F I.ok.mod.kin J hs M.fn ?_
      refine wpAny_mono (G.call hF I S (Rls.mk R (Rls.nil.mpr rfl)) (.cons rfl .nil) (asB_bind (X := X) o)) (fun r s' z => ?_) fun _ _ z => z
      obtain ⟨v', H', I', rv, b, rfl, q⟩ := z
      cases rv
      exact ⟨H', I', q⟩
    · rename_i hm
      split at o
      · rename_i hc
        obtain ⟨b1, b2⟩ := G.fo.tb i hc.1 hm hc.2
        exact PySem.W.truthy_K0 F I.ok.mod.kin J b1 b2 ⟨H, I, o W H .rfl' S⟩
      · exact o.elim
end
end Gm
namespace Gm
open PySem PySem.Spec PyProof.Rows L2
section
variable {L : Lw} {X : Cx} {Wx : WX} {k : Nat} {c : Fn}
/-! ### operators -/
def intLeft : Operator → Bool
  | .Add => true | .Sub => true | .Mult => true | .FloorDiv => true | .Mod => true | _ => false
open Classical in
noncomputable def binD (T : Ls) (c : Fn) (op : Operator) (d1 d2 : D) (st : Store) : Res D := match d1 with
  | .int i => match d2 with
    | .int j => intBin op i j st
    | .obj j _ => match T.meth j (opr op) with
      | some f => if intLeft op = true ∧ (T.meth j (opn op)).isSome = true then callD T c f [d2, d1] st else .stuck
      | none => .stuck
    | _ => .stuck
  | .obj i _ => match T.meth i (opn op) with
    | some f => match d2 with
      | .obj j _ => if j ≠ i ∧ T.ni f j = true then (match T.meth j (opr op) with
          | some g => if opn op ≠ 0 ∧ T.isC j = true ∧ (T.meth j (opn op)).isSome = true ∧ T.dfl f = [[]] ∧ (T.fps f).length = 2 ∧ c (f + niB) [d1, d2] st = .ok (.bl true) st then callD T c g [d2, d1] st else .stuck
          | none => .stuck)
        else if opn op ≠ 0 ∧ (j = i ∨ (T.isC j = true ∧ (T.meth j (opn op)).isSome = true)) then callD T c f [d1, d2] st else .stuck
      | .int _ => if opn op ≠ 0 then callD T c f [d1, d2] st else .stuck
      | _ => .stuck
    | none => .stuck
  | .str x => match d2 with
    | .str y => if op = .Add ∧ x.length + y.length ≤ sizeLine then .ok (.str (x ++ y)) st else .stuck
    | .int n => if op = .Mult ∧ MulOk x n then .ok (.str (Txt.mul x n)) st else .stuck
    | _ => .stuck
  | .ref m => match st[m]?, d2 with
    | some (.lst xs), .ref n => match st[n]? with
      | some (.lst ys) => if op = .Add ∧ xs.length + ys.length ≤ sizeLine then newLst (xs ++ ys) st else .stuck
      | _ => .stuck
    | some (.lst xs), .int z => if op = .Mult ∧ -(2 ^ 63) ≤ z ∧ z < 2 ^ 63 ∧ xs.length * z.toNat ≤ sizeLine then newLst (List.replicate z.toNat xs).flatten st else .stuck
    | _, _ => .stuck
  | .tup xs => match d2 with
    | .tup ys => if op = .Add ∧ xs ≠ [] ∧ xs.length + ys.length ≤ sizeLine then .ok (.tup (xs ++ ys)) st else .stuck
    | _ => .stuck
  | _ => .stuck
theorem CmpBack_of {Q : Value → Shared → Prop} {pins : List (Addr × Obj)} {σ : St} {Q' : VK} {v : Value} {s : Shared} (h : EP X pins σ Q' v s) (hq : EP X pins σ Q' v s → Q v s) : PySem.W.CmpBack Q v s := by
  obtain ⟨x, H, I, r, q⟩ := id h
  have : v ≠ .notImplemented := fun e => by
    subst e
    have := decV_of r
    cases this
  cases v <;> first | exact absurd rfl this | exact hq h
theorem rls_flat {K : PySem.W.Frag} {W : Wd} {xs : List D} {vs : List V} (R : Rls K L W xs vs) : ∀ n : Nat, Rls K L W (List.replicate n xs).flatten (List.replicate n vs).flatten
  | 0 => Rls.nil.mpr rfl
  | n + 1 => by
    rw [List.replicate_succ, List.flatten_cons, List.replicate_succ, List.flatten_cons]
    exact R.append (rls_flat R n)
theorem r2_bin (G : Gd L X Wx k c) (op : Operator) : R2v L X Wx (binaryOp op) (binD L.toLs c op) := fun pins s σ H W st d1 d2 x y v u Q I S R1 R2 r1 r2 o => by
  have G0 := G
  obtain ⟨m, F⟩ := I.fr
  cases d1 with
  | int i =>
    obtain rfl := Rl.int.mp R1
    obtain ⟨t, rfl⟩ := r1
    cases d2 with
    | int j =>
      obtain rfl := Rl.int.mp R2
      obtain ⟨t', rfl⟩ := r2
      exact intBin_ok I S o
    | obj j ds =>
      unfold binD at o
      dsimp only at o
      cases hm : L.meth j (opr op) with
      | none => rw [hm] at o; exact o.elim
      | some f =>
        rw [hm] at o
        dsimp only at o
        split at o
        · rename_i hc
          obtain ⟨g, hg⟩ := Option.isSome_iff_exists.mp hc.2
          obtain ⟨a, dx, od, rfl, J⟩ := inst_of I S R2
          cases r2
          have hop : opn op ≠ 0 := fun z => by cases op <;> first | exact absurd hc.1 (by decide) | exact absurd z (by decide)
          obtain ⟨hC, hF, M⟩ := G.fo.mt j _ f hm
          obtain ⟨_, _, M2⟩ := G.fo.mt j _ g hg
          obtain ⟨n1, n2, n3⟩ := opn_name hop
          obtain ⟨n4, n5, n6, n7⟩ := opr_name hop
          have hs := M.at_
          rw [G.fo.nm _ n7 n6 n5, n4] at hs
          have hs2 := M2.at_
          rw [G.fo.nm _ hop n3 n2, n1] at hs2
          have hcall := wpAny_mono (G.call hF I S (Rls.mk R2 (Rls.mk (Rl.int.mpr rfl) (Rls.nil.mpr rfl))) (.cons rfl (.cons (show L2.RelV (.int i) (.int i t) from ⟨t, rfl⟩) .nil)) o) (fun r s' z => CmpBack_of (X := X) (Q := EP X pins σ Q) z id) (fun _ _ z => z)
          have sT := (G.fo.sT j hC).2
          cases op <;> first
            | exact absurd hc.1 (by decide)
            | exact int_own io_add F I.ok.mod.kin J (G.fo.cl j hC).first hs2 hs M.fn sT hcall
            | exact int_own io_sub F I.ok.mod.kin J (G.fo.cl j hC).first hs2 hs M.fn sT hcall
            | exact int_own io_mul F I.ok.mod.kin J (G.fo.cl j hC).first hs2 hs M.fn sT hcall
            | exact int_own io_floordiv F I.ok.mod.kin J (G.fo.cl j hC).first hs2 hs M.fn sT hcall
            | exact int_own io_mod F I.ok.mod.kin J (G.fo.cl j hC).first hs2 hs M.fn sT hcall
        · exact o.elim
    | _ => exact o.elim
  | obj i ds =>
    unfold binD at o
    dsimp only at o
    cases hm : L.meth i (opn op) with
    | none => rw [hm] at o; exact o.elim
    | some f =>
      rw [hm] at o
      dsimp only at o
      obtain ⟨a, dx, od, rfl, J⟩ := inst_of I S R1
      cases r1
      obtain ⟨hC, hF, M⟩ := G.fo.mt i _ f hm
      cases d2 with
      | obj j es =>
        dsimp only at o
        by_cases hni : j ≠ i ∧ L.ni f j = true
        · rw [if_pos hni] at o
          cases hm2 : L.meth j (opr op) with
          | none => rw [hm2] at o; exact o.elim
          | some g =>
            rw [hm2] at o
            dsimp only at o
            split at o
            · rename_i hc
              obtain ⟨hc, hC2, hg, hdf, hps, hcn⟩ := hc
              obtain ⟨n1, n2, n3⟩ := opn_name hc
              obtain ⟨m1, m2, m3, m4⟩ := opr_name hc
              have hs := M.at_
              rw [G.fo.nm _ hc n3 n2, n1] at hs
              obtain ⟨b, dy, od2, rfl, J2⟩ := inst_of I S R2
              cases r2
              obtain ⟨g2, hg⟩ := Option.isSome_iff_exists.mp hg
              obtain ⟨_, _, M2⟩ := G.fo.mt j _ g2 hg
              have hs2 := M2.at_
              rw [G.fo.nm _ hc n3 n2, n1] at hs2
              obtain ⟨_, hF3, M3⟩ := G.fo.mt j _ g hm2
              have hr2 := M3.at_
              rw [G.fo.nm _ m4 m3 m2, m1] at hr2
              obtain ⟨rc, hr, hp⟩ := G.fo.rf i op hC hc
              obtain ⟨q1, q2⟩ := G.fo.sb j i hC2 hC hni.1
              refine own_ni F I.ok.mod.kin J J2 (fun e => q2 e.symm) (G.fo.cl i hC).first (G.fo.cl j hC2).first hs M.fn hr hp hs2 hr2 M3.fn q1 ?_
              refine wpAny_mono (G.callN hF I S (Rls.mk R1 (Rls.mk R2 (Rls.nil.mpr rfl))) (.cons rfl (.cons rfl .nil)) (by rw [hdf]; exact List.mem_singleton.mpr rfl) hps.symm hcn) (fun v' s' z => ?_) fun _ _ z => z
              obtain ⟨e0, W', H', e', I', S'⟩ := z
              have R1' := R1.mono e'
              have R2' := R2.mono e'
              obtain ⟨a1, dx1, od1, ea1, Ja⟩ := inst_of I' S' R1'
              cases ea1
              obtain ⟨b1, dx2, od3, eb1, Jb⟩ := inst_of I' S' R2'
              cases eb1
              refine ⟨e0, I'.kIn, ⟨_, _, Ja⟩, ⟨_, _, Jb⟩, ?_⟩
              exact wpAny_mono (G.call hF3 I' S' (Rls.mk R2' (Rls.mk R1' (Rls.nil.mpr rfl))) (.cons rfl (.cons rfl .nil)) (Out.mono e' o)) (fun r s' z => CmpBack_of (X := X) (Q := EP X pins σ Q) z id) (fun _ _ z => z)
            · exact o.elim
        rw [if_neg hni] at o
        split at o
        · rename_i hc
          obtain ⟨n1, n2, n3⟩ := opn_name hc.1
          have hs := M.at_
          rw [G.fo.nm _ hc.1 n3 n2, n1] at hs
          obtain ⟨b, dy, od2, rfl, J2⟩ := inst_of I S R2
          cases r2
          have hcall := wpAny_mono (G.call hF I S (Rls.mk R1 (Rls.mk R2 (Rls.nil.mpr rfl))) (.cons rfl (.cons rfl .nil)) o) (fun r s' z => CmpBack_of (X := X) (Q := EP X pins σ Q) z id) (fun _ _ z => z)
          by_cases hij : j = i
          · subst hij
            exact PySem.W.binop_K F I.ok.mod.kin J J2.type (G.fo.cl j hC).first hs M.fn hcall
          · obtain ⟨hC2, hg⟩ := hc.2.resolve_left hij
            obtain ⟨g, hg⟩ := Option.isSome_iff_exists.mp hg
            obtain ⟨_, _, M2⟩ := G.fo.mt j _ g hg
            have hs2 := M2.at_
            rw [G.fo.nm _ hc.1 n3 n2, n1] at hs2
            obtain ⟨rc, hr, hp⟩ := G.fo.rf i op hC hc.1
            obtain ⟨rc2, hr2, hp2⟩ := G.fo.rf j op hC2 hc.1
            obtain ⟨q1, q2⟩ := G.fo.sb j i hC2 hC hij
            exact own_own F I.ok.mod.kin J J2 (fun e => q2 e.symm) (G.fo.cl i hC).first (G.fo.cl j hC2).first hs M.fn hr hp hs2 hr2 hp2 q1 hcall
        · exact o.elim
      | int j =>
        dsimp only at o
        split at o
        · rename_i hc
          obtain ⟨n1, n2, n3⟩ := opn_name hc
          have hs := M.at_
          rw [G.fo.nm _ hc n3 n2, n1] at hs
          obtain rfl := Rl.int.mp R2
          obtain ⟨t', rfl⟩ := id r2
          have hcall := wpAny_mono (G.call hF I S (Rls.mk R1 (Rls.mk R2 (Rls.nil.mpr rfl))) (.cons rfl (.cons r2 .nil)) o) (fun r s' z => CmpBack_of (X := X) (Q := EP X pins σ Q) z id) (fun _ _ z => z)
          obtain ⟨rc, hr, hp⟩ := G.fo.rf i op hC hc
          obtain ⟨fo, ro, h1, h2⟩ := G.fo.bi op hc
          exact PySem.W.ksp_binT F I.ok.mod.kin J rfl (G.fo.cl i hC).first hs M.fn hr hp h1 h2 (G.fo.sT i hC).1 hcall
        · exact o.elim
      | _ => exact o.elim
  | str z =>
    cases d2 with
    | str z2 =>
      unfold binD at o
      dsimp only at o
      split at o
      · rename_i hc
        obtain ⟨rfl, hz⟩ := hc
        exact op_add_str pins s σ H x y v u Q I r1 r2 ⟨z, z2, Rl.str.mp R1, Rl.str.mp R2, hz, o W H .rfl' S _ (Rl.str.mpr rfl)⟩
      · exact o.elim
    | int n =>
      unfold binD at o
      dsimp only at o
      split at o
      · rename_i hc
        obtain ⟨rfl, hz⟩ := hc
        obtain rfl := Rl.str.mp R1
        obtain rfl := Rl.int.mp R2
        obtain ⟨t1, rfl⟩ := id r1
        obtain ⟨t2, rfl⟩ := id r2
        exact SB.mul hz fun t' k => EP.of_ok (K := X.K) (I.tok _) S (Rl.str.mpr rfl) ⟨t', rfl⟩ o
      · exact o.elim
    | _ => exact o.elim
  | tup xs =>
    cases d2 with
    | tup ys =>
      unfold binD at o
      dsimp only at o
      split at o
      · rename_i hc
        obtain ⟨rfl, hne, hz⟩ := hc
        obtain ⟨a, vs, rfl, h1, h2⟩ := Rl.tup.mp R1
        obtain ⟨b, ws, rfl, h3, h4⟩ := Rl.tup.mp R2
        have e1 : vs ≠ [] := fun z => hne (by subst z; exact List.eq_nil_of_length_eq_zero h2.length)
        refine op_catT pins s σ H _ _ v u Q I r1 r2 ⟨a, b, vs, ws, rfl, rfl, SqT_mono S.fz h1, SqT_mono S.fz h3, e1, by rw [← h2.length, ← h4.length]; exact hz, fun z => ?_, fun z p hp => ?_⟩
        · have : ys = [] := by subst z; exact List.eq_nil_of_length_eq_zero h4.length
          subst this
          rw [List.append_nil] at o
          exact o W H .rfl' S _ R1
        · obtain ⟨e2, S2⟩ := S.alloc_fz (o := .tup (vs ++ ws)) hp
          exact o _ _ e2 S2 _ (Rl.tup.mpr ⟨p, vs ++ ws, rfl, .inl (.inl (by show upd _ _ _ _ = _; exact upd_same)), (h2.mono e2).append (h4.mono e2)⟩)
      · exact o.elim
    | _ => exact o.elim
  | ref n =>
    obtain ⟨a, rfl, h1⟩ := Rl.ref.mp R1
    unfold binD at o
    dsimp only at o
    split at o
    · rename_i xs n2 hn
      split at o
      · rename_i ys hn2
        split at o
        · rename_i hc
          obtain ⟨rfl, hz⟩ := hc
          obtain ⟨b, rfl, h3⟩ := Rl.ref.mp R2
          obtain ⟨vs, h4, h5⟩ := S.cell n _ a hn h1
          obtain ⟨ws, h6, h7⟩ := S.cell n2 _ b hn2 h3
          refine op_cat pins s σ H _ _ v u Q I r1 r2 ⟨a, b, vs, ws, rfl, rfl, h4, h6, by rw [← h5.length, ← h7.length]; exact hz, fun p hp => ?_⟩
          exact o _ _ Wd.le_more (S.ofNew hp (h5.append h7)) _ (Rl.newRef S)
        · exact o.elim
      · exact o.elim
    · rename_i xs z hn
      split at o
      · rename_i hc
        obtain ⟨rfl, hz1, hz2, hz⟩ := hc
        obtain ⟨vs, h4, h5⟩ := S.cell n _ a hn h1
        refine op_rep pins s σ H _ _ v u Q I r1 r2 ⟨a, z, vs, rfl, Rl.int.mp R2, h4, hz1, hz2, by rw [← h5.length]; exact hz, fun p hp => ?_⟩
        exact o _ _ Wd.le_more (S.ofNew hp (rls_flat h5 z.toNat)) _ (Rl.newRef S)
      · exact o.elim
    · exact o.elim
  | _ => exact o.elim
/-! ### one operand -/
def negD (T : Ls) (c : Fn) (d : D) (st : Store) : Res D := match d with
  | .int i => .ok (.int (-i)) st
  | .obj i _ => match T.meth i 31 with
    | some f => callD T c f [d] st
    | none => .stuck
  | _ => .stuck
def invD (T : Ls) (c : Fn) (d : D) (st : Store) : Res D := match d with
  | .obj i _ => match T.meth i 32 with
    | some f => callD T c f [d] st
    | none => .stuck
  | _ => .stuck
theorem r1_neg (G : Gd L X Wx k c) : R1v L X Wx (unaryOp .USub) (negD L.toLs c) := fun pins s σ H W st d x v Q I S R r o => by
  cases d with
  | int i => exact un_neg pins s σ H x v Q I r ⟨i, Rl.int.mp R, o W H .rfl' S _ (Rl.int.mpr rfl)⟩
  | obj i ds =>
    unfold negD at o
    dsimp only at o
    split at o
    · rename_i f hm
      obtain ⟨a, dx, od, rfl, J⟩ := inst_of I S R
      cases r
      obtain ⟨m, F⟩ := I.fr
      obtain ⟨hC, hF, M⟩ := G.fo.mt i 31 f hm
      have hs := M.at_
      rw [G.fo.nm 31 (by decide) (by decide) (by decide)] at hs
      exact PySem.W.ksp_neg F I.ok.mod.kin J hs M.fn (G.call hF I S (Rls.mk R (Rls.nil.mpr rfl)) (.cons rfl .nil) o)
    · exact o.elim
  | _ => exact o.elim
theorem r1_inv (G : Gd L X Wx k c) : R1v L X Wx (unaryOp .Invert) (invD L.toLs c) := fun pins s σ H W st d x v Q I S R r o => by
  cases d with
  | obj i ds =>
    unfold invD at o
    dsimp only at o
    split at o
    · rename_i f hm
      obtain ⟨a, dx, od, rfl, J⟩ := inst_of I S R
      cases r
      obtain ⟨m, F⟩ := I.fr
      obtain ⟨hC, hF, M⟩ := G.fo.mt i 32 f hm
      have hs := M.at_
      rw [G.fo.nm 32 (by decide) (by decide) (by decide)] at hs
      exact PySem.W.ksp_inv F I.ok.mod.kin J hs M.fn (G.call hF I S (Rls.mk R (Rls.nil.mpr rfl)) (.cons rfl .nil) o)
    · exact o.elim
  | _ => exact o.elim
/-! ### order -/
def ltI : CmpOp → Int → Int → Option Bool
  | .Lt, i, j => some (decide (i < j)) | .LtE, i, j => some (decide (i ≤ j)) | .Gt, i, j => some (decide (j < i)) | .GtE, i, j => some (decide (j ≤ i)) | _, _, _ => none
def isOrd : CmpOp → Bool
  | .Lt => true | .LtE => true | .Gt => true | .GtE => true | _ => false
def ordD (T : Ls) (c : Fn) (op : CmpOp) (d1 d2 : D) (st : Store) : Res D := match d1 with
  | .int i => match d2 with
    | .int j => match ltI op i j with
      | some b => .ok (.bl b) st
      | none => .stuck
    | _ => .stuck
  | .obj i _ => match T.meth i (cmn op) with
    | some f => if isOrd op = true ∧ rhs T d2 = true then callD T c f [d1, d2] st else .stuck
    | none => .stuck
  | _ => .stuck
theorem r2_ord (G : Gd L X Wx k c) (op : CmpOp) : R2v L X Wx (compareOp op) (ordD L.toLs c op) := fun pins s σ H W st d1 d2 x y v u Q I S R1 R2 r1 r2 o => by
  cases d1 with
  | int i =>
    cases d2 with
    | int j =>
      have hx := Rl.int.mp R1
      have hy := Rl.int.mp R2
      cases op with
      | Lt => exact op_lt pins s σ H x y v u Q I r1 r2 ⟨i, j, hx, hy, o W H .rfl' S _ (Rl.bl.mpr rfl)⟩
      | LtE => exact op_le pins s σ H x y v u Q I r1 r2 ⟨i, j, hx, hy, o W H .rfl' S _ (Rl.bl.mpr rfl)⟩
      | Gt => exact op_gt pins s σ H x y v u Q I r1 r2 ⟨i, j, hx, hy, o W H .rfl' S _ (Rl.bl.mpr rfl)⟩
      | GtE => exact op_ge pins s σ H x y v u Q I r1 r2 ⟨i, j, hx, hy, o W H .rfl' S _ (Rl.bl.mpr rfl)⟩
      | _ => exact o.elim
    | _ => exact o.elim
  | obj i ds =>
    unfold ordD at o
    dsimp only at o
    cases hm : L.meth i (cmn op) with
    | none => rw [hm] at o; exact o.elim
    | some f =>
      rw [hm] at o
      dsimp only at o
      split at o
      · rename_i hc
        obtain ⟨a, dx, od, rfl, J⟩ := inst_of I S R1
        cases r1
        obtain ⟨m, F⟩ := I.fr
        obtain ⟨hC, hF, M⟩ := G.fo.mt i _ f hm
        obtain ⟨tb, hb, hn⟩ := G.tyLook hC I S R2 r2 hc.2
        have hs := M.at_
        have hname : L.nm (cmn op) = (cmpInfo op).2.1 := by
          rw [G.fo.nm _ (by cases op <;> first | decide | exact absurd hc.1 (by decide)) (by cases op <;> decide) (by cases op <;> first | decide | exact absurd hc.1 (by decide))]
          cases op <;> first | rfl | exact absurd hc.1 (by decide)
        rw [hname] at hs
        have hcall := wpAny_mono (G.call hF I S (Rls.mk R1 (Rls.mk R2 (Rls.nil.mpr rfl))) (.cons rfl (.cons r2 .nil)) o) (fun r s' z => CmpBack_of (X := X) (Q := EP X pins σ Q) z id) (fun _ _ z => z)
        have key := PySem.W.cmp_K (op := op) G.room.units0 F I.ok.mod.kin J hb hn hs M.fn hcall
        cases op <;> first | exact key | exact absurd hc.1 (by decide)
      · exact o.elim
  | _ => exact o.elim
end
end Gm
namespace Gm
open PySem PySem.Spec PyProof.Rows L2
section
variable {L : Lw} {X : Cx} {Wx : WX} {k : Nat} {c : Fn}
/-! ### to the library's judgements and back -/
def teOf (L : Lw) (K : PySem.W.Frag) (Wx : WX) (f : Fe) : TE := fun σ H Q => ∃ W st ρ, Sok K L W st H ∧ EnR K L W σ ρ ∧ Out K L Wx W σ (okE K L Q) (f ρ st)
def taOf (L : Lw) (K : PySem.W.Frag) (Wx : WX) (f : Fa) : TA := fun σ H Q => ∃ W st ρ, Sok K L W st H ∧ EnR K L W σ ρ ∧ Out K L Wx W σ (okA K L Q) (f ρ st)
def ttOf (L : Lw) (K : PySem.W.Frag) (Wx : WX) (f : Ft) : TT := fun σ H Q => ∃ W st ρ, Sok K L W st H ∧ EnR K L W σ ρ ∧ Out K L Wx W σ (okT Q) (f ρ st)
def tsOf (L : Lw) (K : PySem.W.Frag) (Wx : WX) (f : Fs) : TS := fun D σ H => ∃ W st ρ, Sok K L W st H ∧ EnR K L W σ ρ ∧ OutS K L Wx W D (f ρ st)
def tgOf (L : Lw) (K : PySem.W.Frag) (g : Fg) (ts : List Nat) : TG := fun v σ H Q => ∃ W st ρ d ρ' st', Sok K L W st H ∧ EnR K L W σ ρ ∧ Rl K L W d v ∧ g d ρ st = .ok ρ' st' ∧ ∀ W' σ' H', W.le W' → Sok K L W' st' H' → EnR K L W' σ' ρ' → Fram ts σ σ' → Q σ' H'
theorem RE.pe {e : Expr} {f : Fe} (h : RE L X Wx e f) : PE X e (teOf L X.K Wx f) := ⟨fun pins s σ H Q I ⟨W, st, ρ, S, E, o⟩ => h.run pins s σ H W st ρ Q I S E o⟩
theorem RA.pa {e : List Expr} {f : Fa} (h : RA L X Wx e f) : PA X e (taOf L X.K Wx f) := ⟨fun pos pins s σ H Q I ⟨W, st, ρ, S, E, o⟩ => h.run pos pins s σ H W st ρ Q I S E o⟩
theorem RT.pt {e : Expr} {f : Ft} (h : RT L X Wx e f) : PT X e (ttOf L X.K Wx f) := ⟨fun pins s σ H Q I ⟨W, st, ρ, S, E, o⟩ => h.run pins s σ H W st ρ Q I S E o⟩
theorem RSs.pss {e : List Stmt} {f : Fs} (h : RSs L X Wx e f) : PSs X e (tsOf L X.K Wx f) := ⟨fun pins s σ H D I ⟨W, st, ρ, S, E, o⟩ => h.run pins s σ H W st ρ D I S E o⟩
theorem RG.pg {tg : Expr} {g : Fg} {ts : List Nat} (h : RG L X tg g ts) : PG X tg (tgOf L X.K g ts) := ⟨fun pins s σ H v u Q I r ⟨W, st, ρ, d, ρ', st', S, E, R, hg, q⟩ =>
  thn (h.run pins s σ H W st ρ d v u ρ' st' I S E R r hg) fun _ s' ⟨W', σ', H', e, I', S', E', F'⟩ => ⟨σ', H', I', q W' σ' H' e S' E' F'⟩⟩
section
variable {W : Wd} {σ : St} {H : Hp} {st : Store} {ρ : Ev} {β : Type} {Ok : Wd → Hp → β → Prop}
theorem Out.toE {r : Res D} {kk : D → Store → Res β} {Q : VK} {K : PySem.W.Frag} (o : Out K L Wx W σ Ok (r.bind kk)) (h : ∀ d st1 W1 H1 v, r = .ok d st1 → W.le W1 → Sok K L W1 st1 H1 → Rl K L W1 d v → Out K L Wx W1 σ Ok (kk d st1) → Q v H1) : Out K L Wx W σ (okE K L Q) r := by
  cases r with
  | ok d st1 => exact fun W' H' e' S' v R' => h d st1 W' H' v rfl e' S' R' (Out.mono e' o)
  | err x st1 => exact o
  | stuck => exact o
theorem Out.toA {r : Res (List D)} {kk : List D → Store → Res β} {Q : List V → Hp → Prop} {K : PySem.W.Frag} (o : Out K L Wx W σ Ok (r.bind kk)) (h : ∀ d st1 W1 H1 v, r = .ok d st1 → W.le W1 → Sok K L W1 st1 H1 → Rls K L W1 d v → Out K L Wx W1 σ Ok (kk d st1) → Q v H1) : Out K L Wx W σ (okA K L Q) r := by
  cases r with
  | ok d st1 => exact fun W' H' e' S' v R' => h d st1 W' H' v rfl e' S' R' (Out.mono e' o)
  | err x st1 => exact o
  | stuck => exact o
theorem Out.toT {r : Res Bool} {kk : Bool → Store → Res β} {Q : Bool → Hp → Prop} {K : PySem.W.Frag} (o : Out K L Wx W σ Ok (r.bind kk)) (h : ∀ d st1 W1 H1, r = .ok d st1 → W.le W1 → Sok K L W1 st1 H1 → Out K L Wx W1 σ Ok (kk d st1) → Q d H1) : Out K L Wx W σ (okT Q) r := by
  cases r with
  | ok d st1 => exact fun W' H' e' S' => h d st1 W' H' rfl e' S' (Out.mono e' o)
  | err x st1 => exact o
  | stuck => exact o
end
/-! ### what is walked -/
structure ItOk (K : PySem.W.Frag) (L : Lw) (J : It) (W : Wd) (ds : List D) (chk : Store → Prop) : Prop where
  go : ∀ (i : Nat) (W' : Wd) (st : Store) (H : Hp) (d : D), W.le W' → Sok K L W' st H → chk st → ds[i]? = some d → J.go i H ∧ ∀ x H', J.yld i H x H' → ∃ W2, W'.le W2 ∧ Sok K L W2 st H' ∧ Rl K L W2 d x
  stop : ∀ (i : Nat) (W' : Wd) (st : Store) (H : Hp), W.le W' → Sok K L W' st H → chk st → ds.length ≤ i → J.stop i H
theorem ItOk.mono {K : PySem.W.Frag} {J : It} {W W1 : Wd} {ds : List D} {chk : Store → Prop} (h : ItOk K L J W ds chk) (e : W.le W1) : ItOk K L J W1 ds chk :=
  ⟨fun i W' st H d e' => h.go i W' st H d (e.trans e'), fun i W' st H e' => h.stop i W' st H (e.trans e')⟩
abbrev Fi := Ev → Store → Res (List D × (Store → Prop))
structure RI (L : Lw) (X : Cx) (Wx : WX) (tg iter : Expr) (f : Fi) : Prop where
  run : ∀ (pins : List (Addr × Obj)) (s : Shared) (σ : St) (H : Hp) (W : Wd) (st : Store) (ρ : Ev) (R : It → Hp → Prop), Inv X pins σ H s → Sok X.K L W st H → EnR X.K L W σ ρ →
    Out X.K L Wx W σ (fun W' H' p => ∀ J, ItOk X.K L J W' p.1 p.2 → R J H') (f ρ st) →
    wpAny (model X.prog X.w) X.A (eval iter X.env) (fun v s1 => wpAny (model X.prog X.w) X.A (pyIter v) (PIE X pins σ tg R) X.xe s1) X.xe s
def tiOf (L : Lw) (K : PySem.W.Frag) (Wx : WX) (f : Fi) : TI := fun σ H R => ∃ W st ρ, Sok K L W st H ∧ EnR K L W σ ρ ∧ Out K L Wx W σ (fun W' H' p => ∀ J, ItOk K L J W' p.1 p.2 → R J H') (f ρ st)
theorem RI.pi {tg iter : Expr} {f : Fi} (h : RI L X Wx tg iter f) : PI X tg iter (tiOf L X.K Wx f) := ⟨fun pins s σ H R I ⟨W, st, ρ, S, E, o⟩ => h.run pins s σ H W st ρ R I S E o⟩
/-- a list or a tuple -/
def iSeq (f : Fe) : Fi := fun ρ st => (f ρ st).bind fun d st => match d with
  | .tup ds => .ok (ds, fun _ => True) st
  | .ref n => match st[n]? with
    | some (.lst ds) => .ok (ds, fun st => st[n]? = some (.lst ds)) st
    | some (.rol ds) => .ok (ds, fun st => st[n]? = some (.rol ds)) st
    | _ => .stuck
  | _ => .stuck
theorem sqL_of {K : PySem.W.Frag} {W : Wd} {st : Store} {H : Hp} {n : Nat} {a : Addr} {ds : List D} (S : Sok K L W st H) (h1 : W.io[n]? = some a) (h : st[n]? = some (.lst ds) ∨ st[n]? = some (.rol ds)) : ∃ vs, SqL K H a vs ∧ Rls K L W ds vs := by
  rcases h with h | h
  · obtain ⟨vs, h2, h3⟩ := S.cell n _ a h h1
    exact ⟨vs, .inl (.inl h2), h3⟩
  · obtain ⟨vs, h2, h3⟩ := S.cell n _ a h h1
    rcases h2 with ⟨o, h2⟩ | ⟨o, its, m, q1, q2, q3, q4, q5, q6⟩
    · exact ⟨vs, .inl (.inr ⟨o, h2⟩), h3⟩
    · exact ⟨vs, .inr ⟨o, its, m, q1, q2, q3, q4, q5, q6⟩, h3⟩
theorem itl_ok {K : PySem.W.Frag} {W : Wd} {n : Nat} {a : Addr} {ds : List D} {chk : Store → Prop} (h1 : W.io[n]? = some a) (hc : ∀ st, chk st → st[n]? = some (.lst ds) ∨ st[n]? = some (.rol ds)) : ItOk K L (Itl K a) W ds chk where
  go := fun i W' st H d e' S' h hd => by
    obtain ⟨vs, q1, q2⟩ := sqL_of S' (e'.2 _ _ h1) (hc st h)
    obtain ⟨x, hx, Rx⟩ := q2.get hd
    refine ⟨⟨vs, x, q1, hx⟩, fun y H' yl => ?_⟩
    obtain ⟨rfl, yl⟩ := yl
    have := yl vs q1
    rw [hx] at this
    cases this
    exact ⟨W', .rfl', S', Rx⟩
  stop := fun i W' st H e' S' h hd => by
    obtain ⟨vs, q1, q2⟩ := sqL_of S' (e'.2 _ _ h1) (hc st h)
    exact ⟨vs, q1, by rw [← q2.length]; exact hd⟩
theorem itt_ok {K : PySem.W.Frag} {W : Wd} {a : Addr} {vs : List V} {ds : List D} (h1 : SqT K W.fz a vs) (h2 : Rls K L W ds vs) (hinj : ∀ xs ys H, SqT K H a xs → SqT K H a ys → True) : ItOk K L (Itt K a) W ds (fun _ => True) where
  go := fun i W' st H d e' S' h hd => by
    obtain ⟨x, hx, Rx⟩ := h2.get hd
    have hq : SqT K H a vs := SqT_mono (fun b o q => S'.fz b o (e'.1 b o q)) h1
    refine ⟨⟨vs, x, hq, hx⟩, fun y H' yl => ?_⟩
    obtain ⟨rfl, yl⟩ := yl
    have := yl vs hq
    rw [hx] at this
    cases this
    exact ⟨W', .rfl', S', Rx.mono e'⟩
  stop := fun i W' st H e' S' h hd => ⟨vs, SqT_mono (fun b o q => S'.fz b o (e'.1 b o q)) h1, by rw [← h2.length]; exact hd⟩
theorem iter_list_any {pins : List (Addr × Obj)} {σ : St} {H : Hp} {s : Shared} {tg : Expr} {a : Addr} {xs : List V} {R : It → Hp → Prop} (I : Inv X pins σ H s) (hq : SqL X.K H a xs) (q : R (Itl X.K a) H) : wpAny (model X.prog X.w) X.A (pyIter (.ref a)) (PIE X pins σ tg R) X.xe s := by
  obtain ⟨its, rv, p, hz⟩ := I.list hq
  refine wpAny_pyIter_list p.isList ?_
  refine ⟨s.heap.objs.size, [s.heap.objs.size], _, _, H, rfl, I.kept (t' := s.toks) fun b o e => Heap.get?_push_of_some _ e, turn_list a _, ⟨_, Heap.get?_push_size _ rfl, rfl, rfl⟩, fun b hb => ?_, q⟩
  have e : b = s.heap.objs.size := by simpa using hb
  subst e
  exact I.fpOk (Nat.le_refl _) (I.hok.fresh (Nat.le_refl _))
theorem iter_tup_any {pins : List (Addr × Obj)} {σ : St} {H : Hp} {s : Shared} {tg : Expr} {a : Addr} {xs : List V} {R : It → Hp → Prop} (I : Inv X pins σ H s) (hq : SqT X.K H a xs) (q : R (Itt X.K a) H) : wpAny (model X.prog X.w) X.A (pyIter (.ref a)) (PIE X pins σ tg R) X.xe s := by
  obtain ⟨its, rv, p, hz⟩ := I.tuple hq
  refine wpAny_pyIter_tuple (show s.heap.IsTuple a its.toArray from p) ?_
  refine ⟨s.heap.objs.size, [s.heap.objs.size], _, _, H, rfl, I.kept (t' := s.toks) fun b o e => Heap.get?_push_of_some _ e, turn_tuple a _, ⟨_, Heap.get?_push_size _ rfl, rfl, rfl⟩, fun b hb => ?_, q⟩
  have e : b = s.heap.objs.size := by simpa using hb
  subst e
  exact I.fpOk (Nat.le_refl _) (I.hok.fresh (Nat.le_refl _))
theorem ri_seq {tg e : Expr} {f : Fe} (he : RE L X Wx e f) : RI L X Wx tg e (iSeq f) := by
  refine ⟨fun pins s σ H W st ρ R I S E o => he.bind I S E o fun d st1 W1 H1 v u s1 e1 I1 S1 R1 r1 o1 => ?_⟩
  cases d with
  | tup ds =>
    obtain ⟨a, vs, rfl, h1, h2⟩ := Rl.tup.mp R1
    cases r1
    exact iter_tup_any I1 (SqT_mono S1.fz h1) (o1 W1 H1 .rfl' S1 _ (itt_ok h1 h2 fun _ _ _ _ _ => trivial))
  | ref n =>
    obtain ⟨a, rfl, h1⟩ := Rl.ref.mp R1
    cases r1
    dsimp only at o1
    split at o1
    · rename_i ds hn
      obtain ⟨vs, q1, q2⟩ := sqL_of S1 h1 (.inl hn)
      exact iter_list_any I1 q1 (o1 W1 H1 .rfl' S1 _ (itl_ok h1 fun st h => .inl h))
    · rename_i ds hn
      obtain ⟨vs, q1, q2⟩ := sqL_of S1 h1 (.inr hn)
      exact iter_list_any I1 q1 (o1 W1 H1 .rfl' S1 _ (itl_ok h1 fun st h => .inr h))
    · exact o1.elim
  | _ => exact o1.elim
/-- range -/
def intsFrom (lo : Int) (n : Nat) : List D := (List.range n).map fun (i : Nat) => D.int (lo + (i : Int))
def iRng (r : Fa) : Fi := fun ρ st => (r ρ st).bind fun ds st => match ds with
  | [.int j] => if -(2 ^ 62) ≤ j ∧ j < 2 ^ 62 then .ok (intsFrom 0 j.toNat, fun _ => True) st else .stuck
  | [.int i, .int j] => if -(2 ^ 62) ≤ i ∧ i < 2 ^ 62 ∧ -(2 ^ 62) ≤ j ∧ j < 2 ^ 62 then .ok (intsFrom i (j - i).toNat, fun _ => True) st else .stuck
  | _ => .stuck
theorem itr_ok {K : PySem.W.Frag} {W : Wd} {lo : Int} {n : Nat} : ItOk K L (Itr lo n) W (intsFrom lo n) (fun _ => True) where
  go := fun i W' st H d e' S' h hd => by
    unfold intsFrom at hd
    rw [List.getElem?_map] at hd
    have hi : i < n := by
      rcases Nat.lt_or_ge i n with h | h
      · exact h
      · rw [List.getElem?_eq_none (by simpa using h)] at hd; cases hd
    rw [List.getElem?_range hi] at hd
    cases hd
    refine ⟨hi, fun x H' yl => ?_⟩
    obtain ⟨rfl, rfl⟩ := yl
    exact ⟨W', .rfl', S', Rl.int.mpr rfl⟩
  stop := fun i W' st H e' S' h hd => by
    have : n ≤ i := by simpa [intsFrom] using hd
    exact this
theorem ri_range1 {tg a : Expr} {r : Fa} {p pos : Pos} (hg : Gl X "range") (hm : X.mg "range" = none) (ha : RA L X Wx [a] r) (hs : starEach [a] X.env = [(false, eval a X.env)] := by rfl) : RI L X Wx tg (.Call (.Name "range" p) [a] [] pos) (iRng r) :=
  ⟨fun pins s σ H W st ρ R I S E o => (pi_range1 hg hm ha.pa hs).run pins s σ H R I ⟨W, st, ρ, S, E, Out.toA o fun ds st1 W1 H1 vs hr e1 S1 R1 o1 => by
    have hl := ha.len _ _ _ _ hr
    match ds, hl with
    | [d], _ =>
      cases d with
      | int j =>
        dsimp only at o1
        split at o1
        · rename_i hj
          obtain ⟨v, _, rfl, q1, q2⟩ := Rls.cons.mp R1
          rw [Rls.nil.mp q2, Rl.int.mp q1]
          exact ⟨j, rfl, hj.1, hj.2, o1 W1 H1 .rfl' S1 _ itr_ok⟩
        · exact o1.elim
      | _ => exact o1.elim⟩⟩
theorem ri_range2 {tg a b : Expr} {r : Fa} {p pos : Pos} (hg : Gl X "range") (hm : X.mg "range" = none) (ha : RA L X Wx [a, b] r) (hs : starEach [a, b] X.env = [(false, eval a X.env), (false, eval b X.env)] := by rfl) (hs2 : starEach [b] X.env = [(false, eval b X.env)] := by rfl) : RI L X Wx tg (.Call (.Name "range" p) [a, b] [] pos) (iRng r) :=
  ⟨fun pins s σ H W st ρ R I S E o => (pi_range2 hg hm ha.pa hs hs2).run pins s σ H R I ⟨W, st, ρ, S, E, Out.toA o fun ds st1 W1 H1 vs hr e1 S1 R1 o1 => by
    have hl := ha.len _ _ _ _ hr
    match ds, hl with
    | [d, d'], _ =>
      cases d with
      | int i =>
        cases d' with
        | int j =>
          dsimp only at o1
          split at o1
          · rename_i hj
            obtain ⟨v, _, rfl, q1, q2⟩ := Rls.cons.mp R1
            obtain ⟨v', _, rfl, q3, q4⟩ := Rls.cons.mp q2
            rw [Rls.nil.mp q4, Rl.int.mp q1, Rl.int.mp q3]
            exact ⟨i, j, rfl, hj, o1 W1 H1 .rfl' S1 _ itr_ok⟩
          · exact o1.elim
        | _ => exact o1.elim
      | _ => exact o1.elim⟩⟩
/-! ### for -/
open Classical in
noncomputable def forI (chk : Store → Prop) (g : Fg) (b : Fs) : List D → Fs
  | [] => fun ρ st => if chk st then .nx ρ st else .stuck
  | d :: ds => fun ρ st => if chk st then match g d ρ st with
    | .ok ρ' st' => match b ρ' st' with
      | .nx ρ st => forI chk g b ds ρ st
      | .ct ρ st => forI chk g b ds ρ st
      | .bk ρ st => .nx ρ st
      | r => r
    | _ => .stuck else .stuck
noncomputable def sFor (fi : Fi) (g : Fg) (b : Fs) : Fs := fun ρ st => (fi ρ st).toS ρ fun p st => forI p.2 g b p.1 ρ st
theorem rs_for {tg iter : Expr} {body : List Stmt} {fi : Fi} {g : Fg} {b : Fs} {ts : List Nat} {pos : Pos} (hp : PassesOwn (model X.prog X.w) X.A X.env X.xe) (hc : X.calm = true) (hi : RI L X Wx tg iter fi) (hg : RG L X tg g ts) (hb : RSs L X Wx body b)
    (hs : ∀ x, foldedSetIterable iter X.env x = pure x := by intro _; rfl) : RS L X Wx (.For tg iter body [] pos) (sFor fi g b) := by
  refine ⟨fun pins s σ H W st ρ D I S E o => (ps_for hp hc hi.pi hg.pg hb.pss hs).run pins s σ H D I ?_⟩
  refine ⟨W, st, ρ, S, E, ?_⟩
  unfold sFor at o
  cases q : fi ρ st with
  | stuck => rw [q] at o; exact o.elim
  | err x st1 => rw [q] at o; exact fun W' H' cls dx e' S' R' => o W' H' σ cls dx e' S' (E.mono e') R'
  | ok p st1 =>
    obtain ⟨ds, chk⟩ := p
    rw [q, Res.toS_ok] at o
    intro W1 H1 e1 S1 J hJ
    have o1 := OutS.mono e1 o
    clear o
    dsimp only at o1
    refine ⟨fun i m σ' H' => ∃ W' st' ρ', m = ds.length - i ∧ i ≤ ds.length ∧ W1.le W' ∧ Sok X.K L W' st' H' ∧ EnR X.K L W' σ' ρ' ∧ OutS X.K L Wx W' D (forI chk g b (ds.drop i) ρ' st'), ⟨ds.length, W1, st1, ρ, by simp, Nat.zero_le _, .rfl', S1, E.mono e1, by simpa using o1⟩, ?_⟩
    rintro i m σ' H' ⟨W', st', ρ', rfl, hi, e', S', E', o'⟩
    by_cases hlt : i < ds.length
    · rw [List.drop_eq_getElem_cons hlt] at o'
      unfold forI at o'
      split at o'
      · rename_i hck
        obtain ⟨h1, h2⟩ := hJ.go i W' st' H' ds[i] e' S' hck (List.getElem?_eq_getElem hlt)
        cases hgq : g ds[i] ρ' st' with
        | err x s2 => rw [hgq] at o'; exact o'.elim
        | stuck => rw [hgq] at o'; exact o'.elim
        | ok ρ2 st2 =>
          rw [hgq] at o'
          dsimp only at o'
          have step : ∀ (N : St → Hp → Prop), (∀ W2 x H2, W'.le W2 → Sok X.K L W2 st' H2 → Rl X.K L W2 ds[i] x → OutS X.K L Wx W2 { D with nx := N, ct := N, bk := D.nx } (b ρ2 st2)) →
              ∀ x H2, J.yld i H' x H2 → tgOf L X.K g ts x σ' H2 fun σ2 H3 => tsOf L X.K Wx b { D with nx := N, ct := N, bk := D.nx } σ2 H3 := fun N hN x H2 hy => by
            obtain ⟨W2, e2, S2, R2⟩ := h2 x H2 hy
            refine ⟨W2, st', ρ', ds[i], ρ2, st2, S2, E'.mono e2, R2, hgq, fun W3 σ3 H3 e3 S3 E3 _ => ⟨W3, st2, ρ2, S3, E3, OutS.mono e3 (hN W2 x H2 e2 S2 R2)⟩⟩
          cases hbq : b ρ2 st2 with
          | nx ρ3 st3 =>
            rw [hbq] at o'
            refine .inr ⟨h1, fun σ4 H4 => ∃ W4, W'.le W4 ∧ Sok X.K L W4 st3 H4 ∧ EnR X.K L W4 σ4 ρ3, fun σ4 H4 ⟨W4, e4, S4, E4⟩ => ⟨ds.length - (i + 1), by omega, W4, st3, ρ3, rfl, hlt, e'.trans e4, S4, E4, OutS.mono e4 o'⟩, step _ fun W2 x H2 e2 S2 R2 => ?_⟩
            rw [hbq]
            exact fun W4 H4 σ4 e4 S4 E4 => ⟨W4, e2.trans e4, S4, E4⟩
          | ct ρ3 st3 =>
            rw [hbq] at o'
            refine .inr ⟨h1, fun σ4 H4 => ∃ W4, W'.le W4 ∧ Sok X.K L W4 st3 H4 ∧ EnR X.K L W4 σ4 ρ3, fun σ4 H4 ⟨W4, e4, S4, E4⟩ => ⟨ds.length - (i + 1), by omega, W4, st3, ρ3, rfl, hlt, e'.trans e4, S4, E4, OutS.mono e4 o'⟩, step _ fun W2 x H2 e2 S2 R2 => ?_⟩
            rw [hbq]
            exact fun W4 H4 σ4 e4 S4 E4 => ⟨W4, e2.trans e4, S4, E4⟩
          | bk ρ3 st3 =>
            rw [hbq] at o'
            refine .inr ⟨h1, fun _ _ => False, fun _ _ z => z.elim, step _ fun W2 x H2 e2 S2 R2 => ?_⟩
            rw [hbq]
            exact fun W4 H4 σ4 e4 S4 E4 => o' W4 H4 σ4 (e2.trans e4) S4 E4
          | rt d st3 =>
            rw [hbq] at o'
            refine .inr ⟨h1, fun _ _ => False, fun _ _ z => z.elim, step _ fun W2 x H2 e2 S2 R2 => ?_⟩
            rw [hbq]
            exact fun W4 H4 v e4 S4 R4 => o' W4 H4 v (e2.trans e4) S4 R4
          | err d ρ3 st3 =>
            rw [hbq] at o'
            refine .inr ⟨h1, fun _ _ => False, fun _ _ z => z.elim, step _ fun W2 x H2 e2 S2 R2 => ?_⟩
            rw [hbq]
            exact fun W4 H4 σ4 cls dx e4 S4 E4 R4 => o' W4 H4 σ4 cls dx (e2.trans e4) S4 E4 R4
          | stuck => rw [hbq] at o'; exact o'.elim
      · exact o'.elim
    · have hi' : ds.length ≤ i := by omega
      rw [List.drop_of_length_le hi'] at o'
      unfold forI at o'
      split at o'
      · rename_i hck
        exact .inl ⟨hJ.stop i W' st' H' e' S' hck hi', o' W' H' σ' .rfl' S' E'⟩
      · exact o'.elim
end
end Gm
namespace Gm
open PySem PySem.Spec PyProof.Rows L2
section
variable {L : Lw} {X : Cx} {Wx : WX} {k : Nat} {c : Fn}
/-! ### while -/
def whileN (t : Ft) (b : Fs) : Nat → Fs
  | 0 => fun _ _ => .stuck
  | n + 1 => fun ρ st => (t ρ st).toS ρ fun q st => if q then match b ρ st with
    | .nx ρ st => whileN t b n ρ st
    | .ct ρ st => whileN t b n ρ st
    | .bk ρ st => .nx ρ st
    | r => r else .nx ρ st
theorem whileN_succ (t : Ft) (b : Fs) : ∀ (n : Nat) (ρ : Ev) (st : Store), whileN t b n ρ st ≠ .stuck → whileN t b (n + 1) ρ st = whileN t b n ρ st
  | 0, _, _, h => absurd rfl h
  | n + 1, ρ, st, h => by
    unfold whileN at h ⊢
    cases q : t ρ st with
    | stuck => rfl
    | err x s => rfl
    | ok a s1 =>
      rw [q] at h
      simp only [Res.toS_ok] at h ⊢
      cases a with
      | false => rfl
      | true =>
        simp only [if_true] at h ⊢
        cases qb : b ρ s1 with
        | nx ρ' s' => rw [qb] at h; exact whileN_succ t b n ρ' s' h
        | ct ρ' s' => rw [qb] at h; exact whileN_succ t b n ρ' s' h
        | bk ρ' s' => rfl
        | rt _ _ => rfl
        | err _ _ _ => rfl
        | stuck => rfl
theorem whileN_le (t : Ft) (b : Fs) (n : Nat) (ρ : Ev) (st : Store) (h : whileN t b n ρ st ≠ .stuck) : ∀ k, whileN t b (n + k) ρ st = whileN t b n ρ st
  | 0 => rfl
  | k + 1 => by
    have ih := whileN_le t b n ρ st h k
    rw [← ih]
    exact whileN_succ t b (n + k) ρ st (by rw [ih]; exact h)
open Classical in
noncomputable def sWhile (t : Ft) (b : Fs) : Fs := fun ρ st => if h : ∃ n, whileN t b n ρ st ≠ .stuck then whileN t b (Classical.choose h) ρ st else .stuck
theorem sWhile_eq {t : Ft} {b : Fs} {ρ : Ev} {st : Store} (n : Nat) {r : SR} (h : whileN t b n ρ st = r) (hr : r ≠ .stuck) : sWhile t b ρ st = r := by
  have hn : ∃ n, whileN t b n ρ st ≠ .stuck := ⟨n, by rw [h]; exact hr⟩
  unfold sWhile
  rw [dif_pos hn]
  have h1 := whileN_le t b n ρ st (by rw [h]; exact hr) (Classical.choose hn)
  have h2 := whileN_le t b _ ρ st (Classical.choose_spec hn) n
  rw [Nat.add_comm] at h1
  rw [← h2, h1, h]
theorem rs_while {cd : Expr} {body : List Stmt} {t : Ft} {b : Fs} {pos : Pos} (hp : PassesOwn (model X.prog X.w) X.A X.env X.xe) (hc : RT L X Wx cd t) (hb : RSs L X Wx body b) : RS L X Wx (.While cd body [] pos) (sWhile t b) := by
  refine ⟨fun pins s σ H W st ρ D I S E o => (ps_while hp hc.pt hb.pss).run pins s σ H D I ?_⟩
  by_cases hn : ∃ n, whileN t b n ρ st ≠ .stuck
  · unfold sWhile at o
    rw [dif_pos hn] at o
    generalize Classical.choose hn = n at o
    refine ⟨fun m σ' H' => ∃ W' st' ρ', W.le W' ∧ Sok X.K L W' st' H' ∧ EnR X.K L W' σ' ρ' ∧ OutS X.K L Wx W' D (whileN t b m ρ' st'), ⟨n, W, st, ρ, .rfl', S, E, o⟩, ?_⟩
    rintro m σ' H' ⟨W', st', ρ', e', S', E', o'⟩
    cases m with
    | zero => exact o'.elim
    | succ m =>
      unfold whileN at o'
      refine ⟨W', st', ρ', S', E', ?_⟩
      cases qt : t ρ' st' with
      | stuck => rw [qt] at o'; exact o'.elim
      | err x s => rw [qt] at o'; exact fun W2 H2 cls dx e2 S2 R2 => o' W2 H2 σ' cls dx e2 S2 (E'.mono e2) R2
      | ok a s1 =>
        rw [qt, Res.toS_ok] at o'
        intro W2 H2 e2 S2
        have o2 := OutS.mono e2 o'
        have E2 := E'.mono e2
        cases a with
        | false => exact o2 W2 H2 σ' .rfl' S2 E2
        | true =>
          simp only [if_true] at o2 ⊢
          cases qb : b ρ' s1 with
          | nx ρ3 s3 =>
            rw [qb] at o2
            refine ⟨fun σ3 H3 => ∃ W3, W2.le W3 ∧ Sok X.K L W3 s3 H3 ∧ EnR X.K L W3 σ3 ρ3, fun σ3 H3 ⟨W3, e3, S3, E3⟩ => ⟨m, Nat.lt_succ_self m, W3, s3, ρ3, e'.trans (e2.trans e3), S3, E3, OutS.mono e3 o2⟩, W2, s1, ρ', S2, E2, ?_⟩
            rw [qb]
            exact fun W3 H3 σ3 e3 S3 E3 => ⟨W3, e3, S3, E3⟩
          | ct ρ3 s3 =>
            rw [qb] at o2
            refine ⟨fun σ3 H3 => ∃ W3, W2.le W3 ∧ Sok X.K L W3 s3 H3 ∧ EnR X.K L W3 σ3 ρ3, fun σ3 H3 ⟨W3, e3, S3, E3⟩ => ⟨m, Nat.lt_succ_self m, W3, s3, ρ3, e'.trans (e2.trans e3), S3, E3, OutS.mono e3 o2⟩, W2, s1, ρ', S2, E2, ?_⟩
            rw [qb]
            exact fun W3 H3 σ3 e3 S3 E3 => ⟨W3, e3, S3, E3⟩
          | bk ρ3 s3 =>
            rw [qb] at o2
            refine ⟨fun _ _ => False, fun _ _ z => z.elim, W2, s1, ρ', S2, E2, ?_⟩
            rw [qb]
            exact o2
          | rt d s3 =>
            rw [qb] at o2
            refine ⟨fun _ _ => False, fun _ _ z => z.elim, W2, s1, ρ', S2, E2, ?_⟩
            rw [qb]
            exact o2
          | err x ρ3 s3 =>
            rw [qb] at o2
            refine ⟨fun _ _ => False, fun _ _ z => z.elim, W2, s1, ρ', S2, E2, ?_⟩
            rw [qb]
            exact o2
          | stuck => rw [qb] at o2; exact o2.elim
  · unfold sWhile at o
    rw [dif_neg hn] at o
    exact o.elim
/-! ### comprehensions -/
abbrev W0 : WX := fun _ _ _ _ => False
def wipeE (ρ : Ev) : List Nat → Ev
  | [] => ρ
  | v :: vs => (wipeE ρ vs).set v none
theorem wipeE_length (ρ : Ev) : ∀ vs : List Nat, (wipeE ρ vs).length = ρ.length
  | [] => rfl
  | v :: vs => by unfold wipeE; rw [List.length_set, wipeE_length ρ vs]
theorem wipe_at {σ : St} {i : Nat} : ∀ {vs : List Nat}, i ∉ vs → (wipe σ vs)[i]? = σ[i]?
  | [], _ => rfl
  | v :: vs, h => by
    unfold wipe
    rw [List.getElem?_set_ne (fun e => h (by simp [e]))]
    exact wipe_at (fun q => h (List.mem_cons_of_mem _ q))
theorem wipe_in {σ : St} {i : Nat} : ∀ {vs : List Nat}, i ∈ vs → i < σ.length → (wipe σ vs)[i]? = some none
  | v :: vs, h, hl => by
    unfold wipe
    by_cases e : v = i
    · subst e
      rw [List.getElem?_set_self (by rw [wipe_length]; exact hl)]
    · rw [List.getElem?_set_ne e]
      exact wipe_in ((List.mem_cons.mp h).resolve_left (fun q => e q.symm)) hl
theorem wipeE_some {ρ : Ev} {i : Nat} {x : D} : ∀ {vs : List Nat}, (wipeE ρ vs)[i]? = some (some x) → ρ[i]? = some (some x) ∧ i ∉ vs
  | [], h => ⟨h, by simp⟩
  | v :: vs, h => by
    unfold wipeE at h
    by_cases hi : v = i
    · subst hi
      by_cases hv : v < (wipeE ρ vs).length
      · rw [List.getElem?_set_self hv] at h; cases h
      · rw [List.getElem?_eq_none (by simpa using hv)] at h; cases h
    · rw [List.getElem?_set_ne hi] at h
      obtain ⟨h1, h2⟩ := wipeE_some h
      exact ⟨h1, by simp only [List.mem_cons, not_or]; exact ⟨fun e => hi e.symm, h2⟩⟩
theorem EnR.wipe {K : PySem.W.Frag} {W : Wd} {σ : St} {ρ : Ev} (vs : List Nat) (E : EnR K L W σ ρ) : EnR K L W (wipe σ vs) (wipeE ρ vs) := ⟨by rw [wipeE_length, wipe_length]; exact E.1, fun i d h => by
  obtain ⟨h1, h2⟩ := wipeE_some h
  obtain ⟨v, h3, h4⟩ := E.2 i d h1
  exact ⟨v, by rw [wipe_at h2]; exact h3, h4⟩⟩
theorem Fram.wiped {ts vs : List Nat} {σ σ2 : St} (f : Fram ts (wipe σ vs) σ2) (h : ∀ i ∈ ts, i ∈ vs) : wipe σ2 vs = wipe σ vs := by
  refine List.ext_getElem? fun i => ?_
  by_cases hi : i ∈ vs
  · by_cases hl : i < σ.length
    · rw [wipe_in hi hl, wipe_in hi (by rw [f.1, wipe_length]; exact hl)]
    · rw [List.getElem?_eq_none (by rw [wipe_length, f.1, wipe_length]; omega), List.getElem?_eq_none (by rw [wipe_length]; omega)]
  · rw [wipe_at hi, f.2 i (fun q => hi (h i q))]
open Classical in
noncomputable def lcI (chk : Store → Prop) (g : Fg) (t : Ft) (f : Fe) (n : Nat) : List D → Ev → Store → Res D
  | [] => fun _ st => if chk st then .ok (.ref n) st else .stuck
  | d :: ds => fun ρ st => if chk st then match g d ρ st with
    | .ok ρ' st1 => match t ρ' st1 with
      | .ok false st2 => lcI chk g t f n ds ρ st2
      | .ok true st2 => match f ρ' st2 with
        | .ok y st3 => match st3[n]? with
          | some (.lst acc) => if acc.length < sizeLine then lcI chk g t f n ds ρ (st3.set n (.lst (acc ++ [y]))) else .stuck
          | _ => .stuck
        | _ => .stuck
      | _ => .stuck
    | _ => .stuck else .stuck
noncomputable def xLc (fi : Fi) (g : Fg) (t : Ft) (f : Fe) (vs : List Nat) : Fe := fun ρ st => (fi ρ st).bind fun p st => lcI p.2 g t f st.length p.1 (wipeE ρ vs) (st ++ [.lst []])
def tTrue : Ft := fun _ st => .ok true st
structure RTs (L : Lw) (X : Cx) (Wx : WX) (es : List Expr) (f : Ft) : Prop where
  pts : PTs X es (ttOf L X.K Wx f)
theorem rts_nil : RTs L X Wx [] tTrue := ⟨⟨fun pins s σ H Q I ⟨W, st, ρ, S, E, o⟩ => wpAny_tests_nil ⟨H, I, o W H .rfl' S⟩⟩⟩
theorem rts_one {e : Expr} {t : Ft} (h : RT L X Wx e t) : RTs L X Wx [e] t := ⟨pts_one h.pt⟩
theorem Gd.blk (G : Gd L X Wx k c) (s : Shared) (H : Hp) (scope : Scope) (cenv : Env) (fp : List Addr) : Gd L (X.blk s H scope cenv fp) W0 k c := ⟨G.fo, G.room, takes0, G.calm, PassesOwn.never, G.nd⟩
theorem lc_term {fi : Fi} {g : Fg} {t : Ft} {f : Fe} {ts : List Nat} {vs : List Nat} {σ : St} {H : Hp} {W : Wd} {st : Store} {ρ : Ev} {Q : VK} (hts : ∀ i ∈ ts, i ∈ vs) (S : Sok X.K L W st H) (E : EnR X.K L W σ ρ)
    (o : Out X.K L Wx W σ (okE X.K L Q) (xLc fi g t f vs ρ st)) : tLc (tiOf L X.K Wx fi) (tgOf L X.K g ts) (ttOf L X.K W0 t) (teOf L X.K W0 f) vs σ H Q := by
  refine ⟨W, st, ρ, S, E, ?_⟩
  unfold xLc at o
  cases q : fi ρ st with
  | stuck => rw [q] at o; exact o.elim
  | err x st1 => rw [q] at o; exact o
  | ok p st1 =>
    obtain ⟨ds, chk⟩ := p
    rw [q, Res.bind_ok] at o
    intro W1 H1 e1 S1 J hJ D0 hD
    have o1 := Out.mono e1 o
    clear o
    dsimp only at o1
    have S2 : Sok X.K L (W1.more D0) (st1 ++ [.lst []]) (upd H1 D0 (.lst [])) := S1.alloc hD ⟨[], upd_same, Rls.nil.mpr rfl⟩
    have ioD : (W1.more D0).io[st1.length]? = some D0 := by
      show (W1.io ++ [D0])[st1.length]? = _
      rw [S1.len, List.getElem?_concat_length]
    have Ew := (E.mono e1).wipe vs
    refine ⟨fun i m H' => ∃ W' st', m = ds.length - i ∧ i ≤ ds.length ∧ (W1.more D0).le W' ∧ Sok X.K L W' st' H' ∧ Out X.K L Wx W' σ (okE X.K L Q) (lcI chk g t f st1.length (ds.drop i) (wipeE ρ vs) st'), ⟨ds.length, W1.more D0, st1 ++ [.lst []], by simp, Nat.zero_le _, .rfl', S2, by simpa using Out.mono Wd.le_more o1⟩, ?_⟩
    rintro i m H' ⟨W', st', rfl, hi, e', S', o'⟩
    have ioD' := e'.2 _ _ ioD
    have hJ' := hJ.mono (Wd.le_more.trans e')
    have Ew' := Ew.mono (Wd.le_more.trans e')
    by_cases hlt : i < ds.length
    · rw [List.drop_eq_getElem_cons hlt] at o'
      unfold lcI at o'
      split at o'
      · rename_i hck
        obtain ⟨h1, h2⟩ := hJ'.go i W' st' H' ds[i] .rfl' S' hck (List.getElem?_eq_getElem hlt)
        cases hgq : g ds[i] (wipeE ρ vs) st' with
        | err x s2 => rw [hgq] at o'; exact o'.elim
        | stuck => rw [hgq] at o'; exact o'.elim
        | ok ρ2 st2 =>
          rw [hgq] at o'
          dsimp only at o'
          cases htq : t ρ2 st2 with
          | err x s2 => rw [htq] at o'; exact o'.elim
          | stuck => rw [htq] at o'; exact o'.elim
          | ok b st3 =>
            rw [htq] at o'
            cases b with
            | false =>
              dsimp only at o'
              refine .inr ⟨h1, fun H4 => ∃ W4, W'.le W4 ∧ Sok X.K L W4 st3 H4, fun H4 ⟨W4, e4, S4⟩ => ⟨ds.length - (i + 1), by omega, W4, st3, rfl, hlt, e'.trans e4, S4, Out.mono e4 o'⟩, fun x H2 hy => ?_⟩
              obtain ⟨W2, e2, S2', R2⟩ := h2 x H2 hy
              refine ⟨W2, st', wipeE ρ vs, ds[i], ρ2, st2, S2', Ew'.mono e2, R2, hgq, fun W3 σ3 H3 e3 S3 E3 F3 => ⟨F3.wiped hts, W3, st2, ρ2, S3, E3, ?_⟩⟩
              rw [htq]
              exact fun W4 H4 e4 S4 => by
                unfold okT
                simp only [Bool.false_eq_true, if_false]
                exact ⟨W4, e2.trans (e3.trans e4), S4⟩
            | true =>
              dsimp only at o'
              cases hfq : f ρ2 st3 with
              | err x s2 => rw [hfq] at o'; exact o'.elim
              | stuck => rw [hfq] at o'; exact o'.elim
              | ok y st4 =>
                rw [hfq] at o'
                dsimp only at o'
                split at o'
                · rename_i acc hacc
                  split at o'
                  · rename_i hsz
                    refine .inr ⟨h1, fun H4 => ∃ W4, W'.le W4 ∧ Sok X.K L W4 (st4.set st1.length (.lst (acc ++ [y]))) H4, fun H4 ⟨W4, e4, S4⟩ => ⟨ds.length - (i + 1), by omega, W4, _, rfl, hlt, e'.trans e4, S4, Out.mono e4 o'⟩, fun x H2 hy => ?_⟩
                    obtain ⟨W2, e2, S2', R2⟩ := h2 x H2 hy
                    refine ⟨W2, st', wipeE ρ vs, ds[i], ρ2, st2, S2', Ew'.mono e2, R2, hgq, fun W3 σ3 H3 e3 S3 E3 F3 => ⟨F3.wiped hts, W3, st2, ρ2, S3, E3, ?_⟩⟩
                    rw [htq]
                    intro W4 H4 e4 S4
                    unfold okT
                    simp only [if_true]
                    refine ⟨W4, st3, ρ2, S4, E3.mono e4, ?_⟩
                    rw [hfq]
                    intro W5 H5 e5 S5 v R5
                    have io5 : W5.io[st1.length]? = some D0 := (e2.trans (e3.trans (e4.trans e5))).2 _ _ ioD'
                    obtain ⟨ws, q1, q2⟩ := S5.cell _ _ D0 hacc io5
                    refine ⟨ws, q1, by rw [← q2.length]; exact hsz, W5, e2.trans (e3.trans (e4.trans e5)), S5.write hacc rfl io5 ⟨ws ++ [v], upd_same, q2.append (Rls.mk R5 (Rls.nil.mpr rfl))⟩⟩
                  · exact o'.elim
                · exact o'.elim
      · exact o'.elim
    · have hi' : ds.length ≤ i := by omega
      rw [List.drop_of_length_le hi'] at o'
      unfold lcI at o'
      split at o'
      · rename_i hck
        exact .inl ⟨hJ'.stop i W' st' H' .rfl' S' hck hi', o' W' H' .rfl' S' _ (Rl.ref.mpr ⟨D0, rfl, ioD'⟩)⟩
      · exact o'.elim
theorem re_lc {elt tg iter : Expr} {ifs : List Expr} {scope : Scope} {own : List (Str × Nat)} {pos : Pos} {fi : Fi} {g : Fg} {t : Ft} {f : Fe} {ts : List Nat} (G : Gd L X Wx k c) (hi : RI L X Wx tg iter fi) (ok : BlkOk X.N X.env.scope scope own)
    (hg : ∀ (s : Shared) (H : Hp) (C : Addr) (cl : List (Str × Addr)) (fp : List Addr), RG L (X.blk s H scope (compEnvC scope cl C X.env) fp) tg g ts)
    (ht : ∀ (s : Shared) (H : Hp) (C : Addr) (cl : List (Str × Addr)) (fp : List Addr), RTs L (X.blk s H scope (compEnvC scope cl C X.env) fp) W0 ifs t)
    (he : ∀ (s : Shared) (H : Hp) (C : Addr) (cl : List (Str × Addr)) (fp : List Addr), RE L (X.blk s H scope (compEnvC scope cl C X.env) fp) W0 elt f)
    (hts : ∀ i ∈ ts, i ∈ own.map (·.2)) (hs : ∀ x, foldedSetIterable iter X.env x = pure x := by intro _; rfl) :
    RE L X Wx (.ListComp elt [⟨tg, iter, ifs, 0⟩] scope pos) (xLc fi g t f (own.map (·.2))) :=
  ⟨fun pins s σ H W st ρ Q I S E o => (pe_lc (wi := tiOf L X.K Wx fi) (g := tgOf L X.K g ts) (tt := ttOf L X.K W0 t) (te := teOf L X.K W0 f) G.calm G.nd hi.pi ok (fun s H C cl fp => (hg s H C cl fp).pg) (fun s H C cl fp => (ht s H C cl fp).pts) (fun s H C cl fp => (he s H C cl fp).pe) hs).run pins s σ H Q I (lc_term hts S E o)⟩
/-- name = [..] on one line, the name a local -/
theorem rs_setLc {i : Nat} {y : Str} {py : Pos} {elt tg iter : Expr} {ifs : List Expr} {scope : Scope} {own : List (Str × Nat)} {pos spos : Pos} {fi : Fi} {g : Fg} {t : Ft} {f : Fe} {ts : List Nat} (G : Gd L X Wx k c) (hy : X.N[i]? = some y) (hyl : X.env.scope.names.lookup y = some .local)
    (hsw : swapsWith (.ListComp elt [⟨tg, iter, ifs, 0⟩] scope pos) (some (.Name y py)) spos.line X.env = pure true) (hi : RI L X Wx tg iter fi) (ok : BlkOk X.N X.env.scope scope own)
    (hg : ∀ (s : Shared) (H : Hp) (C : Addr) (cl : List (Str × Addr)) (fp : List Addr), RG L (X.blk s H scope (compEnvC scope cl C X.env) fp) tg g ts)
    (ht : ∀ (s : Shared) (H : Hp) (C : Addr) (cl : List (Str × Addr)) (fp : List Addr), RTs L (X.blk s H scope (compEnvC scope cl C X.env) fp) W0 ifs t)
    (he : ∀ (s : Shared) (H : Hp) (C : Addr) (cl : List (Str × Addr)) (fp : List Addr), RE L (X.blk s H scope (compEnvC scope cl C X.env) fp) W0 elt f)
    (hts : ∀ i ∈ ts, i ∈ own.map (·.2)) (hs : ∀ x, foldedSetIterable iter X.env x = pure x := by intro _; rfl) :
    RS L X Wx (.Assign [.Name y py] (.ListComp elt [⟨tg, iter, ifs, 0⟩] scope pos) spos) (sAsg (xLc fi g t f (own.map (·.2))) (gNm i)) := by
  refine ⟨fun pins s σ H W st ρ D I S E o => (ps_setLc (wi := tiOf L X.K Wx fi) (g := tgOf L X.K g ts) (tt := ttOf L X.K W0 t) (te := teOf L X.K W0 f) G.calm G.nd hy hyl hsw hi.pi ok (fun s H C cl fp => (hg s H C cl fp).pg) (fun s H C cl fp => (ht s H C cl fp).pts) (fun s H C cl fp => (he s H C cl fp).pe) hs).run pins s σ H D I ?_⟩
  refine lc_term hts S E ?_
  unfold sAsg at o
  cases q : xLc fi g t f (own.map (·.2)) ρ st with
  | stuck => rw [q] at o; exact o.elim
  | err x st1 => rw [q] at o; exact fun W' H' cls dx e' S' R' => o W' H' σ cls dx e' S' (E.mono e') R'
  | ok d st1 =>
    rw [q] at o
    intro W' H' e' S' v R'
    exact o W' H' _ e' S' ((E.mono e').set R')
end
end Gm
namespace Gm
open PySem PySem.Spec PyProof.Rows L2
section
variable {L : Lw} {X : Cx} {Wx : WX} {k : Nat} {c : Fn} {x : Str} {p pos : Pos} {e : Expr} {es : List Expr} {f : Fe} {r : Fa}
def xBi (g : List D → Store → Res D) (r : Fa) : Fe := fun ρ st => (r ρ st).bind g
theorem re_bfn {id : String} {g : List D → Store → Res D} (hc : RCv L X Wx (.builtin id) g) (hg : Gl X x) (hm : X.mg x = none) (hv : bootBuiltins x = some (.builtin id)) (ha : RA L X Wx (e :: es) r) (hn : x ≠ "__name__" := by decide) (hdb : (x == ("__debug__" : Str)) = false := by decide)
    (he : starEach (e :: es) X.env = (false, eval e X.env) :: starEach es X.env := by rfl) (hpl : (backTo pos (starEach es X.env)).any (·.1) = false := by rfl) : RE L X Wx (.Call (.Name x p) (e :: es) [] pos) (xBi g r) := by
  refine ⟨fun pins s σ H W st ρ Q I S E o => ?_⟩
  refine wpAny_Call_Name_kw (ld_blt I hg hm hv ?_ hn hdb)
  exact PyProof.Rows.callWith_builtin1 (ha.bind I S E o fun ds st1 W1 H1 vs us s1 hl e1 I1 S1 R1 r1 o1 => hc pins s1 σ H1 W1 st1 ds vs us Q I1 S1 R1 r1 o1) he hpl
theorem re_bty {T : String} {g : List D → Store → Res D} (hc : RCv L X Wx (.type T) g) (hg : Gl X x) (hm : X.mg x = none) (hv : bootBuiltins x = some (.type T)) (ha : RA L X Wx (e :: es) r) (hn : x ≠ "__name__" := by decide) (hdb : (x == ("__debug__" : Str)) = false := by decide)
    (he : starEach (e :: es) X.env = (false, eval e X.env) :: starEach es X.env := by rfl) (hpl : (backTo pos (starEach es X.env)).any (·.1) = false := by rfl) : RE L X Wx (.Call (.Name x p) (e :: es) [] pos) (xBi g r) := by
  refine ⟨fun pins s σ H W st ρ Q I S E o => ?_⟩
  refine wpAny_Call_Name_kw (ld_blt I hg hm hv ?_ hn hdb)
  exact PyProof.Rows.callWith_type1 (ha.bind I S E o fun ds st1 W1 H1 vs us s1 hl e1 I1 S1 R1 r1 o1 => hc pins s1 σ H1 W1 st1 ds vs us Q I1 S1 R1 r1 o1) he hpl
/-! ### the built-ins -/
def bAbs (ds : List D) (st : Store) : Res D := match ds with | [.int i] => .ok (.int (if i < 0 then -i else i)) st | _ => .stuck
def bInt (ds : List D) (st : Store) : Res D := match ds with
  | [.int i] => .ok (.int i) st
  | [.bl b] => .ok (.int (if b then 1 else 0)) st
  | [.str a] => match PySem.intText? a with
    | some n => if a.length ≤ 640 then .ok (.int n) st else .stuck
    | none => .stuck
  | _ => .stuck
def seqOf (d : D) (st : Store) : Option (List D) := match d with
  | .tup ds => some ds
  | .ref n => match st[n]? with
    | some (.lst ds) => some ds
    | some (.rol ds) => some ds
    | _ => none
  | _ => none
def bLen (ds : List D) (st : Store) : Res D := match ds with
  | [.str x] => if x.length ≤ sizeLine then .ok (.int x.length) st else .stuck
  | [d] => match seqOf d st with
    | some xs => .ok (.int xs.length) st
    | none => .stuck
  | _ => .stuck
def bList (ds : List D) (st : Store) : Res D := match ds with
  | [d] => match seqOf d st with
    | some xs => newLst xs st
    | none => .stuck
  | _ => .stuck
def bTuple (ds : List D) (st : Store) : Res D := match ds with
  | [d] => match seqOf d st with
    | some xs => .ok (.tup xs) st
    | none => .stuck
  | _ => .stuck
def intsOf : List D → Option (List Int)
  | [] => some []
  | d :: ds => match d with
    | .int i => (intsOf ds).map (i :: ·)
    | _ => none
def blsOf : List D → Option (List Bool)
  | [] => some []
  | d :: ds => match d with
    | .bl i => (blsOf ds).map (i :: ·)
    | _ => none
def maxOf : List Int → Int
  | [] => 0
  | [i] => i
  | i :: r => max i (maxOf r)
def minOf : List Int → Int
  | [] => 0
  | [i] => i
  | i :: r => min i (minOf r)
def bMax (ds : List D) (st : Store) : Res D := match ds with
  | [.int i, .int j] => .ok (.int (if j > i then j else i)) st
  | [.ref n] => match seqOf (.ref n) st with
    | some xs => match intsOf xs with
      | some ns => if ns ≠ [] then .ok (.int (maxOf ns)) st else .stuck
      | none => .stuck
    | none => .stuck
  | _ => .stuck
def bMin (ds : List D) (st : Store) : Res D := match ds with
  | [.int i, .int j] => .ok (.int (if j < i then j else i)) st
  | [.ref n] => match seqOf (.ref n) st with
    | some xs => match intsOf xs with
      | some ns => if ns ≠ [] then .ok (.int (minOf ns)) st else .stuck
      | none => .stuck
    | none => .stuck
  | _ => .stuck
def bSum (ds : List D) (st : Store) : Res D := match ds with
  | [.ref n] => match seqOf (.ref n) st with
    | some xs => match intsOf xs with
      | some ns => .ok (.int ns.sum) st
      | none => .stuck
    | none => .stuck
  | _ => .stuck
def bAll (ds : List D) (st : Store) : Res D := match ds with
  | [.ref n] => match seqOf (.ref n) st with
    | some xs => match blsOf xs with
      | some ns => .ok (.bl (ns.all id)) st
      | none => .stuck
    | none => .stuck
  | _ => .stuck
def bAny (ds : List D) (st : Store) : Res D := match ds with
  | [.ref n] => match seqOf (.ref n) st with
    | some xs => match blsOf xs with
      | some ns => .ok (.bl (ns.any id)) st
      | none => .stuck
    | none => .stuck
  | _ => .stuck
def bStr (ds : List D) (st : Store) : Res D := match ds with | [.int i] => if i.natAbs.log2 < 1920 then .ok (.str (toString i)) st else .stuck | _ => .stuck
theorem intsOf_ok {K : PySem.W.Frag} {W : Wd} : ∀ {ds : List D} {vs : List V} {ns : List Int}, Rls K L W ds vs → intsOf ds = some ns → vs = ns.map V.int
  | [], vs, ns, R, h => by rw [Rls.nil.mp R]; cases h; rfl
  | d :: ds, vs, ns, R, h => by
    obtain ⟨v, vs', rfl, R1, R2⟩ := Rls.cons.mp R
    unfold intsOf at h
    cases d with
    | int i =>
      obtain ⟨ms, h1, rfl⟩ := Option.map_eq_some_iff.mp h
      rw [Rl.int.mp R1, intsOf_ok R2 h1]
      rfl
    | _ => cases h
theorem blsOf_ok {K : PySem.W.Frag} {W : Wd} : ∀ {ds : List D} {vs : List V} {ns : List Bool}, Rls K L W ds vs → blsOf ds = some ns → vs = ns.map V.bl
  | [], vs, ns, R, h => by rw [Rls.nil.mp R]; cases h; rfl
  | d :: ds, vs, ns, R, h => by
    obtain ⟨v, vs', rfl, R1, R2⟩ := Rls.cons.mp R
    unfold blsOf at h
    cases d with
    | bl i =>
      obtain ⟨ms, h1, rfl⟩ := Option.map_eq_some_iff.mp h
      rw [Rl.bl.mp R1, blsOf_ok R2 h1]
      rfl
    | _ => cases h
theorem seqOf_ok {K : PySem.W.Frag} {W : Wd} {st : Store} {H : Hp} {d : D} {v : V} {ds : List D} (S : Sok K L W st H) (R : Rl K L W d v) (h : seqOf d st = some ds) : ∃ a vs, v = .ref a ∧ Rls K L W ds vs ∧ ((∃ n, d = .ref n ∧ SqL K H a vs) ∨ (d = .tup ds ∧ SqT K H a vs)) := by
  cases d with
  | tup es =>
    cases h
    obtain ⟨a, vs, rfl, h1, h2⟩ := Rl.tup.mp R
    exact ⟨a, vs, rfl, h2, .inr ⟨rfl, SqT_mono S.fz h1⟩⟩
  | ref n =>
    obtain ⟨a, rfl, h1⟩ := Rl.ref.mp R
    unfold seqOf at h
    dsimp only at h
    split at h
    · rename_i es hn
      cases h
      obtain ⟨vs, q1, q2⟩ := sqL_of S h1 (.inl hn)
      exact ⟨a, vs, rfl, q2, .inl ⟨n, rfl, q1⟩⟩
    · rename_i es hn
      cases h
      obtain ⟨vs, q1, q2⟩ := sqL_of S h1 (.inr hn)
      exact ⟨a, vs, rfl, q2, .inl ⟨n, rfl, q1⟩⟩
    · cases h
  | _ => cases h
theorem rls1 {K : PySem.W.Frag} {W : Wd} {d : D} {vs : List V} (R : Rls K L W [d] vs) : ∃ v, vs = [v] ∧ Rl K L W d v := by
  obtain ⟨v, vs', rfl, R1, R2⟩ := Rls.cons.mp R
  exact ⟨v, by rw [Rls.nil.mp R2], R1⟩
theorem rls2 {K : PySem.W.Frag} {W : Wd} {d e : D} {vs : List V} (R : Rls K L W [d, e] vs) : ∃ v w, vs = [v, w] ∧ Rl K L W d v ∧ Rl K L W e w := by
  obtain ⟨v, vs', rfl, R1, R2⟩ := Rls.cons.mp R
  obtain ⟨w, rfl, R3⟩ := rls1 R2
  exact ⟨v, w, rfl, R1, R3⟩
theorem rc_abs : RCv L X Wx (.builtin "abs") bAbs := fun pins s σ H W st ds xs us Q I S R r o => by
  unfold bAbs at o
  split at o
  · rename_i i
    obtain ⟨v, rfl, R1⟩ := rls1 R
    exact call_abs pins s σ H _ us Q I r ⟨i, by rw [Rl.int.mp R1], o W H .rfl' S _ (Rl.int.mpr rfl)⟩
  · exact o.elim
theorem rc_int : RCv L X Wx (.type "int") bInt := fun pins s σ H W st ds xs us Q I S R r o => by
  unfold bInt at o
  split at o
  · rename_i i
    obtain ⟨v, rfl, R1⟩ := rls1 R
    exact call_int1 pins s σ H _ us Q I r (.inl ⟨i, by rw [Rl.int.mp R1], o W H .rfl' S _ (Rl.int.mpr rfl)⟩)
  · rename_i i
    obtain ⟨v, rfl, R1⟩ := rls1 R
    exact call_int1 pins s σ H _ us Q I r (.inr ⟨i, by rw [Rl.bl.mp R1], o W H .rfl' S _ (Rl.int.mpr rfl)⟩)
  · rename_i a
    obtain ⟨v, rfl, R1⟩ := rls1 R
    split at o
    · rename_i n hn
      split at o
      · rename_i hl
        exact call_int_str pins s σ H _ us Q I r ⟨a, n, by rw [Rl.str.mp R1], hn, hl, o W H .rfl' S _ (Rl.int.mpr rfl)⟩
      · exact o.elim
    · exact o.elim
  · exact o.elim
theorem rc_len : RCv L X Wx (.builtin "len") bLen := fun pins s σ H W st ds xs us Q I S R r o => by
  unfold bLen at o
  split at o
  · rename_i z
    obtain ⟨v, rfl, R1⟩ := rls1 R
    split at o
    · rename_i hz
      rw [Rl.str.mp R1] at r
      exact call_len pins s σ H _ us Q I r ⟨.str z, z.length, rfl, ⟨hz, rfl⟩, o W H .rfl' S _ (Rl.int.mpr rfl)⟩
    · exact o.elim
  · rename_i d _
    obtain ⟨v, rfl, R1⟩ := rls1 R
    cases hq : seqOf d st with
    | none => rw [hq] at o; exact o.elim
    | some ys =>
      rw [hq] at o
      obtain ⟨a, vs, rfl, h1, h2⟩ := seqOf_ok S R1 hq
      refine call_len pins s σ H _ us Q I r ⟨.ref a, vs.length, rfl, ?_, by rw [← h1.length]; exact o W H .rfl' S _ (Rl.int.mpr rfl)⟩
      rcases h2 with ⟨n, _, h2⟩ | ⟨_, h2⟩
      · exact .inl ⟨vs, h2, rfl⟩
      · exact .inr ⟨vs, h2, rfl⟩
  · exact o.elim
theorem rc_list : RCv L X Wx (.type "list") bList := fun pins s σ H W st ds xs us Q I S R r o => by
  unfold bList at o
  split at o
  · rename_i d
    obtain ⟨v, rfl, R1⟩ := rls1 R
    cases hq : seqOf d st with
    | none => rw [hq] at o; exact o.elim
    | some ys =>
      rw [hq] at o
      obtain ⟨a, vs, rfl, h1, h2⟩ := seqOf_ok S R1 hq
      refine call_list_of pins s σ H _ us Q I r ⟨a, vs, rfl, ?_, fun p hp => o _ _ Wd.le_more (S.ofNew hp h1) _ (Rl.newRef S)⟩
      rcases h2 with ⟨n, _, h2⟩ | ⟨_, h2⟩
      · exact .inl h2
      · exact .inr h2
  · exact o.elim
theorem rc_tuple : RCv L X Wx (.type "tuple") bTuple := fun pins s σ H W st ds xs us Q I S R r o => by
  unfold bTuple at o
  split at o
  · rename_i d
    obtain ⟨v, rfl, R1⟩ := rls1 R
    cases hq : seqOf d st with
    | none => rw [hq] at o; exact o.elim
    | some ys =>
      rw [hq] at o
      obtain ⟨a, vs, rfl, h1, h2⟩ := seqOf_ok S R1 hq
      refine call_tuple_of pins s σ H _ us Q I r ⟨a, vs, rfl, ?_⟩
      rcases h2 with ⟨n, _, h2⟩ | ⟨rfl, h2⟩
      · refine .inl ⟨h2, fun p hp => ?_⟩
        obtain ⟨e2, S2⟩ := S.alloc_fz (o := .tup vs) hp
        exact o _ _ e2 S2 _ (Rl.tup.mpr ⟨p, vs, rfl, .inl (.inl (by show upd _ _ _ _ = _; exact upd_same)), h1.mono e2⟩)
      · exact .inr ⟨h2, o W H .rfl' S _ R1⟩
  · exact o.elim
theorem maxOf_max : ∀ {ns : List Int}, ns ≠ [] → maxOf ns ∈ ns ∧ ∀ y ∈ ns, y ≤ maxOf ns
  | [], h => absurd rfl h
  | [i], _ => ⟨by simp [maxOf], by simp [maxOf]⟩
  | i :: j :: r, _ => by
    obtain ⟨h1, h2⟩ := maxOf_max (ns := j :: r) (by simp)
    unfold maxOf
    refine ⟨?_, fun y hy => ?_⟩
    · rcases Int.le_total i (maxOf (j :: r)) with h | h
      · rw [Int.max_eq_right h]; exact List.mem_cons_of_mem _ h1
      · rw [Int.max_eq_left h]; exact List.mem_cons_self ..
    · rcases List.mem_cons.mp hy with rfl | hy
      · exact Int.le_max_left _ _
      · exact Int.le_trans (h2 y hy) (Int.le_max_right _ _)
theorem minOf_min : ∀ {ns : List Int}, ns ≠ [] → minOf ns ∈ ns ∧ ∀ y ∈ ns, minOf ns ≤ y
  | [], h => absurd rfl h
  | [i], _ => ⟨by simp [minOf], by simp [minOf]⟩
  | i :: j :: r, _ => by
    obtain ⟨h1, h2⟩ := minOf_min (ns := j :: r) (by simp)
    unfold minOf
    refine ⟨?_, fun y hy => ?_⟩
    · rcases Int.le_total i (minOf (j :: r)) with h | h
      · rw [Int.min_eq_left h]; exact List.mem_cons_self ..
      · rw [Int.min_eq_right h]; exact List.mem_cons_of_mem _ h1
    · rcases List.mem_cons.mp hy with rfl | hy
      · exact Int.min_le_left _ _
      · exact Int.le_trans (Int.min_le_right _ _) (h2 y hy)
/-- a list of ints, as the library wants it -/
theorem seqInts {K : PySem.W.Frag} {W : Wd} {st : Store} {H : Hp} {n : Nat} {v : V} {ds : List D} {ns : List Int} (S : Sok K L W st H) (R : Rl K L W (.ref n) v) (h : seqOf (.ref n) st = some ds) (hn : intsOf ds = some ns) : ∃ a, v = .ref a ∧ SqL K H a (ns.map V.int) := by
  obtain ⟨a, vs, rfl, h1, h2⟩ := seqOf_ok S R h
  rcases h2 with ⟨m, _, h2⟩ | ⟨e, _⟩
  · exact ⟨a, rfl, by rw [← intsOf_ok h1 hn]; exact h2⟩
  · cases e
theorem seqBls {K : PySem.W.Frag} {W : Wd} {st : Store} {H : Hp} {n : Nat} {v : V} {ds : List D} {ns : List Bool} (S : Sok K L W st H) (R : Rl K L W (.ref n) v) (h : seqOf (.ref n) st = some ds) (hn : blsOf ds = some ns) : ∃ a, v = .ref a ∧ SqL K H a (ns.map V.bl) := by
  obtain ⟨a, vs, rfl, h1, h2⟩ := seqOf_ok S R h
  rcases h2 with ⟨m, _, h2⟩ | ⟨e, _⟩
  · exact ⟨a, rfl, by rw [← blsOf_ok h1 hn]; exact h2⟩
  · cases e
theorem rc_max (hc : X.calm = true) : RCv L X Wx (.builtin "max") bMax := fun pins s σ H W st ds xs us Q I S R r o => by
  unfold bMax at o
  split at o
  · rename_i i j
    obtain ⟨v, w, rfl, R1, R2⟩ := rls2 R
    exact call_max2 hc pins s σ H _ us Q I r ⟨i, j, by rw [Rl.int.mp R1, Rl.int.mp R2], o W H .rfl' S _ (Rl.int.mpr rfl)⟩
  · rename_i n
    obtain ⟨v, rfl, R1⟩ := rls1 R
    split at o
    · rename_i ys hy
      split at o
      · rename_i ns hns
        split at o
        · rename_i hne
          obtain ⟨a, rfl, h1⟩ := seqInts S R1 hy hns
          obtain ⟨m1, m2⟩ := maxOf_max hne
          refine cr_max hc pins s σ H _ us Q I r ⟨a, ns, rfl, h1, List.length_pos_iff.mpr hne, fun m hm hall => ?_⟩
          have : m = maxOf ns := Int.le_antisymm (m2 m hm) (hall _ m1)
          rw [this]
          exact o W H .rfl' S _ (Rl.int.mpr rfl)
        · exact o.elim
      · exact o.elim
    · exact o.elim
  · exact o.elim
theorem rc_min (hc : X.calm = true) : RCv L X Wx (.builtin "min") bMin := fun pins s σ H W st ds xs us Q I S R r o => by
  unfold bMin at o
  split at o
  · rename_i i j
    obtain ⟨v, w, rfl, R1, R2⟩ := rls2 R
    exact call_min2 hc pins s σ H _ us Q I r ⟨i, j, by rw [Rl.int.mp R1, Rl.int.mp R2], o W H .rfl' S _ (Rl.int.mpr rfl)⟩
  · rename_i n
    obtain ⟨v, rfl, R1⟩ := rls1 R
    split at o
    · rename_i ys hy
      split at o
      · rename_i ns hns
        split at o
        · rename_i hne
          obtain ⟨a, rfl, h1⟩ := seqInts S R1 hy hns
          obtain ⟨m1, m2⟩ := minOf_min hne
          refine cr_min hc pins s σ H _ us Q I r ⟨a, ns, rfl, h1, List.length_pos_iff.mpr hne, fun m hm hall => ?_⟩
          have : m = minOf ns := Int.le_antisymm (hall _ m1) (m2 m hm)
          rw [this]
          exact o W H .rfl' S _ (Rl.int.mpr rfl)
        · exact o.elim
      · exact o.elim
    · exact o.elim
  · exact o.elim
theorem rc_sum (hc : X.calm = true) : RCv L X Wx (.builtin "sum") bSum := fun pins s σ H W st ds xs us Q I S R r o => by
  unfold bSum at o
  split at o
  · rename_i n
    obtain ⟨v, rfl, R1⟩ := rls1 R
    split at o
    · rename_i ys hy
      split at o
      · rename_i ns hns
        obtain ⟨a, rfl, h1⟩ := seqInts S R1 hy hns
        exact cr_sum hc pins s σ H _ us Q I r ⟨a, ns, rfl, h1, o W H .rfl' S _ (Rl.int.mpr rfl)⟩
      · exact o.elim
    · exact o.elim
  · exact o.elim
theorem rc_all (hc : X.calm = true) : RCv L X Wx (.builtin "all") bAll := fun pins s σ H W st ds xs us Q I S R r o => by
  unfold bAll at o
  split at o
  · rename_i n
    obtain ⟨v, rfl, R1⟩ := rls1 R
    split at o
    · rename_i ys hy
      split at o
      · rename_i ns hns
        obtain ⟨a, rfl, h1⟩ := seqBls S R1 hy hns
        exact cr_all hc pins s σ H _ us Q I r ⟨a, ns, rfl, h1, o W H .rfl' S _ (Rl.bl.mpr rfl)⟩
      · exact o.elim
    · exact o.elim
  · exact o.elim
theorem rc_any (hc : X.calm = true) : RCv L X Wx (.builtin "any") bAny := fun pins s σ H W st ds xs us Q I S R r o => by
  unfold bAny at o
  split at o
  · rename_i n
    obtain ⟨v, rfl, R1⟩ := rls1 R
    split at o
    · rename_i ys hy
      split at o
      · rename_i ns hns
        obtain ⟨a, rfl, h1⟩ := seqBls S R1 hy hns
        exact cr_any hc pins s σ H _ us Q I r ⟨a, ns, rfl, h1, o W H .rfl' S _ (Rl.bl.mpr rfl)⟩
      · exact o.elim
    · exact o.elim
  · exact o.elim
theorem rc_str : RCv L X Wx (.type "str") bStr := fun pins s σ H W st ds xs us Q I S R r o => by
  unfold bStr at o
  split at o
  · rename_i i
    obtain ⟨v, rfl, R1⟩ := rls1 R
    split at o
    · rename_i hz
      exact call_str_int pins s σ H _ us Q I r ⟨i, by rw [Rl.int.mp R1], hz, o W H .rfl' S _ (Rl.str.mpr rfl)⟩
    · exact o.elim
  · exact o.elim
/-! ### isinstance -/
def kindD (d : D) (st : Store) : Option String := match d with
  | .non => some "NoneType" | .bl _ => some "bool" | .int _ => some "int" | .str _ => some "str" | .tup _ => some "tuple"
  | .ref n => match st[n]? with
    | some (.lst _) => some "list" | some (.rol _) => some "list" | some (.dic _) => some "dict" | _ => none
  | .obj _ _ => none
  | .fn _ => none
def clsD (d : D) (st : Store) : Option Nat := match d with
  | .obj i _ => some i
  | .ref n => match st[n]? with
    | some (.ins i _) => some i | _ => none
  | _ => none
def isoD (T : Ls) (j : Nat) (d : D) (st : Store) : Res D := match clsD d st with
  | some i => if T.isC i = true then .ok (.bl (T.sub i j)) st else .stuck
  | none => match kindD d st with
    | some _ => .ok (.bl false) st
    | none => .stuck
def istD (T : Ls) (t : String) (d : D) (st : Store) : Res D := match clsD d st with
  | some i => if T.isC i = true then .ok (.bl false) st else .stuck
  | none => match kindD d st with
    | some u => .ok (.bl (u == t || (u == "bool" && t == "int"))) st
    | none => .stuck
theorem kindD_in {d : D} {st : Store} {t : String} (h : kindD d st = some t) : t ∈ kinds := by
  unfold kindD at h
  split at h <;> first
    | (cases h; decide)
    | (split at h <;> first | (cases h; decide) | cases h)
    | cases h
theorem kindD_ty {K : PySem.W.Frag} {W : Wd} {st : Store} {H : Hp} {d : D} {v : V} {t : String} (S : Sok K L W st H) (R : Rl K L W d v) (h : kindD d st = some t) : TyX K H v (.type t) := by
  cases d with
  | non => cases h; rw [Rl.non.mp R]; exact .base .non
  | bl b => cases h; rw [Rl.bl.mp R]; exact .base (.bl b)
  | int b => cases h; rw [Rl.int.mp R]; exact .base (.int b)
  | str b => cases h; rw [Rl.str.mp R]; exact .base (.str b)
  | tup ds =>
    cases h
    obtain ⟨a, vs, rfl, h1, _⟩ := Rl.tup.mp R
    rcases SqT_mono S.fz h1 with (h2 | ⟨o, h2⟩) | ⟨o, its, n, q1, q2, _⟩
    · exact .base (.tup h2)
    · exact .fTuple h2
    · exact .kTuple q1 q2
  | obj _ _ => cases h
  | fn _ => cases h
  | ref n =>
    obtain ⟨a, rfl, h1⟩ := Rl.ref.mp R
    unfold kindD at h
    dsimp only at h
    split at h
    · rename_i ds hn
      cases h
      obtain ⟨vs, h2, _⟩ := S.cell n _ a hn h1
      exact .base (.lst h2)
    · rename_i ds hn
      cases h
      obtain ⟨vs, h2, _⟩ := S.cell n _ a hn h1
      rcases h2 with ⟨o, h2⟩ | ⟨o, its, m, q1, q2, _⟩
      · exact .base (.frz h2)
      · exact .kList q1 q2
    · rename_i ds hn
      cases h
      obtain ⟨vs, h2, _⟩ := S.cell n _ a hn h1
      exact .base (.dK h2)
    · cases h
theorem Gd.clsD_ty (G : Gd L X Wx k c) {W : Wd} {st : Store} {H : Hp} {d : D} {v : V} {i : Nat} (S : Sok X.K L W st H) (R : Rl X.K L W d v) (h : clsD d st = some i) (hC : L.isC i = true) : TyX X.K H v (.ref (L.cad i)) := by
  cases d with
  | obj j ds =>
    cases h
    obtain ⟨a, dx, vs, rfl, h1, _⟩ := Rl.obj.mp R
    exact .base (.ins (S.fz _ _ h1) (G.fo.cl i hC).cls (G.fo.oc i hC) G.fo.og G.fo.ot (G.fo.ob i hC))
  | ref n =>
    obtain ⟨a, rfl, h1⟩ := Rl.ref.mp R
    unfold clsD at h
    dsimp only at h
    split at h
    · rename_i j fs hn
      cases h
      obtain ⟨dx, vs, h2, _⟩ := S.cell n _ a hn h1
      exact .base (.ins h2 (G.fo.cl i hC).cls (G.fo.oc i hC) G.fo.og G.fo.ot (G.fo.ob i hC))
    · cases h
  | _ => cases h
theorem kit_pair {K : PySem.W.Frag} : ∀ t ∈ kinds, ∀ u ∈ kinds, PySem.W.kitOne K (.type u) (.type t) = some (u == t || (u == "bool" && t == "int")) := by
  intro t ht u hu
  simp only [kinds, List.mem_cons, List.not_mem_nil, or_false] at ht hu
  rcases ht with rfl | rfl | rfl | rfl | rfl | rfl | rfl <;> rcases hu with rfl | rfl | rfl | rfl | rfl | rfl | rfl <;> first | rfl | decide +kernel
def xIso (T : Ls) (j : Nat) (f : Fe) : Fe := fun ρ st => (f ρ st).bind fun d st => isoD T j d st
def xIst (T : Ls) (t : String) (f : Fe) : Fe := fun ρ st => (f ρ st).bind fun d st => istD T t d st
theorem re_iso {j : Nat} {y : Str} {p2 : Pos} (G : Gd L X Wx k c) (hj : L.isC j = true) (he : RE L X Wx e f) (hg : Gl X "isinstance") (hm : X.mg "isinstance" = none) (hy : Gl X y) (hym : X.mg y = some (.ref (L.cad j))) (hyd : (y == ("__debug__" : Str)) = false := by decide)
    (hs : starEach [e, .Name y p2] X.env = (false, eval e X.env) :: starEach [.Name y p2] X.env := by rfl) (hpl : (backTo pos (starEach [.Name y p2] X.env)).any (·.1) = false := by rfl) (hs2 : starEach [.Name y p2] X.env = (false, eval (.Name y p2) X.env) :: starEach [] X.env := by rfl) :
    RE L X Wx (.Call (.Name "isinstance" p) [e, .Name y p2] [] pos) (xIso L.toLs j f) := by
  have pc : PE X (.Name y p2) (tC (.ref (L.cad j))) := ⟨fun pins s σ H Q I h => ld_glob I hy hym ⟨.ref (L.cad j), H, I, rfl, h⟩ hyd⟩
  refine RE.of_pe (pe_callB call_isi hg hm PyProof.Rows.boot_isinstance (pa_cons he.pe (pa_cons pc pa_nil hs2) hs) (by decide) (by decide) hs hpl) fun σ H W st ρ Q S E o => ?_
  refine ⟨W, st, ρ, S, E, Out.toE o fun d st1 W1 H1 v hr e1 S1 R1 o1 => ?_⟩
  show rIsi X.K [v, V.ref (L.cad j)] H1 Q
  unfold isoD at o1
  split at o1
  · rename_i i hi
    split at o1
    · rename_i hC
      exact ⟨v, _, _, _, _, rfl, .own _, G.clsD_ty S1 R1 hi hC, G.fo.ko i j hC hj, o1 W1 H1 .rfl' S1 _ (Rl.bl.mpr rfl)⟩
    · exact o1.elim
  · split at o1
    · rename_i t ht
      exact ⟨v, _, _, _, _, rfl, .own _, kindD_ty S1 R1 ht, G.fo.kt j t hj (kindD_in ht), o1 W1 H1 .rfl' S1 _ (Rl.bl.mpr rfl)⟩
    · exact o1.elim
theorem re_ist {t : String} {y : Str} {p2 : Pos} (G : Gd L X Wx k c) (htk : t ∈ kinds) (he : RE L X Wx e f) (hg : Gl X "isinstance") (hm : X.mg "isinstance" = none) (hy : Gl X y) (hym : X.mg y = none) (hv : bootBuiltins y = some (.type t)) (hyn : y ≠ "__name__" := by decide) (hyd : (y == ("__debug__" : Str)) = false := by decide)
    (hs : starEach [e, .Name y p2] X.env = (false, eval e X.env) :: starEach [.Name y p2] X.env := by rfl) (hpl : (backTo pos (starEach [.Name y p2] X.env)).any (·.1) = false := by rfl) (hs2 : starEach [.Name y p2] X.env = (false, eval (.Name y p2) X.env) :: starEach [] X.env := by rfl) :
    RE L X Wx (.Call (.Name "isinstance" p) [e, .Name y p2] [] pos) (xIst L.toLs t f) := by
  have pc : PE X (.Name y p2) (tC (.ty t)) := ⟨fun pins s σ H Q I h => ld_blt I hy hym hv ⟨.ty t, H, I, rfl, h⟩ hyn hyd⟩
  refine RE.of_pe (pe_callB call_isi hg hm PyProof.Rows.boot_isinstance (pa_cons he.pe (pa_cons pc pa_nil hs2) hs) (by decide) (by decide) hs hpl) fun σ H W st ρ Q S E o => ?_
  refine ⟨W, st, ρ, S, E, Out.toE o fun d st1 W1 H1 v hr e1 S1 R1 o1 => ?_⟩
  show rIsi X.K [v, V.ty t] H1 Q
  unfold istD at o1
  split at o1
  · rename_i i hi
    split at o1
    · rename_i hC
      exact ⟨v, _, _, _, _, rfl, .ty t, G.clsD_ty S1 R1 hi hC, G.fo.kb i t hC htk, o1 W1 H1 .rfl' S1 _ (Rl.bl.mpr rfl)⟩
    · exact o1.elim
  · split at o1
    · rename_i u hu
      exact ⟨v, _, _, _, _, rfl, .ty t, kindD_ty S1 R1 hu, kit_pair t htk u (kindD_in hu), o1 W1 H1 .rfl' S1 _ (Rl.bl.mpr rfl)⟩
    · exact o1.elim
end
end Gm
namespace Gm
open PySem PySem.Spec PyProof.Rows L2
section
variable {L : Lw} {X : Cx} {Wx : WX} {k : Nat} {c : Fn} {x : Str} {p pos : Pos} {e o a b : Expr} {es : List Expr} {f h : Fe} {r : Fa}
/-! ### subscripts -/
def keyOf : D → Option Key
  | .int i => some (.inl i)
  | .str z => some (.inr z)
  | _ => none
def valC (kvs : List (Key × D)) (k : Key) : Option D := match kvs with
  | [] => none
  | (j, d) :: r => if j = k then some d else valC r k
def putKC (kvs : List (Key × D)) (k : Key) (d : D) : List (Key × D) := match kvs with
  | [] => [(k, d)]
  | (j, e) :: r => if j = k then (j, d) :: r else (j, e) :: putKC r k d
def ndK (kvs : List (Key × D)) : Prop := (kvs.map (·.1)).Nodup
def optR (o : Option D) (st : Store) : Res D := match o with
  | some d => .ok d st
  | none => .stuck
def subD (d1 d2 : D) (st : Store) : Res D := match d1 with
  | .tup ds => match d2 with
    | .int i => optR (atI ds i) st
    | _ => .stuck
  | .ref n => match st[n]? with
    | some (.lst ds) => match d2 with
      | .int i => optR (atI ds i) st
      | _ => .stuck
    | some (.rol ds) => match d2 with
      | .int i => optR (atI ds i) st
      | _ => .stuck
    | some (.dic kvs) => match keyOf d2 with
      | some key => optR (valC kvs key) st
      | none => .stuck
    | _ => .stuck
  | _ => .stuck
theorem atI_rls {K : PySem.W.Frag} {W : Wd} {ds : List D} {vs : List V} {i : Int} {d : D} (R : Rls K L W ds vs) (h : atI ds i = some d) : ∃ v, atI vs i = some v ∧ Rl K L W d v := by
  unfold atI at h ⊢
  rw [← R.length]
  cases q : ixN ds.length i with
  | none => rw [q] at h; cases h
  | some j =>
    rw [q] at h
    exact R.get h
theorem keyOf_ok {K : PySem.W.Frag} {W : Wd} {d : D} {v : V} {key : Key} (R : Rl K L W d v) (h : keyOf d = some key) : v = kV key := by
  cases d with
  | int i => cases h; exact Rl.int.mp R
  | str i => cases h; exact Rl.str.mp R
  | _ => cases h
theorem valC_ok {K : PySem.W.Frag} {W : Wd} {kvs : List (Key × D)} {vs : List (Key × V)} {key : Key} {d : D} (R : RKv K L W kvs vs) (h : valC kvs key = some d) : ∃ v, valV vs key = some v ∧ Rl K L W d v := by
  induction R with
  | nil => cases h
  | @cons j e v ds us r _ ih =>
    unfold valC at h
    by_cases hj : j = key
    · rw [if_pos hj] at h
      cases h
      exact ⟨v, valV_pos hj, r⟩
    · rw [if_neg hj] at h
      obtain ⟨u, h1, h2⟩ := ih h
      refine ⟨u, ?_, h2⟩
      unfold valV at h1 ⊢
      rw [List.find?_cons]
      simp only [hj, decide_false]
      exact h1
theorem ix_dictv (hu : X.A.units + 1 < cLine) : IxR X (fun x y H Q => ∃ a v, x = .ref a ∧ DGet H a y (some v) ∧ Q v H) := by
  intro value slice pins s σ H x y v u Q I rx ry hh hs
  obtain ⟨a, w, rfl, g, q⟩ := hh
  cases rx
  have hT := dict_typeIs I g
  have h2 : wpAny (model X.prog X.w) X.A (getItem (.ref a) u) (EP X pins σ Q) X.xe s := d_getItem hu I g ry fun w' s3 I3 rw' => ⟨w, H, I3, rw', q⟩
  unfold subscriptTail
  refine wpAny_bind ?_
  rw [getitemInPython_of_ne hT.not_modules]
  refine wpAny_bind (wpAny_specialOf hT PySem.F.slot_dict_getitem.lookup ?_)
  have fin : wpAny (model X.prog X.w) X.A (subscripted slice false (.ref a) u) (fun r s₃ => wpAny (model X.prog X.w) X.A (letTemporaryGo value (.ref a) r >>= fun _ => pure r) (EP X pins σ Q) X.xe s₃) X.xe s := by
    rw [hs]
    exact wpAny_operating (wpAny_mono h2 (fun r s₃ h₃ => wpAny_bind (wpAny_letTemporaryGo (wpAny_pure h₃))) fun _ _ x => x)
  first
    | exact wpAny_pure (wpAny_bind fin)
    | exact wpAny_bind (wpAny_pure (wpAny_bind fin))
    | exact wpAny_bind fin
theorem re_ix (G : Gd L X Wx k c) (ha : RE L X Wx a f) (hb : RE L X Wx b h) (hs : PlainIx b := by intro _ _; rfl) : RE L X Wx (.Subscript a b pos) (xBin subD f h) := by
  refine ⟨fun pins s σ H W st ρ Q I S E o => ?_⟩
  refine Subscript_ (binRun (F := fun v u => subscriptTail a b v u) (g := subD) ha hb I S E o fun d1 d2 st2 W2 H2 x y v u s2 _ I2 S2 R1 R2 r1 r2 o2 => ?_)
  have hu : X.A.units + 1 < cLine := by have := G.room.units; omega
  have seq : ∀ a' vs ds, x = .ref a' → Rls X.K L W2 ds vs → (SqL X.K H2 a' vs ∨ SqT X.K H2 a' vs) → ∀ i, d2 = .int i → Out X.K L Wx W2 σ (okE X.K L Q) (optR (atI ds i) st2) → wpAny (model X.prog X.w) X.A (subscriptTail a b v u) (EP X pins σ Q) X.xe s2 := fun a' vs ds ex R hq i ed o => by
    subst ex; subst ed
    cases hat : atI ds i with
    | none => rw [hat] at o; exact o.elim
    | some d =>
      rw [hat] at o
      obtain ⟨w, h1, h2⟩ := atI_rls R hat
      have hy := Rl.int.mp R2
      rcases hq with hq | hq
      · exact ix_list a b pins s2 σ H2 _ y v u Q I2 r1 r2 ⟨a', vs, i, w, rfl, hy, hq, h1, o W2 H2 .rfl' S2 w h2⟩ (hs _ _)
      · exact ix_tup a b pins s2 σ H2 _ y v u Q I2 r1 r2 ⟨a', vs, i, w, rfl, hy, hq, h1, o W2 H2 .rfl' S2 w h2⟩ (hs _ _)
  unfold subD at o2
  split at o2
  · rename_i ds
    obtain ⟨a', vs, rfl, h1, h2⟩ := Rl.tup.mp R1
    split at o2
    · rename_i i
      exact seq a' vs ds rfl h2 (.inr (SqT_mono S2.fz h1)) i rfl o2
    · exact o2.elim
  · rename_i n
    obtain ⟨a', rfl, h1⟩ := Rl.ref.mp R1
    split at o2
    · rename_i ds hn
      obtain ⟨vs, q1, q2⟩ := sqL_of S2 h1 (.inl hn)
      split at o2
      · rename_i i
        exact seq a' vs ds rfl q2 (.inl q1) i rfl o2
      · exact o2.elim
    · rename_i ds hn
      obtain ⟨vs, q1, q2⟩ := sqL_of S2 h1 (.inr hn)
      split at o2
      · rename_i i
        exact seq a' vs ds rfl q2 (.inl q1) i rfl o2
      · exact o2.elim
    · rename_i kvs hn
      obtain ⟨vs, q1, q2⟩ := S2.cell n _ a' hn h1
      split at o2
      · rename_i key hk
        cases hv : valC kvs key with
        | none => rw [hv] at o2; exact o2.elim
        | some d =>
          rw [hv] at o2
          obtain ⟨w, h3, h4⟩ := valC_ok q2 hv
          have hy := keyOf_ok R2 hk
          subst hy
          refine ix_dictv hu a b pins s2 σ H2 _ _ v u Q I2 r1 r2 ⟨a', w, rfl, ?_, o2 W2 H2 .rfl' S2 w h4⟩ (hs _ _)
          rw [← h3]
          exact DGet.k q1
      · exact o2.elim
    · exact o2.elim
  · exact o2.elim
/-! ### d[k] = v, l[i] = v -/
open Classical in
noncomputable def putD (o i d : D) (st : Store) : Res Store := match o with
  | .ref n => match st[n]? with
    | some (.dic kvs) => match keyOf i with
      | some key => if kvs.length < sizeLine ∧ ndK kvs then .ok (st.set n (.dic (putKC kvs key d))) st else .stuck
      | none => .stuck
    | some (.lst ds) => match i with
      | .int j => match ixN ds.length j with
        | some m => .ok (st.set n (.lst (ds.set m d))) st
        | none => .stuck
      | _ => .stuck
    | _ => .stuck
  | _ => .stuck
noncomputable def sPut (fo fi fv : Fe) : Fs := fun ρ st => (fv ρ st).toS ρ fun d st => (fo ρ st).toS ρ fun o st => (fi ρ st).toS ρ fun i st => match putD o i d st with
  | .ok st' _ => .nx ρ st'
  | _ => .stuck
theorem RKv.keys {K : PySem.W.Frag} {W : Wd} {kvs : List (Key × D)} {vs : List (Key × V)} (R : RKv K L W kvs vs) : vs.map (·.1) = kvs.map (·.1) := by
  induction R with
  | nil => rfl
  | cons _ _ ih => rw [List.map_cons, List.map_cons, ih]
theorem putKC_ok {K : PySem.W.Frag} {W : Wd} {kvs : List (Key × D)} {vs : List (Key × V)} {key : Key} {d : D} {v : V} (R : RKv K L W kvs vs) (hn : ndK kvs) (Rv : Rl K L W d v) : RKv K L W (putKC kvs key d) (putK vs key v) := by
  induction R with
  | nil => exact .cons Rv .nil
  | @cons j e u ds us r rest ih =>
    have hn' : j ∉ ds.map (·.1) ∧ ndK ds := by
      have := List.nodup_cons.mp (show (j :: ds.map (·.1)).Nodup from hn)
      exact ⟨this.1, this.2⟩
    unfold putKC
    by_cases hj : j = key
    · subst hj
      rw [if_pos rfl]
      unfold putK
      have h1 : ((j, u) :: us).any (fun kv => decide (kv.1 = j)) = true := by simp
      rw [if_pos h1, List.map_cons, if_pos rfl]
      have h2 : us.map (fun kv => if kv.1 = j then (kv.1, v) else kv) = us := by
        have h3 : us.map (fun kv => if kv.1 = j then (kv.1, v) else kv) = us.map id := List.map_congr_left fun kv hk => if_neg fun e => hn'.1 (by
          rw [← rest.keys, ← e]
          exact List.mem_map.mpr ⟨kv, hk, rfl⟩)
        rw [h3, List.map_id]
      rw [h2]
      exact .cons Rv rest
    · rw [if_neg hj]
      have ih' := ih hn'.2
      unfold putK at ih' ⊢
      have h1 : ((j, u) :: us).any (fun kv => decide (kv.1 = key)) = us.any (fun kv => decide (kv.1 = key)) := by simp [hj]
      rw [h1]
      split
      · rename_i h2
        rw [if_pos h2] at ih'
        rw [List.map_cons, if_neg hj]
        exact .cons r ih'
      · rename_i h2
        rw [if_neg h2] at ih'
        exact .cons r ih'
theorem rls_set {K : PySem.W.Frag} {W : Wd} {d : D} {v : V} (Rv : Rl K L W d v) : ∀ {ds : List D} {vs : List V} (j : Nat), Rls K L W ds vs → Rls K L W (ds.set j d) (vs.set j v)
  | [], vs, j, R => by rw [Rls.nil.mp R]; exact Rls.nil.mpr rfl
  | e :: ds, vs, 0, R => by
    obtain ⟨u, vs', rfl, _, R2⟩ := Rls.cons.mp R
    exact Rls.mk Rv R2
  | e :: ds, vs, j + 1, R => by
    obtain ⟨u, vs', rfl, R1, R2⟩ := Rls.cons.mp R
    exact Rls.mk R1 (rls_set Rv j R2)
theorem rs_sput {fo fi fv : Fe} {i value : Expr} {pos' : Pos} (G : Gd L X Wx k c) (ho : RE L X Wx o fo) (hi : RE L X Wx i fi) (hv : RE L X Wx value fv) (hs : swapsWith value (some (.Subscript o i pos')) pos.line X.env = pure false := by rfl) :
    RS L X Wx (.Assign [.Subscript o i pos'] value pos) (sPut fo fi fv) := by
  refine ⟨fun pins s σ H W sto ρ D I S E oo => ?_⟩
  have hu : X.A.units + 1 < cLine := by have := G.room.units; omega
  refine wpAny_Assign_Subscript (hv.bindS I S E oo fun d st1 W1 H1 v u s1 e1 I1 S1 R1 r1 o1 => ho.bindS I1 S1 (E.mono e1) o1 fun od st2 W2 H2 x ov s2 e2 I2 S2 R2 r2 o2 => hi.bindS I2 S2 (E.mono (e1.trans e2)) o2 fun iD st3 W3 H3 y iv s3 e3 I3 S3 R3 r3 o3 => ?_) hs
  have Rd := R1.mono (e2.trans e3)
  have Ro := R2.mono e3
  have E3 := E.mono (e1.trans (e2.trans e3))
  unfold putD at o3
  split at o3
  · rename_i st' _ hq
    split at hq
    · rename_i n
      obtain ⟨a', rfl, h1⟩ := Rl.ref.mp Ro
      obtain rfl : ov = Value.ref a' := r2
      split at hq
      · rename_i kvs hn
        split at hq
        · rename_i key hk
          split at hq
          · rename_i hc
            cases hq
            obtain ⟨vs, q1, q2⟩ := S3.cell n _ a' hn h1
            have hy := keyOf_ok R3 hk
            subst hy
            have hl : vs.length < sizeLine := by
              have := congrArg List.length q2.keys
              rw [List.length_map, List.length_map] at this
              rw [this]; exact hc.1
            exact d_setItem hu I3 (DPut.k q1 hl) r3 r1 fun s4 I4 => ⟨σ, _, I4, o3 W3 _ σ .rfl' (S3.write hn rfl h1 ⟨_, upd_same, putKC_ok q2 hc.2 Rd⟩) E3⟩
          · cases hq
        · cases hq
      · rename_i ds hn
        split at hq
        · rename_i j
          split at hq
          · rename_i m hm
            cases hq
            obtain ⟨vs, q1, q2⟩ := S3.cell n _ a' hn h1
            refine thn (set_list pins s3 σ H3 (.ref a') y v (.ref a') iv u (fun H' => H' = upd H3 a' (.lst (vs.set m v))) I3 rfl r3 r1 ⟨a', vs, j, m, rfl, Rl.int.mp R3, q1, by rw [← q2.length]; exact hm, rfl⟩) fun _ s4 ⟨H4, I4, e4⟩ => ?_
            subst e4
            exact ⟨σ, _, I4, o3 W3 _ σ .rfl' (S3.write hn rfl h1 ⟨_, upd_same, rls_set Rd m q2⟩) E3⟩
          · cases hq
        · cases hq
      · cases hq
    · cases hq
  · exact o3.elim
/-! ### dict displays with keys that are written texts -/
open Classical in
noncomputable def xDic (ks : List Str) (r : Fa) : Fe := fun ρ st => (r ρ (st ++ [.dic []])).bind fun ds st' => match st'[st.length]? with
  | some (.dic []) => if ds.length = ks.length ∧ ks.Nodup then .ok (.ref st.length) (st'.set st.length (.dic ((ks.map Sum.inr).zip ds))) else .stuck
  | _ => .stuck
/-- keys and values, one pair after another -/
inductive RPs (L : Lw) (X : Cx) (Wx : WX) : List Str → List (Option Expr) → List Expr → Fa → Prop where
  | nil : RPs L X Wx [] [] [] aNil
  | cons {z : Str} {j : Nat} {kp : Pos} {v : Expr} {ks : List Str} {kes : List (Option Expr)} {ves : List Expr} {f : Fe} {r : Fa} : RE L X Wx v f → RPs L X Wx ks kes ves r → RPs L X Wx (z :: ks) (some (.Constant (.str z) j kp) :: kes) (v :: ves) (aCons f r)
theorem RPs.shape {ks : List Str} {kes : List (Option Expr)} {ves : List Expr} {r : Fa} (h : RPs L X Wx ks kes ves r) : kes.all (·.isSome) = true ∧ kes.length = ves.length ∧ kes.length = ks.length := by
  induction h with
  | nil => exact ⟨rfl, rfl, rfl⟩
  | cons _ _ ih => exact ⟨by rw [List.all_cons, ih.1]; rfl, by rw [List.length_cons, List.length_cons, ih.2.1], by rw [List.length_cons, List.length_cons, ih.2.2]⟩
def prsOf (L : Lw) (K : PySem.W.Frag) (Wx : WX) : List Str → List Fe → List (TE × TE)
  | z :: ks, f :: fs => (tC (.str z), teOf L K Wx f) :: prsOf L K Wx ks fs
  | _, _ => []
theorem RPs.pps {ks : List Str} {kes : List (Option Expr)} {ves : List Expr} {r : Fa} (h : RPs L X Wx ks kes ves r) : ∃ fs : List Fe, fs.length = ks.length ∧ PPs X pos kes ves (prsOf L X.K Wx ks fs) ∧ r = fs.foldr aCons aNil := by
  induction h with
  | nil => exact ⟨[], rfl, pps_nil, rfl⟩
  | @cons z j kp v ks kes ves f r hf _ ih =>
    obtain ⟨fs, h1, h2, h3⟩ := ih
    exact ⟨f :: fs, by rw [List.length_cons, List.length_cons, h1], pps_cons pe_str hf.pe h2, by rw [List.foldr_cons, h3]⟩
theorem aCons_eq (f : Fe) (r : Fa) (ρ : Ev) (st : Store) : aCons f r ρ st = (f ρ st).bind fun a st => (r ρ st).bind fun l st => .ok (a :: l) st := rfl
theorem zip_kV : ∀ (ks : List Str) (vs : List V), (ks.map V.str).zip vs = ((ks.map (Sum.inr : Str → Key)).zip vs).map fun kv => (kV kv.1, kv.2)
  | [], vs => rfl
  | z :: ks, [] => rfl
  | z :: ks, v :: vs => by
    rw [List.map_cons, List.map_cons, List.zip_cons_cons, List.zip_cons_cons, List.map_cons, zip_kV ks vs]
    rfl
theorem prs_run {σ : St} : ∀ {ks : List Str} {fs : List Fe} {H : Hp} {W : Wd} {st : Store} {ρ : Ev} {Q : List (V × V) → Hp → Prop}, fs.length = ks.length → Sok X.K L W st H → EnR X.K L W σ ρ →
    Out X.K L Wx W σ (okA X.K L fun vs H' => ∃ ps, ps = (ks.map V.str).zip vs ∧ Q ps H') ((fs.foldr aCons aNil) ρ st) → tPairs (prsOf L X.K Wx ks fs) σ H Q
  | [], [], H, W, st, ρ, Q, _, S, E, o => by
    obtain ⟨ps, rfl, q⟩ := o W H .rfl' S [] (Rls.nil.mpr rfl)
    exact q
  | z :: ks, f :: fs, H, W, st, ρ, Q, hl, S, E, o => by
    refine ⟨W, st, ρ, S, E, ?_⟩
    rw [List.foldr_cons, aCons_eq] at o
    refine Out.toE o fun d st1 W1 H1 v hr e1 S1 R1 o1 => ?_
    refine prs_run (by simpa using hl) S1 (E.mono e1) ?_
    generalize (fs.foldr aCons aNil) ρ st1 = r1 at o1 ⊢
    cases r1 with
    | stuck => exact o1
    | err x s2 => exact o1
    | ok l s2 =>
      intro W' H' e' S' vs R'
      obtain ⟨ps, e2, q⟩ := o1 W' H' e' S' (v :: vs) (Rls.mk (R1.mono e') R')
      exact ⟨_, rfl, by subst e2; exact q⟩
theorem merge_id {vs : List V} : ∀ {ks : List Str} {acc : List (Key × V)}, (∀ z ∈ ks, ∀ p ∈ acc, p.1 ≠ Sum.inr z) → ks.Nodup → vs.length = ks.length → mergeK acc ((ks.map Sum.inr).zip vs) = acc ++ (ks.map Sum.inr).zip vs := by
  induction vs with
  | nil =>
    intro ks acc _ _ hl
    cases ks with
    | nil => simp [mergeK]
    | cons _ _ => cases hl
  | cons v vs ih =>
    intro ks acc hd hn hl
    cases ks with
    | nil => cases hl
    | cons z ks =>
      have hn' := List.nodup_cons.mp hn
      have h1 : putK acc (Sum.inr z : Key) v = acc ++ [((Sum.inr z : Key), v)] := by
        unfold putK
        rw [if_neg]
        intro h
        rw [List.any_eq_true] at h
        obtain ⟨p, hp, hq⟩ := h
        exact hd z (List.mem_cons_self ..) p hp (of_decide_eq_true hq)
      show mergeK (putK acc (Sum.inr z) v) ((ks.map Sum.inr).zip vs) = acc ++ ((Sum.inr z, v) :: (ks.map Sum.inr).zip vs)
      rw [h1, ih (ks := ks) (fun y hy p hp => ?_) hn'.2 (by simpa using hl)]
      · simp
      · rcases List.mem_append.mp hp with hp | hp
        · exact hd y (List.mem_cons_of_mem _ hy) p hp
        · rcases List.mem_singleton.mp hp with rfl
          intro e
          cases e
          exact hn'.1 hy
theorem rkv_zip {K : PySem.W.Frag} {W : Wd} : ∀ {ks : List Key} {ds : List D} {vs : List V}, Rls K L W ds vs → RKv K L W (ks.zip ds) (ks.zip vs)
  | [], ds, vs, R => .nil
  | k :: ks, [], vs, R => by rw [Rls.nil.mp R]; exact .nil
  | k :: ks, d :: ds, vs, R => by
    obtain ⟨v, vs', rfl, R1, R2⟩ := Rls.cons.mp R
    exact .cons R1 (rkv_zip R2)
theorem re_dic {ks : List Str} {kes : List (Option Expr)} {ves : List Expr} {r : Fa} (h : RPs L X Wx ks kes ves r) (h0 : kes ≠ []) (h15 : kes.length ≤ 15) : RE L X Wx (.Dict kes ves pos) (xDic ks r) := by
  obtain ⟨s1, s2, s3⟩ := h.shape
  obtain ⟨fs, l1, hp, rfl⟩ := h.pps (pos := pos)
  refine RE.of_pe (pe_disp hp s1 s2 h0 h15) fun σ H W st ρ Q S E o => ?_
  intro D0 hD
  have S1 : Sok X.K L (W.more D0) (st ++ [.dic []]) (upd H D0 (.dK [])) := S.alloc hD ⟨[], upd_same, .nil⟩
  have ioD : (W.more D0).io[st.length]? = some D0 := by
    show (W.io ++ [D0])[st.length]? = _
    rw [S.len, List.getElem?_concat_length]
  refine prs_run l1 S1 (E.mono Wd.le_more) ?_
  unfold xDic at o
  have o' := Out.mono (Wd.le_more (a := D0)) o
  generalize (fs.foldr aCons aNil) ρ (st ++ [.dic []]) = r1 at o' ⊢
  cases r1 with
  | stuck => exact o'
  | err x s2 => exact o'
  | ok ds st' =>
    intro W' H' e' S' vs R'
    have o2 := Out.mono e' o'
    rw [Res.bind_ok] at o2
    split at o2
    · rename_i hn
      split at o2
      · rename_i hc
        have ioD' := e'.2 _ _ ioD
        obtain ⟨us, q1, q2⟩ := S'.cell _ _ D0 hn ioD'
        cases q2
        have hlv : vs.length = ks.length := by rw [← R'.length]; exact hc.1
        have hm := merge_id (vs := vs) (ks := ks) (acc := []) (fun _ _ p hp => by cases hp) hc.2 hlv
        refine ⟨_, rfl, q1, (ks.map Sum.inr).zip vs, zip_kV ks vs, ?_, ?_⟩
        · rw [List.length_zip, List.length_map]
          have := Nat.min_le_left ks.length vs.length
          omega
        · rw [hm, List.nil_append]
          exact o2 W' _ .rfl' (S'.write hn rfl ioD' ⟨_, upd_same, rkv_zip R'⟩) _ (Rl.ref.mpr ⟨D0, rfl, ioD'⟩)
      · exact o2.elim
    · exact o2.elim
end
end Gm
namespace Gm
open PySem PySem.Spec PyProof.Rows L2
section
variable {L : Lw} {X : Cx} {Wx : WX} {k : Nat} {c : Fn} {x : Str} {p pos apos : Pos} {e o a b fe : Expr} {es : List Expr} {f h : Fe} {r : Fa}
/-! ### l.append(v) -/
def appD (o d : D) (st : Store) : Res D := match o with
  | .ref n => match st[n]? with
    | some (.lst ds) => if ds.length < sizeLine then .ok .non (st.set n (.lst (ds ++ [d]))) else .stuck
    | _ => .stuck
  | _ => .stuck
/-- the receiver must be a list before its argument is made, and be one still -/
def xApp (fo fd : Fe) : Fe := fun ρ st => (fo ρ st).bind fun o st => match o with
  | .ref n => match st[n]? with
    | some (.lst _) => (fd ρ st).bind fun d st => appD o d st
    | _ => .stuck
  | _ => .stuck
theorem re_app {fo fd : Fe} (ho : RE L X Wx o fo) (hd : RE L X Wx e fd) (hbase : attributeBase o "append" X.env (eval o X.env) = eval o X.env := by rfl)
    (hfew : ((backTo pos (starEach (e :: []) X.env)).all (fun x => !x.1) && (backToKw pos (keywordEach [] X.env)).all (fun x => x.1.isSome)
      && decide ((e :: []).length + ([] : List Keyword).length + (if ([] : List Keyword).isEmpty then 0 else 1) < 30)) = true := by rfl)
    (hline : (apos.endLine == pos.line) = true := by rfl) (hs : starEach (e :: []) X.env = (false, eval e X.env) :: starEach [] X.env := by rfl) (hplain : (backTo pos (starEach [] X.env)).any (·.1) = false := by rfl) :
    RE L X Wx (.Call (.Attribute o "append" apos) [e] [] pos) (xApp fo fd) := by
  refine RE.of_pe (pe_bm PySem.F.plainAttrs_list PySem.F.slot_list_append PySem.F.type_list_append mt_append ho.pe (pa_cons hd.pe pa_nil hs) hbase hfew hline hs hplain) fun σ H W st ρ Q S E oo => ?_
  refine ⟨W, st, ρ, S, E, Out.toE oo fun od st1 W1 H1 v hr e1 S1 R1 o1 => ?_⟩
  cases od with
  | ref n =>
    obtain ⟨a', rfl, h1⟩ := Rl.ref.mp R1
    dsimp only at o1
    split at o1
    · rename_i ds hn
      obtain ⟨vs, q1, q2⟩ := S1.cell n _ a' hn h1
      refine ⟨.inl ⟨rfl, vs, .inl (.inl q1)⟩, W1, st1, ρ, S1, E.mono e1, Out.toE o1 fun d st2 W2 H2 u hr2 e2 S2 R2 o2 => ?_⟩
      unfold appD at o2
      dsimp only at o2
      split at o2
      · rename_i ds2 hn2
        split at o2
        · rename_i hz
          have h2 := e2.2 _ _ h1
          obtain ⟨ws, q3, q4⟩ := S2.cell n _ a' hn2 h2
          refine ⟨a', ws, u, rfl, rfl, q3, by rw [← q4.length]; exact hz, ?_⟩
          exact o2 W2 _ .rfl' (S2.write hn2 rfl h2 ⟨ws ++ [u], upd_same, q4.append (Rls.mk R2 (Rls.nil.mpr rfl))⟩) _ (Rl.non.mpr rfl)
        · exact o2.elim
      · exact o2.elim
    · exact o1.elim
  | _ => exact o1.elim
/-! ### slices -/
abbrev Fo := Ev → Store → Res (Option Int)
def oNo : Fo := fun _ st => .ok none st
def oSo (f : Fe) : Fo := fun ρ st => (f ρ st).bind fun d st => match d with
  | .int i => .ok (some i) st
  | _ => .stuck
def cutD (xs : List D) (lo hi : Option Int) : List D := (xs.drop (HT.sIx xs.length 0 lo)).take (HT.sIx xs.length xs.length hi - HT.sIx xs.length 0 lo)
def sliD (d : D) (lo hi : Option Int) (st : Store) : Res D := match d with
  | .tup xs => if HT.sIx xs.length 0 lo = 0 ∧ HT.sIx xs.length xs.length hi = xs.length then .stuck else .ok (.tup (cutD xs lo hi)) st
  | .ref n => match st[n]? with
    | some (.lst xs) => newLst (cutD xs lo hi) st
    | some (.rol xs) => newLst (cutD xs lo hi) st
    | _ => .stuck
  | _ => .stuck
def xSl (f : Fe) (lo hi : Fo) : Fe := fun ρ st => (f ρ st).bind fun d st => (lo ρ st).bind fun l st => (hi ρ st).bind fun u st => sliD d l u st
def toOf (L : Lw) (K : PySem.W.Frag) (Wx : WX) (f : Fo) : TO := fun σ H Q => ∃ W st ρ, Sok K L W st H ∧ EnR K L W σ ρ ∧ Out K L Wx W σ (fun _ H' o => Q o H') (f ρ st)
structure RO (L : Lw) (X : Cx) (Wx : WX) (e : Option Expr) (f : Fo) : Prop where
  po : PO X e (toOf L X.K Wx f)
theorem ro_no : RO L X Wx none oNo := ⟨⟨fun pins s σ H Q I ⟨W, st, ρ, S, E, o⟩ => po_none.run pins s σ H Q I (o W H .rfl' S)⟩⟩
theorem ro_so (he : RE L X Wx e f) : RO L X Wx (some e) (oSo f) := ⟨⟨fun pins s σ H Q I ⟨W, st, ρ, S, E, o⟩ => (po_some he.pe).run pins s σ H Q I ⟨W, st, ρ, S, E, Out.toE o fun d st1 W1 H1 v hr e1 S1 R1 o1 => by
  cases d with
  | int i => exact ⟨i, Rl.int.mp R1, o1 W1 H1 .rfl' S1⟩
  | _ => exact o1.elim⟩⟩⟩
theorem Out.toO {W : Wd} {σ : St} {β : Type} {Ok : Wd → Hp → β → Prop} {r : Res (Option Int)} {kk : Option Int → Store → Res β} {Q : Option Int → Hp → Prop} {K : PySem.W.Frag} (o : Out K L Wx W σ Ok (r.bind kk)) (h : ∀ d st1 W1 H1, r = .ok d st1 → W.le W1 → Sok K L W1 st1 H1 → Out K L Wx W1 σ Ok (kk d st1) → Q d H1) : Out K L Wx W σ (fun _ H' o => Q o H') r := by
  cases r with
  | ok d st1 => exact fun W' H' e' S' => h d st1 W' H' rfl e' S' (Out.mono e' o)
  | err x st1 => exact o
  | stuck => exact o
theorem rls_cut {K : PySem.W.Frag} {W : Wd} {ds : List D} {vs : List V} (R : Rls K L W ds vs) (lo hi : Option Int) : Rls K L W (cutD ds lo hi) (cutV vs lo hi) := by
  have hdrop : ∀ (n : Nat) {ds : List D} {vs : List V}, Rls K L W ds vs → Rls K L W (ds.drop n) (vs.drop n) := by
    intro n
    induction n with
    | zero => intro ds vs R; exact R
    | succ n ih =>
      intro ds vs R
      cases ds with
      | nil => rw [Rls.nil.mp R]; exact Rls.nil.mpr rfl
      | cons d ds => obtain ⟨v, vs', rfl, _, R2⟩ := Rls.cons.mp R; exact ih R2
  have htake : ∀ (n : Nat) {ds : List D} {vs : List V}, Rls K L W ds vs → Rls K L W (ds.take n) (vs.take n) := by
    intro n
    induction n with
    | zero => intro ds vs R; exact Rls.nil.mpr rfl
    | succ n ih =>
      intro ds vs R
      cases ds with
      | nil => rw [Rls.nil.mp R]; exact Rls.nil.mpr rfl
      | cons d ds => obtain ⟨v, vs', rfl, R1, R2⟩ := Rls.cons.mp R; exact Rls.mk R1 (ih R2)
  unfold cutD cutV
  rw [← R.length]
  exact htake _ (hdrop _ R)
theorem re_sl {lo hi : Option Expr} {p2 : Pos} {fl fh : Fo} (he : RE L X Wx e f) (hl : RO L X Wx lo fl) (hh : RO L X Wx hi fh) : RE L X Wx (.Subscript e (.Slice lo hi none p2) pos) (xSl f fl fh) := by
  refine RE.of_pe (pe_slice (sl_list.or sl_tup) he.pe hl.po hh.po) fun σ H W st ρ Q S E oo => ?_
  refine ⟨W, st, ρ, S, E, Out.toE oo fun d st1 W1 H1 v hr e1 S1 R1 o1 => ⟨W1, st1, ρ, S1, E.mono e1, Out.toO o1 fun l st2 W2 H2 hr2 e2 S2 o2 => ⟨W2, st2, ρ, S2, E.mono (e1.trans e2), Out.toO o2 fun u st3 W3 H3 hr3 e3 S3 o3 => ?_⟩⟩⟩
  have R3 := R1.mono (e2.trans e3)
  unfold sliD at o3
  split at o3
  · rename_i xs
    split at o3
    · exact o3.elim
    · rename_i hc
      obtain ⟨a', vs, rfl, h1, h2⟩ := Rl.tup.mp R3
      refine .inr ⟨a', vs, rfl, SqT_mono S3.fz h1, by rw [← h2.length]; exact hc, fun p hp => ?_⟩
      obtain ⟨e4, S4⟩ := S3.alloc_fz (o := .tup (cutV vs l u)) hp
      exact o3 _ _ e4 S4 _ (Rl.tup.mpr ⟨p, _, rfl, .inl (.inl (by show upd _ _ _ _ = _; exact upd_same)), (rls_cut h2 l u).mono e4⟩)
  · rename_i n
    obtain ⟨a', rfl, h1⟩ := Rl.ref.mp R3
    split at o3
    · rename_i xs hn
      obtain ⟨vs, q1, q2⟩ := sqL_of S3 h1 (.inl hn)
      exact .inl ⟨a', vs, rfl, q1, fun p hp => o3 _ _ Wd.le_more (S3.ofNew hp (rls_cut q2 l u)) _ (Rl.newRef S3)⟩
    · rename_i xs hn
      obtain ⟨vs, q1, q2⟩ := sqL_of S3 h1 (.inr hn)
      exact .inl ⟨a', vs, rfl, q1, fun p hp => o3 _ _ Wd.le_more (S3.ofNew hp (rls_cut q2 l u)) _ (Rl.newRef S3)⟩
    · exact o3.elim
  · exact o3.elim
/-! ### the call of an instance -/
def xCallI (T : Ls) (c : Fn) (f : Fe) (r : Fa) : Fe := fun ρ st => (f ρ st).bind fun d st => match d with
  | .obj i _ => match T.meth i 36 with
    | some g => (r ρ st).bind fun ds st => callD T c g (d :: ds) st
    | none => .stuck
  | .fn g => (r ρ st).bind fun ds st => callD T c g ds st
  | _ => .stuck
theorem re_callI (G : Gd L X Wx k c) (hf : RE L X Wx fe f) (ha : RA L X Wx (e :: es) r)
    (ht : eval (.Call fe (e :: es) [] pos) X.env = (do callWith pos (← eval fe X.env) [] (backTo pos (starEach (e :: es) X.env)) (backToKw pos (keywordEach [] X.env))) := by rfl)
    (he : starEach (e :: es) X.env = (false, eval e X.env) :: starEach es X.env := by rfl) (hpl : (backTo pos (starEach es X.env)).any (·.1) = false := by rfl) :
    RE L X Wx (.Call fe (e :: es) [] pos) (xCallI L.toLs c f r) := by
  refine ⟨fun pins s σ H W st ρ Q I S E o => ?_⟩
  refine Call_ (hf.bind I S E o fun d st1 W1 H1 v u s1 e1 I1 S1 R1 r1 o1 => ?_) ht
  cases d with
  | obj i ds' =>
    dsimp only at o1
    split at o1
    · rename_i g hm
      obtain ⟨a', dx, vs0, rfl, _⟩ := Rl.obj.mp R1
      obtain rfl : u = Value.ref a' := r1
      refine StX.callO_with (ha.bind I1 S1 (E.mono e1) o1 fun ds st2 W2 H2 vs us s2 hl e2 I2 S2 R2 r2 o2 => ?_) he hpl
      have R1' := R1.mono e2
      obtain ⟨a2, dx2, od2, ea, J⟩ := inst_of I2 S2 R1'
      cases ea
      refine ⟨⟨_, _, _, J, rfl⟩, ?_⟩
      obtain ⟨hC, hF, M⟩ := G.fo.mt i 36 g hm
      have hs := M.at_
      rw [G.fo.nm 36 (by decide) (by decide) (by decide)] at hs
      exact wpAny_call (PySem.W.kco_code I2.kIn J rfl hs M.fn (G.fo.fi g hF) (G.callC (us := .ref a' :: us) ⟨G.room.mono (Nat.le_add_right k 9), rfl⟩ hF I2 S2 (Rls.mk R1' R2) (.cons rfl r2) o2))
    · exact o1.elim
  | fn g =>
    obtain ⟨rfl, hF⟩ := Rl.fn.mp R1
    obtain rfl : u = Value.ref (L.fad g) := r1
    refine PySem.W.callWith_K (h₀ := X.base) I1.ok.mod.kin (G.fo.kp g hF) (ha.bind I1 S1 (E.mono e1) o1 fun ds st2 W2 H2 vs us s2 hl e2 I2 S2 R2 r2 o2 => ⟨I2.kIn, ?_⟩) he hpl
    exact G.call hF I2 S2 R2 r2 o2
  | _ => exact o1.elim
/-! ### a def of the module as a value -/
theorem re_fnv {i : Nat} (hF : L.isF i = true) (hg : Gl X x) (hm : X.mg x = some (.ref (L.fad i))) (hd : (x == ("__debug__" : Str)) = false := by decide) : RE L X Wx (.Name x pos) (xK (.fn i)) :=
  re_k (pe_glob (v := .ref (L.fad i)) hg hm rfl hd) fun W => Rl.fn.mpr ⟨rfl, hF⟩
/-! ### d[k] within a tuple of targets -/
noncomputable def gPut (fo fi : Fe) : Fg := fun d ρ st => (fo ρ st).bind fun o st => (fi ρ st).bind fun i st => match putD o i d st with
  | .ok st' _ => .ok ρ st'
  | _ => .stuck
theorem rg_put {fo fi : Fe} {i : Expr} {pos' : Pos} (G : Gd L X Wx k c) (ho : RE L X Wx o fo) (hi : RE L X Wx i fi) : RG L X (.Subscript o i pos') (gPut fo fi) [] := by
  refine ⟨fun pins s σ H W st ρ d v u ρ' st' I S E R r oo => ?_⟩
  have hu : X.A.units + 1 < cLine := by have := G.room.units; omega
  unfold gPut at oo
  refine PySem.W.kas_sub (ho.seq I S E rfl (fun x st1 q => by rw [q] at oo; cases oo) (fun q => by rw [q] at oo; cases oo) fun od st1 W1 H1 x ov s1 q e1 I1 S1 R1 r1 => ?_)
  rw [q, Res.bind_ok] at oo
  refine hi.seq I1 S1 (E.mono e1) rfl (fun x st1 q => by rw [q] at oo; cases oo) (fun q => by rw [q] at oo; cases oo) fun iD st2 W2 H2 y iv s2 q e2 I2 S2 R2 r2 => ?_
  rw [q, Res.bind_ok] at oo
  have Rd := R.mono (e1.trans e2)
  have Ro := R1.mono e2
  have E2 := E.mono (e1.trans e2)
  have e12 := e1.trans e2
  unfold putD at oo
  split at oo
  · rename_i st3 _ hq
    split at hq
    · rename_i n
      obtain ⟨a', rfl, h1⟩ := Rl.ref.mp Ro
      obtain rfl : ov = Value.ref a' := r1
      split at hq
      · rename_i kvs hn
        split at hq
        · rename_i key hk
          split at hq
          · rename_i hc
            cases hq
            cases oo
            obtain ⟨vs, q1, q2⟩ := S2.cell n _ a' hn h1
            have hy := keyOf_ok R2 hk
            subst hy
            have hl : vs.length < sizeLine := by
              have := congrArg List.length q2.keys
              rw [List.length_map, List.length_map] at this
              rw [this]; exact hc.1
            exact d_setItem hu I2 (DPut.k q1 hl) r2 r fun s4 I4 => ⟨W2, σ, _, e12, I4, S2.write hn rfl h1 ⟨_, upd_same, putKC_ok q2 hc.2 Rd⟩, E2, Fram.rfl'⟩
          · cases hq
        · cases hq
      · rename_i ds hn
        split at hq
        · rename_i j
          split at hq
          · rename_i m hm
            cases hq
            cases oo
            obtain ⟨vs, q1, q2⟩ := S2.cell n _ a' hn h1
            refine thn (set_list pins s2 σ H2 (.ref a') y v (.ref a') iv u (fun H' => H' = upd H2 a' (.lst (vs.set m v))) I2 rfl r2 r ⟨a', vs, j, m, rfl, Rl.int.mp R2, q1, by rw [← q2.length]; exact hm, rfl⟩) fun _ s4 ⟨H4, I4, e4⟩ => ?_
            subst e4
            exact ⟨W2, σ, _, e12, I4, S2.write hn rfl h1 ⟨_, upd_same, rls_set Rd m q2⟩, E2, Fram.rfl'⟩
          · cases hq
        · cases hq
      · cases hq
    · cases hq
  · cases oo
/-! ### names of the module -/
theorem re_glob {v : V} {u : Value} {d : D} (hg : Gl X x) (hm : X.mg x = some u) (rv : L2.RelV v u) (rl : ∀ W, Rl X.K L W d v) (hd : (x == ("__debug__" : Str)) = false := by decide) : RE L X Wx (.Name x pos) (xK d) := re_k (pe_glob hg hm rv hd) rl
end
end Gm
namespace Gm
open PySem PySem.Spec PyProof.Rows L2
section
variable {L : Lw} {X : Cx} {Wx : WX} {k : Nat} {c : Fn}
/-! ### in -/
def toV : D → Option V
  | .non => some .non | .bl b => some (.bl b) | .int i => some (.int i) | .str z => some (.str z) | _ => none
theorem toV_ok {K : PySem.W.Frag} {W : Wd} {d : D} {v w : V} (R : Rl K L W d v) (h : toV d = some w) : v = w ∧ flatV w = true := by
  cases d with
  | non => cases h; exact ⟨Rl.non.mp R, rfl⟩
  | bl _ => cases h; exact ⟨Rl.bl.mp R, rfl⟩
  | int _ => cases h; exact ⟨Rl.int.mp R, rfl⟩
  | str _ => cases h; exact ⟨Rl.str.mp R, rfl⟩
  | _ => cases h
def toVs : List D → Option (List V)
  | [] => some []
  | d :: ds => match toV d, toVs ds with
    | some v, some vs => some (v :: vs)
    | _, _ => none
theorem toVs_ok {K : PySem.W.Frag} {W : Wd} : ∀ {ds : List D} {vs ws : List V}, Rls K L W ds vs → toVs ds = some ws → vs = ws ∧ ws.all flatV = true
  | [], vs, ws, R, h => by cases h; exact ⟨Rls.nil.mp R, rfl⟩
  | d :: ds, vs, ws, R, h => by
    obtain ⟨v, vs', rfl, R1, R2⟩ := Rls.cons.mp R
    unfold toVs at h
    cases h1 : toV d with
    | none => rw [h1] at h; cases h
    | some u =>
      cases h2 : toVs ds with
      | none => rw [h1, h2] at h; cases h
      | some us =>
        rw [h1, h2] at h
        cases h
        obtain ⟨e1, f1⟩ := toV_ok R1 h1
        obtain ⟨e2, f2⟩ := toVs_ok R2 h2
        exact ⟨by rw [e1, e2], by rw [List.all_cons, f1, f2]; rfl⟩
def dicOf (d : D) (st : Store) : Option (List (Key × D)) := match d with
  | .ref n => match st[n]? with
    | some (.dic kvs) => some kvs
    | _ => none
  | _ => none
def inD (neg : Bool) (d1 d2 : D) (st : Store) : Res D := match seqOf d2 st with
  | some ds => match toV d1, toVs ds with
    | some v, some vs => .ok (.bl (if neg then !inV v vs else inV v vs)) st
    | _, _ => .stuck
  | none => match dicOf d2 st, keyOf d1 with
    | some kvs, some key => .ok (.bl ((valC kvs key).isSome != neg)) st
    | _, _ => .stuck
theorem valC_some {K : PySem.W.Frag} {W : Wd} {kvs : List (Key × D)} {vs : List (Key × V)} {key : Key} (R : RKv K L W kvs vs) : (valV vs key).isSome = (valC kvs key).isSome := by
  induction R with
  | nil => rfl
  | @cons j e v ds us r _ ih =>
    unfold valC
    by_cases hj : j = key
    · rw [if_pos hj, valV_pos hj]
      rfl
    · rw [if_neg hj, ← ih]
      unfold valV
      rw [List.find?_cons]
      simp only [hj, decide_false]
theorem r2_inn (G : Gd L X Wx k c) (neg : Bool) : R2v L X Wx (compareOp (if neg then .NotIn else .In)) (inD neg) := fun pins s σ H W st d1 d2 x y v u Q I S R1 R2 r1 r2 o => by
  have hu : X.A.units + 1 < cLine := by have := G.room.units; omega
  unfold inD at o
  split at o
  · rename_i ds hds
    split at o
    · rename_i w ws h1 h2
      obtain ⟨rfl, f1⟩ := toV_ok R1 h1
      obtain ⟨a, vs, rfl, q1, q2⟩ := seqOf_ok S R2 hds
      obtain ⟨rfl, f2⟩ := toVs_ok q1 h2
      have hq : SqL X.K H a vs ∨ SqT X.K H a vs := by
        rcases q2 with ⟨n, _, q⟩ | ⟨_, q⟩
        · exact .inl q
        · exact .inr q
      cases neg with
      | false => exact op_in_seq pins s σ H _ _ v u Q I r1 r2 ⟨a, vs, rfl, hq, f1, f2, o W H .rfl' S _ (Rl.bl.mpr rfl)⟩
      | true => exact op_notIn_seq pins s σ H _ _ v u Q I r1 r2 ⟨a, vs, rfl, hq, f1, f2, o W H .rfl' S _ (Rl.bl.mpr rfl)⟩
    · exact o.elim
  · split at o
    · rename_i kvs key h1 h2
      cases d2 with
      | ref n =>
        obtain ⟨a, rfl, hio⟩ := Rl.ref.mp R2
        unfold dicOf at h1
        dsimp only at h1
        split at h1
        · rename_i kvs' hn
          cases h1
          obtain ⟨vs, q1, q2⟩ := S.cell n _ a hn hio
          have hy := keyOf_ok R1 h2
          subst hy
          cases r2
          have hg : DGet H a (kV key) (valV vs key) := DGet.k q1
          rw [← valC_some q2] at o
          cases neg with
          | false => exact d_in hu I hg r1 fun s3 I3 => ⟨.bl (valV vs key).isSome, H, I3, rfl, o W H .rfl' S _ (Rl.bl.mpr (by simp))⟩
          | true => exact d_notIn hu I hg r1 fun s3 I3 => ⟨.bl (!(valV vs key).isSome), H, I3, rfl, o W H .rfl' S _ (Rl.bl.mpr (by simp))⟩
        · cases h1
      | _ => cases h1
    · exact o.elim
/-- in, of an own class too -/
def inO (T : Ls) (c : Fn) (neg : Bool) (d1 d2 : D) (st : Store) : Res D := match d2 with
  | .obj i _ => match T.meth i 27 with
    | some f => ((callD T c f [d2, d1] st).bind asB).bind fun b st => .ok (.bl (b != neg)) st
    | none => .stuck
  | _ => inD neg d1 d2 st
theorem r2_ino (G : Gd L X Wx k c) (neg : Bool) : R2v L X Wx (compareOp (if neg then .NotIn else .In)) (inO L.toLs c neg) := fun pins s σ H W st d1 d2 x y v u Q I S R1 R2 r1 r2 o => by
  cases d2 with
  | obj i ds =>
    obtain ⟨a, dx, od, rfl, J⟩ := inst_of I S R2
    cases r2
    obtain ⟨m, F⟩ := I.fr
    unfold inO at o
    dsimp only at o
    split at o
    · rename_i f hm
      obtain ⟨hC, hF, M⟩ := G.fo.mt i 27 f hm
      have hs := M.at_
      rw [G.fo.nm 27 (by decide) (by decide) (by decide)] at hs
      have oc := asB_bind (X := X) (out_neg o)
      have key := G.call hF I S (Rls.mk R2 (Rls.mk R1 (Rls.nil.mpr rfl))) (.cons rfl (.cons r1 .nil)) oc
      cases neg with
      | false =>
        refine PySem.W.in_K F I.ok.mod.kin J hs M.fn (wpAny_mono key (fun r s' z => ?_) fun _ _ z => z)
        obtain ⟨v', H', I', rv, b, rfl, q⟩ := z
        refine wpAny_mono (tru_ok pins s' σ H' (.bl b) r (fun b' H2 => b' = b ∧ Q (.bl (b != false)) H2) I' rv ⟨b, rfl, rfl, q⟩) (fun b' s2 z => ?_) fun _ _ z => z
        obtain ⟨H2, I2, rfl, q2⟩ := z
        exact ⟨.bl (b' != false), H2, I2, by cases b' <;> rfl, q2⟩
      | true =>
        refine PySem.W.notIn_K F I.ok.mod.kin J hs M.fn (wpAny_mono key (fun r s' z => ?_) fun _ _ z => z)
        obtain ⟨v', H', I', rv, b, rfl, q⟩ := z
        refine wpAny_mono (tru_ok pins s' σ H' (.bl b) r (fun b' H2 => b' = b ∧ Q (.bl (b != true)) H2) I' rv ⟨b, rfl, rfl, q⟩) (fun b' s2 z => ?_) fun _ _ z => z
        obtain ⟨H2, I2, rfl, q2⟩ := z
        exact ⟨.bl (b' != true), H2, I2, by cases b' <;> rfl, q2⟩
    · exact o.elim
  | _ => exact r2_inn G neg pins s σ H W st d1 _ x y v u Q I S R1 R2 r1 r2 o
theorem r2_in (G : Gd L X Wx k c) : R2v L X Wx (compareOp .In) (inD false) := r2_inn G false
theorem r2_inoY (G : Gd L X Wx k c) : R2v L X Wx (compareOp .In) (inO L.toLs c false) := r2_ino G false
theorem r2_inoN (G : Gd L X Wx k c) : R2v L X Wx (compareOp .NotIn) (inO L.toLs c true) := r2_ino G true
theorem r2_notin (G : Gd L X Wx k c) : R2v L X Wx (compareOp .NotIn) (inD true) := r2_inn G true
/-! ### bool(x) -/
theorem callType_meetsIn {prog : Program} {w : World} {A : Around} {E : Value → Shared → Prop} {s : Shared} {T newId initId : String} {Bn Bi : Builtin} {args : List Value} {S : PySem.Spec} {Q Q₁ : Value → Shared → Prop} (ft : TypeCalled T newId initId)
    (hct : checkTypeCall T ⟨args, []⟩ = pure ()) (hcn : checkBuiltinCall newId ⟨.type T :: args, []⟩ = pure ())
    (entryN : entryFor table newId = some Bn) (entryI : entryFor table initId = some Bi) (g : MeetsIn prog w (Bn ⟨.type T :: args, []⟩) S)
    (h : S A.in1 (wants Q₁ E) s)
    (hnext : ∀ obj s₁, Q₁ obj s₁ → s₁.TypeIs obj T ∧ argsOk initId ⟨obj :: args, []⟩ ∧ ∃ Si, Meets (Bi ⟨obj :: args, []⟩) Si ∧ Si A.in1 (wants (fun r s₂ => r = .none ∧ Q obj s₂) E) s₁) :
    wpAny (model prog w) A (call (.type T) args) Q E s := by
  obtain ⟨c, tl, hmro⟩ := ft.mro
  have hmade := ft.made
  have hsub := ft.sub
  refine wpAny_call (codeAny_of_tree ?_)
  show wpAny _ _ (callAny (.type T) _) _ _ _
  refine wpAny_pure ⟨Code.quiet_builtin _ (by decide +kernel), codeAny_builtin F.entry_type_call ?_⟩
  rw [Around.under_plain (weight_type_call_type T args []) (units_type_call_type T args [])]
  have h1 := ft.notType
  have h2 := ft.canCreate
  repeat (any_goals (first | assumption | wp_step))
  refine codeAny_mono (codeAny_call_builtin ft.plain entryN (wpAny_of_eq hcn (g A.in1 _ s h))) fun r s₁ hr => ?_
  cases r with
  | error e => exact hr
  | ok fl =>
    cases fl with
    | ret obj =>
      obtain ⟨hT, hok, Si, gi, hsi⟩ := hnext _ _ hr
      have hli := ft.init.lookup
      have hbi := ft.init.bind obj
      repeat (any_goals (first | assumption | wp_step))
      refine codeAny_mono (codeAny_call_builtin ft.init.plain entryI (ft.init.check _ _ _ _ _ _ _ _ hT hok (gi prog w A.in1 _ s₁ hsi))) fun r₂ s₂ hr₂ => ?_
      cases r₂ with
      | error e => exact hr₂
      | ok fl₂ =>
        cases fl₂ with
        | ret r =>
          obtain ⟨rfl, hq⟩ := hr₂
          repeat (any_goals (first | assumption | wp_step))
        | _ => exact hr₂.elim
    | _ => exact hr.elim
theorem meets_bool_any {prog : Program} {w : World} (v : Value) : MeetsIn prog w (Builtin.«bool.__new__» ⟨[.type "bool", v], []⟩) (fun A R s => wpAny (model prog w) A.in1 (truthy v) (fun b s' => R (.ok (.ret (.bool b))) s') (fun e s' => R (.error e) s') s) :=
  MeetsIn.of_wp fun A R s hs => by
    have f1 := F.conv_sub_bool
    unfold Builtin.«bool.__new__»
    repeat (any_goals (first | assumption | (refine wpAny_bind (m := truthy v) (wpAny_mono hs (fun b s' hb => ?_) fun _ _ e => e)) | wp_step))
    all_goals first | exact ⟨_, rfl, hb⟩ | exact ⟨_, rfl, hs⟩ | skip
def bBool (T : Ls) (c : Fn) (ds : List D) (st : Store) : Res D := match ds with
  | [.int i] => .ok (.bl (i != 0)) st
  | [.bl b] => .ok (.bl b) st
  | [.obj i es] => match T.meth i 34 with
    | some f => (callD T c f [.obj i es] st).bind fun d st => match d with
      | .bl b => .ok (.bl b) st
      | _ => .stuck
    | none => .stuck
  | _ => .stuck
theorem rc_bool (G : Gd L X Wx k c) : RCv L X Wx (.type "bool") (bBool L.toLs c) := fun pins s σ H W st ds xs us Q I S R r o => by
  unfold bBool at o
  split at o
  · rename_i i
    obtain ⟨v, rfl, R1⟩ := rls1 R
    exact call_bool1 pins s σ H _ us Q I r (.inl ⟨i, by rw [Rl.int.mp R1], o W H .rfl' S _ (Rl.bl.mpr rfl)⟩)
  · rename_i i
    obtain ⟨v, rfl, R1⟩ := rls1 R
    exact call_bool1 pins s σ H _ us Q I r (.inr ⟨i, by rw [Rl.bl.mp R1], o W H .rfl' S _ (Rl.bl.mpr rfl)⟩)
  · rename_i i es
    obtain ⟨v, rfl, R1⟩ := rls1 R
    split at o
    · rename_i f hm
      obtain ⟨hC, hF, M⟩ := G.fo.mt i 34 f hm
      have hs := M.at_
      rw [G.fo.nm 34 (by decide) (by decide) (by decide)] at hs
      obtain ⟨u, rfl, ru⟩ := vals1 r
      obtain ⟨a, dx, od, rfl, J⟩ := inst_of I S R1
      cases ru
      obtain ⟨m, Fr0⟩ := I.fr
      have o2 : Out X.K L Wx W σ (okE X.K L fun v H => ∃ b, v = .bl b ∧ Q (.bl b) H) (callD L.toLs c f [.obj i es] st) := by
        revert o
        generalize callD L.toLs c f [.obj i es] st = q
        cases q with
        | ok d s2 =>
          cases d with
          | bl b => exact fun o W' H' e' S' v R' => ⟨b, Rl.bl.mp R', o W' H' e' S' _ (Rl.bl.mpr rfl)⟩
          | _ => exact fun o => o.elim
        | err x s2 => exact fun o => o
        | stuck => exact fun o => o
      have sub : Sub X k X.A.in1.in1 := by
        have h : Sub X (k + 1 + 1) X.A := ⟨G.room.mono (by omega), rfl⟩
        exact h.in1.in1
      have ht : wpAny (model X.prog X.w) X.A.in1.in1 (truthy (.ref a)) (fun b s' => TP X pins σ (fun b H => Q (.bl b) H) b s') X.xe s := by
        refine PySem.W.truthy_K Fr0 I.ok.mod.kin J hs M.fn ?_
        refine wpAny_mono (G.callA sub hF I S (Rls.mk R1 (Rls.nil.mpr rfl)) (.cons rfl .nil) o2) (fun r s' z => ?_) fun _ _ z => z
        obtain ⟨v', H', I', rv, b, rfl, q⟩ := z
        cases rv
        exact ⟨H', I', q⟩
      refine callType_meetsIn (Q₁ := fun obj s1 => ∃ b, obj = .bool b ∧ TP X pins σ (fun b H => Q (.bl b) H) b s1) F.called_bool (F.typeCall_bool_1 _) (F.newCall_bool_1 _) F.entry_bool_new F.entry_object_init (meets_bool_any (.ref a)) ?_ ?_
      · exact wpAny_mono ht (fun b s' z => ⟨b, rfl, z⟩) fun _ _ z => z
      · rintro obj s1 ⟨b, rfl, H', I', q⟩
        refine ⟨rfl, F.args_object_init_2 _ _, _, object_init_meets F.called_bool.init.lookup F.called_bool.made F.newNe_bool, rfl, rfl, ⟨.bl b, H', I', rfl, q⟩⟩
    · exact o.elim
  · exact o.elim
end
end Gm
namespace Gm
open PySem PySem.Spec PyProof.Rows L2
/-! ### the tables of a law, and what is asked of the top -/
structure Cl where
  name : Str
  lay : List Nat
  atn : List Nat
  meth : List (Nat × Nat)
  prop : List (Nat × Nat)
structure Df where
  d : He.DefD
  ps : List Str
/-- where a def stands: of a property, its getter -/
def adr (K : PySem.W.Frag) (p : Str × Option Str) : Addr := match p.2 with
  | none => He.ga K p.1
  | some _ => match PySem.W.recIn K (He.fAd K p) "property" with
    | some (.ref g :: _) => g
    | _ => He.fAd K p
structure Tb where
  cls : List Cl
  defs : List Df
  nms : List Str
  ni : List (Nat × Nat)
def dvD : He.Dv → D
  | .int i => .int i
  | .bl b => .bl b
  | .str z => .str z
  | _ => .non
def dvOk : He.Dv → Bool
  | .int _ => true
  | .bl _ => true
  | .str _ => true
  | .non => true
  | _ => false
def tailsD : List He.Dv → List (List D)
  | [] => [[]]
  | d :: ds => (d :: ds).map dvD :: tailsD ds
def Tb.nm (t : Tb) (n : Nat) : Str := if n < 40 then nameOf n else t.nms.getD (n - 40) ""
def Tb.ls (t : Tb) : Ls where
  nm := t.nm
  lay i := match t.cls[i]? with | some c => c.lay | none => []
  atn i := match t.cls[i]? with | some c => c.atn | none => []
  isC i := decide (i < t.cls.length)
  isF f := decide (f < t.defs.length)
  fps f := match t.defs[f]? with | some d => d.ps | none => []
  dfl f := match t.defs[f]? with | some d => tailsD d.d.dfl | none => []
  meth i m := match t.cls[i]? with | some c => c.meth.lookup m | none => none
  prop i m := match t.cls[i]? with | some c => c.prop.lookup m | none => none
  sub i j := i == j
  ni f j := t.ni.contains (f, j)
def fdO (o : Option Obj) : Option FuncData := match o with
  | some ⟨_, _, .func fd, _⟩ => some fd
  | _ => none
def Tb.cad (t : Tb) (K : PySem.W.Frag) (i : Nat) : Addr := match t.cls[i]? with | some c => He.ga K c.name | none => 0
def Tb.fad (t : Tb) (K : PySem.W.Frag) (f : Nat) : Addr := match t.defs[f]? with | some d => adr K d.d.at_ | none => 0
def Tb.lw (t : Tb) (K : PySem.W.Frag) : Lw := { t.ls with
  cad := t.cad K
  fad := t.fad K
  fdt := fun f => (fdO (K.lookup (t.fad K f))).getD default }
def refO : Option (Option Value) → Bool
  | some none => true
  | some (some (.ref _)) => true
  | _ => false
def ops9 : List Operator := [.Add, .Sub, .Mult, .FloorDiv, .Mod, .Pow, .BitAnd, .BitOr, .BitXor]
/-- a property of the class at C: its getter is the def at g -/
def prpB (K : PySem.W.Frag) (C : Addr) (m : Str) (g : Addr) : Bool := match PySem.W.findIn K (.ref C) m with
  | some (some (.ref p)) => He.eqO (PySem.W.specialIn K (.ref p) "__get__") (some (some (.builtin "property.__get__"))) && (decide (PySem.W.takesIn K (.ref p) = some true) && (match PySem.W.recIn K p "property" with
    | some (.ref g' :: _) => g' == g
    | _ => false))
  | _ => false
theorem prpB_ok {K : PySem.W.Frag} {C g : Addr} {m : Str} (h : prpB K C m g = true) : ∃ p, PropOf K C m p g := by
  unfold prpB at h
  split at h
  · rename_i p hp
    rw [Bool.and_eq_true, Bool.and_eq_true] at h
    obtain ⟨h1, h2, h3⟩ := h
    split at h3
    · rename_i g' r hr
      have e : g' = g := eq_of_beq h3
      subst e
      exact ⟨p, hp, He.eqO_ok h1, of_decide_eq_true h2, r, hr⟩
    · cases h3
  · cases h
def clB (K : PySem.W.Frag) (t : Tb) (c : Cl) : Bool :=
  let C := He.ga K c.name
  PySem.W.plainGet K C Str.empty && PySem.W.hasDictIn K C && PySem.W.plainOver K C && He.eqO (PySem.W.findIn K (.ref C) "__setattr__") (some (some (.builtin "object.__setattr__"))) &&
  PySem.W.selfFirst K C && PySem.W.keepIn K (.ref C) &&
  decide (PySem.W.mroIn K C (.type "object") = some true) && He.eqO (PySem.W.findIn K (.ref C) "__class__") (some (some (.builtin "object.__class__"))) &&
  (c.meth.all fun p => decide (p.2 < t.defs.length) && He.eqO (PySem.W.findIn K (.ref C) (t.nm p.1)) (some (some (.ref (t.fad K p.2)))) && PySem.W.isFn K (.ref (t.fad K p.2)) && PySem.W.keepIn K (.ref (t.fad K p.2))) &&
  ((c.meth.lookup 37).isNone || PySem.W.makesIn K C) &&
  ((c.meth.lookup 21).isNone || He.eqO (PySem.W.findIn K (.ref C) "__ne__") (some (some (.builtin "object.__ne__")))) &&
  ((c.meth.lookup 34).isSome || ((c.meth.lookup 38).isSome || (He.eqO (PySem.W.findIn K (.ref C) "__bool__") (some none) && He.eqO (PySem.W.findIn K (.ref C) "__len__") (some none)))) &&
  (c.atn.all fun g => He.eqO (PySem.W.findIn K (.ref C) (t.nm g)) (some none)) &&
  (kinds.all fun k => decide (PySem.W.kitOne K (.type k) (.ref C) = some false) && decide (PySem.W.kitOne K (.ref C) (.type k) = some false)) &&
  decide (PySem.W.subIn K (.type "int") (.ref C) = some false) && decide (PySem.W.subIn K (.ref C) (.type "int") = some false) &&
  (ops9.all fun op => refO (PySem.W.findIn K (.ref C) (dunderR op.info.2))) &&
  (c.prop.all fun p => decide (p.2 < t.defs.length) && prpB K C (t.nm p.1) (t.fad K p.2))
def prB (K : PySem.W.Frag) (t : Tb) (i j : Nat) : Bool := decide (PySem.W.kitOne K (.ref (t.cad K i)) (.ref (t.cad K j)) = some (i == j)) &&
  (i == j || (decide (PySem.W.subIn K (.ref (t.cad K i)) (.ref (t.cad K j)) = some false) && !(t.cad K i == t.cad K j)))
def okB (t : Tb) (K : PySem.W.Frag) : Bool :=
  (t.cls.all fun c => clB K t c) && (((List.range t.cls.length).all fun i => (List.range t.cls.length).all fun j => prB K t i j) &&
  ((t.defs.all fun d => PySem.W.fnIn K (adr K d.d.at_)) &&
  (decide (PySem.W.specialIn K (.builtin "object.__class__") "__get__" = some (some (.builtin "getset_descriptor.__get__"))) && decide (PySem.W.takesIn K (.builtin "object.__class__") = some true))))
/-- what the tables themselves must keep -/
def stB (t : Tb) : Bool :=
  (t.cls.all fun c => (c.lay.all fun g => c.atn.contains g) && ((c.atn.all fun g => c.atn.all fun h => !(t.nm g == t.nm h) || g == h) && (c.atn.all fun g => c.meth.all fun p => !(t.nm g == t.nm p.1)))) &&
  (t.defs.all fun d => (d.d.dfl.all dvOk) && d.d.kwd.isEmpty)
theorem lookup_mem' {α β : Type} [BEq α] [LawfulBEq α] {k : α} {v : β} : ∀ {l : List (α × β)}, l.lookup k = some v → (k, v) ∈ l
  | [], h => by cases h
  | (a, b) :: r, h => by
    rw [List.lookup_cons] at h
    cases q : k == a with
    | true =>
      rw [q] at h
      cases h
      rw [eq_of_beq q]
      exact List.mem_cons_self ..
    | false =>
      rw [q] at h
      exact List.mem_cons_of_mem _ (lookup_mem' h)
theorem refO_ok {o : Option (Option Value)} (h : refO o = true) : ∃ rc, o = some rc ∧ (rc = none ∨ ∃ g : Addr, rc = some (.ref g)) := by
  unfold refO at h
  split at h
  · exact ⟨none, rfl, .inl rfl⟩
  · rename_i g; exact ⟨_, rfl, .inr ⟨g, rfl⟩⟩
  · cases h
section
variable {t : Tb} {K : PySem.W.Frag}
theorem clB_of (h : okB t K = true) {i : Nat} (hi : t.ls.isC i = true) : ∃ c, t.cls[i]? = some c ∧ clB K t c = true ∧ t.cad K i = He.ga K c.name ∧ t.ls.lay i = c.lay ∧ t.ls.atn i = c.atn ∧ (∀ m, t.ls.meth i m = c.meth.lookup m) := by
  have hl : i < t.cls.length := of_decide_eq_true hi
  have e := List.getElem?_eq_getElem hl
  unfold okB at h
  rw [Bool.and_eq_true] at h
  refine ⟨t.cls[i], e, List.all_eq_true.mp h.1 _ (List.getElem_mem hl), ?_, ?_, ?_, fun m => ?_⟩
  · unfold Tb.cad; rw [e]
  · show (match t.cls[i]? with | some c => c.lay | none => []) = _; rw [e]
  · show (match t.cls[i]? with | some c => c.atn | none => []) = _; rw [e]
  · show (match t.cls[i]? with | some c => c.meth.lookup m | none => none) = _; rw [e]
theorem prB_of (h : okB t K = true) {i j : Nat} (hi : t.ls.isC i = true) (hj : t.ls.isC j = true) : prB K t i j = true := by
  have hl : i < t.cls.length := of_decide_eq_true hi
  have hl2 : j < t.cls.length := of_decide_eq_true hj
  unfold okB at h
  rw [Bool.and_eq_true, Bool.and_eq_true] at h
  exact List.all_eq_true.mp (List.all_eq_true.mp h.2.1 i (List.mem_range.mpr hl)) j (List.mem_range.mpr hl2)
structure ClP (K : PySem.W.Frag) (t : Tb) (c : Cl) : Prop where
  c1 : PySem.W.plainGet K (He.ga K c.name) Str.empty = true
  c2 : PySem.W.hasDictIn K (He.ga K c.name) = true
  c3 : PySem.W.plainOver K (He.ga K c.name) = true
  c4 : PySem.W.findIn K (.ref (He.ga K c.name)) "__setattr__" = some (some (.builtin "object.__setattr__"))
  c5 : PySem.W.selfFirst K (He.ga K c.name) = true
  c6 : PySem.W.keepIn K (.ref (He.ga K c.name)) = true
  c7 : PySem.W.mroIn K (He.ga K c.name) (.type "object") = some true
  c8 : PySem.W.findIn K (.ref (He.ga K c.name)) "__class__" = some (some (.builtin "object.__class__"))
  c9 : ∀ p ∈ c.meth, p.2 < t.defs.length ∧ PySem.W.findIn K (.ref (He.ga K c.name)) (t.nm p.1) = some (some (.ref (t.fad K p.2))) ∧ PySem.W.isFn K (.ref (t.fad K p.2)) = true ∧ PySem.W.keepIn K (.ref (t.fad K p.2)) = true
  c10 : (c.meth.lookup 37).isNone = true ∨ PySem.W.makesIn K (He.ga K c.name) = true
  c11 : (c.meth.lookup 21).isNone = true ∨ PySem.W.findIn K (.ref (He.ga K c.name)) "__ne__" = some (some (.builtin "object.__ne__"))
  c12 : (c.meth.lookup 34).isSome = true ∨ (c.meth.lookup 38).isSome = true ∨ (PySem.W.findIn K (.ref (He.ga K c.name)) "__bool__" = some none ∧ PySem.W.findIn K (.ref (He.ga K c.name)) "__len__" = some none)
  c13 : ∀ g ∈ c.atn, PySem.W.findIn K (.ref (He.ga K c.name)) (t.nm g) = some none
  c14 : ∀ k ∈ kinds, PySem.W.kitOne K (.type k) (.ref (He.ga K c.name)) = some false ∧ PySem.W.kitOne K (.ref (He.ga K c.name)) (.type k) = some false
  c15 : PySem.W.subIn K (.type "int") (.ref (He.ga K c.name)) = some false
  c16 : PySem.W.subIn K (.ref (He.ga K c.name)) (.type "int") = some false
  c17 : ∀ op ∈ ops9, refO (PySem.W.findIn K (.ref (He.ga K c.name)) (dunderR op.info.2)) = true
  c18 : ∀ p ∈ c.prop, p.2 < t.defs.length ∧ ∃ q, PropOf K (He.ga K c.name) (t.nm p.1) q (t.fad K p.2)
theorem clP_of {K : PySem.W.Frag} {t : Tb} {c : Cl} (h : clB K t c = true) : ClP K t c := by
  unfold clB at h
  simp only [Bool.and_eq_true] at h
  obtain ⟨⟨⟨⟨⟨⟨⟨⟨⟨⟨⟨⟨⟨⟨⟨⟨⟨c1, c2⟩, c3⟩, c4⟩, c5⟩, c6⟩, c7⟩, c8⟩, c9⟩, c10⟩, c11⟩, c12⟩, c13⟩, c14⟩, c15⟩, c16⟩, c17⟩, c18⟩ := h
  refine ⟨c1, c2, c3, He.eqO_ok c4, c5, c6, of_decide_eq_true c7, He.eqO_ok c8, fun p hp => ?_, ?_, ?_, ?_, fun g hg => He.eqO_ok (List.all_eq_true.mp c13 g hg), fun k hk => ?_, of_decide_eq_true c15, of_decide_eq_true c16, fun op hop => List.all_eq_true.mp c17 op hop, fun p hp => ?_⟩
  · have := List.all_eq_true.mp c9 p hp
    simp only [Bool.and_eq_true] at this
    obtain ⟨⟨⟨h1, h2⟩, h3⟩, h4⟩ := this
    exact ⟨of_decide_eq_true h1, He.eqO_ok h2, h3, h4⟩
  · exact Bool.or_eq_true_iff.mp c10
  · rcases Bool.or_eq_true_iff.mp c11 with h | h
    · exact .inl h
    · exact .inr (He.eqO_ok h)
  · rcases Bool.or_eq_true_iff.mp c12 with h | h
    · exact .inl h
    · rcases Bool.or_eq_true_iff.mp h with h | h
      · exact .inr (.inl h)
      · rw [Bool.and_eq_true] at h
        exact .inr (.inr ⟨He.eqO_ok h.1, He.eqO_ok h.2⟩)
  · have := List.all_eq_true.mp c14 k hk
    rw [Bool.and_eq_true] at this
    exact ⟨of_decide_eq_true this.1, of_decide_eq_true this.2⟩
  · have := List.all_eq_true.mp c18 p hp
    rw [Bool.and_eq_true] at this
    exact ⟨of_decide_eq_true this.1, prpB_ok this.2⟩
theorem ops9_all {op : Operator} (h : opn op ≠ 0) : op ∈ ops9 := by cases op <;> first | decide | exact absurd rfl h
/-- what a def's binding asks -/
def BindOk (t : Tb) (K : PySem.W.Frag) (f : Nat) : Prop := ∀ tl ∈ (t.lw K).dfl f, ∃ dvs dsV, Binds K ((t.lw K).fdt f) ((t.lw K).fps f) dsV ∧ Vals dvs dsV ∧ ∀ W, Rls K (t.lw K) W tl dvs
theorem fo_of {P : Program} {w : World} {mg : Str → Option Value} {base : Heap} (hB : okB t K = true) (hS : stB t = true) (hD : ∀ d ∈ t.defs, PySem.W.keepIn K (.ref (adr K d.d.at_)) = true) (hb : ∀ f, f < t.defs.length → BindOk t K f) :
    FOk (t.lw K) P w K mg base 0 (fun _ _ _ => .stuck) := by
  have hB' := hB
  unfold okB at hB'
  simp only [Bool.and_eq_true] at hB'
  obtain ⟨hcls, hprs, hfn, hog, hot⟩ := hB'
  unfold stB at hS
  rw [Bool.and_eq_true] at hS
  obtain ⟨hs1, hs2⟩ := hS
  have isC : ∀ i, (t.lw K).isC i = true → t.ls.isC i = true := fun i h => h
  have cOf := fun {i : Nat} (h : (t.lw K).isC i = true) => clB_of (t := t) (K := K) hB (isC i h)
  have stc : ∀ {i : Nat} {c : Cl}, t.cls[i]? = some c → (∀ g ∈ c.lay, g ∈ c.atn) ∧ (∀ g ∈ c.atn, ∀ h ∈ c.atn, t.nm g = t.nm h → g = h) ∧ (∀ g ∈ c.atn, ∀ p ∈ c.meth, t.nm g ≠ t.nm p.1) := fun {i c} e => by
    have := List.all_eq_true.mp hs1 c (List.mem_of_getElem? e)
    simp only [Bool.and_eq_true, List.all_eq_true, List.contains_iff_mem, Bool.or_eq_true, Bool.not_eq_true', beq_eq_false_iff_ne, beq_iff_eq] at this
    obtain ⟨h1, h2, h3⟩ := this
    refine ⟨h1, fun g hg h hh e => ?_, fun g hg p hp => h3 g hg p hp⟩
    rcases h2 g hg h hh with q | q
    · exact absurd e q
    · exact q
  have fadOf : ∀ {f : Nat}, (t.lw K).isF f = true → ∃ d, d ∈ t.defs ∧ (t.lw K).fad f = adr K d.d.at_ := fun {f} h => by
    have hl : f < t.defs.length := of_decide_eq_true h
    refine ⟨t.defs[f], List.getElem_mem hl, ?_⟩
    show (match t.defs[f]? with | some d => adr K d.d.at_ | none => 0) = _
    rw [List.getElem?_eq_getElem hl]
  have clOf : ∀ {i : Nat} {m f : Nat}, (t.lw K).meth i m = some f → ∃ c, t.cls[i]? = some c ∧ (t.lw K).isC i = true ∧ (m, f) ∈ c.meth ∧ c.meth.lookup m = some f := fun {i m f} h => by
    have h' : (match t.cls[i]? with | some c => c.meth.lookup m | none => none) = some f := h
    cases e : t.cls[i]? with
    | none => rw [e] at h'; cases h'
    | some c =>
      rw [e] at h'
      exact ⟨c, rfl, decide_eq_true (List.getElem?_eq_some_iff.mp e).1, lookup_mem' h', h'⟩
  have full : ∀ {i : Nat}, (t.lw K).isC i = true → ∃ c, t.cls[i]? = some c ∧ (t.lw K).cad i = He.ga K c.name ∧ (t.lw K).lay i = c.lay ∧ (t.lw K).atn i = c.atn ∧ (∀ m, (t.lw K).meth i m = c.meth.lookup m) ∧ ClP K t c := fun {i} h => by
    obtain ⟨c, e, hc, e1, e2, e3, e4⟩ := cOf h
    exact ⟨c, e, e1, e2, e3, e4, clP_of hc⟩
  refine { fn := ?_, kp := ?_, fi := ?_, bt := ?_, mt := ?_, mi := ?_, pr := ?_, cl := ?_, la := ?_, ly := ?_, li := ?_, lm := ?_, ci := ?_, nm := ?_, bi := ?_, rf := ?_, sb := ?_, sT := ?_, ob := ?_, oc := ?_, og := ?_, ot := ?_, ne := ?_, tb := ?_, ko := ?_, kt := ?_, kb := ?_, no := fun f hf => NiOk.none fun ds st z => by cases z }
  · exact fun f hf => ⟨fun vs H Q E h => h.1, fun A outer s H args us vs Q E _ _ _ _ h => by obtain ⟨_, _, _, _, _, _, o⟩ := h; exact o.elim⟩
  · intro f hf
    obtain ⟨d, hd, e⟩ := fadOf hf
    rw [e]; exact hD d hd
  · intro f hf
    obtain ⟨d, hd, e⟩ := fadOf hf
    rw [e]; exact List.all_eq_true.mp hfn d hd
  · exact fun f hf => hb f (of_decide_eq_true hf)
  · intro i m f h
    obtain ⟨c, e, hC, hm, _⟩ := clOf h
    obtain ⟨c', e', e1, _, _, _, hc⟩ := full hC
    rw [e] at e'; cases e'
    obtain ⟨h1, h2, h3, h4⟩ := hc.c9 (m, f) hm
    refine ⟨hC, decide_eq_true h1, ?_⟩
    rw [e1]
    exact ⟨h2, h3, h4⟩
  · intro i f h
    obtain ⟨c, e, hC, hm, hl⟩ := clOf h
    obtain ⟨c', e', e1, _, _, _, hc⟩ := full hC
    rw [e] at e'; cases e'
    obtain ⟨h1, h2, h3, h4⟩ := hc.c9 (37, f) hm
    rw [e1]
    refine ⟨?_, h2, h3, hc.c6⟩
    rcases hc.c10 with h | h
    · rw [hl] at h; cases h
    · exact h
  · intro i m f h
    have h' : (match t.cls[i]? with | some c => c.prop.lookup m | none => none) = some f := h
    cases e : t.cls[i]? with
    | none => rw [e] at h'; cases h'
    | some c =>
      rw [e] at h'
      have hC : (t.lw K).isC i = true := decide_eq_true (List.getElem?_eq_some_iff.mp e).1
      obtain ⟨c', e', e1, _, _, _, hc⟩ := full hC
      rw [e] at e'; cases e'
      obtain ⟨h1, h2⟩ := hc.c18 (m, f) (lookup_mem' h')
      refine ⟨hC, decide_eq_true h1, ?_⟩
      rw [e1]
      exact h2
  · intro i hC
    obtain ⟨c, e, e1, _, _, _, hc⟩ := full hC
    rw [e1]
    exact ⟨⟨hc.c1, hc.c2, hc.c3, hc.c4⟩, hc.c5, hc.c6⟩
  · intro i g hg
    have hg' : g ∈ (match t.cls[i]? with | some c => c.lay | none => []) := hg
    show g ∈ (match t.cls[i]? with | some c => c.atn | none => [])
    cases e : t.cls[i]? with
    | none => rw [e] at hg'; cases hg'
    | some c => rw [e] at hg'; exact (stc e).1 g hg'
  · intro i g hC hg
    obtain ⟨c, e, e1, _, e3, _, hc⟩ := full hC
    rw [e3] at hg
    rw [e1]
    exact hc.c13 g hg
  · intro i g h hC hg hh
    obtain ⟨c, e, e1, _, e3, _, hc⟩ := full hC
    rw [e3] at hg hh
    exact (stc e).2.1 g hg h hh
  · intro i g m f hg h
    obtain ⟨c, e, hC, hm, hl⟩ := clOf h
    have hg' : g ∈ (match t.cls[i]? with | some c => c.atn | none => []) := hg
    rw [e] at hg'
    exact (stc e).2.2 g hg' (m, f) hm
  · intro i j hi hj he
    by_cases hij : i = j
    · exact hij
    · have := prB_of hB (isC i hi) (isC j hj)
      unfold prB at this
      simp only [Bool.and_eq_true, Bool.or_eq_true, beq_iff_eq, Bool.not_eq_true', beq_eq_false_iff_ne] at this
      rcases this.2 with q | q
      · exact q
      · exact absurd he q.2
  · intro n h0 h40 hne
    show t.nm n = nameOf n
    unfold Tb.nm
    rw [if_pos h40]
  · intro op hop
    cases op <;> first | exact absurd rfl hop | exact ⟨_, _, rfl, rfl⟩
  · intro i op hC hop
    obtain ⟨c, e, e1, _, _, _, hc⟩ := full hC
    rw [e1]
    exact refO_ok (hc.c17 op (ops9_all hop))
  · intro i j hi hj hij
    have := prB_of hB (isC i hi) (isC j hj)
    unfold prB at this
    simp only [Bool.and_eq_true, Bool.or_eq_true, beq_iff_eq, Bool.not_eq_true', beq_eq_false_iff_ne, decide_eq_true_eq] at this
    rcases this.2 with q | q
    · exact absurd q hij
    · exact q
  · intro i hC
    obtain ⟨c, e, e1, _, _, _, hc⟩ := full hC
    rw [e1]
    exact ⟨hc.c15, hc.c16⟩
  · intro i hC
    obtain ⟨c, e, e1, _, _, _, hc⟩ := full hC
    rw [e1]
    exact hc.c7
  · intro i hC
    obtain ⟨c, e, e1, _, _, _, hc⟩ := full hC
    rw [e1]
    exact hc.c8
  · exact of_decide_eq_true hog
  · exact of_decide_eq_true hot
  · intro i f h
    obtain ⟨c, e, hC, hm, hl⟩ := clOf h
    obtain ⟨c', e', e1, _, _, _, hc⟩ := full hC
    rw [e] at e'; cases e'
    rw [e1]
    rcases hc.c11 with h | h
    · rw [hl] at h; cases h
    · exact h
  · intro i hC h1 h2
    obtain ⟨c, e, e1, _, _, e4, hc⟩ := full hC
    rw [e1]
    rw [e4] at h1 h2
    rcases hc.c12 with h | h | h
    · rw [h1] at h; cases h
    · rw [h2] at h; cases h
    · exact h
  · intro i j hi hj
    have := prB_of hB (isC i hi) (isC j hj)
    unfold prB at this
    rw [Bool.and_eq_true] at this
    exact of_decide_eq_true this.1
  · intro i k hC hk
    obtain ⟨c, e, e1, _, _, _, hc⟩ := full hC
    rw [e1]
    exact (hc.c14 k hk).1
  · intro i k hC hk
    obtain ⟨c, e, e1, _, _, _, hc⟩ := full hC
    rw [e1]
    exact (hc.c14 k hk).2
/-- one level more -/
theorem FOk.next {L : Lw} {P : Program} {w : World} {mg : Str → Option Value} {base : Heap} {k k' : Nat} {c c' : Fn} (F : FOk L P w K mg base k c) (h : ∀ f, L.isF f = true → FnOk P w K mg base (L2.CX P w) k' (L.fad f) (L.fdt f) (L.fps f) (spM K L (L.fps f).length (c' f))) (hno : ∀ f, L.isF f = true → NiOk L P w K mg base k' (L.fad f) (L.fdt f) (L.fps f) (c' (f + niB))) : FOk L P w K mg base k' c' :=
  { fn := h, kp := F.kp, fi := F.fi, bt := F.bt, mt := F.mt, mi := F.mi, pr := F.pr, cl := F.cl, la := F.la, ly := F.ly, li := F.li, lm := F.lm, ci := F.ci, nm := F.nm, bi := F.bi, rf := F.rf, sb := F.sb, sT := F.sT, ob := F.ob, oc := F.oc, og := F.og, ot := F.ot, ne := F.ne, tb := F.tb, ko := F.ko, kt := F.kt, kb := F.kb, no := hno }
/-- from the head's def to ours -/
theorem funG_of {d : He.DefD} {s : Stmt} {fd : FuncData} (F : FunD K d.name d.qual d.params d.body d.scope (d.dvs K) (d.kws K) (adr K d.at_) fd) (h1 : d.params = defArgs s) (h2 : d.body = defBody s) (h3 : d.scope = defScope s) :
    FunG K d.name d.qual s (adr K d.at_) ((fdO (K.lookup (adr K d.at_))).getD default) := by
  obtain ⟨oc, od, dV, kV, doc, pm, an, cdv, ct, osl, e, lk, hcd, _, _⟩ := F.ex
  rw [lk]
  exact ⟨oc, od, dV, kV, doc, pm, an, cdv, ct, osl, by rw [← h1, ← h2, ← h3]; exact e, lk, hcd⟩
theorem fd_eq {d : He.DefD} {fd : FuncData} (F : FunD K d.name d.qual d.params d.body d.scope (d.dvs K) (d.kws K) (adr K d.at_) fd) : (fdO (K.lookup (adr K d.at_))).getD default = fd := by
  obtain ⟨oc, od, dV, kV, doc, pm, an, cdv, ct, osl, e, lk, _⟩ := F.ex
  rw [lk]
  rfl
theorem rls_dv {L : Lw} {W : Wd} : ∀ {l : List He.Dv}, l.all dvOk = true → Rls K L W (l.map dvD) (l.map (He.Dv.v K))
  | [], _ => Rls.nil.mpr rfl
  | d :: ds, h => by
    rw [List.all_cons, Bool.and_eq_true] at h
    refine Rls.mk ?_ (rls_dv h.2)
    cases d with
    | int i => exact Rl.int.mpr rfl
    | bl i => exact Rl.bl.mpr rfl
    | str i => exact Rl.str.mpr rfl
    | non => exact Rl.non.mpr rfl
    | _ => exact absurd (show false = true from h.1) Bool.false_ne_true
theorem tails_at : ∀ {l : List He.Dv} {tl : List D}, tl ∈ tailsD l → ∃ j, j ≤ l.length ∧ tl = (l.drop j).map dvD
  | [], tl, h => ⟨0, Nat.le_refl _, by simpa [tailsD] using h⟩
  | d :: ds, tl, h => by
    unfold tailsD at h
    rcases List.mem_cons.mp h with rfl | h
    · exact ⟨0, Nat.zero_le _, rfl⟩
    · obtain ⟨j, hj, e⟩ := tails_at h
      exact ⟨j + 1, by simpa using hj, e⟩
/-- a def without defaults binds -/
theorem bind0 {f : Nat} {df : Df} {fd : FuncData} (e : t.defs[f]? = some df) (F : FunD K df.d.name df.d.qual df.d.params df.d.body df.d.scope (df.d.dvs K) (df.d.kws K) (adr K df.d.at_) fd) (hd : df.d.dfl = []) (hk : df.d.kwd = [])
    (h : ∀ (kV doc pm : Value) (an : Option Addr) (cdv ct : Value) (us : List Value), us.length = df.ps.length → bindArgs (PySem.W.fnOf df.d.name df.d.qual df.d.params df.d.body df.d.scope .none kV doc pm an cdv ct) ⟨us, []⟩ = pure (df.ps.zip us)) : BindOk t K f := by
  have ef : (t.lw K).fdt f = fd := by
    show (fdO (K.lookup (t.fad K f))).getD default = fd
    unfold Tb.fad
    rw [e]
    exact fd_eq F
  have ep : (t.lw K).fps f = df.ps := by
    show (match t.defs[f]? with | some d => d.ps | none => []) = _
    rw [e]
  have F' : FunD K df.d.name df.d.qual df.d.params df.d.body df.d.scope [] [] (adr K df.d.at_) fd := by
    have := F
    unfold He.DefD.dvs He.DefD.kws at this
    rw [hd, hk] at this
    exact this
  intro tl htl
  have htl' : tl ∈ (match t.defs[f]? with | some d => tailsD d.d.dfl | none => []) := htl
  rw [e, ] at htl'
  have htl2 : tl ∈ tailsD df.d.dfl := htl'
  rw [hd] at htl2
  have : tl = [] := by simpa [tailsD] using htl2
  subst this
  rw [ef, ep]
  exact ⟨[], [], FunD.bindsN F' h, .nil, fun W => Rls.nil.mpr rfl⟩
/-- a def with defaults binds: h for each number j of defaults that are left out from the front -/
theorem bindJ {f : Nat} {df : Df} {fd : FuncData} (e : t.defs[f]? = some df) (F : FunD K df.d.name df.d.qual df.d.params df.d.body df.d.scope (df.d.dvs K) (df.d.kws K) (adr K df.d.at_) fd) (hdv : df.d.dfl.all dvOk = true) (hd : df.d.dfl ≠ []) (hlen : df.d.dfl.length ≤ df.ps.length)
    (h : ∀ j, j ≤ df.d.dfl.length → ∀ (T : Addr) (kV doc pm : Value) (an : Option Addr) (cdv ct : Value) (us its : List Value), us.length = df.ps.length - (df.d.dfl.length - j) → its.length = df.d.dfl.length →
      if j = df.d.dfl.length then bindArgs (PySem.W.fnOf df.d.name df.d.qual df.d.params df.d.body df.d.scope (.ref T) kV doc pm an cdv ct) ⟨us, []⟩ = pure (df.ps.zip us) ∨ ∃ k, bindArgs (PySem.W.fnOf df.d.name df.d.qual df.d.params df.d.body df.d.scope (.ref T) kV doc pm an cdv ct) ⟨us, []⟩ = seqItems? (.ref T) >>= k ∧ k (some its.toArray) = pure (df.ps.zip (us ++ its.drop j))
      else ∃ k, bindArgs (PySem.W.fnOf df.d.name df.d.qual df.d.params df.d.body df.d.scope (.ref T) kV doc pm an cdv ct) ⟨us, []⟩ = seqItems? (.ref T) >>= k ∧ k (some its.toArray) = pure (df.ps.zip (us ++ its.drop j))) : BindOk t K f := by
  have ef : (t.lw K).fdt f = fd := by
    show (fdO (K.lookup (t.fad K f))).getD default = fd
    unfold Tb.fad
    rw [e]
    exact fd_eq F
  have ep : (t.lw K).fps f = df.ps := by
    show (match t.defs[f]? with | some d => d.ps | none => []) = _
    rw [e]
  intro tl htl
  have htl' : tl ∈ (match t.defs[f]? with | some d => tailsD d.d.dfl | none => []) := htl
  rw [e] at htl'
  have htl2 : tl ∈ tailsD df.d.dfl := htl'
  obtain ⟨j, hj, rfl⟩ := tails_at htl2
  rw [ef, ep]
  have hne : df.d.dvs K ≠ [] := by
    unfold He.DefD.dvs
    intro z
    exact hd (List.map_eq_nil_iff.mp z)
  have hl : (df.d.dvs K).length = df.d.dfl.length := by unfold He.DefD.dvs; rw [List.length_map]
  have hR : ∀ W, Rls K (t.lw K) W ((df.d.dfl.drop j).map dvD) ((df.d.dvs K).drop j) := fun W => by
    unfold He.DefD.dvs
    rw [← List.map_drop]
    exact rls_dv (List.all_eq_true.mpr fun x hx => List.all_eq_true.mp hdv x (List.mem_of_mem_drop hx))
  have gen : (∀ (T : Addr) (kV doc pm : Value) (an : Option Addr) (cdv ct : Value) (us its : List Value), us.length = df.ps.length - (df.d.dfl.length - j) → its.length = (df.d.dvs K).length →
      ∃ k, bindArgs (PySem.W.fnOf df.d.name df.d.qual df.d.params df.d.body df.d.scope (.ref T) kV doc pm an cdv ct) ⟨us, []⟩ = seqItems? (.ref T) >>= k ∧ k (some its.toArray) = pure (df.ps.zip (us ++ its.drop j))) →
      ∃ dvs dsV, Binds K fd df.ps dsV ∧ Vals dvs dsV ∧ ∀ W, Rls K (t.lw K) W ((df.d.dfl.drop j).map dvD) dvs := fun hh => by
    obtain ⟨ds, h1, h2⟩ := F.binds1 (ps := df.ps) (df.ps.length - (df.d.dfl.length - j)) j hne (by rw [hl]; omega) hh
    exact ⟨_, ds, h2, h1, hR⟩
  by_cases hjl : j = df.d.dfl.length
  · have hdr : (df.d.dfl.drop j).map dvD = [] := by rw [hjl, List.drop_length]; rfl
    obtain ⟨oc, od, dV, kV, doc, pm, an, cdv, ct, osl, e2, lk, hcd, hD, hK⟩ := F.ex
    rcases hD with ⟨z, _⟩ | ⟨_, T, o, its, m, rfl, lT, oT, rT⟩
    · exact absurd z hne
    · refine ⟨[], [], fun s us X hlen => ?_, .nil, fun W => by rw [hdr]; exact Rls.nil.mpr rfl⟩
      rw [List.append_nil] at hlen ⊢
      have := h j hj T kV doc pm an cdv ct us its (by omega) (by rw [← hl]; exact rT.length.symm)
      rw [if_pos hjl] at this
      rcases this with q | ⟨k, q1, q2⟩
      · rw [e2]
        exact .of_eq q
      · refine BindsTo.of_looks fun M => ?_
        rw [e2, q1]
        refine looks_items X lT oT (.of_pure ?_)
        rw [q2, List.drop_of_length_le (by rw [← rT.length, hl]; omega), List.append_nil]
  · refine gen fun T kV doc pm an cdv ct us its h1 h2 => ?_
    have := h j hj T kV doc pm an cdv ct us its h1 (by rw [h2, hl])
    rw [if_neg hjl] at this
    exact this
end
/-! ### what is asked of the heap behind the module -/
abbrev AlG : Type := Bool × List He.FnW
def fwA (K : PySem.W.Frag) (p : Str × Option Str) : He.FnW := match K.lookup (adr K p) with
  | some ⟨_, _, .func f, _⟩ => some (f.name, f.qualname, f.params, f.body, f.scope, f.globals, f.closure, f.builtins)
  | _ => none
def okDf (K : PySem.W.Frag) (d : He.DefD) : Bool := PySem.W.keepIn K (.ref (adr K d.at_)) && (match K.lookup (adr K d.at_) with
  | some ⟨_, _, .func f, _⟩ => PySem.W.codeIn K f.code d.qual && He.dflB K f.defaults (d.dvs K) && He.kwdB K f.kwdefaults (d.kws K)
  | _ => false)
theorem funA {K : PySem.W.Frag} {d : He.DefD} (hv : fwA K d.at_ = d.val) (hk : okDf K d = true) : ∃ fd, FunD K d.name d.qual d.params d.body d.scope (d.dvs K) (d.kws K) (adr K d.at_) fd := by
  unfold okDf at hk
  unfold fwA at hv
  obtain ⟨kp, hm⟩ := Bool.and_eq_true_iff.mp hk
  split at hm
  · rename_i oc od f osl lk
    rw [lk] at hv
    obtain ⟨ab, k3⟩ := Bool.and_eq_true_iff.mp hm
    obtain ⟨k1, k2⟩ := Bool.and_eq_true_iff.mp ab
    cases f
    unfold He.DefD.val at hv
    simp only [Option.some.injEq, Prod.mk.injEq] at hv
    obtain ⟨rfl, rfl, rfl, rfl, rfl, rfl, rfl, rfl⟩ := hv
    exact ⟨_, ⟨oc, od, _, _, _, _, _, _, _, osl, rfl, lk, k1, He.dflB_ok k2, He.kwdB_ok k3⟩, kp⟩
  · cases hm
def obsG (fa : List He.Fa) (fn : List He.DefD) (ex : PySem.W.Frag → Bool) (K : PySem.W.Frag) : AlG := (fa.all (fun f => f.ok K) && fn.all (okDf K) && ex K, fn.map fun d => fwA K d.at_)
def valG (fn : List He.DefD) : AlG := (true, fn.map He.DefD.val)
def Says (fa : List He.Fa) (fn : List He.DefD) (ex : PySem.W.Frag → Bool) (K : PySem.W.Frag) : Prop := obsG fa fn ex K = valG fn
/-- what an object of the module names: of a class its namespace, of a def its code and its defaults, of a property its getter -/
def refsS (o : Obj) : List Addr := match o.data with
  | .dict es _ => es.toList.flatMap fun e => He.refV e.val
  | .cls cd => [cd.ns]
  | .func fd => He.refV fd.code ++ He.refV fd.defaults
  | .fields vs => match o.cls with
    | .type n => if n == "property" then vs.toList.flatMap He.refV else []
    | _ => []
  | _ => []
def stepS (g : Addr → Option Obj) (as : List Addr) : List Addr := as.flatMap fun a => match g a with
  | some o => refsS o
  | none => []
def asS (g : Addr → Option Obj) : Nat → List Addr → List Addr
  | 0, _ => []
  | n + 1, as => as ++ asS g n (stepS g as)
def obsH (n : Nat) (fa : List He.Fa) (fn : List He.DefD) (ex : PySem.W.Frag → Bool) (g : Addr → Option Obj) : AlG := obsG fa fn ex (He.frT g (asS g n [mainGlobals]))
def hookG (n : Nat) (fa : List He.Fa) (fn : List He.DefD) (ex : PySem.W.Frag → Bool) : PySem.W.Hook where
  α := AlG
  obs s := obsH n fa fn ex s.heap.get?
  val _ := valG fn
  says _ h := ∃ K : PySem.W.Frag, K.In h ∧ Says fa fn ex K
  of _ _ e := ⟨_, He.frT_in, e⟩
  keeps _ _ _ a k := a.elim fun K b => ⟨K, PySem.W.Frag.In.keeps b.1 k, b.2⟩
theorem obsH_eq {n : Nat} {fa : List He.Fa} {fn : List He.DefD} {ex : PySem.W.Frag → Bool} {g : Addr → Option Obj} {s : Shared} (h : ∀ a, g a = s.heap.get? a) : obsH n fa fn ex g = (hookG n fa fn ex).obs s := by
  rw [show g = s.heap.get? from funext h] <;> rfl
section
variable {fa : List He.Fa} {fn : List He.DefD} {ex : PySem.W.Frag → Bool} {K : PySem.W.Frag}
theorem Says.bits (c : Says fa fn ex K) : (fa.all (fun f => f.ok K) = true ∧ fn.all (okDf K) = true) ∧ ex K = true := by
  have e : (fa.all (fun f => f.ok K) && fn.all (okDf K) && ex K) = true := congrArg Prod.fst c
  rw [Bool.and_eq_true, Bool.and_eq_true] at e
  exact e
theorem Says.more (c : Says fa fn ex K) : ex K = true := (Says.bits c).2
theorem Says.fact (c : Says fa fn ex K) (i : Nat) {f : He.Fa} (h : fa[i]? = some f := by rfl) : f.ok K = true := List.all_eq_true.mp (Says.bits c).1.1 f (List.mem_of_getElem? h)
theorem Says.def_ (c : Says fa fn ex K) (i : Nat) {d : He.DefD} (h : fn[i]? = some d := by rfl) : ∃ fd, FunD K d.name d.qual d.params d.body d.scope (d.dvs K) (d.kws K) (adr K d.at_) fd := by
  have e : fn.map (fun d => fwA K d.at_) = fn.map He.DefD.val := congrArg Prod.snd c
  refine funA ?_ (List.all_eq_true.mp (Says.bits c).1.2 d (List.mem_of_getElem? h))
  have e2 := congrArg (fun l => l[i]?) e
  simp only [List.getElem?_map, h, Option.map_some] at e2
  exact Option.some.inj e2
theorem Says.defs (c : Says fa fn ex K) {d : He.DefD} (h : d ∈ fn) : ∃ fd, FunD K d.name d.qual d.params d.body d.scope (d.dvs K) (d.kws K) (adr K d.at_) fd := by
  obtain ⟨i, hi, e⟩ := List.mem_iff_getElem.mp h
  exact Says.def_ c i (by rw [List.getElem?_eq_getElem hi, e])
end
end Gm
namespace Gm
open PySem PySem.Spec PyProof.Rows L2
/-! ### in short -/
/-- a, b, c = x, y, z -/
def sPar3 (i j l : Nat) (r : Fa) : Fs := fun ρ st => (r ρ st).toS ρ fun ds st => match ds with
  | [d, e, f] => .nx (((ρ.set i (some d)).set j (some e)).set l (some f)) st
  | _ => .stuck
section
variable {L : Lw} {X : Cx} {Wx : WX} {k : Nat} {c : Fn} {x : Str} {p pos pos' : Pos} {e : Expr} {es : List Expr} {f : Fe} {r : Fa}
theorem rs_par3 {i j l : Nat} {x y z : Str} {a b d : Expr} {px py pz pt : Pos} {kt k2} {pt2 : Pos} (G : Gd L X Wx k c) (hi : X.N[i]? = some x) (hj : X.N[j]? = some y) (hl : X.N[l]? = some z) (hij : i ≠ j) (hil : i ≠ l) (hjl : j ≠ l)
    (hx : X.env.scope.names.lookup x = some .local) (hy : X.env.scope.names.lookup y = some .local) (hz : X.env.scope.names.lookup z = some .local) (ha : RA L X Wx [a, b, d] r)
    (hw : swappedStores [.Tuple [.Name x px, .Name y py, .Name z pz] kt pt] (.Tuple [a, b, d] k2 pt2) X.env = pure (some [x, y, z]) := by rfl)
    (hs : swapsWithSole [.Tuple [.Name x px, .Name y py, .Name z pz] kt pt] (.Tuple [a, b, d] k2 pt2) pos.line X.env = pure false := by rfl) :
    RS L X Wx (.Assign [.Tuple [.Name x px, .Name y py, .Name z pz] kt pt] (.Tuple [a, b, d] k2 pt2) pos) (sPar3 i j l r) := by
  refine ⟨fun pins s σ H W sto ρ D I S E o => ?_⟩
  refine (ps_par3 G.calm G.nd hi hj hl hij hil hjl hx hy hz ha.pa hw hs).run pins s σ H D I ⟨W, sto, ρ, S, E, ?_⟩
  have hlen := ha.len ρ sto
  unfold sPar3 at o
  cases q : r ρ sto with
  | stuck => rw [q] at o; exact o.elim
  | err x st1 => rw [q] at o; exact fun W' H' cls dx e' S' R' => o W' H' σ cls dx e' S' (E.mono e') R'
  | ok ds st1 =>
    have hl := hlen _ _ q
    rw [q, Res.toS_ok] at o
    match ds, hl with
    | [d1, d2, d3], _ =>
      intro W1 H1 e1 S1 vs R1
      obtain ⟨v, vs1, rfl, Ra, R1⟩ := Rls.cons.mp R1
      obtain ⟨w, vs2, rfl, Rb, R1⟩ := Rls.cons.mp R1
      obtain ⟨u, vs3, rfl, Rc, R1⟩ := Rls.cons.mp R1
      rw [Rls.nil.mp R1]
      exact ⟨v, w, u, rfl, o W1 H1 _ e1 S1 ((((E.mono e1).set Ra).set Rb).set Rc)⟩
theorem ev (i : Nat) (hN : X.N[i]? = some x := by rfl) (hv : Vis X.env.scope x := by first | exact Or.inl rfl | exact Or.inr (Or.inl rfl) | exact Or.inr (Or.inr rfl)) (hd : (x == ("__debug__" : Str)) = false := by decide)
    (hcd : (x == ("__classdict__" : Str)) = false := by decide) : RE L X Wx (.Name x pos) (xVar i) := re_var (pe_var hN hv hd hcd)
theorem gv (i : Nat) (G : Gd L X Wx k c) (hN : X.N[i]? = some x := by rfl) (hx : Loc X.env.scope x := by first | exact Or.inl rfl | exact Or.inr rfl) (hf : X.fn x = true ∨ X.env.scope.names.lookup x = some .local := by first | exact .inl rfl | exact .inr rfl) : RG L X (.Name x pos) (gNm i) [i] :=
  rg_name (pg_name G.nd hN hx hf)
theorem sv (i : Nat) (G : Gd L X Wx k c) (he : RE L X Wx e f) (hN : X.N[i]? = some x := by rfl) (hx : Loc X.env.scope x := by first | exact Or.inl rfl | exact Or.inr rfl) (hs : swapsWith e (some (.Name x pos')) pos.line X.env = pure false := by rfl)
    (hf : X.fn x = true ∨ X.env.scope.names.lookup x = some .local := by first | exact .inl rfl | exact .inr rfl) : RS L X Wx (.Assign [.Name x pos'] e pos) (sAsg f (gNm i)) := rs_set G.nd hN hx he hs hf
theorem gt {tgs : List Expr} {kk : Nat} {rr : List D → Ev → Store → Res Ev} {ts : List Nat} (G : Gd L X Wx k c) (h : RGs L X tgs rr ts) (hn : (assignEach tgs X.env).length = tgs.length := by rfl) (hst : (assignEach tgs X.env).findIdx? (·.1) = none := by rfl) : RG L X (.Tuple tgs kk pos) (gTp rr) ts := rg_tup G.calm h hn hst
theorem pr2 {y : Str} {a b : Expr} {py pt pt2 : Pos} {kt k2} (i j : Nat) (G : Gd L X Wx k c) (ha : RA L X Wx [a, b] r) (hij : i ≠ j := by decide) (hi : X.N[i]? = some x := by rfl) (hj : X.N[j]? = some y := by rfl)
    (hx : X.env.scope.names.lookup x = some .local := by rfl) (hy : X.env.scope.names.lookup y = some .local := by rfl)
    (hw : swappedStores [.Tuple [.Name x p, .Name y py] kt pt] (.Tuple [a, b] k2 pt2) X.env = pure (some [x, y]) := by rfl)
    (hs : swapsWithSole [.Tuple [.Name x p, .Name y py] kt pt] (.Tuple [a, b] k2 pt2) pos.line X.env = pure false := by rfl) :
    RS L X Wx (.Assign [.Tuple [.Name x p, .Name y py] kt pt] (.Tuple [a, b] k2 pt2) pos) (sPar i j r) := rs_par G.calm G.nd hi hj hij hx hy ha hw hs
theorem pr3 {y z : Str} {a b d : Expr} {py pz pt pt2 : Pos} {kt k2} (i j l : Nat) (G : Gd L X Wx k c) (ha : RA L X Wx [a, b, d] r) (hij : i ≠ j := by decide) (hil : i ≠ l := by decide) (hjl : j ≠ l := by decide) (hi : X.N[i]? = some x := by rfl) (hj : X.N[j]? = some y := by rfl) (hl : X.N[l]? = some z := by rfl)
    (hx : X.env.scope.names.lookup x = some .local := by rfl) (hy : X.env.scope.names.lookup y = some .local := by rfl) (hz : X.env.scope.names.lookup z = some .local := by rfl)
    (hw : swappedStores [.Tuple [.Name x p, .Name y py, .Name z pz] kt pt] (.Tuple [a, b, d] k2 pt2) X.env = pure (some [x, y, z]) := by rfl)
    (hs : swapsWithSole [.Tuple [.Name x p, .Name y py, .Name z pz] kt pt] (.Tuple [a, b, d] k2 pt2) pos.line X.env = pure false := by rfl) :
    RS L X Wx (.Assign [.Tuple [.Name x p, .Name y py, .Name z pz] kt pt] (.Tuple [a, b, d] k2 pt2) pos) (sPar3 i j l r) := rs_par3 G hi hj hl hij hil hjl hx hy hz ha hw hs
/-- a[i]; the subscript of an int written out -/
theorem rf (G : Gd L X Wx k c) (hp : PassesOwn (model X.prog X.w) X.A X.env X.xe → True := fun _ => trivial) : True := trivial
end
def tIfE (t u v : Ft) : Ft := fun ρ st => (t ρ st).bind fun q st => if q then u ρ st else v ρ st
theorem bb_abs : bootBuiltins "abs" = some (.builtin "abs") := by decide +kernel
theorem bb_len : bootBuiltins "len" = some (.builtin "len") := by decide +kernel
theorem bb_max : bootBuiltins "max" = some (.builtin "max") := by decide +kernel
theorem bb_min : bootBuiltins "min" = some (.builtin "min") := by decide +kernel
theorem bb_sum : bootBuiltins "sum" = some (.builtin "sum") := by decide +kernel
theorem bb_all : bootBuiltins "all" = some (.builtin "all") := by decide +kernel
theorem bb_any : bootBuiltins "any" = some (.builtin "any") := by decide +kernel
theorem bb_int : bootBuiltins "int" = some (.type "int") := by decide +kernel
theorem bb_list : bootBuiltins "list" = some (.type "list") := by decide +kernel
theorem bb_tuple : bootBuiltins "tuple" = some (.type "tuple") := by decide +kernel
theorem bb_bool : bootBuiltins "bool" = some (.type "bool") := by decide +kernel
theorem bb_str : bootBuiltins "str" = some (.type "str") := by decide +kernel
theorem bb_dict : bootBuiltins "dict" = some (.type "dict") := by decide +kernel
/-! ### all of the first n -/
def AllN (P : Nat → Prop) : Nat → Nat → Prop
  | _, 0 => True
  | i, n + 1 => P i ∧ AllN P (i + 1) n
theorem allN {P : Nat → Prop} : ∀ {i n : Nat}, AllN P i n → ∀ f, i ≤ f → f < i + n → P f
  | i, 0, _, f, h1, h2 => absurd h2 (by omega)
  | i, n + 1, h, f, h1, h2 => by
    by_cases e : f = i
    · subst e; exact h.1
    · exact allN h.2 f (by omega) (by omega)
/-- the mirrors by their codes; behind niB what is asked of a def that declines -/
def pickF (b : List (List D → Store → Res D)) (ns : List (Nat × (List D → Store → Res D))) (f : Nat) : List D → Store → Res D := match b[f]? with
  | some m => m
  | none => match ns.find? fun p => p.1 + niB == f with
    | some p => p.2
    | none => fun _ _ => .stuck
theorem pickF_none {b : List (List D → Store → Res D)} {ns : List (Nat × (List D → Store → Res D))} {f : Nat} (hb : b.length ≤ niB) (hn : ∀ p ∈ ns, p.1 ≠ f) : pickF b ns (f + niB) = fun _ _ => .stuck := by
  unfold pickF
  rw [List.getElem?_eq_none (by omega)]
  have : ns.find? (fun p => p.1 + niB == f + niB) = none := by
    rw [List.find?_eq_none]
    intro p hp
    have := hn p hp
    simp
    exact this
  rw [this]
theorem pickF_some {b : List (List D → Store → Res D)} {ns : List (Nat × (List D → Store → Res D))} {f : Nat} {m : List D → Store → Res D} (hb : b.length ≤ niB) (h : (ns.find? fun p => p.1 == f) = some (f, m)) : pickF b ns (f + niB) = m := by
  unfold pickF
  rw [List.getElem?_eq_none (by omega)]
  have e : (fun p : Nat × (List D → Store → Res D) => p.1 + niB == f + niB) = fun p => p.1 == f := by
    funext p
    rw [Bool.eq_iff_iff]
    simp
  rw [e, h]
end Gm
namespace Gm
open PySem PySem.Spec PyProof.Rows L2
theorem sok_law {K : PySem.W.Frag} {L : Lw} {H : Hp} {a : Addr} {ns : List Int} (hO : Only H) (hS : SqL K H a (ns.map V.int)) : Sok K L ⟨fun _ => none, [a]⟩ [.rol (ns.map D.int)] H := by
  refine ⟨fun b o h => (nomatch h), rfl, fun n c b h1 h2 => ?_, fun n c b h1 h2 h3 => rfl, fun m n c c' b h1 h2 l1 l2 h3 h4 => ?_⟩
  · cases n with
    | zero =>
      cases h1
      cases h2
      refine ⟨ns.map V.int, ?_, Rls.ints ns⟩
      rcases hS with (h | ⟨o, h⟩) | ⟨o, its, n, q1, q2, q3, q4, q5, q6⟩
      · exfalso
        rcases hO a with z | ⟨o, xs, z⟩
        · rw [z] at h; cases h
        · rw [z] at h; cases h
      · exact .inl ⟨o, h⟩
      · exact .inr ⟨o, its, n, q1, q2, q3, q4, q5, q6⟩
    | succ n => simp at h1
  · cases m with
    | zero => cases h1; cases l1
    | succ m => simp at h1
theorem walk_ofX {l : PySem.W.OpenLaw} {n k : Nat} {q : Program} {loose : List Str} {XP : (Str → Option Value) → Heap → Prop} {YP : World → Heap → Prop} {d : DefRec} {CX : World → CXT} {x : Str}
    (hn : l.most = some n) (hn2 : n ≤ sizeLine) (hdf : d.params.defaults = []) (hr : Room k callerA)
    (F : ∀ (w : World) (mg : Str → Option Value) (fa : Addr) (h : Heap), YP w h → h.Ns mainGlobals mg → mg d.name = some (.ref fa) →
      ∃ (K : PySem.W.Frag) (fd : FuncData) (sp : Sp), K.In h ∧ (∀ (s : Shared) (u : Value), BindsTo s fd ⟨[u], []⟩ [(x, u)]) ∧
        (∀ (H : Hp) (a : Addr) (ns : List Int), ns.length ≤ n → (∀ z ∈ ns, Builtin.Int.intBits z ≤ 1048576) → Only H → SqL K H a (ns.map V.int) → sp [.ref a] H (fun v _ => v = .bl true) fun _ _ _ => False) ∧
        ∀ base : Heap, K.In base → base.Ns mainGlobals mg → FnOk l.prog w K mg base (CX w) k fa fd [x] sp)
    (hCX : ∀ (w : World) (H : Hp) (s : Shared) (e : Value) (s' : Shared), CX w [] H s (fun _ _ _ => False) e s' → False) :
    PySem.W.WalkO q loose XP YP l.row.toRowW d [] (fun f vs => PySem.call f vs) := by
  refine Att.attach_callB hn hdf fun w s₀ s₁ mg mb fa o pm cd doc a vs ns G Y ho hd hcd hmg hobj hints hlen hbits hg => ?_
  obtain ⟨K, fd, sp, KX, hb, hsp, hF⟩ := F w mg fa _ Y G.T.g hmg
  exact law_call KX G.T.g G.T.b G.T.builtins G.T.nolimit hg hobj hints (Nat.le_trans hlen hn2) hr hF hb (fun H hO hS => hsp H a ns hlen hbits hO hS) fun H e s' => hCX w H s₁ e s'
theorem cx_no {P : Program} {w : World} {H : Hp} {s : Shared} {e : Value} {s' : Shared} : L2.CX P w [] H s (fun _ _ _ => False) e s' → False := fun ⟨_, _, _, _, _, _, _, _, _, _, _, _, z⟩ => z
end Gm
namespace Gm
open PySem PySem.Spec PyProof.Rows L2
/-! ### running a mirror by rewriting -/
section
variable (ρ : Ev) (st : Store) (T : Ls) (c : Fn) (f h k : Fe) (r : Fa) (t u v : Ft) (a b : Fs)
@[simp] theorem ap_sSeq : sSeq a b ρ st = (a ρ st).seq b := rfl
@[simp] theorem ap_sNx : sNx ρ st = .nx ρ st := rfl
@[simp] theorem ap_sNo : sNo ρ st = .stuck := rfl
@[simp] theorem ap_sBk : sBk ρ st = .bk ρ st := rfl
@[simp] theorem ap_sCt : sCt ρ st = .ct ρ st := rfl
def kRt (d : D) (st : Store) : SR := .rt d st
@[simp] theorem kRt_ (d : D) : kRt d st = .rt d st := rfl
@[simp] theorem ap_sRet : sRet f ρ st = (f ρ st).toS ρ kRt := rfl
@[simp] theorem ap_sRetN : sRetN ρ st = .rt .non st := rfl
def kIf (a b : Fs) (ρ : Ev) (q : Bool) (st : Store) : SR := if q then a ρ st else b ρ st
@[simp] theorem kIf_t : kIf a b ρ true st = a ρ st := rfl
@[simp] theorem kIf_f : kIf a b ρ false st = b ρ st := rfl
@[simp] theorem ap_sIf : sIf t a b ρ st = (t ρ st).toS ρ (kIf a b ρ) := rfl
def kNx (ρ : Ev) (d : D) (st : Store) : SR := .nx ρ st
@[simp] theorem kNx_ (d : D) : kNx ρ d st = .nx ρ st := rfl
@[simp] theorem ap_sExpr : sExpr f ρ st = (f ρ st).toS ρ (kNx ρ) := rfl
def asgK (g : Fg) (ρ : Ev) (d : D) (st : Store) : SR := match g d ρ st with
  | .ok ρ' st' => .nx ρ' st'
  | _ => .stuck
@[simp] theorem ap_sAsg (g : Fg) : sAsg f g ρ st = (f ρ st).toS ρ (asgK g ρ) := rfl
@[simp] theorem asgK_nm (i : Nat) (d : D) : asgK (gNm i) ρ d st = .nx (ρ.set i (some d)) st := rfl
@[simp] theorem ap_gNm (i : Nat) (d : D) : gNm i d ρ st = .ok (ρ.set i (some d)) st := rfl
@[simp] theorem ap_gsNil : gsNil [] ρ st = .ok ρ st := rfl
def kGs (q : List D → Ev → Store → Res Ev) (ds : List D) (ρ : Ev) (st : Store) : Res Ev := q ds ρ st
@[simp] theorem kGs_ (q : List D → Ev → Store → Res Ev) (ds : List D) : kGs q ds ρ st = q ds ρ st := rfl
@[simp] theorem ap_gsCons (g : Fg) (q : List D → Ev → Store → Res Ev) (d : D) (ds : List D) : gsCons g q (d :: ds) ρ st = (g d ρ st).bind (kGs q ds) := rfl
@[simp] theorem ap_gTp (q : List D → Ev → Store → Res Ev) (ds : List D) : gTp q (.tup ds) ρ st = q ds ρ st := rfl
def evK (r : Res Ev) : SR := match r with
  | .ok ρ' st' => .nx ρ' st'
  | _ => .stuck
@[simp] theorem evK_ok : evK (.ok ρ st) = .nx ρ st := rfl
@[simp] theorem asgK_tp (q : List D → Ev → Store → Res Ev) (d : D) : asgK (gTp q) ρ d st = evK (gTp q d ρ st) := rfl
def kPar (i j : Nat) (ρ : Ev) (ds : List D) (st : Store) : SR := match ds with
  | [d, e] => .nx ((ρ.set i (some d)).set j (some e)) st
  | _ => .stuck
@[simp] theorem kPar_ (i j : Nat) (d e : D) : kPar i j ρ [d, e] st = .nx ((ρ.set i (some d)).set j (some e)) st := rfl
@[simp] theorem ap_sPar (i j : Nat) : sPar i j r ρ st = (r ρ st).toS ρ (kPar i j ρ) := rfl
def kPar3 (i j l : Nat) (ρ : Ev) (ds : List D) (st : Store) : SR := match ds with
  | [d, e, f] => .nx (((ρ.set i (some d)).set j (some e)).set l (some f)) st
  | _ => .stuck
@[simp] theorem kPar3_ (i j l : Nat) (d e f : D) : kPar3 i j l ρ [d, e, f] st = .nx (((ρ.set i (some d)).set j (some e)).set l (some f)) st := rfl
@[simp] theorem ap_sPar3 (i j l : Nat) : sPar3 i j l r ρ st = (r ρ st).toS ρ (kPar3 i j l ρ) := rfl
noncomputable def kFor (g : Fg) (b : Fs) (ρ : Ev) (p : List D × (Store → Prop)) (st : Store) : SR := forI p.2 g b p.1 ρ st
@[simp] theorem kFor_ (g : Fg) (ds : List D) (q : Store → Prop) : kFor g b ρ (ds, q) st = forI q g b ds ρ st := rfl
@[simp] theorem ap_sFor (fi : Fi) (g : Fg) : sFor fi g b ρ st = (fi ρ st).toS ρ (kFor g b ρ) := rfl
@[simp] theorem ap_xK (d : D) : xK d ρ st = .ok d st := rfl
def vr (o : Option (Option D)) (st : Store) : Res D := match o with | some (some d) => .ok d st | _ => .stuck
@[simp] theorem vr_ (d : D) : vr (some (some d)) st = .ok d st := rfl
@[simp] theorem ap_xVar (i : Nat) : xVar i ρ st = vr ρ[i]? st := rfl
@[simp] theorem ap_xUn (g : D → Store → Res D) : xUn g f ρ st = (f ρ st).bind g := rfl
def kB2 (g : D → D → Store → Res D) (a b : D) (st : Store) : Res D := g a b st
@[simp] theorem kB2_ (g : D → D → Store → Res D) (a b : D) : kB2 g a b st = g a b st := rfl
def kB1 (g : D → D → Store → Res D) (h : Fe) (ρ : Ev) (a : D) (st : Store) : Res D := (h ρ st).bind (kB2 g a)
@[simp] theorem kB1_ (g : D → D → Store → Res D) (a : D) : kB1 g h ρ a st = (h ρ st).bind (kB2 g a) := rfl
@[simp] theorem ap_xBin (g : D → D → Store → Res D) : xBin g f h ρ st = (f ρ st).bind (kB1 g h ρ) := rfl
@[simp] theorem ap_aNil : aNil ρ st = .ok [] st := rfl
def kC2 (a : D) (l : List D) (st : Store) : Res (List D) := .ok (a :: l) st
@[simp] theorem kC2_ (a : D) (l : List D) : kC2 a l st = .ok (a :: l) st := rfl
def kC1 (r : Fa) (ρ : Ev) (a : D) (st : Store) : Res (List D) := (r ρ st).bind (kC2 a)
@[simp] theorem kC1_ (a : D) : kC1 r ρ a st = (r ρ st).bind (kC2 a) := rfl
@[simp] theorem ap_aCons : aCons f r ρ st = (f ρ st).bind (kC1 r ρ) := rfl
def kTp (l : List D) (st : Store) : Res D := .ok (.tup l) st
@[simp] theorem kTp_ (l : List D) : kTp l st = .ok (.tup l) st := rfl
@[simp] theorem ap_xTup : xTup r ρ st = (r ρ st).bind kTp := rfl
@[simp] theorem ap_xLst : xLst r ρ st = (r ρ st).bind newLst := rfl
@[simp] theorem ap_tOf (g : D → Store → Res Bool) : tOf g f ρ st = (f ρ st).bind g := rfl
def kNot (b : Bool) (st : Store) : Res Bool := .ok (!b) st
@[simp] theorem kNot_ (b : Bool) : kNot b st = .ok (!b) st := rfl
@[simp] theorem ap_tNot : tNot t ρ st = (t ρ st).bind kNot := rfl
@[simp] theorem ap_tTrue : tTrue ρ st = .ok true st := rfl
def kAn (u : Ft) (ρ : Ev) (b : Bool) (st : Store) : Res Bool := if b then u ρ st else .ok false st
@[simp] theorem kAn_t : kAn u ρ true st = u ρ st := rfl
@[simp] theorem kAn_f : kAn u ρ false st = .ok false st := rfl
@[simp] theorem ap_tAnd : tAnd t u ρ st = (t ρ st).bind (kAn u ρ) := rfl
def kOr (u : Ft) (ρ : Ev) (b : Bool) (st : Store) : Res Bool := if b then .ok true st else u ρ st
@[simp] theorem kOr_t : kOr u ρ true st = .ok true st := rfl
@[simp] theorem kOr_f : kOr u ρ false st = u ρ st := rfl
@[simp] theorem ap_tOr : tOr t u ρ st = (t ρ st).bind (kOr u ρ) := rfl
def kTi (u v : Ft) (ρ : Ev) (b : Bool) (st : Store) : Res Bool := if b then u ρ st else v ρ st
@[simp] theorem kTi_t : kTi u v ρ true st = u ρ st := rfl
@[simp] theorem kTi_f : kTi u v ρ false st = v ρ st := rfl
@[simp] theorem ap_tIfE : tIfE t u v ρ st = (t ρ st).bind (kTi u v ρ) := rfl
def kEi (f h : Fe) (ρ : Ev) (b : Bool) (st : Store) : Res D := if b then f ρ st else h ρ st
@[simp] theorem kEi_t : kEi f h ρ true st = f ρ st := rfl
@[simp] theorem kEi_f : kEi f h ρ false st = h ρ st := rfl
@[simp] theorem ap_xIf : xIf t f h ρ st = (t ρ st).bind (kEi f h ρ) := rfl
def kN2 (b : Bool) (st : Store) : Res D := .ok (.bl (!b)) st
@[simp] theorem kN2_ (b : Bool) : kN2 b st = .ok (.bl (!b)) st := rfl
def kN1 (g : D → Store → Res Bool) (d : D) (st : Store) : Res D := (g d st).bind kN2
@[simp] theorem kN1_ (g : D → Store → Res Bool) (d : D) : kN1 g d st = (g d st).bind kN2 := rfl
@[simp] theorem ap_xNot (g : D → Store → Res Bool) : xNot g f ρ st = (f ρ st).bind (kN1 g) := rfl
def kA2 (h : Fe) (ρ : Ev) (d : D) (b : Bool) (st : Store) : Res D := if b then h ρ st else .ok d st
@[simp] theorem kA2_t (d : D) : kA2 h ρ d true st = h ρ st := rfl
@[simp] theorem kA2_f (d : D) : kA2 h ρ d false st = .ok d st := rfl
def kA1 (g : D → Store → Res Bool) (h : Fe) (ρ : Ev) (d : D) (st : Store) : Res D := (g d st).bind (kA2 h ρ d)
@[simp] theorem kA1_ (g : D → Store → Res Bool) (d : D) : kA1 g h ρ d st = (g d st).bind (kA2 h ρ d) := rfl
@[simp] theorem ap_xAnd (g : D → Store → Res Bool) : xAnd g f h ρ st = (f ρ st).bind (kA1 g h ρ) := rfl
def kO2 (h : Fe) (ρ : Ev) (d : D) (b : Bool) (st : Store) : Res D := if b then .ok d st else h ρ st
@[simp] theorem kO2_t (d : D) : kO2 h ρ d true st = .ok d st := rfl
@[simp] theorem kO2_f (d : D) : kO2 h ρ d false st = h ρ st := rfl
def kO1 (g : D → Store → Res Bool) (h : Fe) (ρ : Ev) (d : D) (st : Store) : Res D := (g d st).bind (kO2 h ρ d)
@[simp] theorem kO1_ (g : D → Store → Res Bool) (d : D) : kO1 g h ρ d st = (g d st).bind (kO2 h ρ d) := rfl
@[simp] theorem ap_xOr (g : D → Store → Res Bool) : xOr g f h ρ st = (f ρ st).bind (kO1 g h ρ) := rfl
def kH5 (g' : D → D → Store → Res D) (tr : D → Store → Res Bool) (b e : D) (st : Store) : Res Bool := (g' b e st).bind tr
@[simp] theorem kH5_ (g' : D → D → Store → Res D) (tr : D → Store → Res Bool) (b e : D) : kH5 g' tr b e st = (g' b e st).bind tr := rfl
def kH4 (g' : D → D → Store → Res D) (tr : D → Store → Res Bool) (k : Fe) (ρ : Ev) (b : D) (q : Bool) (st : Store) : Res Bool := if q then (k ρ st).bind (kH5 g' tr b) else .ok false st
@[simp] theorem kH4_t (g' : D → D → Store → Res D) (tr : D → Store → Res Bool) (b : D) : kH4 g' tr k ρ b true st = (k ρ st).bind (kH5 g' tr b) := rfl
@[simp] theorem kH4_f (g' : D → D → Store → Res D) (tr : D → Store → Res Bool) (b : D) : kH4 g' tr k ρ b false st = .ok false st := rfl
def kH3 (g' : D → D → Store → Res D) (tr : D → Store → Res Bool) (k : Fe) (ρ : Ev) (b : D) (c : D) (st : Store) : Res Bool := (tr c st).bind (kH4 g' tr k ρ b)
@[simp] theorem kH3_ (g' : D → D → Store → Res D) (tr : D → Store → Res Bool) (b c : D) : kH3 g' tr k ρ b c st = (tr c st).bind (kH4 g' tr k ρ b) := rfl
def kH2 (g g' : D → D → Store → Res D) (tr : D → Store → Res Bool) (k : Fe) (ρ : Ev) (a b : D) (st : Store) : Res Bool := (g a b st).bind (kH3 g' tr k ρ b)
@[simp] theorem kH2_ (g g' : D → D → Store → Res D) (tr : D → Store → Res Bool) (a b : D) : kH2 g g' tr k ρ a b st = (g a b st).bind (kH3 g' tr k ρ b) := rfl
def kH1 (g g' : D → D → Store → Res D) (tr : D → Store → Res Bool) (h k : Fe) (ρ : Ev) (a : D) (st : Store) : Res Bool := (h ρ st).bind (kH2 g g' tr k ρ a)
@[simp] theorem kH1_ (g g' : D → D → Store → Res D) (tr : D → Store → Res Bool) (a : D) : kH1 g g' tr h k ρ a st = (h ρ st).bind (kH2 g g' tr k ρ a) := rfl
@[simp] theorem ap_tChain (g g' : D → D → Store → Res D) (tr : D → Store → Res Bool) : tChain g g' tr f h k ρ st = (f ρ st).bind (kH1 g g' tr h k ρ) := rfl
@[simp] theorem ap_xCall (i : Nat) : xCall T c i r ρ st = (r ρ st).bind (callD T c i) := rfl
@[simp] theorem ap_xMk (i : Nat) : xMk T c i r ρ st = (r ρ st).bind (mkD T c i) := rfl
@[simp] theorem ap_xFld (g : Nat) : xFld T c g f ρ st = (f ρ st).bind (fldD T c g) := rfl
def kMe (T : Ls) (c : Fn) (g : Nat) (d : D) (es : List D) (st : Store) : Res D := callD T c g (d :: es) st
@[simp] theorem kMe_ (g : Nat) (d : D) (es : List D) : kMe T c g d es st = callD T c g (d :: es) st := rfl
def methK (T : Ls) (c : Fn) (m : Nat) (r : Fa) (ρ : Ev) (d : D) (st : Store) : Res D := match whoD T m d st with
  | some g => (r ρ st).bind (kMe T c g d)
  | none => .stuck
@[simp] theorem ap_xMethW (m : Nat) : xMethW T c m f r ρ st = (f ρ st).bind (methK T c m r ρ) := rfl
theorem methK_obj {m i g : Nat} {ds : List D} (hm : T.meth i m = some g) : methK T c m r ρ (.obj i ds) st = (r ρ st).bind (kMe T c g (.obj i ds)) := by
  unfold methK whoD
  simp only [hm]
def ciK (T : Ls) (c : Fn) (r : Fa) (ρ : Ev) (d : D) (st : Store) : Res D := match d with
  | .obj i _ => match T.meth i 36 with
    | some g => (r ρ st).bind (kMe T c g d)
    | none => .stuck
  | .fn g => (r ρ st).bind (callD T c g)
  | _ => .stuck
@[simp] theorem ciK_fn (g : Nat) : ciK T c r ρ (.fn g) st = (r ρ st).bind (callD T c g) := rfl
end
noncomputable section
variable (ρ : Ev) (st : Store)
noncomputable def kGp2 (d o : D) (ρ : Ev) (i : D) (st : Store) : Res Ev := match putD o i d st with
  | .ok st' _ => .ok ρ st'
  | _ => .stuck
noncomputable def kGp1 (fi : Fe) (d : D) (ρ : Ev) (o : D) (st : Store) : Res Ev := (fi ρ st).bind (kGp2 d o ρ)
@[simp] theorem kGp1_ (fi : Fe) (d o : D) : kGp1 fi d ρ o st = (fi ρ st).bind (kGp2 d o ρ) := rfl
@[simp] theorem ap_gPut (fo fi : Fe) (d : D) : gPut fo fi d ρ st = (fo ρ st).bind (kGp1 fi d ρ) := rfl
theorem kGp2_ok {d o i : D} {st' st2 : Store} (h : putD o i d st = .ok st' st2) : kGp2 d o ρ i st = .ok ρ st' := by
  unfold kGp2
  rw [h]
end
section
variable (ρ : Ev) (st : Store) (T : Ls) (c : Fn) (f h k : Fe) (r : Fa) (t u v : Ft) (a b : Fs)
@[simp] theorem ap_xCallI : xCallI T c f r ρ st = (f ρ st).bind (ciK T c r ρ) := rfl
theorem ciK_obj {i g : Nat} {ds : List D} (hm : T.meth i 36 = some g) : ciK T c r ρ (.obj i ds) st = (r ρ st).bind (kMe T c g (.obj i ds)) := by
  unfold ciK
  simp only [hm]
def fldK (T : Ls) (g : Nat) (d : D) (ρ : Ev) (o : D) (st : Store) : SR := match setD T g d o st with
  | .ok st' _ => .nx ρ st'
  | _ => .stuck
def fldK1 (T : Ls) (g : Nat) (f : Fe) (ρ : Ev) (d : D) (st : Store) : SR := (f ρ st).toS ρ (fldK T g d ρ)
@[simp] theorem fldK1_ (g : Nat) (d : D) : fldK1 T g f ρ d st = (f ρ st).toS ρ (fldK T g d ρ) := rfl
@[simp] theorem ap_sFldD (g : Nat) : sFldD T g f h ρ st = (h ρ st).toS ρ (fldK1 T g f ρ) := rfl
@[simp] theorem ap_xBi (g : List D → Store → Res D) : xBi g r ρ st = (r ρ st).bind g := rfl
@[simp] theorem ap_xIso (j : Nat) : xIso T j f ρ st = (f ρ st).bind (isoD T j) := rfl
@[simp] theorem ap_xIst (s : String) : xIst T s f ρ st = (f ρ st).bind (istD T s) := rfl
@[simp] theorem tru_bl (q : Bool) : truD T c (.bl q) st = .ok q st := rfl
@[simp] theorem tru_int (i : Int) : truD T c (.int i) st = .ok (i != 0) st := rfl
@[simp] theorem tru_non : truD T c .non st = .ok false st := rfl
@[simp] theorem iso_obj (i j : Nat) (ds : List D) : isoD T j (.obj i ds) st = if T.isC i = true then .ok (.bl (T.sub i j)) st else .stuck := rfl
@[simp] theorem iso_int (j : Nat) (i : Int) : isoD T j (.int i) st = .ok (.bl false) st := rfl
@[simp] theorem iso_non (j : Nat) : isoD T j .non st = .ok (.bl false) st := rfl
@[simp] theorem iso_tup (j : Nat) (ds : List D) : isoD T j (.tup ds) st = .ok (.bl false) st := rfl
@[simp] theorem ist_int (s : String) (i : Int) : istD T s (.int i) st = .ok (.bl ("int" == s || ("int" == "bool" && s == "int"))) st := rfl
@[simp] theorem ist_obj (s : String) (i : Nat) (ds : List D) : istD T s (.obj i ds) st = if T.isC i = true then .ok (.bl false) st else .stuck := rfl
@[simp] theorem b_abs (i : Int) : bAbs [.int i] st = .ok (.int (if i < 0 then -i else i)) st := rfl
@[simp] theorem b_int (i : Int) : bInt [.int i] st = .ok (.int i) st := rfl
@[simp] theorem b_intb (q : Bool) : bInt [.bl q] st = .ok (.int (if q then 1 else 0)) st := rfl
@[simp] theorem bin_ii (op : Operator) (i j : Int) : binD T c op (.int i) (.int j) st = intBin op i j st := rfl
@[simp] theorem ib_add (i j : Int) : intBin .Add i j st = .ok (.int (i + j)) st := rfl
@[simp] theorem ib_sub (i j : Int) : intBin .Sub i j st = .ok (.int (i - j)) st := rfl
theorem ib_mul {i j : Int} (h : IntMulOk i j) : intBin .Mult i j st = .ok (.int (i * j)) st := if_pos h
theorem ib_fdiv {i j : Int} (h : j ≠ 0 ∧ j.natAbs.log2 < 9000) : intBin .FloorDiv i j st = .ok (.int (i.fdiv j)) st := if_pos h
theorem ib_mod {i j : Int} (h : j ≠ 0) : intBin .Mod i j st = .ok (.int (i.fmod j)) st := if_pos h
@[simp] theorem neg_int' (i : Int) : negD T c (.int i) st = .ok (.int (-i)) st := rfl
@[simp] theorem ord_ii (op : CmpOp) (i j : Int) : ordD T c op (.int i) (.int j) st = match ltI op i j with
      | some b => .ok (.bl b) st
      | none => .stuck := rfl
@[simp] theorem lt_lt (i j : Int) : ltI .Lt i j = some (decide (i < j)) := rfl
@[simp] theorem lt_le (i j : Int) : ltI .LtE i j = some (decide (i ≤ j)) := rfl
@[simp] theorem lt_gt (i j : Int) : ltI .Gt i j = some (decide (j < i)) := rfl
@[simp] theorem lt_ge (i j : Int) : ltI .GtE i j = some (decide (j ≤ i)) := rfl
@[simp] theorem eq_ii (neg : Bool) (i j : Int) : eqB T c neg (.int i) (.int j) st = .ok (.bl ((i == j) != neg)) st := rfl
@[simp] theorem isno_non (neg : Bool) : isNo neg .non .non st = .ok (.bl (!neg)) st := rfl
@[simp] theorem isno_int (neg : Bool) (i : Int) : isNo neg (.int i) .non st = .ok (.bl neg) st := rfl
@[simp] theorem isno_bl (neg p q : Bool) : isNo neg (.bl p) (.bl q) st = .ok (.bl ((p == q) != neg)) st := rfl
@[simp] theorem isno_obj (neg : Bool) (i : Nat) (ds : List D) : isNo neg (.obj i ds) .non st = .ok (.bl neg) st := rfl
@[simp] theorem sub_tup (ds : List D) (i : Int) : subD (.tup ds) (.int i) st = optR (atI ds i) st := rfl
@[simp] theorem optR_some (d : D) : optR (some d) st = .ok d st := rfl
@[simp] theorem at0 (d : D) (ds : List D) : atI (d :: ds) 0 = some d := atI_nat (j := 0) rfl
@[simp] theorem at1 (d e : D) (ds : List D) : atI (d :: e :: ds) 1 = some e := atI_nat (j := 1) rfl
@[simp] theorem at2 (d e f : D) (ds : List D) : atI (d :: e :: f :: ds) 2 = some f := atI_nat (j := 2) rfl
end
/-- one def's run -/
theorem fnD_rt {n : Nat} {b : Fs} {ds : List D} {st : Store} {d : D} {st' : Store} (h : b (startE n ds) st = .rt d st') : fnD n b ds st = tidy st (.ok d st') := by
  unfold fnD runB
  rw [h]
theorem fnD_rt0 {n : Nat} {b : Fs} {ds : List D} {st : Store} {d : D} (h : b (startE n ds) st = .rt d st) (hd : noRef st.length d = true) : fnD n b ds st = .ok d st := by
  rw [fnD_rt h, tidy_same0 hd]
theorem fnD_nx {n : Nat} {b : Fs} {ds : List D} {st : Store} {ρ : Ev} {st' : Store} (h : b (startE n ds) st = .nx ρ st') : fnD n b ds st = tidy st (.ok .non st') := by
  unfold fnD runB
  rw [h]
end Gm
namespace Gm
open PySem PySem.Spec PyProof.Rows L2
/-! ### rationals and their sizes -/
/-- below b bits, above and below the line -/
def Sz (b : Nat) (q : Rat) : Prop := q.num.natAbs < 2 ^ b ∧ q.den < 2 ^ b
theorem Sz.mono {b b' : Nat} {q : Rat} (h : Sz b q) (hb : b ≤ b') : Sz b' q := ⟨Nat.lt_of_lt_of_le h.1 (Nat.pow_le_pow_right (by decide) hb), Nat.lt_of_lt_of_le h.2 (Nat.pow_le_pow_right (by decide) hb)⟩
theorem log2_lt {n b : Nat} (h : n < 2 ^ b) (hb : 0 < b) : n.log2 < b := by
  rcases Nat.eq_zero_or_pos n with rfl | hp
  · simpa using hb
  · exact (Nat.log2_lt (Nat.ne_of_gt hp)).mpr h
theorem mulOk {i j : Int} {b b' : Nat} (h1 : i.natAbs < 2 ^ b) (h2 : j.natAbs < 2 ^ b') (hb : b + b' ≤ 900000) : IntMulOk i j := by
  refine CMulW.ok ?_
  show i.natAbs.log2 + j.natAbs.log2 < 1000000
  have p1 := log2_lt (b := b + 1) (Nat.lt_of_lt_of_le h1 (Nat.pow_le_pow_right (by decide) (Nat.le_succ b))) (Nat.succ_pos b)
  have p2 := log2_lt (b := b' + 1) (Nat.lt_of_lt_of_le h2 (Nat.pow_le_pow_right (by decide) (Nat.le_succ b'))) (Nat.succ_pos b')
  omega
theorem mul_lt {i j : Int} {b b' : Nat} (h1 : i.natAbs < 2 ^ b) (h2 : j.natAbs < 2 ^ b') : (i * j).natAbs < 2 ^ (b + b') := by
  rw [Int.natAbs_mul, Nat.pow_add]
  exact Nat.mul_lt_mul'' h1 h2
theorem add_lt {i j : Int} {b b' : Nat} (h1 : i.natAbs < 2 ^ b) (h2 : j.natAbs < 2 ^ b') : (i + j).natAbs < 2 ^ (max b b' + 1) := by
  have p1 := Nat.lt_of_lt_of_le h1 (Nat.pow_le_pow_right (n := 2) (by decide) (Nat.le_max_left b b'))
  have p2 := Nat.lt_of_lt_of_le h2 (Nat.pow_le_pow_right (n := 2) (by decide) (Nat.le_max_right b b'))
  have : (i + j).natAbs ≤ i.natAbs + j.natAbs := Int.natAbs_add_le i j
  rw [Nat.pow_succ]
  omega
theorem sub_lt {i j : Int} {b b' : Nat} (h1 : i.natAbs < 2 ^ b) (h2 : j.natAbs < 2 ^ b') : (i - j).natAbs < 2 ^ (max b b' + 1) := by
  rw [Int.sub_eq_add_neg]
  exact add_lt h1 (by rw [Int.natAbs_neg]; exact h2)
/-- what cutting a fraction gives -/
def com (n d : Int) : Int := if d < 0 then -(Int.gcd n d : Int) else (Int.gcd n d : Int)
theorem com_dvd_left (n d : Int) : com n d ∣ n := by
  unfold com
  split
  · exact Int.neg_dvd.mpr (Int.gcd_dvd_left ..)
  · exact Int.gcd_dvd_left ..
theorem com_dvd_right (n d : Int) : com n d ∣ d := by
  unfold com
  split
  · exact Int.neg_dvd.mpr (Int.gcd_dvd_right ..)
  · exact Int.gcd_dvd_right ..
theorem com_ne {n d : Int} (hd : d ≠ 0) : com n d ≠ 0 := by
  have h : (Int.gcd n d : Int) ≠ 0 := by
    intro z
    have := Int.gcd_eq_zero_iff.mp (Int.ofNat_eq_zero.mp z)
    exact hd this.2
  unfold com
  split
  · intro z; exact h (by omega)
  · exact h
theorem com_le {n d : Int} (hd : d ≠ 0) : (com n d).natAbs ≤ d.natAbs := by
  have h : Int.gcd n d ≤ d.natAbs := Nat.le_of_dvd (Int.natAbs_pos.mpr hd) (Nat.gcd_dvd_right ..)
  unfold com
  split
  · rw [Int.natAbs_neg]; exact h
  · exact h
theorem cut_num {n d : Int} (hd : d ≠ 0) : n.fdiv (com n d) = (Rat.divInt n d).num := by
  rw [Int.fdiv_eq_ediv_of_dvd (com_dvd_left n d), Rat.num_divInt, Int.gcd_comm d n]
  unfold com
  rcases Int.lt_trichotomy d 0 with h | h | h
  · rw [if_pos h, Int.sign_eq_neg_one_of_neg h, Int.ediv_neg, Int.neg_mul, Int.one_mul, Int.neg_ediv_of_dvd (Int.gcd_dvd_left ..)]
  · exact absurd h hd
  · rw [if_neg (by omega), Int.sign_eq_one_of_pos h, Int.one_mul]
theorem cut_den {n d : Int} (hd : d ≠ 0) : d.fdiv (com n d) = ((Rat.divInt n d).den : Int) := by
  rw [Int.fdiv_eq_ediv_of_dvd (com_dvd_right n d), Rat.den_divInt, if_neg hd, Int.gcd_comm d n]
  unfold com
  rcases Int.lt_trichotomy d 0 with h | h | h
  · rw [if_pos h, Int.ediv_neg, ← Int.neg_ediv_of_dvd (Int.gcd_dvd_right ..)]
    have e : -d = (d.natAbs : Int) := by omega
    rw [e]
    exact (Int.natCast_ediv ..).symm
  · exact absurd h hd
  · rw [if_neg (by omega)]
    have e : d = (d.natAbs : Int) := by omega
    conv => lhs; rw [e]
    rw [show Int.gcd n (d.natAbs : Int) = Int.gcd n d by simp [Int.gcd]]
    exact (Int.natCast_ediv ..).symm
theorem Rat.den_pos' (q : Rat) : (0 : Int) < (q.den : Int) := by
  have := q.den_pos
  omega
theorem Rat.den_ne' (q : Rat) : (q.den : Int) ≠ 0 := by
  have := q.den_pos
  omega
theorem rat_add (p q : Rat) : Rat.divInt (p.num * q.den + q.num * p.den) (p.den * q.den) = p + q := by
  conv => rhs; rw [← Rat.num_divInt_den p, ← Rat.num_divInt_den q]
  rw [Rat.divInt_add_divInt _ _ (Rat.den_ne' p) (Rat.den_ne' q)]
theorem rat_mul (p q : Rat) : Rat.divInt (p.num * q.num) (p.den * q.den) = p * q := by
  conv => rhs; rw [← Rat.num_divInt_den p, ← Rat.num_divInt_den q]
  rw [Rat.divInt_mul_divInt]
theorem rat_neg (p : Rat) : Rat.divInt (-p.num) p.den = -p := by
  conv => rhs; rw [← Rat.num_divInt_den p]
  rw [Rat.neg_divInt]
theorem rat_sub (p q : Rat) : Rat.divInt (p.num * q.den - q.num * p.den) (p.den * q.den) = p - q := by
  have e : p - q = p + -q := Rat.sub_eq_add_neg p q
  rw [e, ← rat_add]
  congr 1
  · rw [Rat.neg_num, Rat.neg_den, Int.neg_mul, Int.sub_eq_add_neg]
theorem rat_int (n : Int) : Rat.divInt n 1 = (n : Rat) := by
  rw [show (1 : Int) = ((1 : Nat) : Int) from rfl, Rat.divInt_ofNat, Rat.mkRat_one]
/-! ### Euclid's steps -/
theorem gcd_step (a b : Nat) (hb : b ≠ 0) : Nat.gcd b (a % b) = Nat.gcd a b := by
  rw [Nat.gcd_comm a b, Nat.gcd_rec b a, Nat.gcd_comm]
theorem fmod_nat (a b : Nat) : (a : Int).fmod (b : Int) = ((a % b : Nat) : Int) := by
  rw [Int.fmod_eq_emod_of_nonneg _ (Int.natCast_nonneg b)]
  exact (Int.natCast_emod a b).symm
theorem abs_if (i : Int) : (if i < 0 then -i else i) = (i.natAbs : Int) := by
  split <;> omega
/-- below b bits -/
def Nb (b : Nat) (i : Int) : Prop := i.natAbs < 2 ^ b
theorem Nb.mono {b b' : Nat} {i : Int} (h : Nb b i) (hb : b ≤ b') : Nb b' i := Nat.lt_of_lt_of_le h (Nat.pow_le_pow_right (by decide) hb)
theorem Nb.mul {i j : Int} {b b' : Nat} (h1 : Nb b i) (h2 : Nb b' j) : Nb (b + b') (i * j) := mul_lt h1 h2
theorem Nb.add {i j : Int} {b b' : Nat} (h1 : Nb b i) (h2 : Nb b' j) : Nb (max b b' + 1) (i + j) := add_lt h1 h2
theorem Nb.sub {i j : Int} {b b' : Nat} (h1 : Nb b i) (h2 : Nb b' j) : Nb (max b b' + 1) (i - j) := sub_lt h1 h2
theorem Nb.neg {i : Int} {b : Nat} (h1 : Nb b i) : Nb b (-i) := by unfold Nb; rw [Int.natAbs_neg]; exact h1
theorem Nb.abs {i : Int} {b : Nat} (h1 : Nb b i) : Nb b (i.natAbs : Int) := h1
theorem Nb.ok {i j : Int} {b b' : Nat} (h1 : Nb b i) (h2 : Nb b' j) (hb : b + b' ≤ 900000) : IntMulOk i j := mulOk h1 h2 hb
theorem Sz.num {q : Rat} {b : Nat} (h : Sz b q) : Nb b q.num := h.1
theorem Sz.den {q : Rat} {b : Nat} (h : Sz b q) : Nb b (q.den : Int) := h.2
/-- a number told by n over d is no longer than both -/
theorem Sz.of {n d : Int} {b : Nat} (h1 : Nb b n) (h2 : Nb b d) (hd : d ≠ 0) : Sz b (Rat.divInt n d) := by
  have c := com_ne (n := n) hd
  have cd : ∀ k : Int, (k.fdiv (com n d)).natAbs ≤ k.natAbs ∨ ¬ com n d ∣ k := fun k => by
    by_cases hk : com n d ∣ k
    · refine .inl ?_
      rw [Int.fdiv_eq_ediv_of_dvd hk, Int.natAbs_ediv_of_dvd hk]
      exact Nat.div_le_self ..
    · exact .inr hk
  refine ⟨?_, ?_⟩
  · rw [← cut_num hd]
    rcases cd n with h | h
    · exact Nat.lt_of_le_of_lt h h1
    · exact absurd (com_dvd_left n d) h
  · have e := cut_den (n := n) hd
    rcases cd d with h | h
    · rw [e] at h
      exact Nat.lt_of_le_of_lt (by simpa using h) h2
    · exact absurd (com_dvd_right n d) h
theorem Sz.mul {p q : Rat} {b b' : Nat} (h1 : Sz b p) (h2 : Sz b' q) : Sz (b + b') (p * q) := by
  rw [← rat_mul]
  exact Sz.of (h1.num.mul h2.num) (h1.den.mul h2.den) (Int.mul_ne_zero (Rat.den_ne' p) (Rat.den_ne' q))
theorem Sz.add {p q : Rat} {b b' : Nat} (h1 : Sz b p) (h2 : Sz b' q) : Sz (b + b' + 1) (p + q) := by
  rw [← rat_add]
  exact Sz.of (((h1.num.mul h2.den).add (h2.num.mul h1.den)).mono (by omega)) ((h1.den.mul h2.den).mono (by omega)) (Int.mul_ne_zero (Rat.den_ne' p) (Rat.den_ne' q))
theorem Sz.neg {p : Rat} {b : Nat} (h1 : Sz b p) : Sz b (-p) := by
  unfold Sz
  rw [Rat.neg_num, Rat.neg_den, Int.natAbs_neg]
  exact h1
theorem Sz.sub {p q : Rat} {b b' : Nat} (h1 : Sz b p) (h2 : Sz b' q) : Sz (b + b' + 1) (p - q) := by
  rw [Rat.sub_eq_add_neg]
  exact h1.add h2.neg
theorem Sz.int {i : Int} {b : Nat} (h : Nb b i) (hb : 0 < b) : Sz b (i : Rat) := ⟨by simpa [Nb] using h, by
  rw [Rat.den_intCast]
  exact Nat.one_lt_two_pow (Nat.ne_of_gt hb)⟩
end Gm
namespace Gm
open PySem PySem.Spec PyProof.Rows L2
/-! ### instances: made, read, written -/
theorem at_end (st : Store) (x : Cell) : (st ++ [x])[st.length]? = some x := by simp
theorem set_end (st : Store) (x y : Cell) : (st ++ [x]).set st.length y = st ++ [y] := by
  rw [List.set_append_right _ _ (Nat.le_refl _)]
  simp
theorem mkD_new {T : Ls} {c : Fn} {i f : Nat} {ds : List D} {st : Store} {fs : List (Nat × D)} (hm : T.meth i 37 = some f) (hc : callD T c f (.ref st.length :: ds) (st ++ [.ins i []]) = .ok .non (st ++ [.ins i fs])) (hl : fs.map (·.1) = T.lay i)
    (hr : noRefs st.length (fs.map (·.2)) = true) : mkD T c i ds st = .ok (.obj i (fs.map (·.2))) st := by
  unfold mkD
  simp only [hm]
  unfold makeR
  rw [hc]
  unfold made
  simp only [at_end]
  rw [if_pos ⟨trivial, hl⟩, set_end]
  exact tidy_same (by rw [noRef_obj]; exact hr)
theorem fnD_init {n : Nat} {b : Fs} {ds : List D} {st : Store} {i : Nat} {fs : List (Nat × D)} {ρ : Ev} (h : b (startE n ds) (st ++ [.ins i []]) = .nx ρ (st ++ [.ins i fs])) (hr : noRefs (st.length + 1) (fs.map (·.2)) = true) :
    fnD n b ds (st ++ [.ins i []]) = .ok .non (st ++ [.ins i fs]) := by
  rw [fnD_nx h, ← set_end st (.ins i []) (.ins i fs)]
  refine tidy_set0 ?_ (by simp)
  rw [List.length_append]
  exact hr
theorem fk_new {T : Ls} {i g : Nat} {fs : List (Nat × D)} (d : D) (ρ : Ev) (st : Store) (h : (T.isC i && (T.atn i).contains g && decide (fs.length < 1000) && (fs.map (·.1)).all fun g => (T.atn i).contains g) = true) :
    fldK T g d ρ (.ref st.length) (st ++ [.ins i fs]) = .nx ρ (st ++ [.ins i (putC g d fs)]) := by
  simp only [Bool.and_eq_true, decide_eq_true_eq, List.all_eq_true, List.contains_iff_mem] at h
  obtain ⟨⟨⟨h1, h2⟩, h3⟩, h4⟩ := h
  unfold fldK setD
  simp only [at_end]
  rw [if_pos ⟨h1, h2, h3, fun p hp => h4 _ (List.mem_map_of_mem hp)⟩, set_end]
theorem fld_new {T : Ls} {c : Fn} {i g : Nat} {fs : List (Nat × D)} {d : D} (st : Store) (h : (T.isC i && (T.atn i).contains g && (fs.map (·.1)).all fun g => (T.atn i).contains g) = true) (hd : lookF g fs = some d) :
    fldD T c g (.ref st.length) (st ++ [.ins i fs]) = .ok d (st ++ [.ins i fs]) := by
  simp only [Bool.and_eq_true, List.all_eq_true, List.contains_iff_mem] at h
  obtain ⟨⟨h1, h2⟩, h4⟩ := h
  unfold fldD
  simp only [at_end]
  rw [if_pos ⟨h1, h2, fun p hp => h4 _ (List.mem_map_of_mem hp)⟩, hd]
theorem fld_obj {T : Ls} {c : Fn} {i g : Nat} {ds : List D} {d : D} (st : Store) (h : (T.isC i && (T.atn i).contains g) = true) (hd : lookF g ((T.lay i).zip ds) = some d) : fldD T c g (.obj i ds) st = .ok d st := by
  simp only [Bool.and_eq_true, List.contains_iff_mem] at h
  unfold fldD
  dsimp only
  rw [if_pos h, hd]
/-! ### operators of own classes -/
theorem bin_own {T : Ls} {c : Fn} {op : Operator} {i f : Nat} {ds es : List D} (st : Store) (hm : T.meth i (opn op) = some f) (ho : opn op ≠ 0) : binD T c op (.obj i ds) (.obj i es) st = callD T c f [.obj i ds, .obj i es] st := by
  unfold binD
  simp only [hm]
  rw [if_neg fun z => z.1 rfl]
  exact if_pos ⟨ho, .inl trivial⟩
/-- two unlike classes -/
theorem bin_uu {T : Ls} {c : Fn} {op : Operator} {i j f : Nat} {ds es : List D} (st : Store) (hm : T.meth i (opn op) = some f) (ho : opn op ≠ 0) (hc : T.isC j = true) (hj : (T.meth j (opn op)).isSome = true) (hn : T.ni f j = false) : binD T c op (.obj i ds) (.obj j es) st = callD T c f [.obj i ds, .obj j es] st := by
  unfold binD
  simp only [hm]
  rw [if_neg fun z => by rw [hn] at z; exact absurd z.2 (by decide)]
  exact if_pos ⟨ho, .inr ⟨hc, hj⟩⟩
/-- the left one declines -/
theorem bin_ni {T : Ls} {c : Fn} {op : Operator} {i j f g : Nat} {ds es : List D} (st : Store) (hm : T.meth i (opn op) = some f) (hr : T.meth j (opr op) = some g) (ho : opn op ≠ 0) (hc : T.isC j = true) (hj : (T.meth j (opn op)).isSome = true) (hn : T.ni f j = true) (hij : j ≠ i) (hd : T.dfl f = [[]]) (hp : (T.fps f).length = 2)
    (h : c (f + niB) [.obj i ds, .obj j es] st = .ok (.bl true) st) : binD T c op (.obj i ds) (.obj j es) st = callD T c g [.obj j es, .obj i ds] st := by
  unfold binD
  simp only [hm, hr]
  rw [if_pos ⟨hij, hn⟩]
  exact if_pos ⟨ho, hc, hj, hd, hp, h⟩
theorem bin_oi {T : Ls} {c : Fn} {op : Operator} {i f : Nat} {ds : List D} {j : Int} (st : Store) (hm : T.meth i (opn op) = some f) (ho : opn op ≠ 0) : binD T c op (.obj i ds) (.int j) st = callD T c f [.obj i ds, .int j] st := by
  unfold binD
  simp only [hm]
  exact if_pos ho
theorem bin_io {T : Ls} {c : Fn} {op : Operator} {i f g : Nat} {ds : List D} {j : Int} (st : Store) (hm : T.meth i (opr op) = some f) (hn : T.meth i (opn op) = some g) (ho : intLeft op = true) : binD T c op (.int j) (.obj i ds) st = callD T c f [.obj i ds, .int j] st := by
  unfold binD
  simp only [hm]
  exact if_pos ⟨ho, by rw [hn]; rfl⟩
theorem neg_own {T : Ls} {c : Fn} {i f : Nat} {ds : List D} (st : Store) (hm : T.meth i 31 = some f) : negD T c (.obj i ds) st = callD T c f [.obj i ds] st := by
  unfold negD
  simp only [hm]
theorem inv_own {T : Ls} {c : Fn} {i f : Nat} {ds : List D} (st : Store) (hm : T.meth i 32 = some f) : invD T c (.obj i ds) st = callD T c f [.obj i ds] st := by
  unfold invD
  simp only [hm]
theorem eqB_own {T : Ls} {c : Fn} {neg : Bool} {i f : Nat} {ds : List D} {d2 : D} {b : Bool} (st : Store) (hm : T.meth i 21 = some f) (hr : rhs T d2 = true) (hc : callD T c f [.obj i ds, d2] st = .ok (.bl b) st) : eqB T c neg (.obj i ds) d2 st = .ok (.bl (b != neg)) st := by
  unfold eqB eqD
  simp only [hm, hr, hc]
  rfl
@[simp] theorem inO_tup {T : Ls} {c : Fn} {neg : Bool} {d : D} {ds : List D} {st : Store} : inO T c neg d (.tup ds) st = inD neg d (.tup ds) st := rfl
@[simp] theorem inO_ref {T : Ls} {c : Fn} {neg : Bool} {d : D} {n : Nat} {st : Store} : inO T c neg d (.ref n) st = inD neg d (.ref n) st := rfl
theorem inO_own {T : Ls} {c : Fn} {neg : Bool} {i f : Nat} {ds : List D} {d1 : D} {b : Bool} (st : Store) (hm : T.meth i 27 = some f) (hc : callD T c f [.obj i ds, d1] st = .ok (.bl b) st) : inO T c neg d1 (.obj i ds) st = .ok (.bl (b != neg)) st := by
  unfold inO
  simp only [hm, hc, Res.bind_ok, asB]
theorem tru_own {T : Ls} {c : Fn} {i f : Nat} {ds : List D} {b : Bool} (st : Store) (hm : T.meth i 34 = some f) (hc : callD T c f [.obj i ds] st = .ok (.bl b) st) : truD T c (.obj i ds) st = .ok b st := by
  unfold truD
  simp only [hm, hc]
  rfl
end Gm
namespace Gm
open PySem PySem.Spec PyProof.Rows L2
/-! ### list comprehensions in spec proofs -/
theorem fnD_rtg {n : Nat} {b : Fs} {ds : List D} {st e : Store} {d : D} (h : b (startE n ds) st = .rt d (st ++ e)) (hd : noRef st.length d = true) : fnD n b ds st = .ok d st := by
  rw [fnD_rt h]
  exact tidy_same hd
inductive All2 (R : D → D → Prop) : List D → List D → Prop where
  | nil : All2 R [] []
  | cons {a b : D} {as bs : List D} : R a b → All2 R as bs → All2 R (a :: as) (b :: bs)
theorem mid_get (B e : Store) (x : Cell) : (B ++ x :: e)[B.length]? = some x := by simp
theorem mid_set (B e : Store) (x y : Cell) : (B ++ x :: e).set B.length y = B ++ y :: e := by
  rw [List.set_append_right _ _ (Nat.le_refl _)]
  simp
theorem lcI_gen {f : Fe} {i N : Nat} {ρ : Ev} {chk : Store → Prop} {R : D → D → Prop} {I : Nat → Store → Prop} (hN : ∀ k B, I k B → B.length = N) (hc : ∀ k B acc e, I k B → chk (B ++ .lst acc :: e)) :
    ∀ ds : List D, (∀ d ∈ ds, ∀ k B acc e, I (k + 1) B → ∃ B' y e', I k B' ∧ R d y ∧ f (ρ.set i (some d)) (B ++ .lst acc :: e) = .ok y (B' ++ .lst acc :: e')) →
      ∀ B acc e, I ds.length B → acc.length + ds.length ≤ sizeLine → ∃ B' ys e', I 0 B' ∧ All2 R ds ys ∧ lcI chk (gNm i) tTrue f N ds ρ (B ++ .lst acc :: e) = .ok (.ref N) (B' ++ .lst (acc ++ ys) :: e') := by
  intro ds
  induction ds with
  | nil =>
    intro hf B acc e hI hl
    refine ⟨B, [], e, hI, .nil, ?_⟩
    unfold lcI
    rw [if_pos (hc _ _ _ _ hI), List.append_nil]
  | cons d ds ih =>
    intro hf B acc e hI hl
    rw [List.length_cons] at hI hl
    obtain ⟨B', y, e', hI', hR, h⟩ := hf d (by simp) ds.length B acc e hI
    obtain ⟨B2, ys, e2, hI2, hR2, h2⟩ := ih (fun d hd => hf d (List.mem_cons_of_mem _ hd)) B' (acc ++ [y]) e' hI' (by rw [List.length_append, List.length_singleton]; omega)
    refine ⟨B2, y :: ys, e2, hI2, .cons hR hR2, ?_⟩
    unfold lcI
    rw [if_pos (hc _ _ _ _ hI)]
    simp only [ap_gNm, ap_tTrue, h]
    have hn : N = B'.length := (hN _ _ hI').symm
    rw [hn, mid_get]
    simp only []
    rw [if_pos (by omega), mid_set, ← hn, h2, List.append_assoc]
    rfl
/-- nothing of the store is changed -/
theorem lc_pg {fi : Fi} {f : Fe} {i : Nat} {vs : List Nat} {ρ : Ev} {st : Store} {ds : List D} {chk : Store → Prop} {F : D → D} (hi : fi ρ st = .ok (ds, chk) st) (hc : ∀ e, chk (st ++ e))
    (hf : ∀ d ∈ ds, ∀ e, ∃ e', f ((wipeE ρ vs).set i (some d)) (st ++ e) = .ok (F d) (st ++ e ++ e')) (hl : ds.length ≤ sizeLine) : ∃ e, xLc fi (gNm i) tTrue f vs ρ st = .ok (.ref st.length) (st ++ .lst (ds.map F) :: e) := by
  unfold xLc
  rw [hi, Res.bind_ok]
  obtain ⟨B, ys, e, hB, hR, h⟩ := lcI_gen (f := f) (i := i) (N := st.length) (ρ := wipeE ρ vs) (chk := chk) (R := fun d y => y = F d) (I := fun _ B => B = st) (fun _ _ h => by rw [h]) (fun _ _ acc e h => by rw [h]; exact hc _) ds
    (fun d hd k B acc e hB => by
      subst hB
      obtain ⟨e', he⟩ := hf d hd (.lst acc :: e)
      refine ⟨_, F d, e ++ e', rfl, rfl, ?_⟩
      rw [he, List.append_assoc]
      rfl) st [] [] rfl (by simpa using hl)
  have hy : ∀ {ds ys : List D}, All2 (fun d y => y = F d) ds ys → ys = ds.map F := by
    intro ds ys h
    induction h with
    | nil => rfl
    | cons h _ ih => rw [h, ih]; rfl
  refine ⟨e, ?_⟩
  dsimp only
  rw [h, hB, hy hR]
  rfl
theorem tup_lc {fi : Fi} {f : Fe} {i : Nat} {vs : List Nat} {ρ : Ev} {st : Store} {ds : List D} {chk : Store → Prop} {F : D → D} (hi : fi ρ st = .ok (ds, chk) st) (hc : ∀ e, chk (st ++ e))
    (hf : ∀ d ∈ ds, ∀ e, ∃ e', f ((wipeE ρ vs).set i (some d)) (st ++ e) = .ok (F d) (st ++ e ++ e')) (hl : ds.length ≤ sizeLine) : ∃ e, xBi bTuple (aCons (xLc fi (gNm i) tTrue f vs) aNil) ρ st = .ok (.tup (ds.map F)) (st ++ e) := by
  obtain ⟨e, h⟩ := lc_pg hi hc hf hl
  refine ⟨.lst (ds.map F) :: e, ?_⟩
  simp only [ap_xBi, ap_aCons, h, Res.bind_ok, kC1_, ap_aNil, kC2_]
  unfold bTuple seqOf
  simp
theorem iSeq_tup {f : Fe} {ρ : Ev} {st : Store} {ds : List D} (h : f ρ st = .ok (.tup ds) st) : iSeq f ρ st = .ok (ds, fun _ => True) st := by
  unfold iSeq
  rw [h]
  rfl
theorem iSeq_lst {f : Fe} {ρ : Ev} {st : Store} {ds : List D} {n : Nat} (h : f ρ st = .ok (.ref n) st) (hn : st[n]? = some (.lst ds)) : iSeq f ρ st = .ok (ds, fun st => st[n]? = some (.lst ds)) st := by
  unfold iSeq
  rw [h, Res.bind_ok]
  dsimp only
  rw [hn]
theorem get_ext {st e : Store} {n : Nat} {x : Cell} (h : st[n]? = some x) : (st ++ e)[n]? = some x := by
  have hl : n < st.length := (List.getElem?_eq_some_iff.mp h).1
  rw [List.getElem?_append_left hl, h]
end Gm
namespace Gm
open PySem PySem.Spec PyProof.Rows L2
/-! ### lists that grow, counted loops -/
def kAp2 (o d : D) (st : Store) : Res D := appD o d st
def kAp1 (fd : Fe) (ρ : Ev) (o : D) (st : Store) : Res D := match o with
  | .ref n => match st[n]? with
    | some (.lst _) => (fd ρ st).bind (kAp2 o)
    | _ => .stuck
  | _ => .stuck
@[simp] theorem ap_xApp (fo fd : Fe) (ρ : Ev) (st : Store) : xApp fo fd ρ st = (fo ρ st).bind (kAp1 fd ρ) := rfl
theorem kAp1_ {fd : Fe} {ρ : Ev} {n : Nat} {st : Store} {l : List D} (h : st[n]? = some (.lst l)) : kAp1 fd ρ (.ref n) st = (fd ρ st).bind (kAp2 (.ref n)) := by
  unfold kAp1
  simp only [h]
theorem kAp2_ {d : D} {n : Nat} {st : Store} {l : List D} (h : st[n]? = some (.lst l)) (hl : l.length < 100) : kAp2 (.ref n) d st = .ok .non (st.set n (.lst (l ++ [d]))) := by
  unfold kAp2 appD
  simp only [h]
  exact if_pos (Nat.lt_of_lt_of_le hl (by decide))
theorem get_0 (st e : Store) (x : Cell) : (st ++ x :: e)[st.length]? = some x := by simp
theorem get_1 (st e : Store) (x y : Cell) : (st ++ x :: y :: e)[st.length + 1]? = some y := by simp
theorem get_2 (st e : Store) (x y z : Cell) : (st ++ x :: y :: z :: e)[st.length + 2]? = some z := by simp
theorem set_0 (st e : Store) (x c : Cell) : (st ++ x :: e).set st.length c = st ++ c :: e := mid_set st e x c
theorem set_1 (st e : Store) (x y c : Cell) : (st ++ x :: y :: e).set (st.length + 1) c = st ++ x :: c :: e := by
  rw [List.set_append_right _ _ (by omega)]
  simp
theorem set_2 (st e : Store) (x y z c : Cell) : (st ++ x :: y :: z :: e).set (st.length + 2) c = st ++ x :: y :: c :: e := by
  rw [List.set_append_right _ _ (by omega)]
  simp
@[simp] theorem k1_0 (fd : Fe) (ρ : Ev) (st e : Store) (l : List D) : kAp1 fd ρ (.ref st.length) (st ++ .lst l :: e) = (fd ρ (st ++ .lst l :: e)).bind (kAp2 (.ref st.length)) := kAp1_ (get_0 ..)
@[simp] theorem k1_1 (fd : Fe) (ρ : Ev) (st e : Store) (x : Cell) (l : List D) : kAp1 fd ρ (.ref (st.length + 1)) (st ++ x :: .lst l :: e) = (fd ρ (st ++ x :: .lst l :: e)).bind (kAp2 (.ref (st.length + 1))) := kAp1_ (get_1 ..)
@[simp] theorem k1_2 (fd : Fe) (ρ : Ev) (st e : Store) (x y : Cell) (l : List D) : kAp1 fd ρ (.ref (st.length + 2)) (st ++ x :: y :: .lst l :: e) = (fd ρ (st ++ x :: y :: .lst l :: e)).bind (kAp2 (.ref (st.length + 2))) := kAp1_ (get_2 ..)
@[simp] theorem k2_0 (d : D) (st e : Store) (l : List D) (h : l.length < 100) : kAp2 (.ref st.length) d (st ++ .lst l :: e) = .ok .non (st ++ .lst (l ++ [d]) :: e) := by
  rw [kAp2_ (get_0 ..) h, set_0]
@[simp] theorem k2_1 (d : D) (st e : Store) (x : Cell) (l : List D) (h : l.length < 100) : kAp2 (.ref (st.length + 1)) d (st ++ x :: .lst l :: e) = .ok .non (st ++ x :: .lst (l ++ [d]) :: e) := by
  rw [kAp2_ (get_1 ..) h, set_1]
@[simp] theorem k2_2 (d : D) (st e : Store) (x y : Cell) (l : List D) (h : l.length < 100) : kAp2 (.ref (st.length + 2)) d (st ++ x :: y :: .lst l :: e) = .ok .non (st ++ x :: y :: .lst (l ++ [d]) :: e) := by
  rw [kAp2_ (get_2 ..) h, set_2]
theorem subR {n : Nat} {st : Store} {l : List D} {i : Int} (h : st[n]? = some (.lst l)) : subD (.ref n) (.int i) st = optR (atI l i) st := by
  unfold subD
  simp only [h]
@[simp] theorem sb_0 (i : Int) (st e : Store) (l : List D) : subD (.ref st.length) (.int i) (st ++ .lst l :: e) = optR (atI l i) (st ++ .lst l :: e) := subR (get_0 ..)
@[simp] theorem sb_1 (i : Int) (st e : Store) (x : Cell) (l : List D) : subD (.ref (st.length + 1)) (.int i) (st ++ x :: .lst l :: e) = optR (atI l i) (st ++ x :: .lst l :: e) := subR (get_1 ..)
theorem tupR {n : Nat} {st : Store} {l : List D} (h : st[n]? = some (.lst l)) : bTuple [.ref n] st = .ok (.tup l) st := by
  unfold bTuple seqOf
  simp only [h]
@[simp] theorem tp_0 (st e : Store) (l : List D) : bTuple [.ref st.length] (st ++ .lst l :: e) = .ok (.tup l) (st ++ .lst l :: e) := tupR (get_0 ..)
@[simp] theorem tp_1 (st e : Store) (x : Cell) (l : List D) : bTuple [.ref (st.length + 1)] (st ++ x :: .lst l :: e) = .ok (.tup l) (st ++ x :: .lst l :: e) := tupR (get_1 ..)
@[simp] theorem tp_2 (st e : Store) (x y : Cell) (l : List D) : bTuple [.ref (st.length + 2)] (st ++ x :: y :: .lst l :: e) = .ok (.tup l) (st ++ x :: y :: .lst l :: e) := tupR (get_2 ..)
@[simp] theorem tp_tup (st : Store) (l : List D) : bTuple [.tup l] st = .ok (.tup l) st := rfl
@[simp] theorem nl_ (l : List D) (st : Store) : newLst l st = .ok (.ref st.length) (st ++ [.lst l]) := rfl
theorem rng2 (ρ : Ev) (st : Store) : iRng (aCons (xK (.int 2)) aNil) ρ st = .ok ([.int 0, .int 1], fun _ => True) st := rfl
theorem rng9 (ρ : Ev) (st : Store) : iRng (aCons (xK (.int 9)) aNil) ρ st = .ok ([.int 0, .int 1, .int 2, .int 3, .int 4, .int 5, .int 6, .int 7, .int 8], fun _ => True) st := rfl
end Gm
namespace Gm
open PySem PySem.Spec PyProof.Rows L2
theorem lc2 {f h : Fe} {i : Nat} {vs : List Nat} {ρ : Ev} {st : Store} {d1 d2 y1 y2 : D} (hf : f ρ st = .ok (.tup [d1, d2]) st) (h1 : ∀ st, h ((wipeE ρ vs).set i (some d1)) st = .ok y1 st) (h2 : ∀ st, h ((wipeE ρ vs).set i (some d2)) st = .ok y2 st) :
    xLc (iSeq f) (gNm i) tTrue h vs ρ st = .ok (.ref st.length) (st ++ [.lst [y1, y2]]) := by
  unfold xLc
  rw [iSeq_tup hf, Res.bind_ok]
  simp only []
  unfold lcI
  rw [if_pos trivial]
  simp only [ap_gNm, ap_tTrue, h1, at_end]
  rw [if_pos (by decide), set_end]
  unfold lcI
  rw [if_pos trivial]
  simp only [ap_gNm, ap_tTrue, h2, at_end]
  rw [if_pos (show ([] ++ [y1] : List D).length < sizeLine from (by decide : 1 < sizeLine)), set_end]
  unfold lcI
  rw [if_pos trivial]
  rfl
theorem rng_lc2 {h : Fe} {i : Nat} {vs : List Nat} {ρ : Ev} {st : Store} {y1 y2 : D} (h1 : ∀ st, h ((wipeE ρ vs).set i (some (.int 0))) st = .ok y1 st) (h2 : ∀ st, h ((wipeE ρ vs).set i (some (.int 1))) st = .ok y2 st) :
    xLc (iRng (aCons (xK (.int 2)) aNil)) (gNm i) tTrue h vs ρ st = .ok (.ref st.length) (st ++ [.lst [y1, y2]]) := by
  unfold xLc
  rw [rng2, Res.bind_ok]
  simp only []
  unfold lcI
  rw [if_pos trivial]
  simp only [ap_gNm, ap_tTrue, h1, at_end]
  rw [if_pos (by decide), set_end]
  unfold lcI
  rw [if_pos trivial]
  simp only [ap_gNm, ap_tTrue, h2, at_end]
  rw [if_pos (show ([] ++ [y1] : List D).length < sizeLine from (by decide : 1 < sizeLine)), set_end]
  unfold lcI
  rw [if_pos trivial]
  rfl
end Gm
namespace Gm
open PySem PySem.Spec PyProof.Rows L2
/-- a list of two, with changes of the store in between -/
theorem lc2d {f h : Fe} {i : Nat} {vs : List Nat} {ρ : Ev} {st s1 s2 e1 e2 : Store} {d1 d2 y1 y2 : D} (hf : f ρ st = .ok (.tup [d1, d2]) st)
    (h1 : h ((wipeE ρ vs).set i (some d1)) (st ++ [.lst []]) = .ok y1 (s1 ++ Cell.lst [] :: e1)) (l1 : s1.length = st.length)
    (h2 : h ((wipeE ρ vs).set i (some d2)) (s1 ++ Cell.lst [y1] :: e1) = .ok y2 (s2 ++ Cell.lst [y1] :: e2)) (l2 : s2.length = st.length) :
    xLc (iSeq f) (gNm i) tTrue h vs ρ st = .ok (.ref st.length) (s2 ++ Cell.lst [y1, y2] :: e2) := by
  have g1 : (s1 ++ Cell.lst [] :: e1)[st.length]? = some (Cell.lst []) := by rw [← l1]; exact mid_get s1 e1 _
  have g2 : (s2 ++ Cell.lst [y1] :: e2)[st.length]? = some (Cell.lst [y1]) := by rw [← l2]; exact mid_get s2 e2 _
  have t1 : (s1 ++ Cell.lst [] :: e1).set st.length (.lst ([] ++ [y1])) = s1 ++ Cell.lst [y1] :: e1 := by rw [← l1]; exact mid_set s1 e1 _ _
  have t2 : (s2 ++ Cell.lst [y1] :: e2).set st.length (.lst ([y1] ++ [y2])) = s2 ++ Cell.lst [y1, y2] :: e2 := by rw [← l2]; exact mid_set s2 e2 _ _
  unfold xLc
  rw [iSeq_tup hf, Res.bind_ok]
  simp only []
  unfold lcI
  rw [if_pos trivial]
  simp only [ap_gNm, ap_tTrue, h1, g1]
  rw [if_pos (by decide), t1]
  unfold lcI
  rw [if_pos trivial]
  simp only [ap_gNm, ap_tTrue, h2, g2]
  rw [if_pos (show ([y1] : List D).length < sizeLine from (by decide : 1 < sizeLine)), t2]
  unfold lcI
  rw [if_pos trivial]
end Gm
namespace Gm
open PySem PySem.W
/-- the top in pieces, with a view and a hook of one's own -/
theorem head_of {r : OpenRow} {q : Program} {H : Hook} {N : Nat} {loose : List PySem.Str} {d : DefRec} {kwd : List (PySem.Str × PySem.Expr)}
    (left : LeftO r.prog q loose (fun s => xlAt q [] s && recOk r.toRowW.records s) H.obs H.val N true)
    (h1 : defOf q r.name = some (d, kwd))
    (h2 : r.prog.theDef r.name = some (d.params, d.body, d.scope))
    (h3 : kwWritten? d.params.kwonlyargs d.params.kw_defaults = some kwd)
    (h4 : (!r.writes || r.records.isEmpty) = true)
    (h5 : r.wellSaid = true)
    (h6 : (chainsOk q && opensWell r.prog && (frees r.toRowW && r.within.isEmpty)) = true)
    (h7 : r.prog.bare) (h8 : r.toRowW.promised)
    (call : WalkO q loose (XL q []) H.says r.toRowW d kwd fun f vs => PySem.call f vs) : r.Holds := by
  refine holds_open (q := q) (loose := loose) (d := d) (kwd := kwd) (XP := XL q []) (YP := H.says) left H.of H.keeps ?_ XL.keeps h1 h2 h3 ?_ h4 h5 h6 h7 h8 call
  · intro s z
    exact xl_of s (Bool.and_eq_true_iff.mp z).1
  · intro s z
    exact recFacts_of (Bool.and_eq_true_iff.mp z).2
open PySem.Spec PyProof.Rows L2
/-! ### an instance under way, with lists behind it -/
theorem mid_set' (st e : Store) (x y : Cell) : (st ++ x :: e).set st.length y = st ++ y :: e := mid_set st e x y
theorem fnD_initg {n : Nat} {b : Fs} {ds : List D} {st e : Store} {i : Nat} {fs : List (Nat × D)} {ρ : Ev} (h : b (startE n ds) (st ++ [.ins i []]) = .nx ρ (st ++ .ins i fs :: e)) (hr : noRefs (st.length + 1) (fs.map (·.2)) = true) :
    fnD n b ds (st ++ [.ins i []]) = .ok .non (st ++ [.ins i fs]) := by
  rw [fnD_nx h, show st ++ Cell.ins i fs :: e = (st ++ [Cell.ins i fs]) ++ e by simp, ← set_end st (.ins i []) (.ins i fs)]
  refine tidy_set ?_ (by simp)
  rw [List.length_append]
  exact hr
theorem fk_newg {T : Ls} {i g : Nat} {fs : List (Nat × D)} (d : D) (ρ : Ev) (st e : Store) (h : (T.isC i && (T.atn i).contains g && decide (fs.length < 1000) && (fs.map (·.1)).all fun g => (T.atn i).contains g) = true) :
    fldK T g d ρ (.ref st.length) (st ++ .ins i fs :: e) = .nx ρ (st ++ .ins i (putC g d fs) :: e) := by
  simp only [Bool.and_eq_true, decide_eq_true_eq, List.all_eq_true, List.contains_iff_mem] at h
  obtain ⟨⟨⟨h1, h2⟩, h3⟩, h4⟩ := h
  unfold fldK setD
  simp only [mid_get]
  rw [if_pos ⟨h1, h2, h3, fun p hp => h4 _ (List.mem_map_of_mem hp)⟩, mid_set]
end Gm
namespace Gm
open PySem PySem.Spec PyProof.Rows L2
/-- a list of two made of any two, with changes of the store in between -/
theorem lc2g {fi : Fi} {h : Fe} {i : Nat} {vs : List Nat} {ρ : Ev} {chk : Store → Prop} {st s1 s2 e1 e2 : Store} {d1 d2 y1 y2 : D} (hi : fi ρ st = .ok ([d1, d2], chk) st) (c0 : chk (st ++ [.lst []]))
    (h1 : h ((wipeE ρ vs).set i (some d1)) (st ++ [.lst []]) = .ok y1 (s1 ++ Cell.lst [] :: e1)) (l1 : s1.length = st.length) (c1 : chk (s1 ++ Cell.lst [y1] :: e1))
    (h2 : h ((wipeE ρ vs).set i (some d2)) (s1 ++ Cell.lst [y1] :: e1) = .ok y2 (s2 ++ Cell.lst [y1] :: e2)) (l2 : s2.length = st.length) (c2 : chk (s2 ++ Cell.lst [y1, y2] :: e2)) :
    xLc fi (gNm i) tTrue h vs ρ st = .ok (.ref st.length) (s2 ++ Cell.lst [y1, y2] :: e2) := by
  have g1 : (s1 ++ Cell.lst [] :: e1)[st.length]? = some (Cell.lst []) := by rw [← l1]; exact mid_get s1 e1 _
  have g2 : (s2 ++ Cell.lst [y1] :: e2)[st.length]? = some (Cell.lst [y1]) := by rw [← l2]; exact mid_get s2 e2 _
  have t1 : (s1 ++ Cell.lst [] :: e1).set st.length (.lst ([] ++ [y1])) = s1 ++ Cell.lst [y1] :: e1 := by rw [← l1]; exact mid_set s1 e1 _ _
  have t2 : (s2 ++ Cell.lst [y1] :: e2).set st.length (.lst ([y1] ++ [y2])) = s2 ++ Cell.lst [y1, y2] :: e2 := by rw [← l2]; exact mid_set s2 e2 _ _
  unfold xLc
  rw [hi, Res.bind_ok]
  simp only []
  unfold lcI
  rw [if_pos c0]
  simp only [ap_gNm, ap_tTrue, h1, g1]
  rw [if_pos (by decide), t1]
  unfold lcI
  rw [if_pos c1]
  simp only [ap_gNm, ap_tTrue, h2, g2]
  rw [if_pos (show ([y1] : List D).length < sizeLine from (by decide : 1 < sizeLine)), t2]
  unfold lcI
  rw [if_pos c2]
end Gm
/-! printed by gen.py from the law's text -/
namespace G13
open PySem PySem.Spec PyProof.Rows L2 Gm
def top (i : Nat) : Stmt := PySem.Challenge.pw_overfloors_k13_whole_duals.main.body.getD i (.Pass ⟨0, 0, 0, 0⟩)
abbrev s_0 : Stmt := top 7
abbrev s_1 : Stmt := top 8
abbrev s_2 : Stmt := top 9
abbrev s_3 : Stmt := top 10
abbrev s_4 : Stmt := top 11
abbrev s_5 : Stmt := top 13
abbrev s_6 : Stmt := top 17
abbrev s_7 : Stmt := top 19
abbrev s_8 : Stmt := top 21
abbrev s_9 : Stmt := top 23
abbrev s_10 : Stmt := top 24
abbrev s_11 : Stmt := top 25
abbrev s_12 : Stmt := top 26
abbrev s_13 : Stmt := top 27
abbrev s_14 : Stmt := top 28
abbrev s_15 : Stmt := top 29
abbrev s_16 : Stmt := top 30
abbrev s_17 : Stmt := top 31
abbrev s_18 : Stmt := top 32
abbrev s_19 : Stmt := top 33
abbrev s_20 : Stmt := top 34
abbrev s_21 : Stmt := top 35
abbrev s_22 : Stmt := top 36
abbrev s_23 : Stmt := top 37
abbrev s_24 : Stmt := top 38
abbrev s_25 : Stmt := top 39
abbrev s_26 : Stmt := top 40
abbrev s_27 : Stmt := top 41
abbrev s_28 : Stmt := top 42
abbrev s_29 : Stmt := top 43
abbrev s_30 : Stmt := top 44
abbrev s_31 : Stmt := top 45
abbrev s_32 : Stmt := top 46
abbrev s_33 : Stmt := top 47
abbrev s_34 : Stmt := top 48
abbrev s_35 : Stmt := top 49
abbrev s_36 : Stmt := top 50
abbrev s_37 : Stmt := inClass (top 12) 0
abbrev s_38 : Stmt := inClass (top 12) 1
abbrev s_39 : Stmt := inClass (top 12) 2
abbrev s_40 : Stmt := inClass (top 12) 3
abbrev s_41 : Stmt := inClass (top 12) 4
abbrev s_42 : Stmt := inClass (top 12) 5
abbrev s_43 : Stmt := inClass (top 12) 6
abbrev s_44 : Stmt := inClass (top 12) 7
abbrev s_45 : Stmt := inClass (top 12) 8
abbrev s_46 : Stmt := inClass (top 12) 9
abbrev s_47 : Stmt := inClass (top 12) 10
abbrev s_48 : Stmt := inClass (top 12) 11
abbrev s_49 : Stmt := inClass (top 12) 12
abbrev s_50 : Stmt := inClass (top 12) 13
abbrev s_51 : Stmt := inClass (top 12) 14
abbrev s_52 : Stmt := inClass (top 12) 15
abbrev s_53 : Stmt := inClass (top 12) 16
abbrev s_54 : Stmt := inClass (top 12) 17
abbrev s_55 : Stmt := inClass (top 12) 18
abbrev s_56 : Stmt := inClass (top 12) 19
abbrev s_57 : Stmt := inClass (top 12) 21
abbrev s_58 : Stmt := inClass (top 12) 22
abbrev s_59 : Stmt := inClass (top 12) 24
abbrev s_60 : Stmt := inClass (top 15) 0
abbrev s_61 : Stmt := inClass (top 15) 1
abbrev s_62 : Stmt := inClass (top 15) 2
abbrev s_63 : Stmt := inClass (top 15) 3
abbrev s_64 : Stmt := inClass (top 15) 4
abbrev s_65 : Stmt := inClass (top 15) 5
abbrev s_66 : Stmt := inClass (top 15) 6
abbrev s_67 : Stmt := inClass (top 15) 7
abbrev s_68 : Stmt := inClass (top 16) 0
abbrev s_69 : Stmt := inClass (top 16) 1
abbrev s_70 : Stmt := inClass (top 16) 2
abbrev s_71 : Stmt := inClass (top 16) 3
abbrev s_72 : Stmt := inClass (top 16) 4
abbrev s_73 : Stmt := inClass (top 16) 5
abbrev s_74 : Stmt := inClass (top 16) 6
abbrev s_75 : Stmt := inClass (top 16) 7
abbrev s_76 : Stmt := inClass (top 20) 0
abbrev s_77 : Stmt := inClass (top 20) 3
abbrev s_78 : Stmt := inClass (top 20) 4
abbrev s_79 : Stmt := inClass (top 20) 5
abbrev s_80 : Stmt := inClass (top 20) 7
abbrev s_81 : Stmt := inClass (top 20) 8
abbrev s_82 : Stmt := inClass (top 20) 12
abbrev s_83 : Stmt := inClass (top 20) 13
abbrev s_84 : Stmt := inClass (top 20) 14
abbrev s_85 : Stmt := inClass (top 20) 15
abbrev s_86 : Stmt := inClass (top 20) 16
abbrev s_87 : Stmt := inClass (top 20) 17
abbrev s_88 : Stmt := inClass (top 20) 18
/-- is_number -/
def d_0 : He.DefD := ⟨("is_number", none), "is_number", "is_number", defArgs s_0, defBody s_0, defScope s_0, [], []⟩
/-- gcd_of -/
def d_1 : He.DefD := ⟨("gcd_of", none), "gcd_of", "gcd_of", defArgs s_1, defBody s_1, defScope s_1, [], []⟩
/-- lcm_of -/
def d_2 : He.DefD := ⟨("lcm_of", none), "lcm_of", "lcm_of", defArgs s_2, defBody s_2, defScope s_2, [], []⟩
/-- bezout -/
def d_3 : He.DefD := ⟨("bezout", none), "bezout", "bezout", defArgs s_3, defBody s_3, defScope s_3, [], []⟩
/-- raised -/
def d_4 : He.DefD := ⟨("raised", none), "raised", "raised", defArgs s_4, defBody s_4, defScope s_4, [], []⟩
/-- ratio_of -/
def d_5 : He.DefD := ⟨("ratio_of", none), "ratio_of", "ratio_of", defArgs s_5, defBody s_5, defScope s_5, [], []⟩
/-- value_at -/
def d_6 : He.DefD := ⟨("value_at", none), "value_at", "value_at", defArgs s_6, defBody s_6, defScope s_6, [], []⟩
/-- stair -/
def d_7 : He.DefD := ⟨("stair", none), "stair", "stair", defArgs s_7, defBody s_7, defScope s_7, [], []⟩
/-- scaled -/
def d_8 : He.DefD := ⟨("scaled", none), "scaled", "scaled", defArgs s_8, defBody s_8, defScope s_8, [], []⟩
/-- _law_begin -/
def d_9 : He.DefD := ⟨("_law_begin", none), "_law_begin", "_law_begin", defArgs s_9, defBody s_9, defScope s_9, [], []⟩
/-- _law_draw -/
def d_10 : He.DefD := ⟨("_law_draw", none), "_law_draw", "_law_draw", defArgs s_10, defBody s_10, defScope s_10, [], []⟩
/-- _law_pick -/
def d_11 : He.DefD := ⟨("_law_pick", none), "_law_pick", "_law_pick", defArgs s_11, defBody s_11, defScope s_11, [], []⟩
/-- _law_ten -/
def d_12 : He.DefD := ⟨("_law_ten", none), "_law_ten", "_law_ten", defArgs s_12, defBody s_12, defScope s_12, [], []⟩
/-- _law_long -/
def d_13 : He.DefD := ⟨("_law_long", none), "_law_long", "_law_long", defArgs s_13, defBody s_13, defScope s_13, [], []⟩
/-- _law_size -/
def d_14 : He.DefD := ⟨("_law_size", none), "_law_size", "_law_size", defArgs s_14, defBody s_14, defScope s_14, [], []⟩
/-- _law_number -/
def d_15 : He.DefD := ⟨("_law_number", none), "_law_number", "_law_number", defArgs s_15, defBody s_15, defScope s_15, [], []⟩
/-- _law_gcd -/
def d_16 : He.DefD := ⟨("_law_gcd", none), "_law_gcd", "_law_gcd", defArgs s_16, defBody s_16, defScope s_16, [], []⟩
/-- _law_truth -/
def d_17 : He.DefD := ⟨("_law_truth", none), "_law_truth", "_law_truth", defArgs s_17, defBody s_17, defScope s_17, [], []⟩
/-- _law_whole_is -/
def d_18 : He.DefD := ⟨("_law_whole_is", none), "_law_whole_is", "_law_whole_is", defArgs s_18, defBody s_18, defScope s_18, [], []⟩
/-- _law_ratio_is -/
def d_19 : He.DefD := ⟨("_law_ratio_is", none), "_law_ratio_is", "_law_ratio_is", defArgs s_19, defBody s_19, defScope s_19, [], []⟩
/-- _law_told -/
def d_20 : He.DefD := ⟨("_law_told", none), "_law_told", "_law_told", defArgs s_20, defBody s_20, defScope s_20, [], []⟩
/-- _law_point -/
def d_21 : He.DefD := ⟨("_law_point", none), "_law_point", "_law_point", defArgs s_21, defBody s_21, defScope s_21, [], []⟩
/-- _law_area -/
def d_22 : He.DefD := ⟨("_law_area", none), "_law_area", "_law_area", defArgs s_22, defBody s_22, defScope s_22, [], []⟩
/-- _law_stair -/
def d_23 : He.DefD := ⟨("_law_stair", none), "_law_stair", "_law_stair", defArgs s_23, defBody s_23, defScope s_23, [], []⟩
/-- _law_rows -/
def d_24 : He.DefD := ⟨("_law_rows", none), "_law_rows", "_law_rows", defArgs s_24, defBody s_24, defScope s_24, [], []⟩
/-- _law_small -/
def d_25 : He.DefD := ⟨("_law_small", none), "_law_small", "_law_small", defArgs s_25, defBody s_25, defScope s_25, [], []⟩
/-- _law_lattice -/
def d_26 : He.DefD := ⟨("_law_lattice", none), "_law_lattice", "_law_lattice", defArgs s_26, defBody s_26, defScope s_26, [], []⟩
/-- _law_is_lattice -/
def d_27 : He.DefD := ⟨("_law_is_lattice", none), "_law_is_lattice", "_law_is_lattice", defArgs s_27, defBody s_27, defScope s_27, [], []⟩
/-- _law_member -/
def d_28 : He.DefD := ⟨("_law_member", none), "_law_member", "_law_member", defArgs s_28, defBody s_28, defScope s_28, [], []⟩
/-- _law_plus -/
def d_29 : He.DefD := ⟨("_law_plus", none), "_law_plus", "_law_plus", defArgs s_29, defBody s_29, defScope s_29, [], []⟩
/-- _law_times -/
def d_30 : He.DefD := ⟨("_law_times", none), "_law_times", "_law_times", defArgs s_30, defBody s_30, defScope s_30, [], []⟩
/-- _law_middle -/
def d_31 : He.DefD := ⟨("_law_middle", none), "_law_middle", "_law_middle", defArgs s_31, defBody s_31, defScope s_31, [], []⟩
/-- _law_product -/
def d_32 : He.DefD := ⟨("_law_product", none), "_law_product", "_law_product", defArgs s_32, defBody s_32, defScope s_32, [], []⟩
/-- _law_dual_right -/
def d_33 : He.DefD := ⟨("_law_dual_right", none), "_law_dual_right", "_law_dual_right", defArgs s_33, defBody s_33, defScope s_33, [], []⟩
/-- _law_forms_right -/
def d_34 : He.DefD := ⟨("_law_forms_right", none), "_law_forms_right", "_law_forms_right", defArgs s_34, defBody s_34, defScope s_34, [], []⟩
/-- _law_two_right -/
def d_35 : He.DefD := ⟨("_law_two_right", none), "_law_two_right", "_law_two_right", defArgs s_35, defBody s_35, defScope s_35, [], []⟩
/-- law -/
def d_36 : He.DefD := ⟨("law", none), "law", "law", defArgs s_36, defBody s_36, defScope s_36, [], []⟩
/-- Ratio.__init__ -/
def d_37 : He.DefD := ⟨("Ratio", some "__init__"), "__init__", "Ratio.__init__", defArgs s_37, defBody s_37, defScope s_37, [.int 1], []⟩
/-- Ratio.__eq__ -/
def d_38 : He.DefD := ⟨("Ratio", some "__eq__"), "__eq__", "Ratio.__eq__", defArgs s_38, defBody s_38, defScope s_38, [], []⟩
/-- Ratio.__lt__ -/
def d_39 : He.DefD := ⟨("Ratio", some "__lt__"), "__lt__", "Ratio.__lt__", defArgs s_39, defBody s_39, defScope s_39, [], []⟩
/-- Ratio.__le__ -/
def d_40 : He.DefD := ⟨("Ratio", some "__le__"), "__le__", "Ratio.__le__", defArgs s_40, defBody s_40, defScope s_40, [], []⟩
/-- Ratio.__gt__ -/
def d_41 : He.DefD := ⟨("Ratio", some "__gt__"), "__gt__", "Ratio.__gt__", defArgs s_41, defBody s_41, defScope s_41, [], []⟩
/-- Ratio.__ge__ -/
def d_42 : He.DefD := ⟨("Ratio", some "__ge__"), "__ge__", "Ratio.__ge__", defArgs s_42, defBody s_42, defScope s_42, [], []⟩
/-- Ratio.__add__ -/
def d_43 : He.DefD := ⟨("Ratio", some "__add__"), "__add__", "Ratio.__add__", defArgs s_43, defBody s_43, defScope s_43, [], []⟩
/-- Ratio.__radd__ -/
def d_44 : He.DefD := ⟨("Ratio", some "__radd__"), "__radd__", "Ratio.__radd__", defArgs s_44, defBody s_44, defScope s_44, [], []⟩
/-- Ratio.__sub__ -/
def d_45 : He.DefD := ⟨("Ratio", some "__sub__"), "__sub__", "Ratio.__sub__", defArgs s_45, defBody s_45, defScope s_45, [], []⟩
/-- Ratio.__rsub__ -/
def d_46 : He.DefD := ⟨("Ratio", some "__rsub__"), "__rsub__", "Ratio.__rsub__", defArgs s_46, defBody s_46, defScope s_46, [], []⟩
/-- Ratio.__mul__ -/
def d_47 : He.DefD := ⟨("Ratio", some "__mul__"), "__mul__", "Ratio.__mul__", defArgs s_47, defBody s_47, defScope s_47, [], []⟩
/-- Ratio.__rmul__ -/
def d_48 : He.DefD := ⟨("Ratio", some "__rmul__"), "__rmul__", "Ratio.__rmul__", defArgs s_48, defBody s_48, defScope s_48, [], []⟩
/-- Ratio.__floordiv__ -/
def d_49 : He.DefD := ⟨("Ratio", some "__floordiv__"), "__floordiv__", "Ratio.__floordiv__", defArgs s_49, defBody s_49, defScope s_49, [], []⟩
/-- Ratio.__rfloordiv__ -/
def d_50 : He.DefD := ⟨("Ratio", some "__rfloordiv__"), "__rfloordiv__", "Ratio.__rfloordiv__", defArgs s_50, defBody s_50, defScope s_50, [], []⟩
/-- Ratio.__mod__ -/
def d_51 : He.DefD := ⟨("Ratio", some "__mod__"), "__mod__", "Ratio.__mod__", defArgs s_51, defBody s_51, defScope s_51, [], []⟩
/-- Ratio.__rmod__ -/
def d_52 : He.DefD := ⟨("Ratio", some "__rmod__"), "__rmod__", "Ratio.__rmod__", defArgs s_52, defBody s_52, defScope s_52, [], []⟩
/-- Ratio.__pow__ -/
def d_53 : He.DefD := ⟨("Ratio", some "__pow__"), "__pow__", "Ratio.__pow__", defArgs s_53, defBody s_53, defScope s_53, [], []⟩
/-- Ratio.__neg__ -/
def d_54 : He.DefD := ⟨("Ratio", some "__neg__"), "__neg__", "Ratio.__neg__", defArgs s_54, defBody s_54, defScope s_54, [], []⟩
/-- Ratio.__abs__ -/
def d_55 : He.DefD := ⟨("Ratio", some "__abs__"), "__abs__", "Ratio.__abs__", defArgs s_55, defBody s_55, defScope s_55, [], []⟩
/-- Ratio.__bool__ -/
def d_56 : He.DefD := ⟨("Ratio", some "__bool__"), "__bool__", "Ratio.__bool__", defArgs s_56, defBody s_56, defScope s_56, [], []⟩
/-- Ratio.over -/
def d_57 : He.DefD := ⟨("Ratio", some "over"), "over", "Ratio.over", defArgs s_57, defBody s_57, defScope s_57, [], []⟩
/-- Ratio.floor -/
def d_58 : He.DefD := ⟨("Ratio", some "floor"), "floor", "Ratio.floor", defArgs s_58, defBody s_58, defScope s_58, [], []⟩
/-- Ratio.whole -/
def d_59 : He.DefD := ⟨("Ratio", some "whole"), "whole", "Ratio.whole", defArgs s_59, defBody s_59, defScope s_59, [], []⟩
/-- Point.__init__ -/
def d_60 : He.DefD := ⟨("Point", some "__init__"), "__init__", "Point.__init__", defArgs s_60, defBody s_60, defScope s_60, [], []⟩
/-- Point.__eq__ -/
def d_61 : He.DefD := ⟨("Point", some "__eq__"), "__eq__", "Point.__eq__", defArgs s_61, defBody s_61, defScope s_61, [], []⟩
/-- Point.__add__ -/
def d_62 : He.DefD := ⟨("Point", some "__add__"), "__add__", "Point.__add__", defArgs s_62, defBody s_62, defScope s_62, [], []⟩
/-- Point.__sub__ -/
def d_63 : He.DefD := ⟨("Point", some "__sub__"), "__sub__", "Point.__sub__", defArgs s_63, defBody s_63, defScope s_63, [], []⟩
/-- Point.__mul__ -/
def d_64 : He.DefD := ⟨("Point", some "__mul__"), "__mul__", "Point.__mul__", defArgs s_64, defBody s_64, defScope s_64, [], []⟩
/-- Point.__rmul__ -/
def d_65 : He.DefD := ⟨("Point", some "__rmul__"), "__rmul__", "Point.__rmul__", defArgs s_65, defBody s_65, defScope s_65, [], []⟩
/-- Point.__neg__ -/
def d_66 : He.DefD := ⟨("Point", some "__neg__"), "__neg__", "Point.__neg__", defArgs s_66, defBody s_66, defScope s_66, [], []⟩
/-- Point.__bool__ -/
def d_67 : He.DefD := ⟨("Point", some "__bool__"), "__bool__", "Point.__bool__", defArgs s_67, defBody s_67, defScope s_67, [], []⟩
/-- Form.__init__ -/
def d_68 : He.DefD := ⟨("Form", some "__init__"), "__init__", "Form.__init__", defArgs s_68, defBody s_68, defScope s_68, [], []⟩
/-- Form.__call__ -/
def d_69 : He.DefD := ⟨("Form", some "__call__"), "__call__", "Form.__call__", defArgs s_69, defBody s_69, defScope s_69, [], []⟩
/-- Form.__eq__ -/
def d_70 : He.DefD := ⟨("Form", some "__eq__"), "__eq__", "Form.__eq__", defArgs s_70, defBody s_70, defScope s_70, [], []⟩
/-- Form.__add__ -/
def d_71 : He.DefD := ⟨("Form", some "__add__"), "__add__", "Form.__add__", defArgs s_71, defBody s_71, defScope s_71, [], []⟩
/-- Form.__sub__ -/
def d_72 : He.DefD := ⟨("Form", some "__sub__"), "__sub__", "Form.__sub__", defArgs s_72, defBody s_72, defScope s_72, [], []⟩
/-- Form.__mul__ -/
def d_73 : He.DefD := ⟨("Form", some "__mul__"), "__mul__", "Form.__mul__", defArgs s_73, defBody s_73, defScope s_73, [], []⟩
/-- Form.__rmul__ -/
def d_74 : He.DefD := ⟨("Form", some "__rmul__"), "__rmul__", "Form.__rmul__", defArgs s_74, defBody s_74, defScope s_74, [], []⟩
/-- Form.__neg__ -/
def d_75 : He.DefD := ⟨("Form", some "__neg__"), "__neg__", "Form.__neg__", defArgs s_75, defBody s_75, defScope s_75, [], []⟩
/-- Lattice.__init__ -/
def d_76 : He.DefD := ⟨("Lattice", some "__init__"), "__init__", "Lattice.__init__", defArgs s_76, defBody s_76, defScope s_76, [], []⟩
/-- Lattice.cell -/
def d_77 : He.DefD := ⟨("Lattice", some "cell"), "cell", "Lattice.cell", defArgs s_77, defBody s_77, defScope s_77, [], []⟩
/-- Lattice.rows -/
def d_78 : He.DefD := ⟨("Lattice", some "rows"), "rows", "Lattice.rows", defArgs s_78, defBody s_78, defScope s_78, [], []⟩
/-- Lattice.steps -/
def d_79 : He.DefD := ⟨("Lattice", some "steps"), "steps", "Lattice.steps", defArgs s_79, defBody s_79, defScope s_79, [], []⟩
/-- Lattice.tests -/
def d_80 : He.DefD := ⟨("Lattice", some "tests"), "tests", "Lattice.tests", defArgs s_80, defBody s_80, defScope s_80, [], []⟩
/-- Lattice.dual -/
def d_81 : He.DefD := ⟨("Lattice", some "dual"), "dual", "Lattice.dual", defArgs s_81, defBody s_81, defScope s_81, [], []⟩
/-- Lattice.__contains__ -/
def d_82 : He.DefD := ⟨("Lattice", some "__contains__"), "__contains__", "Lattice.__contains__", defArgs s_82, defBody s_82, defScope s_82, [], []⟩
/-- Lattice.__eq__ -/
def d_83 : He.DefD := ⟨("Lattice", some "__eq__"), "__eq__", "Lattice.__eq__", defArgs s_83, defBody s_83, defScope s_83, [], []⟩
/-- Lattice.__le__ -/
def d_84 : He.DefD := ⟨("Lattice", some "__le__"), "__le__", "Lattice.__le__", defArgs s_84, defBody s_84, defScope s_84, [], []⟩
/-- Lattice.__add__ -/
def d_85 : He.DefD := ⟨("Lattice", some "__add__"), "__add__", "Lattice.__add__", defArgs s_85, defBody s_85, defScope s_85, [], []⟩
/-- Lattice.__and__ -/
def d_86 : He.DefD := ⟨("Lattice", some "__and__"), "__and__", "Lattice.__and__", defArgs s_86, defBody s_86, defScope s_86, [], []⟩
/-- Lattice.__mul__ -/
def d_87 : He.DefD := ⟨("Lattice", some "__mul__"), "__mul__", "Lattice.__mul__", defArgs s_87, defBody s_87, defScope s_87, [], []⟩
/-- Lattice.__rmul__ -/
def d_88 : He.DefD := ⟨("Lattice", some "__rmul__"), "__rmul__", "Lattice.__rmul__", defArgs s_88, defBody s_88, defScope s_88, [], []⟩
def cls : List Cl := [⟨"Ratio", [40, 41], [40, 41], [(37, 37), (21, 38), (22, 39), (23, 40), (24, 41), (25, 42), (1, 43), (11, 44), (2, 45), (12, 46), (3, 47), (13, 48), (4, 49), (14, 50), (5, 51), (15, 52), (6, 53), (31, 54), (33, 55), (34, 56), (50, 57), (49, 58), (54, 59)], []⟩, ⟨"Point", [42, 43], [42, 43], [(37, 60), (21, 61), (1, 62), (2, 63), (3, 64), (13, 65), (31, 66), (34, 67)], []⟩, ⟨"Form", [42, 43], [42, 43], [(37, 68), (36, 69), (21, 70), (1, 71), (2, 72), (3, 73), (13, 74), (31, 75)], []⟩, ⟨"Lattice", [44, 45, 46], [44, 45, 46], [(37, 76), (51, 78), (52, 79), (53, 80), (48, 81), (27, 82), (21, 83), (23, 84), (1, 85), (7, 86), (3, 87), (13, 88)], [(47, 77)]⟩]
def defs : List Df := [⟨d_0, ["value"]⟩, ⟨d_1, ["first", "second"]⟩, ⟨d_2, ["first", "second"]⟩, ⟨d_3, ["first", "second"]⟩, ⟨d_4, ["number", "times"]⟩, ⟨d_5, ["number"]⟩, ⟨d_6, ["form", "point"]⟩, ⟨d_7, ["pairs"]⟩, ⟨d_8, ["lattice", "number"]⟩, ⟨d_9, ["_law_script"]⟩, ⟨d_10, ["_law_tape", "_law_limit"]⟩, ⟨d_11, ["_law_tape", "_law_some"]⟩, ⟨d_12, ["_law_figures"]⟩, ⟨d_13, ["_law_tape", "_law_figures"]⟩, ⟨d_14, ["_law_tape", "_law_figures"]⟩, ⟨d_15, ["_law_tape", "_law_figures"]⟩, ⟨d_16, ["_law_one", "_law_other"]⟩, ⟨d_17, ["_law_value", "_law_due"]⟩, ⟨d_18, ["_law_value", "_law_due"]⟩, ⟨d_19, ["_law_value", "_law_top", "_law_bottom"]⟩, ⟨d_20, ["_law_number_here", "_law_over"]⟩, ⟨d_21, ["_law_pair", "_law_over"]⟩, ⟨d_22, ["_law_one", "_law_other"]⟩, ⟨d_23, ["_law_pairs"]⟩, ⟨d_24, ["_law_tape", "_law_size_here"]⟩, ⟨d_25, ["_law_tape"]⟩, ⟨d_26, ["_law_rows_here", "_law_over"]⟩, ⟨d_27, ["_law_value", "_law_rows_here", "_law_over"]⟩, ⟨d_28, ["_law_tape", "_law_rows_here", "_law_size_here"]⟩, ⟨d_29, ["_law_one", "_law_other"]⟩, ⟨d_30, ["_law_number_here", "_law_pair"]⟩, ⟨d_31, ["_law_tape"]⟩, ⟨d_32, ["_law_one", "_law_other"]⟩, ⟨d_33, ["_law_tape", "_law_rows_here", "_law_over", "_law_lattice_here"]⟩, ⟨d_34, ["_law_tape", "_law_rows_here", "_law_over", "_law_lattice_here"]⟩, ⟨d_35, ["_law_one", "_law_other", "_law_factor"]⟩, ⟨d_36, ["_law_script"]⟩, ⟨d_37, ["self", "top", "bottom"]⟩, ⟨d_38, ["self", "other"]⟩, ⟨d_39, ["self", "other"]⟩, ⟨d_40, ["self", "other"]⟩, ⟨d_41, ["self", "other"]⟩, ⟨d_42, ["self", "other"]⟩, ⟨d_43, ["self", "other"]⟩, ⟨d_44, ["self", "other"]⟩, ⟨d_45, ["self", "other"]⟩, ⟨d_46, ["self", "other"]⟩, ⟨d_47, ["self", "other"]⟩, ⟨d_48, ["self", "other"]⟩, ⟨d_49, ["self", "other"]⟩, ⟨d_50, ["self", "other"]⟩, ⟨d_51, ["self", "other"]⟩, ⟨d_52, ["self", "other"]⟩, ⟨d_53, ["self", "other"]⟩, ⟨d_54, ["self"]⟩, ⟨d_55, ["self"]⟩, ⟨d_56, ["self"]⟩, ⟨d_57, ["self", "number"]⟩, ⟨d_58, ["self"]⟩, ⟨d_59, ["self"]⟩, ⟨d_60, ["self", "x", "y"]⟩, ⟨d_61, ["self", "other"]⟩, ⟨d_62, ["self", "other"]⟩, ⟨d_63, ["self", "other"]⟩, ⟨d_64, ["self", "other"]⟩, ⟨d_65, ["self", "other"]⟩, ⟨d_66, ["self"]⟩, ⟨d_67, ["self"]⟩, ⟨d_68, ["self", "x", "y"]⟩, ⟨d_69, ["self", "point"]⟩, ⟨d_70, ["self", "other"]⟩, ⟨d_71, ["self", "other"]⟩, ⟨d_72, ["self", "other"]⟩, ⟨d_73, ["self", "other"]⟩, ⟨d_74, ["self", "other"]⟩, ⟨d_75, ["self"]⟩, ⟨d_76, ["self", "points"]⟩, ⟨d_77, ["self"]⟩, ⟨d_78, ["self"]⟩, ⟨d_79, ["self", "point"]⟩, ⟨d_80, ["self"]⟩, ⟨d_81, ["self"]⟩, ⟨d_82, ["self", "point"]⟩, ⟨d_83, ["self", "other"]⟩, ⟨d_84, ["self", "other"]⟩, ⟨d_85, ["self", "other"]⟩, ⟨d_86, ["self", "other"]⟩, ⟨d_87, ["self", "other"]⟩, ⟨d_88, ["self", "other"]⟩]
def nms : List Str := ["top", "bottom", "x", "y", "a", "b", "d", "cell", "dual", "floor", "over", "rows", "steps", "tests", "whole"]
def nip : List (Nat × Nat) := [(47, 1), (47, 2), (47, 3), (62, 0), (63, 0), (64, 2), (64, 3), (71, 0), (72, 0), (73, 1), (73, 3), (85, 0), (87, 1), (87, 2)]
def tb : Tb := ⟨cls, defs, nms, nip⟩
abbrev T : Ls := tb.ls
/-! names: top 40, bottom 41, x 42, y 43, a 44, b 45, d 46, cell 47, dual 48, floor 49, over 50, rows 51, steps 52, tests 53, whole 54 -/
/-! classes: Ratio 0, Point 1, Form 2, Lattice 3 -/
/-- is_number(value); value 0 -/
noncomputable def B_0 (c : Fn) : Fs := (sRet (xOr (truD T c) (xIso T 0 (xVar 0)) (xAnd (truD T c) (xIst T "int" (xVar 0)) (xNot (truD T c) (xIst T "bool" (xVar 0))))))
/-- gcd_of(first, second); first 0 second 1 -/
noncomputable def B_1 (c : Fn) : Fs := (sSeq (sPar 0 1 (aCons (xBi bAbs (aCons (xVar 0) aNil)) (aCons (xBi bAbs (aCons (xVar 1) aNil)) aNil))) (sSeq (sWhile (tOf (truD T c) (xVar 1)) (sPar 0 1 (aCons (xVar 1) (aCons (xBin (binD T c .Mod) (xVar 0) (xVar 1)) aNil)))) (sRet (xVar 0))))
/-- lcm_of(first, second); first 0 second 1 -/
noncomputable def B_2 (c : Fn) : Fs := (sSeq (sIf (tOr (tOf (truD T c) (xBin (eqB T c false) (xVar 0) (xK (.int 0)))) (tOf (truD T c) (xBin (eqB T c false) (xVar 1) (xK (.int 0))))) (sRet (xK (.int 0))) sNx) (sRet (xBi bAbs (aCons (xBin (binD T c .Mult) (xBin (binD T c .FloorDiv) (xVar 0) (xCall T c 1 (aCons (xVar 0) (aCons (xVar 1) aNil)))) (xVar 1)) aNil))))
/-- bezout(first, second); first 0 second 1 old 2 new 3 times 4 -/
noncomputable def B_3 (c : Fn) : Fs := (sSeq (sPar 2 3 (aCons (xTup (aCons (xVar 0) (aCons (xK (.int 1)) (aCons (xK (.int 0)) aNil)))) (aCons (xTup (aCons (xVar 1) (aCons (xK (.int 0)) (aCons (xK (.int 1)) aNil)))) aNil))) (sSeq (sWhile (tOf (truD T c) (xBin subD (xVar 3) (xK (.int 0)))) (sSeq (sAsg (xBin (binD T c .FloorDiv) (xBin subD (xVar 2) (xK (.int 0))) (xBin subD (xVar 3) (xK (.int 0)))) (gNm 4)) (sPar 2 3 (aCons (xVar 3) (aCons (xTup (aCons (xBin (binD T c .Sub) (xBin subD (xVar 2) (xK (.int 0))) (xBin (binD T c .Mult) (xVar 4) (xBin subD (xVar 3) (xK (.int 0))))) (aCons (xBin (binD T c .Sub) (xBin subD (xVar 2) (xK (.int 1))) (xBin (binD T c .Mult) (xVar 4) (xBin subD (xVar 3) (xK (.int 1))))) (aCons (xBin (binD T c .Sub) (xBin subD (xVar 2) (xK (.int 2))) (xBin (binD T c .Mult) (xVar 4) (xBin subD (xVar 3) (xK (.int 2))))) aNil)))) aNil))))) (sSeq (sIf (tOf (truD T c) (xBin (ordD T c .Lt) (xBin subD (xVar 2) (xK (.int 0))) (xK (.int 0)))) (sAsg (xTup (aCons (xUn (negD T c) (xBin subD (xVar 2) (xK (.int 0)))) (aCons (xUn (negD T c) (xBin subD (xVar 2) (xK (.int 1)))) (aCons (xUn (negD T c) (xBin subD (xVar 2) (xK (.int 2)))) aNil)))) (gNm 2)) sNx) (sRet (xVar 2)))))
/-- raised(number, times); number 0 times 1 product 2 -/
noncomputable def B_4 (c : Fn) : Fs := (sSeq (sAsg (xK (.int 1)) (gNm 2)) (sSeq (sWhile (tOf (truD T c) (xVar 1)) (sSeq (sIf (tOf (truD T c) (xBin (binD T c .Mod) (xVar 1) (xK (.int 2)))) (sAsg (xBin (binD T c .Mult) (xVar 2) (xVar 0)) (gNm 2)) sNx) (sSeq (sAsg (xBin (binD T c .Mult) (xVar 0) (xVar 0)) (gNm 0)) (sAsg (xBin (binD T c .FloorDiv) (xVar 1) (xK (.int 2))) (gNm 1))))) (sRet (xVar 2))))
/-- ratio_of(number); number 0 -/
noncomputable def B_5 (c : Fn) : Fs := (sSeq (sIf (tOf (truD T c) (xIso T 0 (xVar 0))) (sRet (xVar 0)) sNx) (sSeq (sIf (tNot (tOf (truD T c) (xCall T c 0 (aCons (xVar 0) aNil)))) sNo sNx) (sRet (xMk T c 0 (aCons (xVar 0) aNil)))))
/-- value_at(form, point); form 0 point 1 -/
noncomputable def B_6 (c : Fn) : Fs := (sRet (xBin (binD T c .Add) (xBin (binD T c .Mult) (xFld T c 42 (xVar 0)) (xFld T c 42 (xVar 1))) (xBin (binD T c .Mult) (xFld T c 43 (xVar 0)) (xFld T c 43 (xVar 1)))))
/-- stair(pairs); pairs 0 wide 1 lean 2 tall 3 x 4 y 5 common 6 first 7 second 8 rest 9 -/
noncomputable def B_7 (c : Fn) : Fs := (sSeq (sAsg (xTup (aCons (xK (.int 0)) (aCons (xK (.int 0)) (aCons (xK (.int 0)) aNil)))) (gTp (gsCons (gNm 1) (gsCons (gNm 2) (gsCons (gNm 3) gsNil))))) (sSeq (sFor (iSeq (xVar 0)) (gTp (gsCons (gNm 4) (gsCons (gNm 5) gsNil))) (sSeq (sIf (tOf (truD T c) (xBin (eqB T c false) (xVar 4) (xK (.int 0)))) (sSeq (sAsg (xCall T c 1 (aCons (xVar 3) (aCons (xVar 5) aNil))) (gNm 3)) sCt) sNx) (sSeq (sAsg (xCall T c 3 (aCons (xVar 1) (aCons (xVar 4) aNil))) (gTp (gsCons (gNm 6) (gsCons (gNm 7) (gsCons (gNm 8) gsNil))))) (sSeq (sAsg (xBin (binD T c .Sub) (xBin (binD T c .Mult) (xBin (binD T c .FloorDiv) (xVar 1) (xVar 6)) (xVar 5)) (xBin (binD T c .Mult) (xBin (binD T c .FloorDiv) (xVar 4) (xVar 6)) (xVar 2))) (gNm 9)) (sSeq (sPar 1 2 (aCons (xVar 6) (aCons (xBin (binD T c .Add) (xBin (binD T c .Mult) (xVar 7) (xVar 2)) (xBin (binD T c .Mult) (xVar 8) (xVar 5))) aNil))) (sSeq (sAsg (xCall T c 1 (aCons (xVar 3) (aCons (xVar 9) aNil))) (gNm 3)) (sIf (tOf (truD T c) (xVar 3)) (sAsg (xBin (binD T c .Mod) (xVar 2) (xVar 3)) (gNm 2)) sNx))))))) (sSeq (sIf (tOr (tOf (truD T c) (xBin (eqB T c false) (xVar 1) (xK (.int 0)))) (tOf (truD T c) (xBin (eqB T c false) (xVar 3) (xK (.int 0))))) sNo sNx) (sRet (xTup (aCons (xVar 1) (aCons (xBin (binD T c .Mod) (xVar 2) (xVar 3)) (aCons (xVar 3) aNil))))))))
/-- scaled(lattice, number); lattice 0 number 1 factor 2 first 3 second 4 -/
noncomputable def B_8 (c : Fn) : Fs := (sSeq (sAsg (xCall T c 5 (aCons (xVar 1) aNil)) (gNm 2)) (sSeq (sIf (tNot (tOf (truD T c) (xVar 2))) sNo sNx) (sSeq (sAsg (xMethW T c 51 (xVar 0) aNil) (gTp (gsCons (gNm 3) (gsCons (gNm 4) gsNil)))) (sRet (xMk T c 3 (aCons (xLst (aCons (xBin (binD T c .Mult) (xVar 2) (xVar 3)) (aCons (xBin (binD T c .Mult) (xVar 2) (xVar 4)) aNil))) aNil))))))
/-- _law_begin(_law_script); _law_script 0 -/
noncomputable def B_9 (c : Fn) : Fs := (sRet (xDic ["cells", "at", "rest"] (aCons (xBin (binD T c .Add) (xBi bList (aCons (xSl (xVar 0) oNo (oSo (xK (.int 63)))) aNil)) (xBin (binD T c .Mult) (xLst (aCons (xK (.int 0)) aNil)) (xBi bInt (aCons (xBin (eqB T c false) (xBi bLen (aCons (xVar 0) aNil)) (xK (.int 0))) aNil)))) (aCons (xK (.int 0)) (aCons (xK (.int 0)) aNil)))))
/-- _law_draw(_law_tape, _law_limit); _law_tape 0 _law_limit 1 _law_at 2 _law_span 3 _law_cell 4 _law_mixed 5 _law_found 6 -/
noncomputable def B_10 (c : Fn) : Fs := (sSeq (sIf (tOf (truD T c) (xBin (ordD T c .Lt) (xBin subD (xVar 0) (xK (.str "rest"))) (xVar 1))) (sSeq (sPar 2 3 (aCons (xBin subD (xVar 0) (xK (.str "at"))) (aCons (xBi bLen (aCons (xBin subD (xVar 0) (xK (.str "cells"))) aNil)) aNil))) (sSeq (sAsg (xTup (aCons (xBin subD (xBin subD (xVar 0) (xK (.str "cells"))) (xBin (binD T c .Mod) (xBi bInt (aCons (xVar 2) aNil)) (xVar 3))) (aCons (xBin (binD T c .Add) (xVar 2) (xK (.int 1))) aNil))) (gTp (gsCons (gNm 4) (gsCons (gPut (xVar 0) (xK (.str "at"))) gsNil)))) (sSeq (sAsg (xBin (binD T c .Add) (xBin (binD T c .Add) (xBin (binD T c .Mult) (xBi bInt (aCons (xVar 4) aNil)) (xK (.int 982451653))) (xBin (binD T c .Mult) (xBin (binD T c .Mult) (xK (.int 32452843)) (xVar 2)) (xVar 2))) (xK (.int 961748941))) (gNm 5)) (sSeq (sAsg (xBin (binD T c .Mod) (xBi bInt (aCons (xVar 5) aNil)) (xK (.int 2305843009213693907))) (gNm 5)) (sSeq (sPut (xVar 0) (xK (.str "rest")) (xBin (binD T c .Mod) (xBi bInt (aCons (xBin (binD T c .Add) (xBin (binD T c .Pow) (xVar 5) (xK (.int 11))) (xBin (binD T c .Mult) (xBin (binD T c .Mult) (xBin (binD T c .Mult) (xK (.int 15485863)) (xVar 2)) (xVar 5)) (xVar 5))) aNil)) (xBin (binD T c .Add) (xBin (binD T c .Pow) (xK (.int 10)) (xK (.int 47))) (xK (.int 9))))) (sIf (tAnd (tOf (truD T c) (xBin (ordD T c .GtE) (xVar 4) (xBin (binD T c .Pow) (xK (.int 10)) (xK (.int 18))))) (tOf (truD T c) (xBin (ordD T c .Lt) (xVar 2) (xVar 3)))) (sPut (xVar 0) (xK (.str "rest")) (xBin (binD T c .Sub) (xVar 4) (xBin (binD T c .Pow) (xK (.int 10)) (xK (.int 18))))) sNx)))))) sNx) (sSeq (sAsg (xTup (aCons (xBin (binD T c .Mod) (xBi bInt (aCons (xBin subD (xVar 0) (xK (.str "rest"))) aNil)) (xVar 1)) (aCons (xBin (binD T c .FloorDiv) (xBin subD (xVar 0) (xK (.str "rest"))) (xVar 1)) aNil))) (gTp (gsCons (gNm 6) (gsCons (gPut (xVar 0) (xK (.str "rest"))) gsNil)))) (sRet (xVar 6))))
/-- _law_pick(_law_tape, _law_some); _law_tape 0 _law_some 1 -/
noncomputable def B_11 (c : Fn) : Fs := (sRet (xBin subD (xVar 1) (xCall T c 10 (aCons (xVar 0) (aCons (xBi bLen (aCons (xVar 1) aNil)) aNil)))))
/-- _law_ten(_law_figures); _law_figures 0 -/
noncomputable def B_12 (c : Fn) : Fs := (sRet (xBi bInt (aCons (xBin (binD T c .Add) (xK (.str "1")) (xBin (binD T c .Mult) (xK (.str "0")) (xVar 0))) aNil)))
/-- _law_long(_law_tape, _law_figures); _law_tape 0 _law_figures 1 _law_found 2 _law_k 3 -/
noncomputable def B_13 (c : Fn) : Fs := (sSeq (sAsg (xK (.int 0)) (gNm 2)) (sSeq (sFor (iRng (aCons (xBin (binD T c .FloorDiv) (xBin (binD T c .Add) (xVar 1) (xK (.int 14))) (xK (.int 15))) aNil)) (gNm 3) (sAsg (xBin (binD T c .Add) (xBin (binD T c .Mult) (xVar 2) (xBin (binD T c .Pow) (xK (.int 10)) (xK (.int 15)))) (xCall T c 10 (aCons (xVar 0) (aCons (xBin (binD T c .Pow) (xK (.int 10)) (xK (.int 15))) aNil)))) (gNm 2))) (sRet (xBin (binD T c .Mod) (xBi bInt (aCons (xVar 2) aNil)) (xCall T c 12 (aCons (xVar 1) aNil))))))
/-- _law_size(_law_tape, _law_figures); _law_tape 0 _law_figures 1 _law_sort 2 -/
noncomputable def B_14 (c : Fn) : Fs := (sSeq (sAsg (xCall T c 10 (aCons (xVar 0) (aCons (xK (.int 6)) aNil))) (gNm 2)) (sSeq (sIf (tOf (truD T c) (xBin (ordD T c .Lt) (xVar 2) (xK (.int 3)))) (sRet (xCall T c 10 (aCons (xVar 0) (aCons (xBin subD (xLst (aCons (xK (.int 5)) (aCons (xK (.int 13)) (aCons (xK (.int 90)) aNil)))) (xVar 2)) aNil)))) sNx) (sSeq (sIf (tOf (truD T c) (xBin (eqB T c false) (xVar 2) (xK (.int 3)))) (sRet (xCall T c 13 (aCons (xVar 0) (aCons (xBin (binD T c .Add) (xK (.int 1)) (xCall T c 10 (aCons (xVar 0) (aCons (xVar 1) aNil)))) aNil)))) sNx) (sSeq (sIf (tOf (truD T c) (xBin (eqB T c false) (xVar 2) (xK (.int 4)))) (sRet (xCall T c 13 (aCons (xVar 0) (aCons (xVar 1) aNil)))) sNx) (sRet (xBi bMax (aCons (xK (.int 0)) (aCons (xBin (binD T c .Sub) (xBin (binD T c .Sub) (xCall T c 12 (aCons (xBin (binD T c .Add) (xK (.int 1)) (xCall T c 10 (aCons (xVar 0) (aCons (xVar 1) aNil)))) aNil)) (xCall T c 10 (aCons (xVar 0) (aCons (xK (.int 4)) aNil)))) (xK (.int 1))) aNil))))))))
/-- _law_number(_law_tape, _law_figures); _law_tape 0 _law_figures 1 _law_found 2 -/
noncomputable def B_15 (c : Fn) : Fs := (sSeq (sAsg (xCall T c 14 (aCons (xVar 0) (aCons (xVar 1) aNil))) (gNm 2)) (sRet (xIf (tOf (truD T c) (xCall T c 10 (aCons (xVar 0) (aCons (xK (.int 2)) aNil)))) (xUn (negD T c) (xVar 2)) (xVar 2))))
/-- _law_gcd(_law_one, _law_other); _law_one 0 _law_other 1 _law_k 2 -/
noncomputable def B_16 (c : Fn) : Fs := (sSeq (sPar 0 1 (aCons (xBi bAbs (aCons (xVar 0) aNil)) (aCons (xBi bAbs (aCons (xVar 1) aNil)) aNil))) (sSeq (sFor (iRng (aCons (xBin (binD T c .Pow) (xK (.int 10)) (xK (.int 6))) aNil)) (gNm 2) (sSeq (sIf (tOf (truD T c) (xBin (eqB T c false) (xVar 1) (xK (.int 0)))) sBk sNx) (sPar 0 1 (aCons (xVar 1) (aCons (xBin (binD T c .Mod) (xBi bInt (aCons (xVar 0) aNil)) (xVar 1)) aNil))))) (sRet (xVar 0))))
/-- _law_truth(_law_value, _law_due); _law_value 0 _law_due 1 -/
noncomputable def B_17 (c : Fn) : Fs := (sRet (xIf (tOf (truD T c) (xVar 1)) (xBin (isNo false) (xVar 0) (xK (.bl true))) (xBin (isNo false) (xVar 0) (xK (.bl false)))))
/-- _law_whole_is(_law_value, _law_due); _law_value 0 _law_due 1 -/
noncomputable def B_18 (c : Fn) : Fs := (sRet (xAnd (truD T c) (xIst T "int" (xVar 0)) (xAnd (truD T c) (xNot (truD T c) (xIst T "bool" (xVar 0))) (xBin (eqB T c false) (xVar 0) (xVar 1)))))
/-- _law_ratio_is(_law_value, _law_top, _law_bottom); _law_value 0 _law_top 1 _law_bottom 2 -/
noncomputable def B_19 (c : Fn) : Fs := (sSeq (sIf (tOr (tNot (tOf (truD T c) (xIso T 0 (xVar 0)))) (tOr (tNot (tOf (truD T c) (xCall T c 18 (aCons (xFld T c 41 (xVar 0)) (aCons (xFld T c 41 (xVar 0)) aNil))))) (tOf (truD T c) (xBin (ordD T c .Lt) (xFld T c 41 (xVar 0)) (xK (.int 1)))))) (sRet (xK (.bl false))) sNx) (sSeq (sIf (tOr (tNot (tOf (truD T c) (xCall T c 18 (aCons (xFld T c 40 (xVar 0)) (aCons (xFld T c 40 (xVar 0)) aNil))))) (tOf (truD T c) (xBin (eqB T c true) (xCall T c 16 (aCons (xFld T c 40 (xVar 0)) (aCons (xFld T c 41 (xVar 0)) aNil))) (xK (.int 1))))) (sRet (xK (.bl false))) sNx) (sRet (xBin (eqB T c false) (xBin (binD T c .Mult) (xFld T c 40 (xVar 0)) (xVar 2)) (xBin (binD T c .Mult) (xVar 1) (xFld T c 41 (xVar 0)))))))
/-- _law_told(_law_number_here, _law_over); _law_number_here 0 _law_over 1 -/
noncomputable def B_20 (c : Fn) : Fs := (sSeq (sIf (tOf (truD T c) (xBin (eqB T c false) (xBin (binD T c .Mod) (xBi bInt (aCons (xVar 0) aNil)) (xBin (binD T c .Mult) (xK (.int 2)) (xVar 1))) (xK (.int 0)))) (sRet (xBin (binD T c .FloorDiv) (xVar 0) (xVar 1))) sNx) (sRet (xMk T c 0 (aCons (xVar 0) (aCons (xVar 1) aNil)))))
/-- _law_point(_law_pair, _law_over); _law_pair 0 _law_over 1 -/
noncomputable def B_21 (c : Fn) : Fs := (sRet (xMk T c 1 (aCons (xCall T c 20 (aCons (xBin subD (xVar 0) (xK (.int 0))) (aCons (xVar 1) aNil))) (aCons (xCall T c 20 (aCons (xBin subD (xVar 0) (xK (.int 1))) (aCons (xVar 1) aNil))) aNil))))
/-- _law_area(_law_one, _law_other); _law_one 0 _law_other 1 -/
noncomputable def B_22 (c : Fn) : Fs := (sRet (xBin (binD T c .Sub) (xBin (binD T c .Mult) (xBin subD (xVar 0) (xK (.int 0))) (xBin subD (xVar 1) (xK (.int 1)))) (xBin (binD T c .Mult) (xBin subD (xVar 0) (xK (.int 1))) (xBin subD (xVar 1) (xK (.int 0))))))
/-- _law_stair(_law_pairs); _law_pairs 0 _law_wide 1 _law_whole 2 _law_k 3 _law_n 4 _law_tall 5 _law_x 6 _law_y 7 _law_pair 8 _law_one 9 _law_other 10 _law_times_here 11 -/
noncomputable def B_23 (c : Fn) : Fs := (sSeq (sAsg (xTup (aCons (xK (.int 0)) (aCons (xK (.int 0)) aNil))) (gTp (gsCons (gNm 1) (gsCons (gNm 2) gsNil)))) (sSeq (sFor (iRng (aCons (xBi bLen (aCons (xVar 0) aNil)) aNil)) (gNm 3) (sSeq (sAsg (xCall T c 16 (aCons (xVar 1) (aCons (xBin subD (xBin subD (xVar 0) (xVar 3)) (xK (.int 0))) aNil))) (gNm 1)) (sFor (iRng (aCons (xVar 3) aNil)) (gNm 4) (sAsg (xCall T c 16 (aCons (xVar 2) (aCons (xCall T c 22 (aCons (xBin subD (xVar 0) (xVar 3)) (aCons (xBin subD (xVar 0) (xVar 4)) aNil))) aNil))) (gNm 2))))) (sSeq (sPar3 5 6 7 (aCons (xBin (binD T c .FloorDiv) (xVar 2) (xVar 1)) (aCons (xK (.int 0)) (aCons (xK (.int 0)) aNil)))) (sSeq (sFor (iSeq (xVar 0)) (gNm 8) (sSeq (sPar 9 10 (aCons (xTup (aCons (xVar 6) (aCons (xVar 7) aNil))) (aCons (xVar 8) aNil))) (sSeq (sFor (iRng (aCons (xBin (binD T c .Pow) (xK (.int 10)) (xK (.int 6))) aNil)) (gNm 3) (sSeq (sIf (tOf (truD T c) (xBin (eqB T c false) (xBin subD (xVar 10) (xK (.int 0))) (xK (.int 0)))) sBk sNx) (sSeq (sAsg (xBin (binD T c .FloorDiv) (xBin subD (xVar 9) (xK (.int 0))) (xBin subD (xVar 10) (xK (.int 0)))) (gNm 11)) (sPar 9 10 (aCons (xVar 10) (aCons (xTup (aCons (xBin (binD T c .Sub) (xBin subD (xVar 9) (xK (.int 0))) (xBin (binD T c .Mult) (xVar 11) (xBin subD (xVar 10) (xK (.int 0))))) (aCons (xBin (binD T c .Sub) (xBin subD (xVar 9) (xK (.int 1))) (xBin (binD T c .Mult) (xVar 11) (xBin subD (xVar 10) (xK (.int 1))))) aNil))) aNil)))))) (sPar 6 7 (aCons (xBin subD (xVar 9) (xK (.int 0))) (aCons (xBin (binD T c .Mod) (xBi bInt (aCons (xBin subD (xVar 9) (xK (.int 1))) aNil)) (xVar 5)) aNil)))))) (sRet (xTup (aCons (xVar 1) (aCons (xBin (binD T c .Mod) (xBi bInt (aCons (xIf (tOf (truD T c) (xBin (ordD T c .Gt) (xVar 6) (xK (.int 0)))) (xVar 7) (xUn (negD T c) (xVar 7))) aNil)) (xVar 5)) (aCons (xVar 5) aNil)))))))))
/-- _law_rows(_law_tape, _law_size_here); _law_tape 0 _law_size_here 1 _law_wide 2 _law_tall 3 _law_one 4 _law_other 5 _law_k 6 _law_times_here 7 -/
noncomputable def B_24 (c : Fn) : Fs := (sSeq (sPar 2 3 (aCons (xBin (binD T c .Add) (xK (.int 1)) (xCallI T c (xVar 1) (aCons (xVar 0) aNil))) (aCons (xBin (binD T c .Add) (xK (.int 1)) (xCallI T c (xVar 1) (aCons (xVar 0) aNil))) aNil))) (sSeq (sPar 4 5 (aCons (xTup (aCons (xVar 2) (aCons (xBin (binD T c .Sub) (xCall T c 10 (aCons (xVar 0) (aCons (xBin (binD T c .Mult) (xK (.int 2)) (xVar 3)) aNil))) (xVar 3)) aNil))) (aCons (xTup (aCons (xK (.int 0)) (aCons (xVar 3) aNil))) aNil))) (sSeq (sFor (iRng (aCons (xCall T c 10 (aCons (xVar 0) (aCons (xK (.int 4)) aNil))) aNil)) (gNm 6) (sSeq (sAsg (xBin (binD T c .Sub) (xCall T c 10 (aCons (xVar 0) (aCons (xK (.int 7)) aNil))) (xK (.int 3))) (gNm 7)) (sPar 4 5 (aCons (xTup (aCons (xBin (binD T c .Add) (xBin subD (xVar 5) (xK (.int 0))) (xBin (binD T c .Mult) (xVar 7) (xBin subD (xVar 4) (xK (.int 0))))) (aCons (xBin (binD T c .Add) (xBin subD (xVar 5) (xK (.int 1))) (xBin (binD T c .Mult) (xVar 7) (xBin subD (xVar 4) (xK (.int 1))))) aNil))) (aCons (xVar 4) aNil))))) (sRet (xLst (aCons (xVar 4) (aCons (xVar 5) aNil)))))))
/-- _law_small(_law_tape); _law_tape 0 -/
noncomputable def B_25 (c : Fn) : Fs := (sRet (xCall T c 11 (aCons (xVar 0) (aCons (xLst (aCons (xK (.int 0)) (aCons (xK (.int 1)) (aCons (xK (.int 2)) (aCons (xK (.int 3)) (aCons (xK (.int 5)) (aCons (xCall T c 10 (aCons (xVar 0) (aCons (xK (.int 12)) aNil))) aNil))))))) aNil))))
/-- _law_lattice(_law_rows_here, _law_over); _law_rows_here 0 _law_over 1 _law_pair 2 -/
noncomputable def B_26 (c : Fn) : Fs := (sRet (xMk T c 3 (aCons (xLc (iSeq (xVar 0)) (gNm 2) tTrue (xCall T c 21 (aCons (xVar 2) (aCons (xVar 1) aNil))) [2]) aNil)))
/-- _law_is_lattice(_law_value, _law_rows_here, _law_over); _law_value 0 _law_rows_here 1 _law_over 2 _law_table 3 -/
noncomputable def B_27 (c : Fn) : Fs := (sSeq (sIf (tNot (tOf (truD T c) (xIso T 3 (xVar 0)))) (sRet (xK (.bl false))) sNx) (sSeq (sAsg (xCall T c 23 (aCons (xVar 1) aNil)) (gNm 3)) (sRet (xAnd (truD T c) (xCall T c 19 (aCons (xFld T c 44 (xVar 0)) (aCons (xBin subD (xVar 3) (xK (.int 0))) (aCons (xVar 2) aNil)))) (xAnd (truD T c) (xCall T c 19 (aCons (xFld T c 45 (xVar 0)) (aCons (xBin subD (xVar 3) (xK (.int 1))) (aCons (xVar 2) aNil)))) (xCall T c 19 (aCons (xFld T c 46 (xVar 0)) (aCons (xBin subD (xVar 3) (xK (.int 2))) (aCons (xVar 2) aNil)))))))))
/-- _law_member(_law_tape, _law_rows_here, _law_size_here); _law_tape 0 _law_rows_here 1 _law_size_here 2 _law_first 3 _law_second 4 -/
noncomputable def B_28 (c : Fn) : Fs := (sSeq (sPar 3 4 (aCons (xCall T c 15 (aCons (xVar 0) (aCons (xVar 2) aNil))) (aCons (xCall T c 15 (aCons (xVar 0) (aCons (xVar 2) aNil))) aNil))) (sRet (xTup (aCons (xBin (binD T c .Add) (xBin (binD T c .Mult) (xVar 3) (xBin subD (xBin subD (xVar 1) (xK (.int 0))) (xK (.int 0)))) (xBin (binD T c .Mult) (xVar 4) (xBin subD (xBin subD (xVar 1) (xK (.int 1))) (xK (.int 0))))) (aCons (xBin (binD T c .Add) (xBin (binD T c .Mult) (xVar 3) (xBin subD (xBin subD (xVar 1) (xK (.int 0))) (xK (.int 1)))) (xBin (binD T c .Mult) (xVar 4) (xBin subD (xBin subD (xVar 1) (xK (.int 1))) (xK (.int 1))))) aNil)))))
/-- _law_plus(_law_one, _law_other); _law_one 0 _law_other 1 -/
noncomputable def B_29 (c : Fn) : Fs := (sRet (xTup (aCons (xBin (binD T c .Add) (xBin subD (xVar 0) (xK (.int 0))) (xBin subD (xVar 1) (xK (.int 0)))) (aCons (xBin (binD T c .Add) (xBin subD (xVar 0) (xK (.int 1))) (xBin subD (xVar 1) (xK (.int 1)))) aNil))))
/-- _law_times(_law_number_here, _law_pair); _law_number_here 0 _law_pair 1 -/
noncomputable def B_30 (c : Fn) : Fs := (sRet (xTup (aCons (xBin (binD T c .Mult) (xVar 0) (xBin subD (xVar 1) (xK (.int 0)))) (aCons (xBin (binD T c .Mult) (xVar 0) (xBin subD (xVar 1) (xK (.int 1)))) aNil))))
/-- _law_middle(_law_tape); _law_tape 0 -/
noncomputable def B_31 (c : Fn) : Fs := (sRet (xCall T c 14 (aCons (xVar 0) (aCons (xK (.int 25)) aNil))))
/-- _law_product(_law_one, _law_other); _law_one 0 _law_other 1 -/
noncomputable def B_32 (c : Fn) : Fs := (sRet (xBin (binD T c .Add) (xBin (binD T c .Mult) (xFld T c 42 (xVar 0)) (xFld T c 42 (xVar 1))) (xBin (binD T c .Mult) (xFld T c 43 (xVar 0)) (xFld T c 43 (xVar 1)))))
/-- _law_dual_right(_law_tape, _law_rows_here, _law_over, _law_lattice_here); _law_tape 0 _law_rows_here 1 _law_over 2 _law_lattice_here 3 _law_dual 4 _law_area_here 5 _law_first 6 _law_second 7 _law_other 8 _law_member_here 9 _law_here 10 _law_there 11 -/
noncomputable def B_33 (c : Fn) : Fs := (sSeq (sAsg (xMethW T c 48 (xVar 3) aNil) (gNm 4)) (sSeq (sIf (tNot (tOf (truD T c) (xIso T 3 (xVar 4)))) (sRet (xK (.bl false))) sNx) (sSeq (sAsg (xBi bAbs (aCons (xCall T c 22 (aCons (xBin subD (xVar 1) (xK (.int 0))) (aCons (xBin subD (xVar 1) (xK (.int 1))) aNil))) aNil)) (gNm 5)) (sSeq (sIf (tNot (tOf (truD T c) (xCall T c 19 (aCons (xFld T c 47 (xVar 4)) (aCons (xBin (binD T c .Mult) (xVar 2) (xVar 2)) (aCons (xVar 5) aNil)))))) (sRet (xK (.bl false))) sNx) (sSeq (sPar 6 7 (aCons (xCall T c 15 (aCons (xVar 0) (aCons (xK (.int 20)) aNil))) (aCons (xCall T c 15 (aCons (xVar 0) (aCons (xK (.int 20)) aNil))) aNil))) (sSeq (sAsg (xBin (binD T c .Add) (xBin (binD T c .Mult) (xVar 6) (xBin subD (xMethW T c 51 (xVar 4) aNil) (xK (.int 0)))) (xBin (binD T c .Mult) (xVar 7) (xBin subD (xMethW T c 51 (xVar 4) aNil) (xK (.int 1))))) (gNm 8)) (sSeq (sAsg (xCall T c 21 (aCons (xCall T c 28 (aCons (xVar 0) (aCons (xVar 1) (aCons (xK (.int 20)) aNil)))) (aCons (xVar 2) aNil))) (gNm 9)) (sSeq (sFor (iSeq (xBin (binD T c .Add) (xMethW T c 51 (xVar 3) aNil) (xTup (aCons (xVar 9) aNil)))) (gNm 10) (sFor (iSeq (xBin (binD T c .Add) (xMethW T c 51 (xVar 4) aNil) (xTup (aCons (xVar 8) aNil)))) (gNm 11) (sIf (tOf (truD T c) (xBin (eqB T c true) (xFld T c 41 (xCall T c 32 (aCons (xVar 10) (aCons (xVar 11) aNil)))) (xK (.int 1)))) (sRet (xK (.bl false))) sNx))) (sRet (xAnd (truD T c) (xBin (eqB T c false) (xMethW T c 48 (xVar 4) aNil) (xVar 3)) (xAnd (truD T c) (xBin (inO T c false) (xVar 8) (xVar 4)) (xCall T c 27 (aCons (xVar 3) (aCons (xVar 1) (aCons (xVar 2) aNil)))))))))))))))
/-- _law_forms_right(_law_tape, _law_rows_here, _law_over, _law_lattice_here); _law_tape 0 _law_rows_here 1 _law_over 2 _law_lattice_here 3 _law_dual 4 _law_one 5 _law_other 6 _law_number_here 7 _law_spot 8 _law_form 9 _law_first 10 _law_second 11 _law_whole 12 _law_tests 13 _law_points 14 -/
noncomputable def B_34 (c : Fn) : Fs := (sSeq (sAsg (xMethW T c 48 (xVar 3) aNil) (gNm 4)) (sSeq (sAsg (xMethW T c 51 (xVar 4) aNil) (gTp (gsCons (gNm 5) (gsCons (gNm 6) gsNil)))) (sSeq (sAsg (xCall T c 11 (aCons (xVar 0) (aCons (xLst (aCons (xK (.int 1)) (aCons (xK (.int 1)) (aCons (xK (.int 2)) (aCons (xK (.int 3)) (aCons (xBin (binD T c .Add) (xK (.int 1)) (xCall T c 14 (aCons (xVar 0) (aCons (xK (.int 9)) aNil)))) aNil)))))) aNil))) (gNm 7)) (sSeq (sAsg (xBin (binD T c .Mult) (xBin (binD T c .Add) (xBin (binD T c .Mult) (xCall T c 15 (aCons (xVar 0) (aCons (xK (.int 20)) aNil))) (xVar 5)) (xBin (binD T c .Mult) (xCall T c 15 (aCons (xVar 0) (aCons (xK (.int 20)) aNil))) (xVar 6))) (xMk T c 0 (aCons (xK (.int 1)) (aCons (xVar 7) aNil)))) (gNm 8)) (sSeq (sAsg (xMk T c 2 (aCons (xFld T c 42 (xVar 8)) (aCons (xFld T c 43 (xVar 8)) aNil))) (gNm 9)) (sSeq (sPar 10 11 (aCons (xCall T c 21 (aCons (xBin subD (xVar 1) (xK (.int 0))) (aCons (xVar 2) aNil))) (aCons (xCall T c 21 (aCons (xBin subD (xVar 1) (xK (.int 1))) (aCons (xVar 2) aNil))) aNil))) (sSeq (sAsg (xAnd (truD T c) (xBin (eqB T c false) (xFld T c 41 (xCallI T c (xVar 9) (aCons (xVar 10) aNil))) (xK (.int 1))) (xBin (eqB T c false) (xFld T c 41 (xCallI T c (xVar 9) (aCons (xVar 11) aNil))) (xK (.int 1)))) (gNm 12)) (sSeq (sIf (tOr (tNot (tOf (truD T c) (xCall T c 17 (aCons (xBin (inO T c false) (xVar 8) (xVar 4)) (aCons (xVar 12) aNil))))) (tNot (tOf (truD T c) (xBin (eqB T c false) (xCall T c 6 (aCons (xVar 9) (aCons (xVar 10) aNil))) (xCallI T c (xVar 9) (aCons (xVar 10) aNil)))))) (sRet (xK (.bl false))) sNx) (sSeq (sAsg (xMethW T c 53 (xVar 3) aNil) (gNm 13)) (sSeq (sAsg (xLc (iSeq (xVar 13)) (gNm 5) tTrue (xMk T c 1 (aCons (xFld T c 42 (xVar 5)) (aCons (xFld T c 43 (xVar 5)) aNil))) [5]) (gNm 14)) (sRet (xBin (eqB T c false) (xMk T c 3 (aCons (xVar 14) aNil)) (xVar 4)))))))))))))
/-- _law_two_right(_law_one, _law_other, _law_factor); _law_one 0 _law_other 1 _law_factor 2 _law_left 3 _law_right 4 -/
noncomputable def B_35 (c : Fn) : Fs := (sSeq (sPar 3 4 (aCons (xMethW T c 48 (xVar 0) aNil) (aCons (xMethW T c 48 (xVar 1) aNil) aNil))) (sSeq (sIf (tOr (tNot (tOf (truD T c) (xBin (eqB T c false) (xMethW T c 48 (xBin (binD T c .Add) (xVar 0) (xVar 1)) aNil) (xBin (binD T c .BitAnd) (xVar 3) (xVar 4))))) (tNot (tOf (truD T c) (xBin (eqB T c false) (xMethW T c 48 (xBin (binD T c .BitAnd) (xVar 0) (xVar 1)) aNil) (xBin (binD T c .Add) (xVar 3) (xVar 4)))))) (sRet (xK (.bl false))) sNx) (sSeq (sIf (tOr (tNot (tOf (truD T c) (xCall T c 17 (aCons (xBin (ordD T c .LtE) (xVar 0) (xVar 1)) (aCons (xBin (ordD T c .LtE) (xVar 4) (xVar 3)) aNil))))) (tNot (tOf (truD T c) (xCall T c 17 (aCons (xBin (ordD T c .LtE) (xVar 1) (xVar 0)) (aCons (xBin (ordD T c .LtE) (xVar 3) (xVar 4)) aNil)))))) (sRet (xK (.bl false))) sNx) (sRet (xBin (eqB T c false) (xMethW T c 48 (xBin (binD T c .Mult) (xVar 0) (xVar 2)) aNil) (xBin (binD T c .Mult) (xVar 3) (xMethW T c 50 (xVar 2) (aCons (xBin (binD T c .Mult) (xVar 2) (xVar 2)) aNil))))))))
/-- law(_law_script); _law_script 0 _law_tape 1 _law_over 2 _law_above 3 _law_rows_here 4 _law_others 5 _law_sort 6 _law_one 7 _law_other 8 _law_factor 9 -/
noncomputable def B_36 (c : Fn) : Fs := (sSeq (sAsg (xCall T c 9 (aCons (xVar 0) aNil)) (gNm 1)) (sSeq (sPar 2 3 (aCons (xBin (binD T c .Add) (xK (.int 1)) (xCall T c 14 (aCons (xVar 1) (aCons (xK (.int 15)) aNil)))) (aCons (xBin (binD T c .Add) (xK (.int 1)) (xCall T c 14 (aCons (xVar 1) (aCons (xK (.int 9)) aNil)))) aNil))) (sSeq (sPar 4 5 (aCons (xCall T c 24 (aCons (xVar 1) (aCons (xK (.fn 31)) aNil))) (aCons (xCall T c 24 (aCons (xVar 1) (aCons (xCall T c 11 (aCons (xVar 1) (aCons (xLst (aCons (xK (.fn 25)) (aCons (xK (.fn 31)) aNil))) aNil))) aNil))) aNil))) (sSeq (sAsg (xCall T c 10 (aCons (xVar 1) (aCons (xK (.int 4)) aNil))) (gNm 6)) (sSeq (sIf (tOf (truD T c) (xBin (eqB T c false) (xVar 6) (xK (.int 0)))) (sAsg (xLst (aCons (xCall T c 29 (aCons (xCall T c 30 (aCons (xK (.int 2)) (aCons (xBin subD (xVar 4) (xK (.int 0))) aNil))) (aCons (xBin subD (xVar 4) (xK (.int 1))) aNil))) (aCons (xCall T c 30 (aCons (xBin (binD T c .Add) (xK (.int 1)) (xCall T c 10 (aCons (xVar 1) (aCons (xK (.int 5)) aNil)))) (aCons (xBin subD (xVar 4) (xK (.int 1))) aNil))) aNil))) (gNm 5)) sNx) (sSeq (sIf (tOf (truD T c) (xBin (eqB T c false) (xVar 6) (xK (.int 1)))) (sSeq (sAsg (xLst (aCons (xCall T c 30 (aCons (xBin (binD T c .Add) (xK (.int 1)) (xCall T c 10 (aCons (xVar 1) (aCons (xK (.int 4)) aNil)))) (aCons (xBin subD (xVar 4) (xK (.int 0))) aNil))) (aCons (xCall T c 30 (aCons (xBin (binD T c .Add) (xK (.int 1)) (xCall T c 10 (aCons (xVar 1) (aCons (xK (.int 4)) aNil)))) (aCons (xBin subD (xVar 4) (xK (.int 1))) aNil))) aNil))) (gNm 5)) (sAsg (xK (.int 1)) (gNm 3))) sNx) (sSeq (sPar 7 8 (aCons (xCall T c 26 (aCons (xVar 4) (aCons (xVar 2) aNil))) (aCons (xCall T c 26 (aCons (xVar 5) (aCons (xBin (binD T c .Mult) (xVar 2) (xVar 3)) aNil))) aNil))) (sSeq (sIf (tOr (tNot (tOf (truD T c) (xCall T c 33 (aCons (xVar 1) (aCons (xVar 4) (aCons (xVar 2) (aCons (xVar 7) aNil))))))) (tNot (tOf (truD T c) (xCall T c 33 (aCons (xVar 1) (aCons (xVar 5) (aCons (xBin (binD T c .Mult) (xVar 2) (xVar 3)) (aCons (xVar 8) aNil)))))))) (sRet (xK (.bl false))) sNx) (sSeq (sIf (tOr (tNot (tOf (truD T c) (xCall T c 34 (aCons (xVar 1) (aCons (xVar 4) (aCons (xVar 2) (aCons (xVar 7) aNil))))))) (tNot (tOf (truD T c) (xCall T c 34 (aCons (xVar 1) (aCons (xVar 5) (aCons (xBin (binD T c .Mult) (xVar 2) (xVar 3)) (aCons (xVar 8) aNil)))))))) (sRet (xK (.bl false))) sNx) (sSeq (sAsg (xMk T c 0 (aCons (xBin (binD T c .Mult) (xCall T c 11 (aCons (xVar 1) (aCons (xLst (aCons (xK (.int 1)) (aCons (xUn (negD T c) (xK (.int 1))) aNil))) aNil))) (xBin (binD T c .Add) (xK (.int 1)) (xCall T c 14 (aCons (xVar 1) (aCons (xK (.int 15)) aNil))))) (aCons (xBin (binD T c .Add) (xK (.int 1)) (xCall T c 14 (aCons (xVar 1) (aCons (xK (.int 9)) aNil)))) aNil))) (gNm 9)) (sSeq (sIf (tOr (tNot (tOf (truD T c) (xCall T c 35 (aCons (xVar 7) (aCons (xVar 8) (aCons (xVar 9) aNil)))))) (tNot (tOf (truD T c) (xCall T c 35 (aCons (xVar 8) (aCons (xVar 7) (aCons (xVar 9) aNil))))))) (sRet (xK (.bl false))) sNx) (sRet (xAnd (truD T c) (xCall T c 27 (aCons (xVar 7) (aCons (xVar 4) (aCons (xVar 2) aNil)))) (xCall T c 27 (aCons (xVar 8) (aCons (xVar 5) (aCons (xBin (binD T c .Mult) (xVar 2) (xVar 3)) aNil)))))))))))))))))
/-- Ratio.__init__(self, top, bottom); self 0 top 1 bottom 2 value 3 common 4 -/
noncomputable def B_37 (c : Fn) : Fs := (sSeq (sFor (iSeq (xTup (aCons (xVar 1) (aCons (xVar 2) aNil)))) (gNm 3) (sIf (tOr (tNot (tOf (truD T c) (xIst T "int" (xVar 3)))) (tOf (truD T c) (xIst T "bool" (xVar 3)))) sNo sNx)) (sSeq (sIf (tOf (truD T c) (xBin (eqB T c false) (xVar 2) (xK (.int 0)))) sNo sNx) (sSeq (sAsg (xCall T c 1 (aCons (xVar 1) (aCons (xVar 2) aNil))) (gNm 4)) (sSeq (sIf (tOf (truD T c) (xBin (ordD T c .Lt) (xVar 2) (xK (.int 0)))) (sAsg (xUn (negD T c) (xVar 4)) (gNm 4)) sNx) (sSeq (sFldD T 40 (xVar 0) (xBin (binD T c .FloorDiv) (xVar 1) (xVar 4))) (sFldD T 41 (xVar 0) (xBin (binD T c .FloorDiv) (xVar 2) (xVar 4))))))))
/-- Ratio.__eq__(self, other); self 0 other 1 -/
noncomputable def B_38 (c : Fn) : Fs := (sSeq (sIf (tNot (tOf (truD T c) (xCall T c 0 (aCons (xVar 1) aNil)))) (sRet (xK (.bl false))) sNx) (sSeq (sAsg (xCall T c 5 (aCons (xVar 1) aNil)) (gNm 1)) (sRet (xAnd (truD T c) (xBin (eqB T c false) (xFld T c 40 (xVar 0)) (xFld T c 40 (xVar 1))) (xBin (eqB T c false) (xFld T c 41 (xVar 0)) (xFld T c 41 (xVar 1)))))))
/-- Ratio.__lt__(self, other); self 0 other 1 -/
noncomputable def B_39 (c : Fn) : Fs := (sSeq (sIf (tNot (tOf (truD T c) (xCall T c 0 (aCons (xVar 1) aNil)))) sNo sNx) (sSeq (sAsg (xCall T c 5 (aCons (xVar 1) aNil)) (gNm 1)) (sRet (xBin (ordD T c .Lt) (xBin (binD T c .Mult) (xFld T c 40 (xVar 0)) (xFld T c 41 (xVar 1))) (xBin (binD T c .Mult) (xFld T c 40 (xVar 1)) (xFld T c 41 (xVar 0)))))))
/-- Ratio.__le__(self, other); self 0 other 1 -/
noncomputable def B_40 (c : Fn) : Fs := (sSeq (sIf (tNot (tOf (truD T c) (xCall T c 0 (aCons (xVar 1) aNil)))) sNo sNx) (sSeq (sAsg (xCall T c 5 (aCons (xVar 1) aNil)) (gNm 1)) (sRet (xBin (ordD T c .LtE) (xBin (binD T c .Mult) (xFld T c 40 (xVar 0)) (xFld T c 41 (xVar 1))) (xBin (binD T c .Mult) (xFld T c 40 (xVar 1)) (xFld T c 41 (xVar 0)))))))
/-- Ratio.__gt__(self, other); self 0 other 1 -/
noncomputable def B_41 (c : Fn) : Fs := (sSeq (sIf (tNot (tOf (truD T c) (xCall T c 0 (aCons (xVar 1) aNil)))) sNo sNx) (sSeq (sAsg (xCall T c 5 (aCons (xVar 1) aNil)) (gNm 1)) (sRet (xBin (ordD T c .Gt) (xBin (binD T c .Mult) (xFld T c 40 (xVar 0)) (xFld T c 41 (xVar 1))) (xBin (binD T c .Mult) (xFld T c 40 (xVar 1)) (xFld T c 41 (xVar 0)))))))
/-- Ratio.__ge__(self, other); self 0 other 1 -/
noncomputable def B_42 (c : Fn) : Fs := (sSeq (sIf (tNot (tOf (truD T c) (xCall T c 0 (aCons (xVar 1) aNil)))) sNo sNx) (sSeq (sAsg (xCall T c 5 (aCons (xVar 1) aNil)) (gNm 1)) (sRet (xBin (ordD T c .GtE) (xBin (binD T c .Mult) (xFld T c 40 (xVar 0)) (xFld T c 41 (xVar 1))) (xBin (binD T c .Mult) (xFld T c 40 (xVar 1)) (xFld T c 41 (xVar 0)))))))
/-- Ratio.__add__(self, other); self 0 other 1 -/
noncomputable def B_43 (c : Fn) : Fs := (sSeq (sIf (tNot (tOf (truD T c) (xCall T c 0 (aCons (xVar 1) aNil)))) sNo sNx) (sSeq (sAsg (xCall T c 5 (aCons (xVar 1) aNil)) (gNm 1)) (sRet (xMk T c 0 (aCons (xBin (binD T c .Add) (xBin (binD T c .Mult) (xFld T c 40 (xVar 0)) (xFld T c 41 (xVar 1))) (xBin (binD T c .Mult) (xFld T c 40 (xVar 1)) (xFld T c 41 (xVar 0)))) (aCons (xBin (binD T c .Mult) (xFld T c 41 (xVar 0)) (xFld T c 41 (xVar 1))) aNil))))))
/-- Ratio.__radd__(self, other); self 0 other 1 -/
noncomputable def B_44 (c : Fn) : Fs := (sSeq (sIf (tNot (tOf (truD T c) (xCall T c 0 (aCons (xVar 1) aNil)))) sNo sNx) (sRet (xMk T c 0 (aCons (xBin (binD T c .Add) (xFld T c 40 (xVar 0)) (xBin (binD T c .Mult) (xVar 1) (xFld T c 41 (xVar 0)))) (aCons (xFld T c 41 (xVar 0)) aNil)))))
/-- Ratio.__sub__(self, other); self 0 other 1 -/
noncomputable def B_45 (c : Fn) : Fs := (sSeq (sIf (tNot (tOf (truD T c) (xCall T c 0 (aCons (xVar 1) aNil)))) sNo sNx) (sSeq (sAsg (xCall T c 5 (aCons (xVar 1) aNil)) (gNm 1)) (sRet (xMk T c 0 (aCons (xBin (binD T c .Sub) (xBin (binD T c .Mult) (xFld T c 40 (xVar 0)) (xFld T c 41 (xVar 1))) (xBin (binD T c .Mult) (xFld T c 40 (xVar 1)) (xFld T c 41 (xVar 0)))) (aCons (xBin (binD T c .Mult) (xFld T c 41 (xVar 0)) (xFld T c 41 (xVar 1))) aNil))))))
/-- Ratio.__rsub__(self, other); self 0 other 1 -/
noncomputable def B_46 (c : Fn) : Fs := (sSeq (sIf (tNot (tOf (truD T c) (xCall T c 0 (aCons (xVar 1) aNil)))) sNo sNx) (sRet (xMk T c 0 (aCons (xBin (binD T c .Sub) (xBin (binD T c .Mult) (xVar 1) (xFld T c 41 (xVar 0))) (xFld T c 40 (xVar 0))) (aCons (xFld T c 41 (xVar 0)) aNil)))))
/-- Ratio.__mul__(self, other); self 0 other 1 -/
noncomputable def B_47 (c : Fn) : Fs := (sSeq (sIf (tNot (tOf (truD T c) (xCall T c 0 (aCons (xVar 1) aNil)))) sNo sNx) (sSeq (sAsg (xCall T c 5 (aCons (xVar 1) aNil)) (gNm 1)) (sRet (xMk T c 0 (aCons (xBin (binD T c .Mult) (xFld T c 40 (xVar 0)) (xFld T c 40 (xVar 1))) (aCons (xBin (binD T c .Mult) (xFld T c 41 (xVar 0)) (xFld T c 41 (xVar 1))) aNil))))))
/-- Ratio.__rmul__(self, other); self 0 other 1 -/
noncomputable def B_48 (c : Fn) : Fs := (sSeq (sIf (tNot (tOf (truD T c) (xCall T c 0 (aCons (xVar 1) aNil)))) sNo sNx) (sRet (xMk T c 0 (aCons (xBin (binD T c .Mult) (xVar 1) (xFld T c 40 (xVar 0))) (aCons (xFld T c 41 (xVar 0)) aNil)))))
/-- Ratio.__floordiv__(self, other); self 0 other 1 -/
noncomputable def B_49 (c : Fn) : Fs := (sSeq (sIf (tNot (tOf (truD T c) (xCall T c 0 (aCons (xVar 1) aNil)))) sNo sNx) (sRet (xMethW T c 49 (xMethW T c 50 (xVar 0) (aCons (xVar 1) aNil)) aNil)))
/-- Ratio.__rfloordiv__(self, other); self 0 other 1 -/
noncomputable def B_50 (c : Fn) : Fs := (sSeq (sIf (tNot (tOf (truD T c) (xCall T c 0 (aCons (xVar 1) aNil)))) sNo sNx) (sRet (xMethW T c 49 (xMethW T c 50 (xCall T c 5 (aCons (xVar 1) aNil)) (aCons (xVar 0) aNil)) aNil)))
/-- Ratio.__mod__(self, other); self 0 other 1 times 2 -/
noncomputable def B_51 (c : Fn) : Fs := (sSeq (sIf (tNot (tOf (truD T c) (xCall T c 0 (aCons (xVar 1) aNil)))) sNo sNx) (sSeq (sAsg (xMethW T c 49 (xMethW T c 50 (xVar 0) (aCons (xVar 1) aNil)) aNil) (gNm 2)) (sRet (xBin (binD T c .Sub) (xVar 0) (xBin (binD T c .Mult) (xVar 2) (xCall T c 5 (aCons (xVar 1) aNil)))))))
/-- Ratio.__rmod__(self, other); self 0 other 1 times 2 -/
noncomputable def B_52 (c : Fn) : Fs := (sSeq (sIf (tNot (tOf (truD T c) (xCall T c 0 (aCons (xVar 1) aNil)))) sNo sNx) (sSeq (sAsg (xMethW T c 49 (xMethW T c 50 (xCall T c 5 (aCons (xVar 1) aNil)) (aCons (xVar 0) aNil)) aNil) (gNm 2)) (sRet (xBin (binD T c .Sub) (xVar 1) (xBin (binD T c .Mult) (xVar 2) (xVar 0))))))
/-- Ratio.__pow__(self, other); self 0 other 1 -/
noncomputable def B_53 (c : Fn) : Fs := (sSeq (sIf (tOr (tNot (tOf (truD T c) (xIst T "int" (xVar 1)))) (tOf (truD T c) (xIst T "bool" (xVar 1)))) sNo sNx) (sRet (xMk T c 0 (aCons (xCall T c 4 (aCons (xFld T c 40 (xVar 0)) (aCons (xVar 1) aNil))) (aCons (xCall T c 4 (aCons (xFld T c 41 (xVar 0)) (aCons (xVar 1) aNil))) aNil)))))
/-- Ratio.__neg__(self); self 0 -/
noncomputable def B_54 (c : Fn) : Fs := (sRet (xMk T c 0 (aCons (xUn (negD T c) (xFld T c 40 (xVar 0))) (aCons (xFld T c 41 (xVar 0)) aNil))))
/-- Ratio.__abs__(self); self 0 -/
noncomputable def B_55 (c : Fn) : Fs := (sRet (xMk T c 0 (aCons (xBi bAbs (aCons (xFld T c 40 (xVar 0)) aNil)) (aCons (xFld T c 41 (xVar 0)) aNil))))
/-- Ratio.__bool__(self); self 0 -/
noncomputable def B_56 (c : Fn) : Fs := (sRet (xBi (bBool T c) (aCons (xFld T c 40 (xVar 0)) aNil)))
/-- Ratio.over(self, number); self 0 number 1 other 2 -/
noncomputable def B_57 (c : Fn) : Fs := (sSeq (sAsg (xCall T c 5 (aCons (xVar 1) aNil)) (gNm 2)) (sSeq (sIf (tOf (truD T c) (xBin (eqB T c false) (xFld T c 40 (xVar 2)) (xK (.int 0)))) sNo sNx) (sRet (xMk T c 0 (aCons (xBin (binD T c .Mult) (xFld T c 40 (xVar 0)) (xFld T c 41 (xVar 2))) (aCons (xBin (binD T c .Mult) (xFld T c 41 (xVar 0)) (xFld T c 40 (xVar 2))) aNil))))))
/-- Ratio.floor(self); self 0 -/
noncomputable def B_58 (c : Fn) : Fs := (sRet (xBin (binD T c .FloorDiv) (xFld T c 40 (xVar 0)) (xFld T c 41 (xVar 0))))
/-- Ratio.whole(self); self 0 -/
noncomputable def B_59 (c : Fn) : Fs := (sRet (xBin (eqB T c false) (xFld T c 41 (xVar 0)) (xK (.int 1))))
/-- Point.__init__(self, x, y); self 0 x 1 y 2 -/
noncomputable def B_60 (c : Fn) : Fs := (sSeq (sFldD T 42 (xVar 0) (xCall T c 5 (aCons (xVar 1) aNil))) (sFldD T 43 (xVar 0) (xCall T c 5 (aCons (xVar 2) aNil))))
/-- Point.__eq__(self, other); self 0 other 1 -/
noncomputable def B_61 (c : Fn) : Fs := (sRet (xAnd (truD T c) (xIso T 1 (xVar 1)) (xAnd (truD T c) (xBin (eqB T c false) (xFld T c 42 (xVar 0)) (xFld T c 42 (xVar 1))) (xBin (eqB T c false) (xFld T c 43 (xVar 0)) (xFld T c 43 (xVar 1))))))
/-- Point.__add__(self, other); self 0 other 1 -/
noncomputable def B_62 (c : Fn) : Fs := (sSeq (sIf (tNot (tOf (truD T c) (xIso T 1 (xVar 1)))) sNo sNx) (sRet (xMk T c 1 (aCons (xBin (binD T c .Add) (xFld T c 42 (xVar 0)) (xFld T c 42 (xVar 1))) (aCons (xBin (binD T c .Add) (xFld T c 43 (xVar 0)) (xFld T c 43 (xVar 1))) aNil)))))
/-- Point.__sub__(self, other); self 0 other 1 -/
noncomputable def B_63 (c : Fn) : Fs := (sSeq (sIf (tNot (tOf (truD T c) (xIso T 1 (xVar 1)))) sNo sNx) (sRet (xMk T c 1 (aCons (xBin (binD T c .Sub) (xFld T c 42 (xVar 0)) (xFld T c 42 (xVar 1))) (aCons (xBin (binD T c .Sub) (xFld T c 43 (xVar 0)) (xFld T c 43 (xVar 1))) aNil)))))
/-- Point.__mul__(self, other); self 0 other 1 -/
noncomputable def B_64 (c : Fn) : Fs := (sSeq (sIf (tNot (tOf (truD T c) (xCall T c 0 (aCons (xVar 1) aNil)))) sNo sNx) (sRet (xMk T c 1 (aCons (xBin (binD T c .Mult) (xFld T c 42 (xVar 0)) (xVar 1)) (aCons (xBin (binD T c .Mult) (xFld T c 43 (xVar 0)) (xVar 1)) aNil)))))
/-- Point.__rmul__(self, other); self 0 other 1 -/
noncomputable def B_65 (c : Fn) : Fs := (sSeq (sIf (tNot (tOf (truD T c) (xCall T c 0 (aCons (xVar 1) aNil)))) sNo sNx) (sRet (xMk T c 1 (aCons (xBin (binD T c .Mult) (xFld T c 42 (xVar 0)) (xVar 1)) (aCons (xBin (binD T c .Mult) (xFld T c 43 (xVar 0)) (xVar 1)) aNil)))))
/-- Point.__neg__(self); self 0 -/
noncomputable def B_66 (c : Fn) : Fs := (sRet (xMk T c 1 (aCons (xUn (negD T c) (xFld T c 42 (xVar 0))) (aCons (xUn (negD T c) (xFld T c 43 (xVar 0))) aNil))))
/-- Point.__bool__(self); self 0 -/
noncomputable def B_67 (c : Fn) : Fs := (sRet (xOr (truD T c) (xBi (bBool T c) (aCons (xFld T c 42 (xVar 0)) aNil)) (xBi (bBool T c) (aCons (xFld T c 43 (xVar 0)) aNil))))
/-- Form.__init__(self, x, y); self 0 x 1 y 2 -/
noncomputable def B_68 (c : Fn) : Fs := (sSeq (sFldD T 42 (xVar 0) (xCall T c 5 (aCons (xVar 1) aNil))) (sFldD T 43 (xVar 0) (xCall T c 5 (aCons (xVar 2) aNil))))
/-- Form.__call__(self, point); self 0 point 1 -/
noncomputable def B_69 (c : Fn) : Fs := (sRet (xCall T c 6 (aCons (xVar 0) (aCons (xVar 1) aNil))))
/-- Form.__eq__(self, other); self 0 other 1 -/
noncomputable def B_70 (c : Fn) : Fs := (sRet (xAnd (truD T c) (xIso T 2 (xVar 1)) (xAnd (truD T c) (xBin (eqB T c false) (xFld T c 42 (xVar 0)) (xFld T c 42 (xVar 1))) (xBin (eqB T c false) (xFld T c 43 (xVar 0)) (xFld T c 43 (xVar 1))))))
/-- Form.__add__(self, other); self 0 other 1 -/
noncomputable def B_71 (c : Fn) : Fs := (sSeq (sIf (tNot (tOf (truD T c) (xIso T 2 (xVar 1)))) sNo sNx) (sRet (xMk T c 2 (aCons (xBin (binD T c .Add) (xFld T c 42 (xVar 0)) (xFld T c 42 (xVar 1))) (aCons (xBin (binD T c .Add) (xFld T c 43 (xVar 0)) (xFld T c 43 (xVar 1))) aNil)))))
/-- Form.__sub__(self, other); self 0 other 1 -/
noncomputable def B_72 (c : Fn) : Fs := (sSeq (sIf (tNot (tOf (truD T c) (xIso T 2 (xVar 1)))) sNo sNx) (sRet (xMk T c 2 (aCons (xBin (binD T c .Sub) (xFld T c 42 (xVar 0)) (xFld T c 42 (xVar 1))) (aCons (xBin (binD T c .Sub) (xFld T c 43 (xVar 0)) (xFld T c 43 (xVar 1))) aNil)))))
/-- Form.__mul__(self, other); self 0 other 1 -/
noncomputable def B_73 (c : Fn) : Fs := (sSeq (sIf (tNot (tOf (truD T c) (xCall T c 0 (aCons (xVar 1) aNil)))) sNo sNx) (sRet (xMk T c 2 (aCons (xBin (binD T c .Mult) (xFld T c 42 (xVar 0)) (xVar 1)) (aCons (xBin (binD T c .Mult) (xFld T c 43 (xVar 0)) (xVar 1)) aNil)))))
/-- Form.__rmul__(self, other); self 0 other 1 -/
noncomputable def B_74 (c : Fn) : Fs := (sSeq (sIf (tNot (tOf (truD T c) (xCall T c 0 (aCons (xVar 1) aNil)))) sNo sNx) (sRet (xMk T c 2 (aCons (xBin (binD T c .Mult) (xFld T c 42 (xVar 0)) (xVar 1)) (aCons (xBin (binD T c .Mult) (xFld T c 43 (xVar 0)) (xVar 1)) aNil)))))
/-- Form.__neg__(self); self 0 -/
noncomputable def B_75 (c : Fn) : Fs := (sRet (xMk T c 2 (aCons (xUn (negD T c) (xFld T c 42 (xVar 0))) (aCons (xUn (negD T c) (xFld T c 43 (xVar 0))) aNil))))
/-- Lattice.__init__(self, points); self 0 points 1 over 2 rows 3 point 4 table 5 -/
noncomputable def B_76 (c : Fn) : Fs := (sSeq (sAsg (xK (.int 1)) (gNm 2)) (sSeq (sAsg (xBi bList (aCons (xVar 1) aNil)) (gNm 3)) (sSeq (sFor (iSeq (xVar 3)) (gNm 4) (sSeq (sIf (tNot (tOf (truD T c) (xIso T 1 (xVar 4)))) sNo sNx) (sAsg (xCall T c 2 (aCons (xVar 2) (aCons (xCall T c 2 (aCons (xFld T c 41 (xFld T c 42 (xVar 4))) (aCons (xFld T c 41 (xFld T c 43 (xVar 4))) aNil))) aNil))) (gNm 2)))) (sSeq (sAsg (xCall T c 7 (aCons (xLc (iSeq (xVar 3)) (gNm 4) tTrue (xTup (aCons (xFld T c 40 (xBin (binD T c .Mult) (xFld T c 42 (xVar 4)) (xVar 2))) (aCons (xFld T c 40 (xBin (binD T c .Mult) (xFld T c 43 (xVar 4)) (xVar 2))) aNil))) [4]) aNil)) (gNm 5)) (sSeq (sFldD T 44 (xVar 0) (xMk T c 0 (aCons (xBin subD (xVar 5) (xK (.int 0))) (aCons (xVar 2) aNil)))) (sSeq (sFldD T 45 (xVar 0) (xMk T c 0 (aCons (xBin subD (xVar 5) (xK (.int 1))) (aCons (xVar 2) aNil)))) (sFldD T 46 (xVar 0) (xMk T c 0 (aCons (xBin subD (xVar 5) (xK (.int 2))) (aCons (xVar 2) aNil))))))))))
/-- Lattice.cell(self); self 0 -/
noncomputable def B_77 (c : Fn) : Fs := (sRet (xBin (binD T c .Mult) (xFld T c 44 (xVar 0)) (xFld T c 46 (xVar 0))))
/-- Lattice.rows(self); self 0 -/
noncomputable def B_78 (c : Fn) : Fs := (sRet (xTup (aCons (xMk T c 1 (aCons (xFld T c 44 (xVar 0)) (aCons (xFld T c 45 (xVar 0)) aNil))) (aCons (xMk T c 1 (aCons (xK (.int 0)) (aCons (xFld T c 46 (xVar 0)) aNil))) aNil))))
/-- Lattice.steps(self, point); self 0 point 1 first 2 -/
noncomputable def B_79 (c : Fn) : Fs := (sSeq (sAsg (xMethW T c 50 (xFld T c 42 (xVar 1)) (aCons (xFld T c 44 (xVar 0)) aNil)) (gNm 2)) (sRet (xTup (aCons (xVar 2) (aCons (xMethW T c 50 (xBin (binD T c .Sub) (xFld T c 43 (xVar 1)) (xBin (binD T c .Mult) (xVar 2) (xFld T c 45 (xVar 0)))) (aCons (xFld T c 46 (xVar 0)) aNil)) aNil)))))
/-- Lattice.tests(self); self 0 first 1 -/
noncomputable def B_80 (c : Fn) : Fs := (sSeq (sAsg (xMk T c 2 (aCons (xMethW T c 50 (xMk T c 0 (aCons (xK (.int 1)) aNil)) (aCons (xFld T c 44 (xVar 0)) aNil)) (aCons (xK (.int 0)) aNil))) (gNm 1)) (sRet (xTup (aCons (xVar 1) (aCons (xMk T c 2 (aCons (xUn (negD T c) (xMethW T c 50 (xFld T c 45 (xVar 0)) (aCons (xFld T c 47 (xVar 0)) aNil))) (aCons (xMethW T c 50 (xMk T c 0 (aCons (xK (.int 1)) aNil)) (aCons (xFld T c 46 (xVar 0)) aNil)) aNil))) aNil)))))
/-- Lattice.dual(self); self 0 first 1 second 2 -/
noncomputable def B_81 (c : Fn) : Fs := (sSeq (sAsg (xMethW T c 53 (xVar 0) aNil) (gTp (gsCons (gNm 1) (gsCons (gNm 2) gsNil)))) (sRet (xMk T c 3 (aCons (xLst (aCons (xMk T c 1 (aCons (xFld T c 42 (xVar 1)) (aCons (xFld T c 43 (xVar 1)) aNil))) (aCons (xMk T c 1 (aCons (xFld T c 42 (xVar 2)) (aCons (xFld T c 43 (xVar 2)) aNil))) aNil))) aNil))))
/-- Lattice.__contains__(self, point); self 0 point 1 first 2 second 3 -/
noncomputable def B_82 (c : Fn) : Fs := (sSeq (sAsg (xMethW T c 52 (xVar 0) (aCons (xVar 1) aNil)) (gTp (gsCons (gNm 2) (gsCons (gNm 3) gsNil)))) (sRet (xAnd (truD T c) (xMethW T c 54 (xVar 2) aNil) (xMethW T c 54 (xVar 3) aNil))))
/-- Lattice.__eq__(self, other); self 0 other 1 -/
noncomputable def B_83 (c : Fn) : Fs := (sSeq (sIf (tNot (tOf (truD T c) (xIso T 3 (xVar 1)))) (sRet (xK (.bl false))) sNx) (sRet (xAnd (truD T c) (xBin (eqB T c false) (xFld T c 44 (xVar 0)) (xFld T c 44 (xVar 1))) (xAnd (truD T c) (xBin (eqB T c false) (xFld T c 45 (xVar 0)) (xFld T c 45 (xVar 1))) (xBin (eqB T c false) (xFld T c 46 (xVar 0)) (xFld T c 46 (xVar 1)))))))
/-- Lattice.__le__(self, other); self 0 other 1 first 2 second 3 -/
noncomputable def B_84 (c : Fn) : Fs := (sSeq (sIf (tNot (tOf (truD T c) (xIso T 3 (xVar 1)))) sNo sNx) (sSeq (sAsg (xMethW T c 51 (xVar 0) aNil) (gTp (gsCons (gNm 2) (gsCons (gNm 3) gsNil)))) (sRet (xAnd (truD T c) (xBin (inO T c false) (xVar 2) (xVar 1)) (xBin (inO T c false) (xVar 3) (xVar 1))))))
/-- Lattice.__add__(self, other); self 0 other 1 -/
noncomputable def B_85 (c : Fn) : Fs := (sSeq (sIf (tNot (tOf (truD T c) (xIso T 3 (xVar 1)))) sNo sNx) (sRet (xMk T c 3 (aCons (xBin (binD T c .Add) (xBi bList (aCons (xMethW T c 51 (xVar 0) aNil) aNil)) (xBi bList (aCons (xMethW T c 51 (xVar 1) aNil) aNil))) aNil))))
/-- Lattice.__and__(self, other); self 0 other 1 -/
noncomputable def B_86 (c : Fn) : Fs := (sSeq (sIf (tNot (tOf (truD T c) (xIso T 3 (xVar 1)))) sNo sNx) (sRet (xMethW T c 48 (xBin (binD T c .Add) (xMethW T c 48 (xVar 0) aNil) (xMethW T c 48 (xVar 1) aNil)) aNil)))
/-- Lattice.__mul__(self, other); self 0 other 1 -/
noncomputable def B_87 (c : Fn) : Fs := (sSeq (sIf (tNot (tOf (truD T c) (xCall T c 0 (aCons (xVar 1) aNil)))) sNo sNx) (sRet (xCall T c 8 (aCons (xVar 0) (aCons (xVar 1) aNil)))))
/-- Lattice.__rmul__(self, other); self 0 other 1 -/
noncomputable def B_88 (c : Fn) : Fs := (sSeq (sIf (tNot (tOf (truD T c) (xCall T c 0 (aCons (xVar 1) aNil)))) sNo sNx) (sRet (xCall T c 8 (aCons (xVar 0) (aCons (xVar 1) aNil)))))
noncomputable def bodies (c : Fn) : List (List D → Store → Res D) := [fnD 1 (B_0 c), fnD 2 (B_1 c), fnD 2 (B_2 c), fnD 5 (B_3 c), fnD 3 (B_4 c), fnD 1 (B_5 c), fnD 2 (B_6 c), fnD 10 (B_7 c), fnD 5 (B_8 c), fnD 1 (B_9 c), fnD 7 (B_10 c), fnD 2 (B_11 c), fnD 1 (B_12 c), fnD 4 (B_13 c), fnD 3 (B_14 c), fnD 3 (B_15 c), fnD 3 (B_16 c), fnD 2 (B_17 c), fnD 2 (B_18 c), fnD 3 (B_19 c), fnD 2 (B_20 c), fnD 2 (B_21 c), fnD 2 (B_22 c), fnD 12 (B_23 c), fnD 8 (B_24 c), fnD 1 (B_25 c), fnD 3 (B_26 c), fnD 4 (B_27 c), fnD 5 (B_28 c), fnD 2 (B_29 c), fnD 2 (B_30 c), fnD 1 (B_31 c), fnD 2 (B_32 c), fnD 12 (B_33 c), fnD 15 (B_34 c), fnD 5 (B_35 c), fnD 10 (B_36 c), fnD 5 (B_37 c), fnD 2 (B_38 c), fnD 2 (B_39 c), fnD 2 (B_40 c), fnD 2 (B_41 c), fnD 2 (B_42 c), fnD 2 (B_43 c), fnD 2 (B_44 c), fnD 2 (B_45 c), fnD 2 (B_46 c), fnD 2 (B_47 c), fnD 2 (B_48 c), fnD 2 (B_49 c), fnD 2 (B_50 c), fnD 3 (B_51 c), fnD 3 (B_52 c), fnD 2 (B_53 c), fnD 1 (B_54 c), fnD 1 (B_55 c), fnD 1 (B_56 c), fnD 3 (B_57 c), fnD 1 (B_58 c), fnD 1 (B_59 c), fnD 3 (B_60 c), fnD 2 (B_61 c), fnD 2 (B_62 c), fnD 2 (B_63 c), fnD 2 (B_64 c), fnD 2 (B_65 c), fnD 1 (B_66 c), fnD 1 (B_67 c), fnD 3 (B_68 c), fnD 2 (B_69 c), fnD 2 (B_70 c), fnD 2 (B_71 c), fnD 2 (B_72 c), fnD 2 (B_73 c), fnD 2 (B_74 c), fnD 1 (B_75 c), fnD 6 (B_76 c), fnD 1 (B_77 c), fnD 1 (B_78 c), fnD 3 (B_79 c), fnD 2 (B_80 c), fnD 3 (B_81 c), fnD 4 (B_82 c), fnD 2 (B_83 c), fnD 4 (B_84 c), fnD 2 (B_85 c), fnD 2 (B_86 c), fnD 2 (B_87 c), fnD 2 (B_88 c)]
noncomputable def nt_47 (c : Fn) : Ft := (tNot (tOf (truD T c) (xCall T c 0 (aCons (xVar 1) aNil))))
noncomputable def nt_62 (c : Fn) : Ft := (tNot (tOf (truD T c) (xIso T 1 (xVar 1))))
noncomputable def nt_63 (c : Fn) : Ft := (tNot (tOf (truD T c) (xIso T 1 (xVar 1))))
noncomputable def nt_64 (c : Fn) : Ft := (tNot (tOf (truD T c) (xCall T c 0 (aCons (xVar 1) aNil))))
noncomputable def nt_71 (c : Fn) : Ft := (tNot (tOf (truD T c) (xIso T 2 (xVar 1))))
noncomputable def nt_72 (c : Fn) : Ft := (tNot (tOf (truD T c) (xIso T 2 (xVar 1))))
noncomputable def nt_73 (c : Fn) : Ft := (tNot (tOf (truD T c) (xCall T c 0 (aCons (xVar 1) aNil))))
noncomputable def nt_85 (c : Fn) : Ft := (tNot (tOf (truD T c) (xIso T 3 (xVar 1))))
noncomputable def nt_87 (c : Fn) : Ft := (tNot (tOf (truD T c) (xCall T c 0 (aCons (xVar 1) aNil))))
noncomputable def nis (c : Fn) : List (Nat × (List D → Store → Res D)) := [(47, fun ds st => (nt_47 c (startE 2 ds) st).bind fun b st => .ok (.bl b) st), (62, fun ds st => (nt_62 c (startE 2 ds) st).bind fun b st => .ok (.bl b) st), (63, fun ds st => (nt_63 c (startE 2 ds) st).bind fun b st => .ok (.bl b) st), (64, fun ds st => (nt_64 c (startE 2 ds) st).bind fun b st => .ok (.bl b) st), (71, fun ds st => (nt_71 c (startE 2 ds) st).bind fun b st => .ok (.bl b) st), (72, fun ds st => (nt_72 c (startE 2 ds) st).bind fun b st => .ok (.bl b) st), (73, fun ds st => (nt_73 c (startE 2 ds) st).bind fun b st => .ok (.bl b) st), (85, fun ds st => (nt_85 c (startE 2 ds) st).bind fun b st => .ok (.bl b) st), (87, fun ds st => (nt_87 c (startE 2 ds) st).bind fun b st => .ok (.bl b) st)]
noncomputable def run : Nat → Fn
  | 0 => fun _ _ _ => .stuck
  | n + 1 => pickF (bodies (run n)) (nis (run n))
theorem run_no_47 (n : Nat) : run (n + 1) (47 + niB) = fun ds st => (nt_47 (run n) (startE 2 ds) st).bind fun b st => .ok (.bl b) st := pickF_some (show 89 ≤ niB by decide) rfl
theorem run_no_62 (n : Nat) : run (n + 1) (62 + niB) = fun ds st => (nt_62 (run n) (startE 2 ds) st).bind fun b st => .ok (.bl b) st := pickF_some (show 89 ≤ niB by decide) rfl
theorem run_no_63 (n : Nat) : run (n + 1) (63 + niB) = fun ds st => (nt_63 (run n) (startE 2 ds) st).bind fun b st => .ok (.bl b) st := pickF_some (show 89 ≤ niB by decide) rfl
theorem run_no_64 (n : Nat) : run (n + 1) (64 + niB) = fun ds st => (nt_64 (run n) (startE 2 ds) st).bind fun b st => .ok (.bl b) st := pickF_some (show 89 ≤ niB by decide) rfl
theorem run_no_71 (n : Nat) : run (n + 1) (71 + niB) = fun ds st => (nt_71 (run n) (startE 2 ds) st).bind fun b st => .ok (.bl b) st := pickF_some (show 89 ≤ niB by decide) rfl
theorem run_no_72 (n : Nat) : run (n + 1) (72 + niB) = fun ds st => (nt_72 (run n) (startE 2 ds) st).bind fun b st => .ok (.bl b) st := pickF_some (show 89 ≤ niB by decide) rfl
theorem run_no_73 (n : Nat) : run (n + 1) (73 + niB) = fun ds st => (nt_73 (run n) (startE 2 ds) st).bind fun b st => .ok (.bl b) st := pickF_some (show 89 ≤ niB by decide) rfl
theorem run_no_85 (n : Nat) : run (n + 1) (85 + niB) = fun ds st => (nt_85 (run n) (startE 2 ds) st).bind fun b st => .ok (.bl b) st := pickF_some (show 89 ≤ niB by decide) rfl
theorem run_no_87 (n : Nat) : run (n + 1) (87 + niB) = fun ds st => (nt_87 (run n) (startE 2 ds) st).bind fun b st => .ok (.bl b) st := pickF_some (show 89 ≤ niB by decide) rfl
theorem run_0 (n : Nat) : run (n + 1) 0 = fnD 1 (B_0 (run n)) := rfl
theorem run_1 (n : Nat) : run (n + 1) 1 = fnD 2 (B_1 (run n)) := rfl
theorem run_2 (n : Nat) : run (n + 1) 2 = fnD 2 (B_2 (run n)) := rfl
theorem run_3 (n : Nat) : run (n + 1) 3 = fnD 5 (B_3 (run n)) := rfl
theorem run_4 (n : Nat) : run (n + 1) 4 = fnD 3 (B_4 (run n)) := rfl
theorem run_5 (n : Nat) : run (n + 1) 5 = fnD 1 (B_5 (run n)) := rfl
theorem run_6 (n : Nat) : run (n + 1) 6 = fnD 2 (B_6 (run n)) := rfl
theorem run_7 (n : Nat) : run (n + 1) 7 = fnD 10 (B_7 (run n)) := rfl
theorem run_8 (n : Nat) : run (n + 1) 8 = fnD 5 (B_8 (run n)) := rfl
theorem run_9 (n : Nat) : run (n + 1) 9 = fnD 1 (B_9 (run n)) := rfl
theorem run_10 (n : Nat) : run (n + 1) 10 = fnD 7 (B_10 (run n)) := rfl
theorem run_11 (n : Nat) : run (n + 1) 11 = fnD 2 (B_11 (run n)) := rfl
theorem run_12 (n : Nat) : run (n + 1) 12 = fnD 1 (B_12 (run n)) := rfl
theorem run_13 (n : Nat) : run (n + 1) 13 = fnD 4 (B_13 (run n)) := rfl
theorem run_14 (n : Nat) : run (n + 1) 14 = fnD 3 (B_14 (run n)) := rfl
theorem run_15 (n : Nat) : run (n + 1) 15 = fnD 3 (B_15 (run n)) := rfl
theorem run_16 (n : Nat) : run (n + 1) 16 = fnD 3 (B_16 (run n)) := rfl
theorem run_17 (n : Nat) : run (n + 1) 17 = fnD 2 (B_17 (run n)) := rfl
theorem run_18 (n : Nat) : run (n + 1) 18 = fnD 2 (B_18 (run n)) := rfl
theorem run_19 (n : Nat) : run (n + 1) 19 = fnD 3 (B_19 (run n)) := rfl
theorem run_20 (n : Nat) : run (n + 1) 20 = fnD 2 (B_20 (run n)) := rfl
theorem run_21 (n : Nat) : run (n + 1) 21 = fnD 2 (B_21 (run n)) := rfl
theorem run_22 (n : Nat) : run (n + 1) 22 = fnD 2 (B_22 (run n)) := rfl
theorem run_23 (n : Nat) : run (n + 1) 23 = fnD 12 (B_23 (run n)) := rfl
theorem run_24 (n : Nat) : run (n + 1) 24 = fnD 8 (B_24 (run n)) := rfl
theorem run_25 (n : Nat) : run (n + 1) 25 = fnD 1 (B_25 (run n)) := rfl
theorem run_26 (n : Nat) : run (n + 1) 26 = fnD 3 (B_26 (run n)) := rfl
theorem run_27 (n : Nat) : run (n + 1) 27 = fnD 4 (B_27 (run n)) := rfl
theorem run_28 (n : Nat) : run (n + 1) 28 = fnD 5 (B_28 (run n)) := rfl
theorem run_29 (n : Nat) : run (n + 1) 29 = fnD 2 (B_29 (run n)) := rfl
theorem run_30 (n : Nat) : run (n + 1) 30 = fnD 2 (B_30 (run n)) := rfl
theorem run_31 (n : Nat) : run (n + 1) 31 = fnD 1 (B_31 (run n)) := rfl
theorem run_32 (n : Nat) : run (n + 1) 32 = fnD 2 (B_32 (run n)) := rfl
theorem run_33 (n : Nat) : run (n + 1) 33 = fnD 12 (B_33 (run n)) := rfl
theorem run_34 (n : Nat) : run (n + 1) 34 = fnD 15 (B_34 (run n)) := rfl
theorem run_35 (n : Nat) : run (n + 1) 35 = fnD 5 (B_35 (run n)) := rfl
theorem run_36 (n : Nat) : run (n + 1) 36 = fnD 10 (B_36 (run n)) := rfl
theorem run_37 (n : Nat) : run (n + 1) 37 = fnD 5 (B_37 (run n)) := rfl
theorem run_38 (n : Nat) : run (n + 1) 38 = fnD 2 (B_38 (run n)) := rfl
theorem run_39 (n : Nat) : run (n + 1) 39 = fnD 2 (B_39 (run n)) := rfl
theorem run_40 (n : Nat) : run (n + 1) 40 = fnD 2 (B_40 (run n)) := rfl
theorem run_41 (n : Nat) : run (n + 1) 41 = fnD 2 (B_41 (run n)) := rfl
theorem run_42 (n : Nat) : run (n + 1) 42 = fnD 2 (B_42 (run n)) := rfl
theorem run_43 (n : Nat) : run (n + 1) 43 = fnD 2 (B_43 (run n)) := rfl
theorem run_44 (n : Nat) : run (n + 1) 44 = fnD 2 (B_44 (run n)) := rfl
theorem run_45 (n : Nat) : run (n + 1) 45 = fnD 2 (B_45 (run n)) := rfl
theorem run_46 (n : Nat) : run (n + 1) 46 = fnD 2 (B_46 (run n)) := rfl
theorem run_47 (n : Nat) : run (n + 1) 47 = fnD 2 (B_47 (run n)) := rfl
theorem run_48 (n : Nat) : run (n + 1) 48 = fnD 2 (B_48 (run n)) := rfl
theorem run_49 (n : Nat) : run (n + 1) 49 = fnD 2 (B_49 (run n)) := rfl
theorem run_50 (n : Nat) : run (n + 1) 50 = fnD 2 (B_50 (run n)) := rfl
theorem run_51 (n : Nat) : run (n + 1) 51 = fnD 3 (B_51 (run n)) := rfl
theorem run_52 (n : Nat) : run (n + 1) 52 = fnD 3 (B_52 (run n)) := rfl
theorem run_53 (n : Nat) : run (n + 1) 53 = fnD 2 (B_53 (run n)) := rfl
theorem run_54 (n : Nat) : run (n + 1) 54 = fnD 1 (B_54 (run n)) := rfl
theorem run_55 (n : Nat) : run (n + 1) 55 = fnD 1 (B_55 (run n)) := rfl
theorem run_56 (n : Nat) : run (n + 1) 56 = fnD 1 (B_56 (run n)) := rfl
theorem run_57 (n : Nat) : run (n + 1) 57 = fnD 3 (B_57 (run n)) := rfl
theorem run_58 (n : Nat) : run (n + 1) 58 = fnD 1 (B_58 (run n)) := rfl
theorem run_59 (n : Nat) : run (n + 1) 59 = fnD 1 (B_59 (run n)) := rfl
theorem run_60 (n : Nat) : run (n + 1) 60 = fnD 3 (B_60 (run n)) := rfl
theorem run_61 (n : Nat) : run (n + 1) 61 = fnD 2 (B_61 (run n)) := rfl
theorem run_62 (n : Nat) : run (n + 1) 62 = fnD 2 (B_62 (run n)) := rfl
theorem run_63 (n : Nat) : run (n + 1) 63 = fnD 2 (B_63 (run n)) := rfl
theorem run_64 (n : Nat) : run (n + 1) 64 = fnD 2 (B_64 (run n)) := rfl
theorem run_65 (n : Nat) : run (n + 1) 65 = fnD 2 (B_65 (run n)) := rfl
theorem run_66 (n : Nat) : run (n + 1) 66 = fnD 1 (B_66 (run n)) := rfl
theorem run_67 (n : Nat) : run (n + 1) 67 = fnD 1 (B_67 (run n)) := rfl
theorem run_68 (n : Nat) : run (n + 1) 68 = fnD 3 (B_68 (run n)) := rfl
theorem run_69 (n : Nat) : run (n + 1) 69 = fnD 2 (B_69 (run n)) := rfl
theorem run_70 (n : Nat) : run (n + 1) 70 = fnD 2 (B_70 (run n)) := rfl
theorem run_71 (n : Nat) : run (n + 1) 71 = fnD 2 (B_71 (run n)) := rfl
theorem run_72 (n : Nat) : run (n + 1) 72 = fnD 2 (B_72 (run n)) := rfl
theorem run_73 (n : Nat) : run (n + 1) 73 = fnD 2 (B_73 (run n)) := rfl
theorem run_74 (n : Nat) : run (n + 1) 74 = fnD 2 (B_74 (run n)) := rfl
theorem run_75 (n : Nat) : run (n + 1) 75 = fnD 1 (B_75 (run n)) := rfl
theorem run_76 (n : Nat) : run (n + 1) 76 = fnD 6 (B_76 (run n)) := rfl
theorem run_77 (n : Nat) : run (n + 1) 77 = fnD 1 (B_77 (run n)) := rfl
theorem run_78 (n : Nat) : run (n + 1) 78 = fnD 1 (B_78 (run n)) := rfl
theorem run_79 (n : Nat) : run (n + 1) 79 = fnD 3 (B_79 (run n)) := rfl
theorem run_80 (n : Nat) : run (n + 1) 80 = fnD 2 (B_80 (run n)) := rfl
theorem run_81 (n : Nat) : run (n + 1) 81 = fnD 3 (B_81 (run n)) := rfl
theorem run_82 (n : Nat) : run (n + 1) 82 = fnD 4 (B_82 (run n)) := rfl
theorem run_83 (n : Nat) : run (n + 1) 83 = fnD 2 (B_83 (run n)) := rfl
theorem run_84 (n : Nat) : run (n + 1) 84 = fnD 4 (B_84 (run n)) := rfl
theorem run_85 (n : Nat) : run (n + 1) 85 = fnD 2 (B_85 (run n)) := rfl
theorem run_86 (n : Nat) : run (n + 1) 86 = fnD 2 (B_86 (run n)) := rfl
theorem run_87 (n : Nat) : run (n + 1) 87 = fnD 2 (B_87 (run n)) := rfl
theorem run_88 (n : Nat) : run (n + 1) 88 = fnD 2 (B_88 (run n)) := rfl
@[simp] theorem cl_0_1 (c : Fn) (a0 : D) (st : Store) : callD T c 0 [a0] st = c 0 [a0] st := rfl
@[simp] theorem cl_1_2 (c : Fn) (a0 a1 : D) (st : Store) : callD T c 1 [a0, a1] st = c 1 [a0, a1] st := rfl
@[simp] theorem cl_2_2 (c : Fn) (a0 a1 : D) (st : Store) : callD T c 2 [a0, a1] st = c 2 [a0, a1] st := rfl
@[simp] theorem cl_3_2 (c : Fn) (a0 a1 : D) (st : Store) : callD T c 3 [a0, a1] st = c 3 [a0, a1] st := rfl
@[simp] theorem cl_4_2 (c : Fn) (a0 a1 : D) (st : Store) : callD T c 4 [a0, a1] st = c 4 [a0, a1] st := rfl
@[simp] theorem cl_5_1 (c : Fn) (a0 : D) (st : Store) : callD T c 5 [a0] st = c 5 [a0] st := rfl
@[simp] theorem cl_6_2 (c : Fn) (a0 a1 : D) (st : Store) : callD T c 6 [a0, a1] st = c 6 [a0, a1] st := rfl
@[simp] theorem cl_7_1 (c : Fn) (a0 : D) (st : Store) : callD T c 7 [a0] st = c 7 [a0] st := rfl
@[simp] theorem cl_8_2 (c : Fn) (a0 a1 : D) (st : Store) : callD T c 8 [a0, a1] st = c 8 [a0, a1] st := rfl
@[simp] theorem cl_9_1 (c : Fn) (a0 : D) (st : Store) : callD T c 9 [a0] st = c 9 [a0] st := rfl
@[simp] theorem cl_10_2 (c : Fn) (a0 a1 : D) (st : Store) : callD T c 10 [a0, a1] st = c 10 [a0, a1] st := rfl
@[simp] theorem cl_11_2 (c : Fn) (a0 a1 : D) (st : Store) : callD T c 11 [a0, a1] st = c 11 [a0, a1] st := rfl
@[simp] theorem cl_12_1 (c : Fn) (a0 : D) (st : Store) : callD T c 12 [a0] st = c 12 [a0] st := rfl
@[simp] theorem cl_13_2 (c : Fn) (a0 a1 : D) (st : Store) : callD T c 13 [a0, a1] st = c 13 [a0, a1] st := rfl
@[simp] theorem cl_14_2 (c : Fn) (a0 a1 : D) (st : Store) : callD T c 14 [a0, a1] st = c 14 [a0, a1] st := rfl
@[simp] theorem cl_15_2 (c : Fn) (a0 a1 : D) (st : Store) : callD T c 15 [a0, a1] st = c 15 [a0, a1] st := rfl
@[simp] theorem cl_16_2 (c : Fn) (a0 a1 : D) (st : Store) : callD T c 16 [a0, a1] st = c 16 [a0, a1] st := rfl
@[simp] theorem cl_17_2 (c : Fn) (a0 a1 : D) (st : Store) : callD T c 17 [a0, a1] st = c 17 [a0, a1] st := rfl
@[simp] theorem cl_18_2 (c : Fn) (a0 a1 : D) (st : Store) : callD T c 18 [a0, a1] st = c 18 [a0, a1] st := rfl
@[simp] theorem cl_19_3 (c : Fn) (a0 a1 a2 : D) (st : Store) : callD T c 19 [a0, a1, a2] st = c 19 [a0, a1, a2] st := rfl
@[simp] theorem cl_20_2 (c : Fn) (a0 a1 : D) (st : Store) : callD T c 20 [a0, a1] st = c 20 [a0, a1] st := rfl
@[simp] theorem cl_21_2 (c : Fn) (a0 a1 : D) (st : Store) : callD T c 21 [a0, a1] st = c 21 [a0, a1] st := rfl
@[simp] theorem cl_22_2 (c : Fn) (a0 a1 : D) (st : Store) : callD T c 22 [a0, a1] st = c 22 [a0, a1] st := rfl
@[simp] theorem cl_23_1 (c : Fn) (a0 : D) (st : Store) : callD T c 23 [a0] st = c 23 [a0] st := rfl
@[simp] theorem cl_24_2 (c : Fn) (a0 a1 : D) (st : Store) : callD T c 24 [a0, a1] st = c 24 [a0, a1] st := rfl
@[simp] theorem cl_25_1 (c : Fn) (a0 : D) (st : Store) : callD T c 25 [a0] st = c 25 [a0] st := rfl
@[simp] theorem cl_26_2 (c : Fn) (a0 a1 : D) (st : Store) : callD T c 26 [a0, a1] st = c 26 [a0, a1] st := rfl
@[simp] theorem cl_27_3 (c : Fn) (a0 a1 a2 : D) (st : Store) : callD T c 27 [a0, a1, a2] st = c 27 [a0, a1, a2] st := rfl
@[simp] theorem cl_28_3 (c : Fn) (a0 a1 a2 : D) (st : Store) : callD T c 28 [a0, a1, a2] st = c 28 [a0, a1, a2] st := rfl
@[simp] theorem cl_29_2 (c : Fn) (a0 a1 : D) (st : Store) : callD T c 29 [a0, a1] st = c 29 [a0, a1] st := rfl
@[simp] theorem cl_30_2 (c : Fn) (a0 a1 : D) (st : Store) : callD T c 30 [a0, a1] st = c 30 [a0, a1] st := rfl
@[simp] theorem cl_31_1 (c : Fn) (a0 : D) (st : Store) : callD T c 31 [a0] st = c 31 [a0] st := rfl
@[simp] theorem cl_32_2 (c : Fn) (a0 a1 : D) (st : Store) : callD T c 32 [a0, a1] st = c 32 [a0, a1] st := rfl
@[simp] theorem cl_33_4 (c : Fn) (a0 a1 a2 a3 : D) (st : Store) : callD T c 33 [a0, a1, a2, a3] st = c 33 [a0, a1, a2, a3] st := rfl
@[simp] theorem cl_34_4 (c : Fn) (a0 a1 a2 a3 : D) (st : Store) : callD T c 34 [a0, a1, a2, a3] st = c 34 [a0, a1, a2, a3] st := rfl
@[simp] theorem cl_35_3 (c : Fn) (a0 a1 a2 : D) (st : Store) : callD T c 35 [a0, a1, a2] st = c 35 [a0, a1, a2] st := rfl
@[simp] theorem cl_36_1 (c : Fn) (a0 : D) (st : Store) : callD T c 36 [a0] st = c 36 [a0] st := rfl
@[simp] theorem cl_37_2 (c : Fn) (a0 a1 : D) (st : Store) : callD T c 37 [a0, a1] st = c 37 [a0, a1, .int 1] st := rfl
@[simp] theorem cl_37_3 (c : Fn) (a0 a1 a2 : D) (st : Store) : callD T c 37 [a0, a1, a2] st = c 37 [a0, a1, a2] st := rfl
@[simp] theorem cl_38_2 (c : Fn) (a0 a1 : D) (st : Store) : callD T c 38 [a0, a1] st = c 38 [a0, a1] st := rfl
@[simp] theorem cl_39_2 (c : Fn) (a0 a1 : D) (st : Store) : callD T c 39 [a0, a1] st = c 39 [a0, a1] st := rfl
@[simp] theorem cl_40_2 (c : Fn) (a0 a1 : D) (st : Store) : callD T c 40 [a0, a1] st = c 40 [a0, a1] st := rfl
@[simp] theorem cl_41_2 (c : Fn) (a0 a1 : D) (st : Store) : callD T c 41 [a0, a1] st = c 41 [a0, a1] st := rfl
@[simp] theorem cl_42_2 (c : Fn) (a0 a1 : D) (st : Store) : callD T c 42 [a0, a1] st = c 42 [a0, a1] st := rfl
@[simp] theorem cl_43_2 (c : Fn) (a0 a1 : D) (st : Store) : callD T c 43 [a0, a1] st = c 43 [a0, a1] st := rfl
@[simp] theorem cl_44_2 (c : Fn) (a0 a1 : D) (st : Store) : callD T c 44 [a0, a1] st = c 44 [a0, a1] st := rfl
@[simp] theorem cl_45_2 (c : Fn) (a0 a1 : D) (st : Store) : callD T c 45 [a0, a1] st = c 45 [a0, a1] st := rfl
@[simp] theorem cl_46_2 (c : Fn) (a0 a1 : D) (st : Store) : callD T c 46 [a0, a1] st = c 46 [a0, a1] st := rfl
@[simp] theorem cl_47_2 (c : Fn) (a0 a1 : D) (st : Store) : callD T c 47 [a0, a1] st = c 47 [a0, a1] st := rfl
@[simp] theorem cl_48_2 (c : Fn) (a0 a1 : D) (st : Store) : callD T c 48 [a0, a1] st = c 48 [a0, a1] st := rfl
@[simp] theorem cl_49_2 (c : Fn) (a0 a1 : D) (st : Store) : callD T c 49 [a0, a1] st = c 49 [a0, a1] st := rfl
@[simp] theorem cl_50_2 (c : Fn) (a0 a1 : D) (st : Store) : callD T c 50 [a0, a1] st = c 50 [a0, a1] st := rfl
@[simp] theorem cl_51_2 (c : Fn) (a0 a1 : D) (st : Store) : callD T c 51 [a0, a1] st = c 51 [a0, a1] st := rfl
@[simp] theorem cl_52_2 (c : Fn) (a0 a1 : D) (st : Store) : callD T c 52 [a0, a1] st = c 52 [a0, a1] st := rfl
@[simp] theorem cl_53_2 (c : Fn) (a0 a1 : D) (st : Store) : callD T c 53 [a0, a1] st = c 53 [a0, a1] st := rfl
@[simp] theorem cl_54_1 (c : Fn) (a0 : D) (st : Store) : callD T c 54 [a0] st = c 54 [a0] st := rfl
@[simp] theorem cl_55_1 (c : Fn) (a0 : D) (st : Store) : callD T c 55 [a0] st = c 55 [a0] st := rfl
@[simp] theorem cl_56_1 (c : Fn) (a0 : D) (st : Store) : callD T c 56 [a0] st = c 56 [a0] st := rfl
@[simp] theorem cl_57_2 (c : Fn) (a0 a1 : D) (st : Store) : callD T c 57 [a0, a1] st = c 57 [a0, a1] st := rfl
@[simp] theorem cl_58_1 (c : Fn) (a0 : D) (st : Store) : callD T c 58 [a0] st = c 58 [a0] st := rfl
@[simp] theorem cl_59_1 (c : Fn) (a0 : D) (st : Store) : callD T c 59 [a0] st = c 59 [a0] st := rfl
@[simp] theorem cl_60_3 (c : Fn) (a0 a1 a2 : D) (st : Store) : callD T c 60 [a0, a1, a2] st = c 60 [a0, a1, a2] st := rfl
@[simp] theorem cl_61_2 (c : Fn) (a0 a1 : D) (st : Store) : callD T c 61 [a0, a1] st = c 61 [a0, a1] st := rfl
@[simp] theorem cl_62_2 (c : Fn) (a0 a1 : D) (st : Store) : callD T c 62 [a0, a1] st = c 62 [a0, a1] st := rfl
@[simp] theorem cl_63_2 (c : Fn) (a0 a1 : D) (st : Store) : callD T c 63 [a0, a1] st = c 63 [a0, a1] st := rfl
@[simp] theorem cl_64_2 (c : Fn) (a0 a1 : D) (st : Store) : callD T c 64 [a0, a1] st = c 64 [a0, a1] st := rfl
@[simp] theorem cl_65_2 (c : Fn) (a0 a1 : D) (st : Store) : callD T c 65 [a0, a1] st = c 65 [a0, a1] st := rfl
@[simp] theorem cl_66_1 (c : Fn) (a0 : D) (st : Store) : callD T c 66 [a0] st = c 66 [a0] st := rfl
@[simp] theorem cl_67_1 (c : Fn) (a0 : D) (st : Store) : callD T c 67 [a0] st = c 67 [a0] st := rfl
@[simp] theorem cl_68_3 (c : Fn) (a0 a1 a2 : D) (st : Store) : callD T c 68 [a0, a1, a2] st = c 68 [a0, a1, a2] st := rfl
@[simp] theorem cl_69_2 (c : Fn) (a0 a1 : D) (st : Store) : callD T c 69 [a0, a1] st = c 69 [a0, a1] st := rfl
@[simp] theorem cl_70_2 (c : Fn) (a0 a1 : D) (st : Store) : callD T c 70 [a0, a1] st = c 70 [a0, a1] st := rfl
@[simp] theorem cl_71_2 (c : Fn) (a0 a1 : D) (st : Store) : callD T c 71 [a0, a1] st = c 71 [a0, a1] st := rfl
@[simp] theorem cl_72_2 (c : Fn) (a0 a1 : D) (st : Store) : callD T c 72 [a0, a1] st = c 72 [a0, a1] st := rfl
@[simp] theorem cl_73_2 (c : Fn) (a0 a1 : D) (st : Store) : callD T c 73 [a0, a1] st = c 73 [a0, a1] st := rfl
@[simp] theorem cl_74_2 (c : Fn) (a0 a1 : D) (st : Store) : callD T c 74 [a0, a1] st = c 74 [a0, a1] st := rfl
@[simp] theorem cl_75_1 (c : Fn) (a0 : D) (st : Store) : callD T c 75 [a0] st = c 75 [a0] st := rfl
@[simp] theorem cl_76_2 (c : Fn) (a0 a1 : D) (st : Store) : callD T c 76 [a0, a1] st = c 76 [a0, a1] st := rfl
@[simp] theorem cl_77_1 (c : Fn) (a0 : D) (st : Store) : callD T c 77 [a0] st = c 77 [a0] st := rfl
@[simp] theorem cl_78_1 (c : Fn) (a0 : D) (st : Store) : callD T c 78 [a0] st = c 78 [a0] st := rfl
@[simp] theorem cl_79_2 (c : Fn) (a0 a1 : D) (st : Store) : callD T c 79 [a0, a1] st = c 79 [a0, a1] st := rfl
@[simp] theorem cl_80_1 (c : Fn) (a0 : D) (st : Store) : callD T c 80 [a0] st = c 80 [a0] st := rfl
@[simp] theorem cl_81_1 (c : Fn) (a0 : D) (st : Store) : callD T c 81 [a0] st = c 81 [a0] st := rfl
@[simp] theorem cl_82_2 (c : Fn) (a0 a1 : D) (st : Store) : callD T c 82 [a0, a1] st = c 82 [a0, a1] st := rfl
@[simp] theorem cl_83_2 (c : Fn) (a0 a1 : D) (st : Store) : callD T c 83 [a0, a1] st = c 83 [a0, a1] st := rfl
@[simp] theorem cl_84_2 (c : Fn) (a0 a1 : D) (st : Store) : callD T c 84 [a0, a1] st = c 84 [a0, a1] st := rfl
@[simp] theorem cl_85_2 (c : Fn) (a0 a1 : D) (st : Store) : callD T c 85 [a0, a1] st = c 85 [a0, a1] st := rfl
@[simp] theorem cl_86_2 (c : Fn) (a0 a1 : D) (st : Store) : callD T c 86 [a0, a1] st = c 86 [a0, a1] st := rfl
@[simp] theorem cl_87_2 (c : Fn) (a0 a1 : D) (st : Store) : callD T c 87 [a0, a1] st = c 87 [a0, a1] st := rfl
@[simp] theorem cl_88_2 (c : Fn) (a0 a1 : D) (st : Store) : callD T c 88 [a0, a1] st = c 88 [a0, a1] st := rfl
@[simp] theorem isC_0 : T.isC 0 = true := rfl
@[simp] theorem lay_0 : T.lay 0 = [40, 41] := rfl
@[simp] theorem atn_0 : T.atn 0 = [40, 41] := rfl
@[simp] theorem sub_0_0 : T.sub 0 0 = true := rfl
@[simp] theorem sub_0_1 : T.sub 0 1 = false := rfl
@[simp] theorem sub_0_2 : T.sub 0 2 = false := rfl
@[simp] theorem sub_0_3 : T.sub 0 3 = false := rfl
@[simp] theorem me_0_37 : T.meth 0 37 = some 37 := rfl
@[simp] theorem me_0_21 : T.meth 0 21 = some 38 := rfl
@[simp] theorem me_0_22 : T.meth 0 22 = some 39 := rfl
@[simp] theorem me_0_23 : T.meth 0 23 = some 40 := rfl
@[simp] theorem me_0_24 : T.meth 0 24 = some 41 := rfl
@[simp] theorem me_0_25 : T.meth 0 25 = some 42 := rfl
@[simp] theorem me_0_1 : T.meth 0 1 = some 43 := rfl
@[simp] theorem me_0_11 : T.meth 0 11 = some 44 := rfl
@[simp] theorem me_0_2 : T.meth 0 2 = some 45 := rfl
@[simp] theorem me_0_12 : T.meth 0 12 = some 46 := rfl
@[simp] theorem me_0_3 : T.meth 0 3 = some 47 := rfl
@[simp] theorem me_0_13 : T.meth 0 13 = some 48 := rfl
@[simp] theorem me_0_4 : T.meth 0 4 = some 49 := rfl
@[simp] theorem me_0_14 : T.meth 0 14 = some 50 := rfl
@[simp] theorem me_0_5 : T.meth 0 5 = some 51 := rfl
@[simp] theorem me_0_15 : T.meth 0 15 = some 52 := rfl
@[simp] theorem me_0_6 : T.meth 0 6 = some 53 := rfl
@[simp] theorem me_0_31 : T.meth 0 31 = some 54 := rfl
@[simp] theorem me_0_33 : T.meth 0 33 = some 55 := rfl
@[simp] theorem me_0_34 : T.meth 0 34 = some 56 := rfl
@[simp] theorem me_0_50 : T.meth 0 50 = some 57 := rfl
@[simp] theorem me_0_49 : T.meth 0 49 = some 58 := rfl
@[simp] theorem me_0_54 : T.meth 0 54 = some 59 := rfl
@[simp] theorem isC_1 : T.isC 1 = true := rfl
@[simp] theorem lay_1 : T.lay 1 = [42, 43] := rfl
@[simp] theorem atn_1 : T.atn 1 = [42, 43] := rfl
@[simp] theorem sub_1_0 : T.sub 1 0 = false := rfl
@[simp] theorem sub_1_1 : T.sub 1 1 = true := rfl
@[simp] theorem sub_1_2 : T.sub 1 2 = false := rfl
@[simp] theorem sub_1_3 : T.sub 1 3 = false := rfl
@[simp] theorem me_1_37 : T.meth 1 37 = some 60 := rfl
@[simp] theorem me_1_21 : T.meth 1 21 = some 61 := rfl
@[simp] theorem me_1_1 : T.meth 1 1 = some 62 := rfl
@[simp] theorem me_1_2 : T.meth 1 2 = some 63 := rfl
@[simp] theorem me_1_3 : T.meth 1 3 = some 64 := rfl
@[simp] theorem me_1_13 : T.meth 1 13 = some 65 := rfl
@[simp] theorem me_1_31 : T.meth 1 31 = some 66 := rfl
@[simp] theorem me_1_34 : T.meth 1 34 = some 67 := rfl
@[simp] theorem isC_2 : T.isC 2 = true := rfl
@[simp] theorem lay_2 : T.lay 2 = [42, 43] := rfl
@[simp] theorem atn_2 : T.atn 2 = [42, 43] := rfl
@[simp] theorem sub_2_0 : T.sub 2 0 = false := rfl
@[simp] theorem sub_2_1 : T.sub 2 1 = false := rfl
@[simp] theorem sub_2_2 : T.sub 2 2 = true := rfl
@[simp] theorem sub_2_3 : T.sub 2 3 = false := rfl
@[simp] theorem me_2_37 : T.meth 2 37 = some 68 := rfl
@[simp] theorem me_2_36 : T.meth 2 36 = some 69 := rfl
@[simp] theorem me_2_21 : T.meth 2 21 = some 70 := rfl
@[simp] theorem me_2_1 : T.meth 2 1 = some 71 := rfl
@[simp] theorem me_2_2 : T.meth 2 2 = some 72 := rfl
@[simp] theorem me_2_3 : T.meth 2 3 = some 73 := rfl
@[simp] theorem me_2_13 : T.meth 2 13 = some 74 := rfl
@[simp] theorem me_2_31 : T.meth 2 31 = some 75 := rfl
@[simp] theorem isC_3 : T.isC 3 = true := rfl
@[simp] theorem lay_3 : T.lay 3 = [44, 45, 46] := rfl
@[simp] theorem atn_3 : T.atn 3 = [44, 45, 46] := rfl
@[simp] theorem sub_3_0 : T.sub 3 0 = false := rfl
@[simp] theorem sub_3_1 : T.sub 3 1 = false := rfl
@[simp] theorem sub_3_2 : T.sub 3 2 = false := rfl
@[simp] theorem sub_3_3 : T.sub 3 3 = true := rfl
@[simp] theorem me_3_37 : T.meth 3 37 = some 76 := rfl
@[simp] theorem pr_3_47 : T.prop 3 47 = some 77 := rfl
@[simp] theorem me_3_51 : T.meth 3 51 = some 78 := rfl
@[simp] theorem me_3_52 : T.meth 3 52 = some 79 := rfl
@[simp] theorem me_3_53 : T.meth 3 53 = some 80 := rfl
@[simp] theorem me_3_48 : T.meth 3 48 = some 81 := rfl
@[simp] theorem me_3_27 : T.meth 3 27 = some 82 := rfl
@[simp] theorem me_3_21 : T.meth 3 21 = some 83 := rfl
@[simp] theorem me_3_23 : T.meth 3 23 = some 84 := rfl
@[simp] theorem me_3_1 : T.meth 3 1 = some 85 := rfl
@[simp] theorem me_3_7 : T.meth 3 7 = some 86 := rfl
@[simp] theorem me_3_3 : T.meth 3 3 = some 87 := rfl
@[simp] theorem me_3_13 : T.meth 3 13 = some 88 := rfl
/-- what the module's names are -/
structure Nam (K : PySem.W.Frag) (mg : Str → Option Value) : Prop where
  g_Ratio : mg "Ratio" = some (.ref (tb.cad K 0))
  g_gcd_of : mg "gcd_of" = some (.ref (tb.fad K 1))
  g_is_number : mg "is_number" = some (.ref (tb.fad K 0))
  g_bezout : mg "bezout" = some (.ref (tb.fad K 3))
  g_ratio_of : mg "ratio_of" = some (.ref (tb.fad K 5))
  g_Lattice : mg "Lattice" = some (.ref (tb.cad K 3))
  g__law_draw : mg "_law_draw" = some (.ref (tb.fad K 10))
  g__law_ten : mg "_law_ten" = some (.ref (tb.fad K 12))
  g__law_long : mg "_law_long" = some (.ref (tb.fad K 13))
  g__law_size : mg "_law_size" = some (.ref (tb.fad K 14))
  g__law_whole_is : mg "_law_whole_is" = some (.ref (tb.fad K 18))
  g__law_gcd : mg "_law_gcd" = some (.ref (tb.fad K 16))
  g__law_told : mg "_law_told" = some (.ref (tb.fad K 20))
  g_Point : mg "Point" = some (.ref (tb.cad K 1))
  g__law_area : mg "_law_area" = some (.ref (tb.fad K 22))
  g__law_pick : mg "_law_pick" = some (.ref (tb.fad K 11))
  g__law_point : mg "_law_point" = some (.ref (tb.fad K 21))
  g__law_stair : mg "_law_stair" = some (.ref (tb.fad K 23))
  g__law_ratio_is : mg "_law_ratio_is" = some (.ref (tb.fad K 19))
  g__law_number : mg "_law_number" = some (.ref (tb.fad K 15))
  g__law_member : mg "_law_member" = some (.ref (tb.fad K 28))
  g__law_product : mg "_law_product" = some (.ref (tb.fad K 32))
  g__law_is_lattice : mg "_law_is_lattice" = some (.ref (tb.fad K 27))
  g_Form : mg "Form" = some (.ref (tb.cad K 2))
  g__law_truth : mg "_law_truth" = some (.ref (tb.fad K 17))
  g_value_at : mg "value_at" = some (.ref (tb.fad K 6))
  g__law_begin : mg "_law_begin" = some (.ref (tb.fad K 9))
  g__law_middle : mg "_law_middle" = some (.ref (tb.fad K 31))
  g__law_small : mg "_law_small" = some (.ref (tb.fad K 25))
  g__law_rows : mg "_law_rows" = some (.ref (tb.fad K 24))
  g__law_times : mg "_law_times" = some (.ref (tb.fad K 30))
  g__law_plus : mg "_law_plus" = some (.ref (tb.fad K 29))
  g__law_lattice : mg "_law_lattice" = some (.ref (tb.fad K 26))
  g__law_dual_right : mg "_law_dual_right" = some (.ref (tb.fad K 33))
  g__law_forms_right : mg "_law_forms_right" = some (.ref (tb.fad K 34))
  g__law_two_right : mg "_law_two_right" = some (.ref (tb.fad K 35))
  g_raised : mg "raised" = some (.ref (tb.fad K 4))
  g_lcm_of : mg "lcm_of" = some (.ref (tb.fad K 2))
  g_stair : mg "stair" = some (.ref (tb.fad K 7))
  g_scaled : mg "scaled" = some (.ref (tb.fad K 8))
  b_isinstance : mg "isinstance" = none
  b_int : mg "int" = none
  b_bool : mg "bool" = none
  b_abs : mg "abs" = none
  b_list : mg "list" = none
  b_len : mg "len" = none
  b_range : mg "range" = none
  b_max : mg "max" = none
  b_NotImplemented : mg "NotImplemented" = none
section
variable {P : Program} {w : World} {K : PySem.W.Frag} {mg : Str → Option Value} {base : Heap} {k : Nat} {c : Fn}
theorem sc_0 : FnScope ["value"] ["value"] (defScope s_0) := ⟨rfl, rfl, rfl, by decide +kernel, rfl, by decide +kernel, by decide +kernel⟩
theorem rb_0 {f : Addr} {X : Cx} {Wx : WX} (N : Nam K mg) (hX : ∃ (cdv : Value) (A : Around) (outer : List Env) (s : Shared) (H : Hp) (E : XK), X = cxOf (L2.CX P w) P w K mg base ["value"] d_0.qual (defScope s_0) f cdv A outer s H E) (G : Gd (tb.lw K) X Wx k c) : RSs (tb.lw K) X Wx (defBody s_0) (B_0 c) := by
  obtain ⟨cdv, A, outer, s, H, E, rfl⟩ := hX
  exact (rss_one (rs_ret (re_or (rtv_tru G) (re_iso (j := 0) G rfl (ev 0) rfl N.b_isinstance rfl N.g_Ratio) (re_one (re_and (rtv_tru G) (re_ist (t := "int") G (by decide) (ev 0) rfl N.b_isinstance rfl N.b_int bb_int) (re_one (re_not (rtv_tru G) (re_ist (t := "bool") G (by decide) (ev 0) rfl N.b_isinstance rfl N.b_bool bb_bool))))))))
theorem ok_0 {fd : FuncData} (N : Nam K mg) (F : FunD K d_0.name d_0.qual d_0.params d_0.body d_0.scope (d_0.dvs K) (d_0.kws K) (adr K d_0.at_) fd) (fo : FOk (tb.lw K) P w K mg base k c) : FnOk P w K mg base (L2.CX P w) (k + 10) ((tb.lw K).fad 0) ((tb.lw K).fdt 0) ((tb.lw K).fps 0) (spM K (tb.lw K) ((tb.lw K).fps 0).length (fnD 1 (B_0 c))) :=
  fn_rule (N := ["value"]) (funG_of F rfl rfl rfl) sc_0 fo (fun _ _ _ _ _ _ => rfl) fun X Wx hX G => rb_0 N hX G
theorem sc_1 : FnScope ["first", "second"] ["first", "second"] (defScope s_1) := ⟨rfl, rfl, rfl, by decide +kernel, rfl, by decide +kernel, by decide +kernel⟩
theorem rb_1 {f : Addr} {X : Cx} {Wx : WX} (N : Nam K mg) (hX : ∃ (cdv : Value) (A : Around) (outer : List Env) (s : Shared) (H : Hp) (E : XK), X = cxOf (L2.CX P w) P w K mg base ["first", "second"] d_1.qual (defScope s_1) f cdv A outer s H E) (G : Gd (tb.lw K) X Wx k c) : RSs (tb.lw K) X Wx (defBody s_1) (B_1 c) := by
  obtain ⟨cdv, A, outer, s, H, E, rfl⟩ := hX
  exact (rss_cons (pr2 0 1 G (ra_cons (re_bfn (rc_abs) rfl N.b_abs bb_abs (ra_cons (ev 0) ra_nil)) (ra_cons (re_bfn (rc_abs) rfl N.b_abs bb_abs (ra_cons (ev 1) ra_nil)) ra_nil))) (rss_cons (rs_while G.po (rt_of (rtv_tru G) (ev 1)) (rss_one (pr2 0 1 G (ra_cons (ev 1) (ra_cons (re_bin (r2_bin G .Mod) (ev 0) (ev 1)) ra_nil))))) (rss_one (rs_ret (ev 0)))))
theorem ok_1 {fd : FuncData} (N : Nam K mg) (F : FunD K d_1.name d_1.qual d_1.params d_1.body d_1.scope (d_1.dvs K) (d_1.kws K) (adr K d_1.at_) fd) (fo : FOk (tb.lw K) P w K mg base k c) : FnOk P w K mg base (L2.CX P w) (k + 10) ((tb.lw K).fad 1) ((tb.lw K).fdt 1) ((tb.lw K).fps 1) (spM K (tb.lw K) ((tb.lw K).fps 1).length (fnD 2 (B_1 c))) :=
  fn_rule (N := ["first", "second"]) (funG_of F rfl rfl rfl) sc_1 fo (fun _ _ _ _ _ _ => rfl) fun X Wx hX G => rb_1 N hX G
theorem sc_2 : FnScope ["first", "second"] ["first", "second"] (defScope s_2) := ⟨rfl, rfl, rfl, by decide +kernel, rfl, by decide +kernel, by decide +kernel⟩
theorem rb_2 {f : Addr} {X : Cx} {Wx : WX} (N : Nam K mg) (hX : ∃ (cdv : Value) (A : Around) (outer : List Env) (s : Shared) (H : Hp) (E : XK), X = cxOf (L2.CX P w) P w K mg base ["first", "second"] d_2.qual (defScope s_2) f cdv A outer s H E) (G : Gd (tb.lw K) X Wx k c) : RSs (tb.lw K) X Wx (defBody s_2) (B_2 c) := by
  obtain ⟨cdv, A, outer, s, H, E, rfl⟩ := hX
  exact (rss_cons (rs_if (RW.rt (rw_or (rt_cmp (rtv_tru G) (r2_eq G) (ev 0) re_int rfl) (rw_or1 (rt_cmp (rtv_tru G) (r2_eq G) (ev 1) re_int rfl)))) (rss_one (rs_ret re_int)) rss_nil) (rss_one (rs_ret (re_bfn (rc_abs) rfl N.b_abs bb_abs (ra_cons (re_bin (r2_bin G .Mult) (re_bin (r2_bin G .FloorDiv) (ev 0) (re_call (i := 1) G rfl rfl N.g_gcd_of (ra_cons (ev 0) (ra_cons (ev 1) ra_nil)))) (ev 1)) ra_nil)))))
theorem ok_2 {fd : FuncData} (N : Nam K mg) (F : FunD K d_2.name d_2.qual d_2.params d_2.body d_2.scope (d_2.dvs K) (d_2.kws K) (adr K d_2.at_) fd) (fo : FOk (tb.lw K) P w K mg base k c) : FnOk P w K mg base (L2.CX P w) (k + 10) ((tb.lw K).fad 2) ((tb.lw K).fdt 2) ((tb.lw K).fps 2) (spM K (tb.lw K) ((tb.lw K).fps 2).length (fnD 2 (B_2 c))) :=
  fn_rule (N := ["first", "second"]) (funG_of F rfl rfl rfl) sc_2 fo (fun _ _ _ _ _ _ => rfl) fun X Wx hX G => rb_2 N hX G
theorem sc_3 : FnScope ["first", "second", "old", "new", "times"] ["first", "second"] (defScope s_3) := ⟨rfl, rfl, rfl, by decide +kernel, rfl, by decide +kernel, by decide +kernel⟩
theorem rb_3 {f : Addr} {X : Cx} {Wx : WX} (N : Nam K mg) (hX : ∃ (cdv : Value) (A : Around) (outer : List Env) (s : Shared) (H : Hp) (E : XK), X = cxOf (L2.CX P w) P w K mg base ["first", "second", "old", "new", "times"] d_3.qual (defScope s_3) f cdv A outer s H E) (G : Gd (tb.lw K) X Wx k c) : RSs (tb.lw K) X Wx (defBody s_3) (B_3 c) := by
  obtain ⟨cdv, A, outer, s, H, E, rfl⟩ := hX
  exact (rss_cons (pr2 2 3 G (ra_cons (re_tup (ra_cons (ev 0) (ra_cons re_int (ra_cons re_int ra_nil)))) (ra_cons (re_tup (ra_cons (ev 1) (ra_cons re_int (ra_cons re_int ra_nil)))) ra_nil))) (rss_cons (rs_while G.po (rt_of (rtv_tru G) (re_ix G (ev 3) re_int)) (rss_cons (sv 4 G (re_bin (r2_bin G .FloorDiv) (re_ix G (ev 2) re_int) (re_ix G (ev 3) re_int))) (rss_one (pr2 2 3 G (ra_cons (ev 3) (ra_cons (re_tup (ra_cons (re_bin (r2_bin G .Sub) (re_ix G (ev 2) re_int) (re_bin (r2_bin G .Mult) (ev 4) (re_ix G (ev 3) re_int))) (ra_cons (re_bin (r2_bin G .Sub) (re_ix G (ev 2) re_int) (re_bin (r2_bin G .Mult) (ev 4) (re_ix G (ev 3) re_int))) (ra_cons (re_bin (r2_bin G .Sub) (re_ix G (ev 2) re_int) (re_bin (r2_bin G .Mult) (ev 4) (re_ix G (ev 3) re_int))) ra_nil)))) ra_nil)))))) (rss_cons (rs_if (rt_cmp (rtv_tru G) (r2_ord G .Lt) (re_ix G (ev 2) re_int) re_int rfl) (rss_one (sv 2 G (re_tup (ra_cons (re_un (r1_neg G) (re_ix G (ev 2) re_int)) (ra_cons (re_un (r1_neg G) (re_ix G (ev 2) re_int)) (ra_cons (re_un (r1_neg G) (re_ix G (ev 2) re_int)) ra_nil)))))) rss_nil) (rss_one (rs_ret (ev 2))))))
theorem ok_3 {fd : FuncData} (N : Nam K mg) (F : FunD K d_3.name d_3.qual d_3.params d_3.body d_3.scope (d_3.dvs K) (d_3.kws K) (adr K d_3.at_) fd) (fo : FOk (tb.lw K) P w K mg base k c) : FnOk P w K mg base (L2.CX P w) (k + 10) ((tb.lw K).fad 3) ((tb.lw K).fdt 3) ((tb.lw K).fps 3) (spM K (tb.lw K) ((tb.lw K).fps 3).length (fnD 5 (B_3 c))) :=
  fn_rule (N := ["first", "second", "old", "new", "times"]) (funG_of F rfl rfl rfl) sc_3 fo (fun _ _ _ _ _ _ => rfl) fun X Wx hX G => rb_3 N hX G
theorem sc_4 : FnScope ["number", "times", "product"] ["number", "times"] (defScope s_4) := ⟨rfl, rfl, rfl, by decide +kernel, rfl, by decide +kernel, by decide +kernel⟩
theorem rb_4 {f : Addr} {X : Cx} {Wx : WX} (N : Nam K mg) (hX : ∃ (cdv : Value) (A : Around) (outer : List Env) (s : Shared) (H : Hp) (E : XK), X = cxOf (L2.CX P w) P w K mg base ["number", "times", "product"] d_4.qual (defScope s_4) f cdv A outer s H E) (G : Gd (tb.lw K) X Wx k c) : RSs (tb.lw K) X Wx (defBody s_4) (B_4 c) := by
  obtain ⟨cdv, A, outer, s, H, E, rfl⟩ := hX
  exact (rss_cons (sv 2 G re_int) (rss_cons (rs_while G.po (rt_of (rtv_tru G) (ev 1)) (rss_cons (rs_if (rt_of (rtv_tru G) (re_bin (r2_bin G .Mod) (ev 1) re_int)) (rss_one (sv 2 G (re_bin (r2_bin G .Mult) (ev 2) (ev 0)))) rss_nil) (rss_cons (sv 0 G (re_bin (r2_bin G .Mult) (ev 0) (ev 0))) (rss_one (sv 1 G (re_bin (r2_bin G .FloorDiv) (ev 1) re_int)))))) (rss_one (rs_ret (ev 2)))))
theorem ok_4 {fd : FuncData} (N : Nam K mg) (F : FunD K d_4.name d_4.qual d_4.params d_4.body d_4.scope (d_4.dvs K) (d_4.kws K) (adr K d_4.at_) fd) (fo : FOk (tb.lw K) P w K mg base k c) : FnOk P w K mg base (L2.CX P w) (k + 10) ((tb.lw K).fad 4) ((tb.lw K).fdt 4) ((tb.lw K).fps 4) (spM K (tb.lw K) ((tb.lw K).fps 4).length (fnD 3 (B_4 c))) :=
  fn_rule (N := ["number", "times", "product"]) (funG_of F rfl rfl rfl) sc_4 fo (fun _ _ _ _ _ _ => rfl) fun X Wx hX G => rb_4 N hX G
theorem sc_5 : FnScope ["number"] ["number"] (defScope s_5) := ⟨rfl, rfl, rfl, by decide +kernel, rfl, by decide +kernel, by decide +kernel⟩
theorem rb_5 {f : Addr} {X : Cx} {Wx : WX} (N : Nam K mg) (hX : ∃ (cdv : Value) (A : Around) (outer : List Env) (s : Shared) (H : Hp) (E : XK), X = cxOf (L2.CX P w) P w K mg base ["number"] d_5.qual (defScope s_5) f cdv A outer s H E) (G : Gd (tb.lw K) X Wx k c) : RSs (tb.lw K) X Wx (defBody s_5) (B_5 c) := by
  obtain ⟨cdv, A, outer, s, H, E, rfl⟩ := hX
  exact (rss_cons (rs_if (rt_of (rtv_tru G) (re_iso (j := 0) G rfl (ev 0) rfl N.b_isinstance rfl N.g_Ratio)) (rss_one (rs_ret (ev 0))) rss_nil) (rss_cons (rs_if (rt_not (rt_of (rtv_tru G) (re_call (i := 0) G rfl rfl N.g_is_number (ra_cons (ev 0) ra_nil)))) (rss_one rs_no) rss_nil) (rss_one (rs_ret (re_mk (i := 0) (f := 37) G rfl rfl N.g_Ratio (ra_cons (ev 0) ra_nil))))))
theorem ok_5 {fd : FuncData} (N : Nam K mg) (F : FunD K d_5.name d_5.qual d_5.params d_5.body d_5.scope (d_5.dvs K) (d_5.kws K) (adr K d_5.at_) fd) (fo : FOk (tb.lw K) P w K mg base k c) : FnOk P w K mg base (L2.CX P w) (k + 10) ((tb.lw K).fad 5) ((tb.lw K).fdt 5) ((tb.lw K).fps 5) (spM K (tb.lw K) ((tb.lw K).fps 5).length (fnD 1 (B_5 c))) :=
  fn_rule (N := ["number"]) (funG_of F rfl rfl rfl) sc_5 fo (fun _ _ _ _ _ _ => rfl) fun X Wx hX G => rb_5 N hX G
theorem sc_6 : FnScope ["form", "point"] ["form", "point"] (defScope s_6) := ⟨rfl, rfl, rfl, by decide +kernel, rfl, by decide +kernel, by decide +kernel⟩
theorem rb_6 {f : Addr} {X : Cx} {Wx : WX} (N : Nam K mg) (hX : ∃ (cdv : Value) (A : Around) (outer : List Env) (s : Shared) (H : Hp) (E : XK), X = cxOf (L2.CX P w) P w K mg base ["form", "point"] d_6.qual (defScope s_6) f cdv A outer s H E) (G : Gd (tb.lw K) X Wx k c) : RSs (tb.lw K) X Wx (defBody s_6) (B_6 c) := by
  obtain ⟨cdv, A, outer, s, H, E, rfl⟩ := hX
  exact (rss_one (rs_ret (re_bin (r2_bin G .Add) (re_bin (r2_bin G .Mult) (re_fld (g := 42) G (ev 0)) (re_fld (g := 42) G (ev 1))) (re_bin (r2_bin G .Mult) (re_fld (g := 43) G (ev 0)) (re_fld (g := 43) G (ev 1))))))
theorem ok_6 {fd : FuncData} (N : Nam K mg) (F : FunD K d_6.name d_6.qual d_6.params d_6.body d_6.scope (d_6.dvs K) (d_6.kws K) (adr K d_6.at_) fd) (fo : FOk (tb.lw K) P w K mg base k c) : FnOk P w K mg base (L2.CX P w) (k + 10) ((tb.lw K).fad 6) ((tb.lw K).fdt 6) ((tb.lw K).fps 6) (spM K (tb.lw K) ((tb.lw K).fps 6).length (fnD 2 (B_6 c))) :=
  fn_rule (N := ["form", "point"]) (funG_of F rfl rfl rfl) sc_6 fo (fun _ _ _ _ _ _ => rfl) fun X Wx hX G => rb_6 N hX G
theorem sc_7 : FnScope ["pairs", "wide", "lean", "tall", "x", "y", "common", "first", "second", "rest"] ["pairs"] (defScope s_7) := ⟨rfl, rfl, rfl, by decide +kernel, rfl, by decide +kernel, by decide +kernel⟩
theorem rb_7 {f : Addr} {X : Cx} {Wx : WX} (N : Nam K mg) (hX : ∃ (cdv : Value) (A : Around) (outer : List Env) (s : Shared) (H : Hp) (E : XK), X = cxOf (L2.CX P w) P w K mg base ["pairs", "wide", "lean", "tall", "x", "y", "common", "first", "second", "rest"] d_7.qual (defScope s_7) f cdv A outer s H E) (G : Gd (tb.lw K) X Wx k c) : RSs (tb.lw K) X Wx (defBody s_7) (B_7 c) := by
  obtain ⟨cdv, A, outer, s, H, E, rfl⟩ := hX
  exact (rss_cons (rs_asg (re_tup (ra_cons re_int (ra_cons re_int (ra_cons re_int ra_nil)))) (gt G (rgs_cons (gv 1 G) (rgs_cons (gv 2 G) (rgs_cons (gv 3 G) rgs_nil))))) (rss_cons (rs_for G.po G.calm (ri_seq (ev 0)) (gt G (rgs_cons (gv 4 G) (rgs_cons (gv 5 G) rgs_nil))) (rss_cons (rs_if (rt_cmp (rtv_tru G) (r2_eq G) (ev 4) re_int rfl) (rss_cons (sv 3 G (re_call (i := 1) G rfl rfl N.g_gcd_of (ra_cons (ev 3) (ra_cons (ev 5) ra_nil)))) (rss_one rs_continue)) rss_nil) (rss_cons (rs_asg (re_call (i := 3) G rfl rfl N.g_bezout (ra_cons (ev 1) (ra_cons (ev 4) ra_nil))) (gt G (rgs_cons (gv 6 G) (rgs_cons (gv 7 G) (rgs_cons (gv 8 G) rgs_nil))))) (rss_cons (sv 9 G (re_bin (r2_bin G .Sub) (re_bin (r2_bin G .Mult) (re_bin (r2_bin G .FloorDiv) (ev 1) (ev 6)) (ev 5)) (re_bin (r2_bin G .Mult) (re_bin (r2_bin G .FloorDiv) (ev 4) (ev 6)) (ev 2)))) (rss_cons (pr2 1 2 G (ra_cons (ev 6) (ra_cons (re_bin (r2_bin G .Add) (re_bin (r2_bin G .Mult) (ev 7) (ev 2)) (re_bin (r2_bin G .Mult) (ev 8) (ev 5))) ra_nil))) (rss_cons (sv 3 G (re_call (i := 1) G rfl rfl N.g_gcd_of (ra_cons (ev 3) (ra_cons (ev 9) ra_nil)))) (rss_one (rs_if (rt_of (rtv_tru G) (ev 3)) (rss_one (sv 2 G (re_bin (r2_bin G .Mod) (ev 2) (ev 3)))) rss_nil)))))))) (rss_cons (rs_if (RW.rt (rw_or (rt_cmp (rtv_tru G) (r2_eq G) (ev 1) re_int rfl) (rw_or1 (rt_cmp (rtv_tru G) (r2_eq G) (ev 3) re_int rfl)))) (rss_one rs_no) rss_nil) (rss_one (rs_ret (re_tup (ra_cons (ev 1) (ra_cons (re_bin (r2_bin G .Mod) (ev 2) (ev 3)) (ra_cons (ev 3) ra_nil)))))))))
theorem ok_7 {fd : FuncData} (N : Nam K mg) (F : FunD K d_7.name d_7.qual d_7.params d_7.body d_7.scope (d_7.dvs K) (d_7.kws K) (adr K d_7.at_) fd) (fo : FOk (tb.lw K) P w K mg base k c) : FnOk P w K mg base (L2.CX P w) (k + 10) ((tb.lw K).fad 7) ((tb.lw K).fdt 7) ((tb.lw K).fps 7) (spM K (tb.lw K) ((tb.lw K).fps 7).length (fnD 10 (B_7 c))) :=
  fn_rule (N := ["pairs", "wide", "lean", "tall", "x", "y", "common", "first", "second", "rest"]) (funG_of F rfl rfl rfl) sc_7 fo (fun _ _ _ _ _ _ => rfl) fun X Wx hX G => rb_7 N hX G
theorem sc_8 : FnScope ["lattice", "number", "factor", "first", "second"] ["lattice", "number"] (defScope s_8) := ⟨rfl, rfl, rfl, by decide +kernel, rfl, by decide +kernel, by decide +kernel⟩
theorem rb_8 {f : Addr} {X : Cx} {Wx : WX} (N : Nam K mg) (hX : ∃ (cdv : Value) (A : Around) (outer : List Env) (s : Shared) (H : Hp) (E : XK), X = cxOf (L2.CX P w) P w K mg base ["lattice", "number", "factor", "first", "second"] d_8.qual (defScope s_8) f cdv A outer s H E) (G : Gd (tb.lw K) X Wx k c) : RSs (tb.lw K) X Wx (defBody s_8) (B_8 c) := by
  obtain ⟨cdv, A, outer, s, H, E, rfl⟩ := hX
  exact (rss_cons (sv 2 G (re_call (i := 5) G rfl rfl N.g_ratio_of (ra_cons (ev 1) ra_nil))) (rss_cons (rs_if (rt_not (rt_of (rtv_tru G) (ev 2))) (rss_one rs_no) rss_nil) (rss_cons (rs_asg (re_meth0 (i := 51) G (ev 0)) (gt G (rgs_cons (gv 3 G) (rgs_cons (gv 4 G) rgs_nil)))) (rss_one (rs_ret (re_mk (i := 3) (f := 76) G rfl rfl N.g_Lattice (ra_cons (re_lst (ra_cons (re_bin (r2_bin G .Mult) (ev 2) (ev 3)) (ra_cons (re_bin (r2_bin G .Mult) (ev 2) (ev 4)) ra_nil))) ra_nil)))))))
theorem ok_8 {fd : FuncData} (N : Nam K mg) (F : FunD K d_8.name d_8.qual d_8.params d_8.body d_8.scope (d_8.dvs K) (d_8.kws K) (adr K d_8.at_) fd) (fo : FOk (tb.lw K) P w K mg base k c) : FnOk P w K mg base (L2.CX P w) (k + 10) ((tb.lw K).fad 8) ((tb.lw K).fdt 8) ((tb.lw K).fps 8) (spM K (tb.lw K) ((tb.lw K).fps 8).length (fnD 5 (B_8 c))) :=
  fn_rule (N := ["lattice", "number", "factor", "first", "second"]) (funG_of F rfl rfl rfl) sc_8 fo (fun _ _ _ _ _ _ => rfl) fun X Wx hX G => rb_8 N hX G
theorem sc_9 : FnScope ["_law_script"] ["_law_script"] (defScope s_9) := ⟨rfl, rfl, rfl, by decide +kernel, rfl, by decide +kernel, by decide +kernel⟩
theorem rb_9 {f : Addr} {X : Cx} {Wx : WX} (N : Nam K mg) (hX : ∃ (cdv : Value) (A : Around) (outer : List Env) (s : Shared) (H : Hp) (E : XK), X = cxOf (L2.CX P w) P w K mg base ["_law_script"] d_9.qual (defScope s_9) f cdv A outer s H E) (G : Gd (tb.lw K) X Wx k c) : RSs (tb.lw K) X Wx (defBody s_9) (B_9 c) := by
  obtain ⟨cdv, A, outer, s, H, E, rfl⟩ := hX
  exact (rss_one (rs_ret (re_dic (ks := ["cells", "at", "rest"]) (RPs.cons (re_bin (r2_bin G .Add) (re_bty rc_list rfl N.b_list bb_list (ra_cons (re_sl (ev 0) ro_no (ro_so re_int)) ra_nil)) (re_bin (r2_bin G .Mult) (re_lst (ra_cons re_int ra_nil)) (re_bty rc_int rfl N.b_int bb_int (ra_cons (re_cmp (r2_eq G) (re_bfn (rc_len) rfl N.b_len bb_len (ra_cons (ev 0) ra_nil)) re_int rfl) ra_nil)))) (RPs.cons re_int (RPs.cons re_int RPs.nil))) (by simp) (by decide))))
theorem ok_9 {fd : FuncData} (N : Nam K mg) (F : FunD K d_9.name d_9.qual d_9.params d_9.body d_9.scope (d_9.dvs K) (d_9.kws K) (adr K d_9.at_) fd) (fo : FOk (tb.lw K) P w K mg base k c) : FnOk P w K mg base (L2.CX P w) (k + 10) ((tb.lw K).fad 9) ((tb.lw K).fdt 9) ((tb.lw K).fps 9) (spM K (tb.lw K) ((tb.lw K).fps 9).length (fnD 1 (B_9 c))) :=
  fn_rule (N := ["_law_script"]) (funG_of F rfl rfl rfl) sc_9 fo (fun _ _ _ _ _ _ => rfl) fun X Wx hX G => rb_9 N hX G
theorem sc_10 : FnScope ["_law_tape", "_law_limit", "_law_at", "_law_span", "_law_cell", "_law_mixed", "_law_found"] ["_law_tape", "_law_limit"] (defScope s_10) := ⟨rfl, rfl, rfl, by decide +kernel, rfl, by decide +kernel, by decide +kernel⟩
theorem rb_10 {f : Addr} {X : Cx} {Wx : WX} (N : Nam K mg) (hX : ∃ (cdv : Value) (A : Around) (outer : List Env) (s : Shared) (H : Hp) (E : XK), X = cxOf (L2.CX P w) P w K mg base ["_law_tape", "_law_limit", "_law_at", "_law_span", "_law_cell", "_law_mixed", "_law_found"] d_10.qual (defScope s_10) f cdv A outer s H E) (G : Gd (tb.lw K) X Wx k c) : RSs (tb.lw K) X Wx (defBody s_10) (B_10 c) := by
  obtain ⟨cdv, A, outer, s, H, E, rfl⟩ := hX
  exact (rss_cons (rs_if (rt_cmp (rtv_tru G) (r2_ord G .Lt) (re_ix G (ev 0) re_str) (ev 1) rfl) (rss_cons (pr2 2 3 G (ra_cons (re_ix G (ev 0) re_str) (ra_cons (re_bfn (rc_len) rfl N.b_len bb_len (ra_cons (re_ix G (ev 0) re_str) ra_nil)) ra_nil))) (rss_cons (rs_asg (re_tup (ra_cons (re_ix G (re_ix G (ev 0) re_str) (re_bin (r2_bin G .Mod) (re_bty rc_int rfl N.b_int bb_int (ra_cons (ev 2) ra_nil)) (ev 3))) (ra_cons (re_bin (r2_bin G .Add) (ev 2) re_int) ra_nil))) (gt G (rgs_cons (gv 4 G) (rgs_cons (rg_put G (ev 0) re_str) rgs_nil)))) (rss_cons (sv 5 G (re_bin (r2_bin G .Add) (re_bin (r2_bin G .Add) (re_bin (r2_bin G .Mult) (re_bty rc_int rfl N.b_int bb_int (ra_cons (ev 4) ra_nil)) re_int) (re_bin (r2_bin G .Mult) (re_bin (r2_bin G .Mult) re_int (ev 2)) (ev 2))) re_int)) (rss_cons (sv 5 G (re_bin (r2_bin G .Mod) (re_bty rc_int rfl N.b_int bb_int (ra_cons (ev 5) ra_nil)) re_int)) (rss_cons (rs_sput G (ev 0) re_str (re_bin (r2_bin G .Mod) (re_bty rc_int rfl N.b_int bb_int (ra_cons (re_bin (r2_bin G .Add) (re_bin (r2_bin G .Pow) (ev 5) re_int) (re_bin (r2_bin G .Mult) (re_bin (r2_bin G .Mult) (re_bin (r2_bin G .Mult) re_int (ev 2)) (ev 5)) (ev 5))) ra_nil)) (re_bin (r2_bin G .Add) (re_bin (r2_bin G .Pow) re_int re_int) re_int))) (rss_one (rs_if (RW.rt (rw_and (rt_cmp (rtv_tru G) (r2_ord G .GtE) (ev 4) (re_bin (r2_bin G .Pow) re_int re_int) rfl) (rw_and1 (rt_cmp (rtv_tru G) (r2_ord G .Lt) (ev 2) (ev 3) rfl)))) (rss_one (rs_sput G (ev 0) re_str (re_bin (r2_bin G .Sub) (ev 4) (re_bin (r2_bin G .Pow) re_int re_int)))) rss_nil))))))) rss_nil) (rss_cons (rs_asg (re_tup (ra_cons (re_bin (r2_bin G .Mod) (re_bty rc_int rfl N.b_int bb_int (ra_cons (re_ix G (ev 0) re_str) ra_nil)) (ev 1)) (ra_cons (re_bin (r2_bin G .FloorDiv) (re_ix G (ev 0) re_str) (ev 1)) ra_nil))) (gt G (rgs_cons (gv 6 G) (rgs_cons (rg_put G (ev 0) re_str) rgs_nil)))) (rss_one (rs_ret (ev 6)))))
theorem ok_10 {fd : FuncData} (N : Nam K mg) (F : FunD K d_10.name d_10.qual d_10.params d_10.body d_10.scope (d_10.dvs K) (d_10.kws K) (adr K d_10.at_) fd) (fo : FOk (tb.lw K) P w K mg base k c) : FnOk P w K mg base (L2.CX P w) (k + 10) ((tb.lw K).fad 10) ((tb.lw K).fdt 10) ((tb.lw K).fps 10) (spM K (tb.lw K) ((tb.lw K).fps 10).length (fnD 7 (B_10 c))) :=
  fn_rule (N := ["_law_tape", "_law_limit", "_law_at", "_law_span", "_law_cell", "_law_mixed", "_law_found"]) (funG_of F rfl rfl rfl) sc_10 fo (fun _ _ _ _ _ _ => rfl) fun X Wx hX G => rb_10 N hX G
theorem sc_11 : FnScope ["_law_tape", "_law_some"] ["_law_tape", "_law_some"] (defScope s_11) := ⟨rfl, rfl, rfl, by decide +kernel, rfl, by decide +kernel, by decide +kernel⟩
theorem rb_11 {f : Addr} {X : Cx} {Wx : WX} (N : Nam K mg) (hX : ∃ (cdv : Value) (A : Around) (outer : List Env) (s : Shared) (H : Hp) (E : XK), X = cxOf (L2.CX P w) P w K mg base ["_law_tape", "_law_some"] d_11.qual (defScope s_11) f cdv A outer s H E) (G : Gd (tb.lw K) X Wx k c) : RSs (tb.lw K) X Wx (defBody s_11) (B_11 c) := by
  obtain ⟨cdv, A, outer, s, H, E, rfl⟩ := hX
  exact (rss_one (rs_ret (re_ix G (ev 1) (re_call (i := 10) G rfl rfl N.g__law_draw (ra_cons (ev 0) (ra_cons (re_bfn (rc_len) rfl N.b_len bb_len (ra_cons (ev 1) ra_nil)) ra_nil))))))
theorem ok_11 {fd : FuncData} (N : Nam K mg) (F : FunD K d_11.name d_11.qual d_11.params d_11.body d_11.scope (d_11.dvs K) (d_11.kws K) (adr K d_11.at_) fd) (fo : FOk (tb.lw K) P w K mg base k c) : FnOk P w K mg base (L2.CX P w) (k + 10) ((tb.lw K).fad 11) ((tb.lw K).fdt 11) ((tb.lw K).fps 11) (spM K (tb.lw K) ((tb.lw K).fps 11).length (fnD 2 (B_11 c))) :=
  fn_rule (N := ["_law_tape", "_law_some"]) (funG_of F rfl rfl rfl) sc_11 fo (fun _ _ _ _ _ _ => rfl) fun X Wx hX G => rb_11 N hX G
theorem sc_12 : FnScope ["_law_figures"] ["_law_figures"] (defScope s_12) := ⟨rfl, rfl, rfl, by decide +kernel, rfl, by decide +kernel, by decide +kernel⟩
theorem rb_12 {f : Addr} {X : Cx} {Wx : WX} (N : Nam K mg) (hX : ∃ (cdv : Value) (A : Around) (outer : List Env) (s : Shared) (H : Hp) (E : XK), X = cxOf (L2.CX P w) P w K mg base ["_law_figures"] d_12.qual (defScope s_12) f cdv A outer s H E) (G : Gd (tb.lw K) X Wx k c) : RSs (tb.lw K) X Wx (defBody s_12) (B_12 c) := by
  obtain ⟨cdv, A, outer, s, H, E, rfl⟩ := hX
  exact (rss_one (rs_ret (re_bty rc_int rfl N.b_int bb_int (ra_cons (re_bin (r2_bin G .Add) re_str (re_bin (r2_bin G .Mult) re_str (ev 0))) ra_nil))))
theorem ok_12 {fd : FuncData} (N : Nam K mg) (F : FunD K d_12.name d_12.qual d_12.params d_12.body d_12.scope (d_12.dvs K) (d_12.kws K) (adr K d_12.at_) fd) (fo : FOk (tb.lw K) P w K mg base k c) : FnOk P w K mg base (L2.CX P w) (k + 10) ((tb.lw K).fad 12) ((tb.lw K).fdt 12) ((tb.lw K).fps 12) (spM K (tb.lw K) ((tb.lw K).fps 12).length (fnD 1 (B_12 c))) :=
  fn_rule (N := ["_law_figures"]) (funG_of F rfl rfl rfl) sc_12 fo (fun _ _ _ _ _ _ => rfl) fun X Wx hX G => rb_12 N hX G
theorem sc_13 : FnScope ["_law_tape", "_law_figures", "_law_found", "_law_k"] ["_law_tape", "_law_figures"] (defScope s_13) := ⟨rfl, rfl, rfl, by decide +kernel, rfl, by decide +kernel, by decide +kernel⟩
theorem rb_13 {f : Addr} {X : Cx} {Wx : WX} (N : Nam K mg) (hX : ∃ (cdv : Value) (A : Around) (outer : List Env) (s : Shared) (H : Hp) (E : XK), X = cxOf (L2.CX P w) P w K mg base ["_law_tape", "_law_figures", "_law_found", "_law_k"] d_13.qual (defScope s_13) f cdv A outer s H E) (G : Gd (tb.lw K) X Wx k c) : RSs (tb.lw K) X Wx (defBody s_13) (B_13 c) := by
  obtain ⟨cdv, A, outer, s, H, E, rfl⟩ := hX
  exact (rss_cons (sv 2 G re_int) (rss_cons (rs_for G.po G.calm (ri_range1 rfl N.b_range (ra_cons (re_bin (r2_bin G .FloorDiv) (re_bin (r2_bin G .Add) (ev 1) re_int) re_int) ra_nil)) (gv 3 G) (rss_one (sv 2 G (re_bin (r2_bin G .Add) (re_bin (r2_bin G .Mult) (ev 2) (re_bin (r2_bin G .Pow) re_int re_int)) (re_call (i := 10) G rfl rfl N.g__law_draw (ra_cons (ev 0) (ra_cons (re_bin (r2_bin G .Pow) re_int re_int) ra_nil))))))) (rss_one (rs_ret (re_bin (r2_bin G .Mod) (re_bty rc_int rfl N.b_int bb_int (ra_cons (ev 2) ra_nil)) (re_call (i := 12) G rfl rfl N.g__law_ten (ra_cons (ev 1) ra_nil)))))))
theorem ok_13 {fd : FuncData} (N : Nam K mg) (F : FunD K d_13.name d_13.qual d_13.params d_13.body d_13.scope (d_13.dvs K) (d_13.kws K) (adr K d_13.at_) fd) (fo : FOk (tb.lw K) P w K mg base k c) : FnOk P w K mg base (L2.CX P w) (k + 10) ((tb.lw K).fad 13) ((tb.lw K).fdt 13) ((tb.lw K).fps 13) (spM K (tb.lw K) ((tb.lw K).fps 13).length (fnD 4 (B_13 c))) :=
  fn_rule (N := ["_law_tape", "_law_figures", "_law_found", "_law_k"]) (funG_of F rfl rfl rfl) sc_13 fo (fun _ _ _ _ _ _ => rfl) fun X Wx hX G => rb_13 N hX G
theorem sc_14 : FnScope ["_law_tape", "_law_figures", "_law_sort"] ["_law_tape", "_law_figures"] (defScope s_14) := ⟨rfl, rfl, rfl, by decide +kernel, rfl, by decide +kernel, by decide +kernel⟩
theorem rb_14 {f : Addr} {X : Cx} {Wx : WX} (N : Nam K mg) (hX : ∃ (cdv : Value) (A : Around) (outer : List Env) (s : Shared) (H : Hp) (E : XK), X = cxOf (L2.CX P w) P w K mg base ["_law_tape", "_law_figures", "_law_sort"] d_14.qual (defScope s_14) f cdv A outer s H E) (G : Gd (tb.lw K) X Wx k c) : RSs (tb.lw K) X Wx (defBody s_14) (B_14 c) := by
  obtain ⟨cdv, A, outer, s, H, E, rfl⟩ := hX
  exact (rss_cons (sv 2 G (re_call (i := 10) G rfl rfl N.g__law_draw (ra_cons (ev 0) (ra_cons re_int ra_nil)))) (rss_cons (rs_if (rt_cmp (rtv_tru G) (r2_ord G .Lt) (ev 2) re_int rfl) (rss_one (rs_ret (re_call (i := 10) G rfl rfl N.g__law_draw (ra_cons (ev 0) (ra_cons (re_ix G (re_lst (ra_cons re_int (ra_cons re_int (ra_cons re_int ra_nil)))) (ev 2)) ra_nil))))) rss_nil) (rss_cons (rs_if (rt_cmp (rtv_tru G) (r2_eq G) (ev 2) re_int rfl) (rss_one (rs_ret (re_call (i := 13) G rfl rfl N.g__law_long (ra_cons (ev 0) (ra_cons (re_bin (r2_bin G .Add) re_int (re_call (i := 10) G rfl rfl N.g__law_draw (ra_cons (ev 0) (ra_cons (ev 1) ra_nil)))) ra_nil))))) rss_nil) (rss_cons (rs_if (rt_cmp (rtv_tru G) (r2_eq G) (ev 2) re_int rfl) (rss_one (rs_ret (re_call (i := 13) G rfl rfl N.g__law_long (ra_cons (ev 0) (ra_cons (ev 1) ra_nil))))) rss_nil) (rss_one (rs_ret (re_bfn (rc_max G.calm) rfl N.b_max bb_max (ra_cons re_int (ra_cons (re_bin (r2_bin G .Sub) (re_bin (r2_bin G .Sub) (re_call (i := 12) G rfl rfl N.g__law_ten (ra_cons (re_bin (r2_bin G .Add) re_int (re_call (i := 10) G rfl rfl N.g__law_draw (ra_cons (ev 0) (ra_cons (ev 1) ra_nil)))) ra_nil)) (re_call (i := 10) G rfl rfl N.g__law_draw (ra_cons (ev 0) (ra_cons re_int ra_nil)))) re_int) ra_nil)))))))))
theorem ok_14 {fd : FuncData} (N : Nam K mg) (F : FunD K d_14.name d_14.qual d_14.params d_14.body d_14.scope (d_14.dvs K) (d_14.kws K) (adr K d_14.at_) fd) (fo : FOk (tb.lw K) P w K mg base k c) : FnOk P w K mg base (L2.CX P w) (k + 10) ((tb.lw K).fad 14) ((tb.lw K).fdt 14) ((tb.lw K).fps 14) (spM K (tb.lw K) ((tb.lw K).fps 14).length (fnD 3 (B_14 c))) :=
  fn_rule (N := ["_law_tape", "_law_figures", "_law_sort"]) (funG_of F rfl rfl rfl) sc_14 fo (fun _ _ _ _ _ _ => rfl) fun X Wx hX G => rb_14 N hX G
theorem sc_15 : FnScope ["_law_tape", "_law_figures", "_law_found"] ["_law_tape", "_law_figures"] (defScope s_15) := ⟨rfl, rfl, rfl, by decide +kernel, rfl, by decide +kernel, by decide +kernel⟩
theorem rb_15 {f : Addr} {X : Cx} {Wx : WX} (N : Nam K mg) (hX : ∃ (cdv : Value) (A : Around) (outer : List Env) (s : Shared) (H : Hp) (E : XK), X = cxOf (L2.CX P w) P w K mg base ["_law_tape", "_law_figures", "_law_found"] d_15.qual (defScope s_15) f cdv A outer s H E) (G : Gd (tb.lw K) X Wx k c) : RSs (tb.lw K) X Wx (defBody s_15) (B_15 c) := by
  obtain ⟨cdv, A, outer, s, H, E, rfl⟩ := hX
  exact (rss_cons (sv 2 G (re_call (i := 14) G rfl rfl N.g__law_size (ra_cons (ev 0) (ra_cons (ev 1) ra_nil)))) (rss_one (rs_ret (re_ifExp (rt_of (rtv_tru G) (re_call (i := 10) G rfl rfl N.g__law_draw (ra_cons (ev 0) (ra_cons re_int ra_nil)))) (re_un (r1_neg G) (ev 2)) (ev 2)))))
theorem ok_15 {fd : FuncData} (N : Nam K mg) (F : FunD K d_15.name d_15.qual d_15.params d_15.body d_15.scope (d_15.dvs K) (d_15.kws K) (adr K d_15.at_) fd) (fo : FOk (tb.lw K) P w K mg base k c) : FnOk P w K mg base (L2.CX P w) (k + 10) ((tb.lw K).fad 15) ((tb.lw K).fdt 15) ((tb.lw K).fps 15) (spM K (tb.lw K) ((tb.lw K).fps 15).length (fnD 3 (B_15 c))) :=
  fn_rule (N := ["_law_tape", "_law_figures", "_law_found"]) (funG_of F rfl rfl rfl) sc_15 fo (fun _ _ _ _ _ _ => rfl) fun X Wx hX G => rb_15 N hX G
theorem sc_16 : FnScope ["_law_one", "_law_other", "_law_k"] ["_law_one", "_law_other"] (defScope s_16) := ⟨rfl, rfl, rfl, by decide +kernel, rfl, by decide +kernel, by decide +kernel⟩
theorem rb_16 {f : Addr} {X : Cx} {Wx : WX} (N : Nam K mg) (hX : ∃ (cdv : Value) (A : Around) (outer : List Env) (s : Shared) (H : Hp) (E : XK), X = cxOf (L2.CX P w) P w K mg base ["_law_one", "_law_other", "_law_k"] d_16.qual (defScope s_16) f cdv A outer s H E) (G : Gd (tb.lw K) X Wx k c) : RSs (tb.lw K) X Wx (defBody s_16) (B_16 c) := by
  obtain ⟨cdv, A, outer, s, H, E, rfl⟩ := hX
  exact (rss_cons (pr2 0 1 G (ra_cons (re_bfn (rc_abs) rfl N.b_abs bb_abs (ra_cons (ev 0) ra_nil)) (ra_cons (re_bfn (rc_abs) rfl N.b_abs bb_abs (ra_cons (ev 1) ra_nil)) ra_nil))) (rss_cons (rs_for G.po G.calm (ri_range1 rfl N.b_range (ra_cons (re_bin (r2_bin G .Pow) re_int re_int) ra_nil)) (gv 2 G) (rss_cons (rs_if (rt_cmp (rtv_tru G) (r2_eq G) (ev 1) re_int rfl) (rss_one rs_break) rss_nil) (rss_one (pr2 0 1 G (ra_cons (ev 1) (ra_cons (re_bin (r2_bin G .Mod) (re_bty rc_int rfl N.b_int bb_int (ra_cons (ev 0) ra_nil)) (ev 1)) ra_nil)))))) (rss_one (rs_ret (ev 0)))))
theorem ok_16 {fd : FuncData} (N : Nam K mg) (F : FunD K d_16.name d_16.qual d_16.params d_16.body d_16.scope (d_16.dvs K) (d_16.kws K) (adr K d_16.at_) fd) (fo : FOk (tb.lw K) P w K mg base k c) : FnOk P w K mg base (L2.CX P w) (k + 10) ((tb.lw K).fad 16) ((tb.lw K).fdt 16) ((tb.lw K).fps 16) (spM K (tb.lw K) ((tb.lw K).fps 16).length (fnD 3 (B_16 c))) :=
  fn_rule (N := ["_law_one", "_law_other", "_law_k"]) (funG_of F rfl rfl rfl) sc_16 fo (fun _ _ _ _ _ _ => rfl) fun X Wx hX G => rb_16 N hX G
theorem sc_17 : FnScope ["_law_value", "_law_due"] ["_law_value", "_law_due"] (defScope s_17) := ⟨rfl, rfl, rfl, by decide +kernel, rfl, by decide +kernel, by decide +kernel⟩
theorem rb_17 {f : Addr} {X : Cx} {Wx : WX} (N : Nam K mg) (hX : ∃ (cdv : Value) (A : Around) (outer : List Env) (s : Shared) (H : Hp) (E : XK), X = cxOf (L2.CX P w) P w K mg base ["_law_value", "_law_due"] d_17.qual (defScope s_17) f cdv A outer s H E) (G : Gd (tb.lw K) X Wx k c) : RSs (tb.lw K) X Wx (defBody s_17) (B_17 c) := by
  obtain ⟨cdv, A, outer, s, H, E, rfl⟩ := hX
  exact (rss_one (rs_ret (re_ifExp (rt_of (rtv_tru G) (ev 1)) (re_cmp r2_is (ev 0) re_bl rfl) (re_cmp r2_is (ev 0) re_bl rfl))))
theorem ok_17 {fd : FuncData} (N : Nam K mg) (F : FunD K d_17.name d_17.qual d_17.params d_17.body d_17.scope (d_17.dvs K) (d_17.kws K) (adr K d_17.at_) fd) (fo : FOk (tb.lw K) P w K mg base k c) : FnOk P w K mg base (L2.CX P w) (k + 10) ((tb.lw K).fad 17) ((tb.lw K).fdt 17) ((tb.lw K).fps 17) (spM K (tb.lw K) ((tb.lw K).fps 17).length (fnD 2 (B_17 c))) :=
  fn_rule (N := ["_law_value", "_law_due"]) (funG_of F rfl rfl rfl) sc_17 fo (fun _ _ _ _ _ _ => rfl) fun X Wx hX G => rb_17 N hX G
theorem sc_18 : FnScope ["_law_value", "_law_due"] ["_law_value", "_law_due"] (defScope s_18) := ⟨rfl, rfl, rfl, by decide +kernel, rfl, by decide +kernel, by decide +kernel⟩
theorem rb_18 {f : Addr} {X : Cx} {Wx : WX} (N : Nam K mg) (hX : ∃ (cdv : Value) (A : Around) (outer : List Env) (s : Shared) (H : Hp) (E : XK), X = cxOf (L2.CX P w) P w K mg base ["_law_value", "_law_due"] d_18.qual (defScope s_18) f cdv A outer s H E) (G : Gd (tb.lw K) X Wx k c) : RSs (tb.lw K) X Wx (defBody s_18) (B_18 c) := by
  obtain ⟨cdv, A, outer, s, H, E, rfl⟩ := hX
  exact (rss_one (rs_ret (re_and (rtv_tru G) (re_ist (t := "int") G (by decide) (ev 0) rfl N.b_isinstance rfl N.b_int bb_int) (re_and (rtv_tru G) (re_not (rtv_tru G) (re_ist (t := "bool") G (by decide) (ev 0) rfl N.b_isinstance rfl N.b_bool bb_bool)) (re_one (re_cmp (r2_eq G) (ev 0) (ev 1) rfl))))))
theorem ok_18 {fd : FuncData} (N : Nam K mg) (F : FunD K d_18.name d_18.qual d_18.params d_18.body d_18.scope (d_18.dvs K) (d_18.kws K) (adr K d_18.at_) fd) (fo : FOk (tb.lw K) P w K mg base k c) : FnOk P w K mg base (L2.CX P w) (k + 10) ((tb.lw K).fad 18) ((tb.lw K).fdt 18) ((tb.lw K).fps 18) (spM K (tb.lw K) ((tb.lw K).fps 18).length (fnD 2 (B_18 c))) :=
  fn_rule (N := ["_law_value", "_law_due"]) (funG_of F rfl rfl rfl) sc_18 fo (fun _ _ _ _ _ _ => rfl) fun X Wx hX G => rb_18 N hX G
theorem sc_19 : FnScope ["_law_value", "_law_top", "_law_bottom"] ["_law_value", "_law_top", "_law_bottom"] (defScope s_19) := ⟨rfl, rfl, rfl, by decide +kernel, rfl, by decide +kernel, by decide +kernel⟩
theorem rb_19 {f : Addr} {X : Cx} {Wx : WX} (N : Nam K mg) (hX : ∃ (cdv : Value) (A : Around) (outer : List Env) (s : Shared) (H : Hp) (E : XK), X = cxOf (L2.CX P w) P w K mg base ["_law_value", "_law_top", "_law_bottom"] d_19.qual (defScope s_19) f cdv A outer s H E) (G : Gd (tb.lw K) X Wx k c) : RSs (tb.lw K) X Wx (defBody s_19) (B_19 c) := by
  obtain ⟨cdv, A, outer, s, H, E, rfl⟩ := hX
  exact (rss_cons (rs_if (RW.rt (rw_or (rt_not (rt_of (rtv_tru G) (re_iso (j := 0) G rfl (ev 0) rfl N.b_isinstance rfl N.g_Ratio))) (rw_or (rt_not (rt_of (rtv_tru G) (re_call (i := 18) G rfl rfl N.g__law_whole_is (ra_cons (re_fld (g := 41) G (ev 0)) (ra_cons (re_fld (g := 41) G (ev 0)) ra_nil))))) (rw_or1 (rt_cmp (rtv_tru G) (r2_ord G .Lt) (re_fld (g := 41) G (ev 0)) re_int rfl))))) (rss_one (rs_ret re_bl)) rss_nil) (rss_cons (rs_if (RW.rt (rw_or (rt_not (rt_of (rtv_tru G) (re_call (i := 18) G rfl rfl N.g__law_whole_is (ra_cons (re_fld (g := 40) G (ev 0)) (ra_cons (re_fld (g := 40) G (ev 0)) ra_nil))))) (rw_or1 (rt_cmp (rtv_tru G) (r2_ne G) (re_call (i := 16) G rfl rfl N.g__law_gcd (ra_cons (re_fld (g := 40) G (ev 0)) (ra_cons (re_fld (g := 41) G (ev 0)) ra_nil))) re_int rfl)))) (rss_one (rs_ret re_bl)) rss_nil) (rss_one (rs_ret (re_cmp (r2_eq G) (re_bin (r2_bin G .Mult) (re_fld (g := 40) G (ev 0)) (ev 2)) (re_bin (r2_bin G .Mult) (ev 1) (re_fld (g := 41) G (ev 0))) rfl)))))
theorem ok_19 {fd : FuncData} (N : Nam K mg) (F : FunD K d_19.name d_19.qual d_19.params d_19.body d_19.scope (d_19.dvs K) (d_19.kws K) (adr K d_19.at_) fd) (fo : FOk (tb.lw K) P w K mg base k c) : FnOk P w K mg base (L2.CX P w) (k + 10) ((tb.lw K).fad 19) ((tb.lw K).fdt 19) ((tb.lw K).fps 19) (spM K (tb.lw K) ((tb.lw K).fps 19).length (fnD 3 (B_19 c))) :=
  fn_rule (N := ["_law_value", "_law_top", "_law_bottom"]) (funG_of F rfl rfl rfl) sc_19 fo (fun _ _ _ _ _ _ => rfl) fun X Wx hX G => rb_19 N hX G
theorem sc_20 : FnScope ["_law_number_here", "_law_over"] ["_law_number_here", "_law_over"] (defScope s_20) := ⟨rfl, rfl, rfl, by decide +kernel, rfl, by decide +kernel, by decide +kernel⟩
theorem rb_20 {f : Addr} {X : Cx} {Wx : WX} (N : Nam K mg) (hX : ∃ (cdv : Value) (A : Around) (outer : List Env) (s : Shared) (H : Hp) (E : XK), X = cxOf (L2.CX P w) P w K mg base ["_law_number_here", "_law_over"] d_20.qual (defScope s_20) f cdv A outer s H E) (G : Gd (tb.lw K) X Wx k c) : RSs (tb.lw K) X Wx (defBody s_20) (B_20 c) := by
  obtain ⟨cdv, A, outer, s, H, E, rfl⟩ := hX
  exact (rss_cons (rs_if (rt_cmp (rtv_tru G) (r2_eq G) (re_bin (r2_bin G .Mod) (re_bty rc_int rfl N.b_int bb_int (ra_cons (ev 0) ra_nil)) (re_bin (r2_bin G .Mult) re_int (ev 1))) re_int rfl) (rss_one (rs_ret (re_bin (r2_bin G .FloorDiv) (ev 0) (ev 1)))) rss_nil) (rss_one (rs_ret (re_mk (i := 0) (f := 37) G rfl rfl N.g_Ratio (ra_cons (ev 0) (ra_cons (ev 1) ra_nil))))))
theorem ok_20 {fd : FuncData} (N : Nam K mg) (F : FunD K d_20.name d_20.qual d_20.params d_20.body d_20.scope (d_20.dvs K) (d_20.kws K) (adr K d_20.at_) fd) (fo : FOk (tb.lw K) P w K mg base k c) : FnOk P w K mg base (L2.CX P w) (k + 10) ((tb.lw K).fad 20) ((tb.lw K).fdt 20) ((tb.lw K).fps 20) (spM K (tb.lw K) ((tb.lw K).fps 20).length (fnD 2 (B_20 c))) :=
  fn_rule (N := ["_law_number_here", "_law_over"]) (funG_of F rfl rfl rfl) sc_20 fo (fun _ _ _ _ _ _ => rfl) fun X Wx hX G => rb_20 N hX G
theorem sc_21 : FnScope ["_law_pair", "_law_over"] ["_law_pair", "_law_over"] (defScope s_21) := ⟨rfl, rfl, rfl, by decide +kernel, rfl, by decide +kernel, by decide +kernel⟩
theorem rb_21 {f : Addr} {X : Cx} {Wx : WX} (N : Nam K mg) (hX : ∃ (cdv : Value) (A : Around) (outer : List Env) (s : Shared) (H : Hp) (E : XK), X = cxOf (L2.CX P w) P w K mg base ["_law_pair", "_law_over"] d_21.qual (defScope s_21) f cdv A outer s H E) (G : Gd (tb.lw K) X Wx k c) : RSs (tb.lw K) X Wx (defBody s_21) (B_21 c) := by
  obtain ⟨cdv, A, outer, s, H, E, rfl⟩ := hX
  exact (rss_one (rs_ret (re_mk (i := 1) (f := 60) G rfl rfl N.g_Point (ra_cons (re_call (i := 20) G rfl rfl N.g__law_told (ra_cons (re_ix G (ev 0) re_int) (ra_cons (ev 1) ra_nil))) (ra_cons (re_call (i := 20) G rfl rfl N.g__law_told (ra_cons (re_ix G (ev 0) re_int) (ra_cons (ev 1) ra_nil))) ra_nil)))))
theorem ok_21 {fd : FuncData} (N : Nam K mg) (F : FunD K d_21.name d_21.qual d_21.params d_21.body d_21.scope (d_21.dvs K) (d_21.kws K) (adr K d_21.at_) fd) (fo : FOk (tb.lw K) P w K mg base k c) : FnOk P w K mg base (L2.CX P w) (k + 10) ((tb.lw K).fad 21) ((tb.lw K).fdt 21) ((tb.lw K).fps 21) (spM K (tb.lw K) ((tb.lw K).fps 21).length (fnD 2 (B_21 c))) :=
  fn_rule (N := ["_law_pair", "_law_over"]) (funG_of F rfl rfl rfl) sc_21 fo (fun _ _ _ _ _ _ => rfl) fun X Wx hX G => rb_21 N hX G
theorem sc_22 : FnScope ["_law_one", "_law_other"] ["_law_one", "_law_other"] (defScope s_22) := ⟨rfl, rfl, rfl, by decide +kernel, rfl, by decide +kernel, by decide +kernel⟩
theorem rb_22 {f : Addr} {X : Cx} {Wx : WX} (N : Nam K mg) (hX : ∃ (cdv : Value) (A : Around) (outer : List Env) (s : Shared) (H : Hp) (E : XK), X = cxOf (L2.CX P w) P w K mg base ["_law_one", "_law_other"] d_22.qual (defScope s_22) f cdv A outer s H E) (G : Gd (tb.lw K) X Wx k c) : RSs (tb.lw K) X Wx (defBody s_22) (B_22 c) := by
  obtain ⟨cdv, A, outer, s, H, E, rfl⟩ := hX
  exact (rss_one (rs_ret (re_bin (r2_bin G .Sub) (re_bin (r2_bin G .Mult) (re_ix G (ev 0) re_int) (re_ix G (ev 1) re_int)) (re_bin (r2_bin G .Mult) (re_ix G (ev 0) re_int) (re_ix G (ev 1) re_int)))))
theorem ok_22 {fd : FuncData} (N : Nam K mg) (F : FunD K d_22.name d_22.qual d_22.params d_22.body d_22.scope (d_22.dvs K) (d_22.kws K) (adr K d_22.at_) fd) (fo : FOk (tb.lw K) P w K mg base k c) : FnOk P w K mg base (L2.CX P w) (k + 10) ((tb.lw K).fad 22) ((tb.lw K).fdt 22) ((tb.lw K).fps 22) (spM K (tb.lw K) ((tb.lw K).fps 22).length (fnD 2 (B_22 c))) :=
  fn_rule (N := ["_law_one", "_law_other"]) (funG_of F rfl rfl rfl) sc_22 fo (fun _ _ _ _ _ _ => rfl) fun X Wx hX G => rb_22 N hX G
theorem sc_23 : FnScope ["_law_pairs", "_law_wide", "_law_whole", "_law_k", "_law_n", "_law_tall", "_law_x", "_law_y", "_law_pair", "_law_one", "_law_other", "_law_times_here"] ["_law_pairs"] (defScope s_23) := ⟨rfl, rfl, rfl, by decide +kernel, rfl, by decide +kernel, by decide +kernel⟩
theorem rb_23 {f : Addr} {X : Cx} {Wx : WX} (N : Nam K mg) (hX : ∃ (cdv : Value) (A : Around) (outer : List Env) (s : Shared) (H : Hp) (E : XK), X = cxOf (L2.CX P w) P w K mg base ["_law_pairs", "_law_wide", "_law_whole", "_law_k", "_law_n", "_law_tall", "_law_x", "_law_y", "_law_pair", "_law_one", "_law_other", "_law_times_here"] d_23.qual (defScope s_23) f cdv A outer s H E) (G : Gd (tb.lw K) X Wx k c) : RSs (tb.lw K) X Wx (defBody s_23) (B_23 c) := by
  obtain ⟨cdv, A, outer, s, H, E, rfl⟩ := hX
  exact (rss_cons (rs_asg (re_tup (ra_cons re_int (ra_cons re_int ra_nil))) (gt G (rgs_cons (gv 1 G) (rgs_cons (gv 2 G) rgs_nil)))) (rss_cons (rs_for G.po G.calm (ri_range1 rfl N.b_range (ra_cons (re_bfn (rc_len) rfl N.b_len bb_len (ra_cons (ev 0) ra_nil)) ra_nil)) (gv 3 G) (rss_cons (sv 1 G (re_call (i := 16) G rfl rfl N.g__law_gcd (ra_cons (ev 1) (ra_cons (re_ix G (re_ix G (ev 0) (ev 3)) re_int) ra_nil)))) (rss_one (rs_for G.po G.calm (ri_range1 rfl N.b_range (ra_cons (ev 3) ra_nil)) (gv 4 G) (rss_one (sv 2 G (re_call (i := 16) G rfl rfl N.g__law_gcd (ra_cons (ev 2) (ra_cons (re_call (i := 22) G rfl rfl N.g__law_area (ra_cons (re_ix G (ev 0) (ev 3)) (ra_cons (re_ix G (ev 0) (ev 4)) ra_nil))) ra_nil))))))))) (rss_cons (pr3 5 6 7 G (ra_cons (re_bin (r2_bin G .FloorDiv) (ev 2) (ev 1)) (ra_cons re_int (ra_cons re_int ra_nil)))) (rss_cons (rs_for G.po G.calm (ri_seq (ev 0)) (gv 8 G) (rss_cons (pr2 9 10 G (ra_cons (re_tup (ra_cons (ev 6) (ra_cons (ev 7) ra_nil))) (ra_cons (ev 8) ra_nil))) (rss_cons (rs_for G.po G.calm (ri_range1 rfl N.b_range (ra_cons (re_bin (r2_bin G .Pow) re_int re_int) ra_nil)) (gv 3 G) (rss_cons (rs_if (rt_cmp (rtv_tru G) (r2_eq G) (re_ix G (ev 10) re_int) re_int rfl) (rss_one rs_break) rss_nil) (rss_cons (sv 11 G (re_bin (r2_bin G .FloorDiv) (re_ix G (ev 9) re_int) (re_ix G (ev 10) re_int))) (rss_one (pr2 9 10 G (ra_cons (ev 10) (ra_cons (re_tup (ra_cons (re_bin (r2_bin G .Sub) (re_ix G (ev 9) re_int) (re_bin (r2_bin G .Mult) (ev 11) (re_ix G (ev 10) re_int))) (ra_cons (re_bin (r2_bin G .Sub) (re_ix G (ev 9) re_int) (re_bin (r2_bin G .Mult) (ev 11) (re_ix G (ev 10) re_int))) ra_nil))) ra_nil))))))) (rss_one (pr2 6 7 G (ra_cons (re_ix G (ev 9) re_int) (ra_cons (re_bin (r2_bin G .Mod) (re_bty rc_int rfl N.b_int bb_int (ra_cons (re_ix G (ev 9) re_int) ra_nil)) (ev 5)) ra_nil))))))) (rss_one (rs_ret (re_tup (ra_cons (ev 1) (ra_cons (re_bin (r2_bin G .Mod) (re_bty rc_int rfl N.b_int bb_int (ra_cons (re_ifExp (rt_cmp (rtv_tru G) (r2_ord G .Gt) (ev 6) re_int rfl) (ev 7) (re_un (r1_neg G) (ev 7))) ra_nil)) (ev 5)) (ra_cons (ev 5) ra_nil))))))))))
theorem ok_23 {fd : FuncData} (N : Nam K mg) (F : FunD K d_23.name d_23.qual d_23.params d_23.body d_23.scope (d_23.dvs K) (d_23.kws K) (adr K d_23.at_) fd) (fo : FOk (tb.lw K) P w K mg base k c) : FnOk P w K mg base (L2.CX P w) (k + 10) ((tb.lw K).fad 23) ((tb.lw K).fdt 23) ((tb.lw K).fps 23) (spM K (tb.lw K) ((tb.lw K).fps 23).length (fnD 12 (B_23 c))) :=
  fn_rule (N := ["_law_pairs", "_law_wide", "_law_whole", "_law_k", "_law_n", "_law_tall", "_law_x", "_law_y", "_law_pair", "_law_one", "_law_other", "_law_times_here"]) (funG_of F rfl rfl rfl) sc_23 fo (fun _ _ _ _ _ _ => rfl) fun X Wx hX G => rb_23 N hX G
theorem sc_24 : FnScope ["_law_tape", "_law_size_here", "_law_wide", "_law_tall", "_law_one", "_law_other", "_law_k", "_law_times_here"] ["_law_tape", "_law_size_here"] (defScope s_24) := ⟨rfl, rfl, rfl, by decide +kernel, rfl, by decide +kernel, by decide +kernel⟩
theorem rb_24 {f : Addr} {X : Cx} {Wx : WX} (N : Nam K mg) (hX : ∃ (cdv : Value) (A : Around) (outer : List Env) (s : Shared) (H : Hp) (E : XK), X = cxOf (L2.CX P w) P w K mg base ["_law_tape", "_law_size_here", "_law_wide", "_law_tall", "_law_one", "_law_other", "_law_k", "_law_times_here"] d_24.qual (defScope s_24) f cdv A outer s H E) (G : Gd (tb.lw K) X Wx k c) : RSs (tb.lw K) X Wx (defBody s_24) (B_24 c) := by
  obtain ⟨cdv, A, outer, s, H, E, rfl⟩ := hX
  exact (rss_cons (pr2 2 3 G (ra_cons (re_bin (r2_bin G .Add) re_int (re_callI G (ev 1) (ra_cons (ev 0) ra_nil))) (ra_cons (re_bin (r2_bin G .Add) re_int (re_callI G (ev 1) (ra_cons (ev 0) ra_nil))) ra_nil))) (rss_cons (pr2 4 5 G (ra_cons (re_tup (ra_cons (ev 2) (ra_cons (re_bin (r2_bin G .Sub) (re_call (i := 10) G rfl rfl N.g__law_draw (ra_cons (ev 0) (ra_cons (re_bin (r2_bin G .Mult) re_int (ev 3)) ra_nil))) (ev 3)) ra_nil))) (ra_cons (re_tup (ra_cons re_int (ra_cons (ev 3) ra_nil))) ra_nil))) (rss_cons (rs_for G.po G.calm (ri_range1 rfl N.b_range (ra_cons (re_call (i := 10) G rfl rfl N.g__law_draw (ra_cons (ev 0) (ra_cons re_int ra_nil))) ra_nil)) (gv 6 G) (rss_cons (sv 7 G (re_bin (r2_bin G .Sub) (re_call (i := 10) G rfl rfl N.g__law_draw (ra_cons (ev 0) (ra_cons re_int ra_nil))) re_int)) (rss_one (pr2 4 5 G (ra_cons (re_tup (ra_cons (re_bin (r2_bin G .Add) (re_ix G (ev 5) re_int) (re_bin (r2_bin G .Mult) (ev 7) (re_ix G (ev 4) re_int))) (ra_cons (re_bin (r2_bin G .Add) (re_ix G (ev 5) re_int) (re_bin (r2_bin G .Mult) (ev 7) (re_ix G (ev 4) re_int))) ra_nil))) (ra_cons (ev 4) ra_nil)))))) (rss_one (rs_ret (re_lst (ra_cons (ev 4) (ra_cons (ev 5) ra_nil))))))))
theorem ok_24 {fd : FuncData} (N : Nam K mg) (F : FunD K d_24.name d_24.qual d_24.params d_24.body d_24.scope (d_24.dvs K) (d_24.kws K) (adr K d_24.at_) fd) (fo : FOk (tb.lw K) P w K mg base k c) : FnOk P w K mg base (L2.CX P w) (k + 10) ((tb.lw K).fad 24) ((tb.lw K).fdt 24) ((tb.lw K).fps 24) (spM K (tb.lw K) ((tb.lw K).fps 24).length (fnD 8 (B_24 c))) :=
  fn_rule (N := ["_law_tape", "_law_size_here", "_law_wide", "_law_tall", "_law_one", "_law_other", "_law_k", "_law_times_here"]) (funG_of F rfl rfl rfl) sc_24 fo (fun _ _ _ _ _ _ => rfl) fun X Wx hX G => rb_24 N hX G
theorem sc_25 : FnScope ["_law_tape"] ["_law_tape"] (defScope s_25) := ⟨rfl, rfl, rfl, by decide +kernel, rfl, by decide +kernel, by decide +kernel⟩
theorem rb_25 {f : Addr} {X : Cx} {Wx : WX} (N : Nam K mg) (hX : ∃ (cdv : Value) (A : Around) (outer : List Env) (s : Shared) (H : Hp) (E : XK), X = cxOf (L2.CX P w) P w K mg base ["_law_tape"] d_25.qual (defScope s_25) f cdv A outer s H E) (G : Gd (tb.lw K) X Wx k c) : RSs (tb.lw K) X Wx (defBody s_25) (B_25 c) := by
  obtain ⟨cdv, A, outer, s, H, E, rfl⟩ := hX
  exact (rss_one (rs_ret (re_call (i := 11) G rfl rfl N.g__law_pick (ra_cons (ev 0) (ra_cons (re_lst (ra_cons re_int (ra_cons re_int (ra_cons re_int (ra_cons re_int (ra_cons re_int (ra_cons (re_call (i := 10) G rfl rfl N.g__law_draw (ra_cons (ev 0) (ra_cons re_int ra_nil))) ra_nil))))))) ra_nil)))))
theorem ok_25 {fd : FuncData} (N : Nam K mg) (F : FunD K d_25.name d_25.qual d_25.params d_25.body d_25.scope (d_25.dvs K) (d_25.kws K) (adr K d_25.at_) fd) (fo : FOk (tb.lw K) P w K mg base k c) : FnOk P w K mg base (L2.CX P w) (k + 10) ((tb.lw K).fad 25) ((tb.lw K).fdt 25) ((tb.lw K).fps 25) (spM K (tb.lw K) ((tb.lw K).fps 25).length (fnD 1 (B_25 c))) :=
  fn_rule (N := ["_law_tape"]) (funG_of F rfl rfl rfl) sc_25 fo (fun _ _ _ _ _ _ => rfl) fun X Wx hX G => rb_25 N hX G
theorem sc_26 : FnScope ["_law_rows_here", "_law_over", "_law_pair"] ["_law_rows_here", "_law_over"] (defScope s_26) := ⟨rfl, rfl, rfl, by decide +kernel, rfl, by decide +kernel, by decide +kernel⟩
theorem rb_26 {f : Addr} {X : Cx} {Wx : WX} (N : Nam K mg) (hX : ∃ (cdv : Value) (A : Around) (outer : List Env) (s : Shared) (H : Hp) (E : XK), X = cxOf (L2.CX P w) P w K mg base ["_law_rows_here", "_law_over", "_law_pair"] d_26.qual (defScope s_26) f cdv A outer s H E) (G : Gd (tb.lw K) X Wx k c) : RSs (tb.lw K) X Wx (defBody s_26) (B_26 c) := by
  obtain ⟨cdv, A, outer, s, H, E, rfl⟩ := hX
  exact (rss_one (rs_ret (re_mk (i := 3) (f := 76) G rfl rfl N.g_Lattice (ra_cons (re_lc G (ri_seq (ev 0)) (blkOk_by (own := [("_law_pair", 2)]) (by kernel_rfl)) (fun s1 H1 C1 cl1 fp1 => (gv 2 (G.blk s1 H1 _ _ fp1))) (fun s1 H1 C1 cl1 fp1 => rts_nil) (fun s1 H1 C1 cl1 fp1 => (re_call (i := 21) (G.blk s1 H1 _ _ fp1) rfl rfl N.g__law_point (ra_cons (ev 2) (ra_cons (ev 1) ra_nil)))) (by decide)) ra_nil))))
theorem ok_26 {fd : FuncData} (N : Nam K mg) (F : FunD K d_26.name d_26.qual d_26.params d_26.body d_26.scope (d_26.dvs K) (d_26.kws K) (adr K d_26.at_) fd) (fo : FOk (tb.lw K) P w K mg base k c) : FnOk P w K mg base (L2.CX P w) (k + 10) ((tb.lw K).fad 26) ((tb.lw K).fdt 26) ((tb.lw K).fps 26) (spM K (tb.lw K) ((tb.lw K).fps 26).length (fnD 3 (B_26 c))) :=
  fn_rule (N := ["_law_rows_here", "_law_over", "_law_pair"]) (funG_of F rfl rfl rfl) sc_26 fo (fun _ _ _ _ _ _ => rfl) fun X Wx hX G => rb_26 N hX G
theorem sc_27 : FnScope ["_law_value", "_law_rows_here", "_law_over", "_law_table"] ["_law_value", "_law_rows_here", "_law_over"] (defScope s_27) := ⟨rfl, rfl, rfl, by decide +kernel, rfl, by decide +kernel, by decide +kernel⟩
theorem rb_27 {f : Addr} {X : Cx} {Wx : WX} (N : Nam K mg) (hX : ∃ (cdv : Value) (A : Around) (outer : List Env) (s : Shared) (H : Hp) (E : XK), X = cxOf (L2.CX P w) P w K mg base ["_law_value", "_law_rows_here", "_law_over", "_law_table"] d_27.qual (defScope s_27) f cdv A outer s H E) (G : Gd (tb.lw K) X Wx k c) : RSs (tb.lw K) X Wx (defBody s_27) (B_27 c) := by
  obtain ⟨cdv, A, outer, s, H, E, rfl⟩ := hX
  exact (rss_cons (rs_if (rt_not (rt_of (rtv_tru G) (re_iso (j := 3) G rfl (ev 0) rfl N.b_isinstance rfl N.g_Lattice))) (rss_one (rs_ret re_bl)) rss_nil) (rss_cons (sv 3 G (re_call (i := 23) G rfl rfl N.g__law_stair (ra_cons (ev 1) ra_nil))) (rss_one (rs_ret (re_and (rtv_tru G) (re_call (i := 19) G rfl rfl N.g__law_ratio_is (ra_cons (re_fld (g := 44) G (ev 0)) (ra_cons (re_ix G (ev 3) re_int) (ra_cons (ev 2) ra_nil)))) (re_and (rtv_tru G) (re_call (i := 19) G rfl rfl N.g__law_ratio_is (ra_cons (re_fld (g := 45) G (ev 0)) (ra_cons (re_ix G (ev 3) re_int) (ra_cons (ev 2) ra_nil)))) (re_one (re_call (i := 19) G rfl rfl N.g__law_ratio_is (ra_cons (re_fld (g := 46) G (ev 0)) (ra_cons (re_ix G (ev 3) re_int) (ra_cons (ev 2) ra_nil)))))))))))
theorem ok_27 {fd : FuncData} (N : Nam K mg) (F : FunD K d_27.name d_27.qual d_27.params d_27.body d_27.scope (d_27.dvs K) (d_27.kws K) (adr K d_27.at_) fd) (fo : FOk (tb.lw K) P w K mg base k c) : FnOk P w K mg base (L2.CX P w) (k + 10) ((tb.lw K).fad 27) ((tb.lw K).fdt 27) ((tb.lw K).fps 27) (spM K (tb.lw K) ((tb.lw K).fps 27).length (fnD 4 (B_27 c))) :=
  fn_rule (N := ["_law_value", "_law_rows_here", "_law_over", "_law_table"]) (funG_of F rfl rfl rfl) sc_27 fo (fun _ _ _ _ _ _ => rfl) fun X Wx hX G => rb_27 N hX G
theorem sc_28 : FnScope ["_law_tape", "_law_rows_here", "_law_size_here", "_law_first", "_law_second"] ["_law_tape", "_law_rows_here", "_law_size_here"] (defScope s_28) := ⟨rfl, rfl, rfl, by decide +kernel, rfl, by decide +kernel, by decide +kernel⟩
theorem rb_28 {f : Addr} {X : Cx} {Wx : WX} (N : Nam K mg) (hX : ∃ (cdv : Value) (A : Around) (outer : List Env) (s : Shared) (H : Hp) (E : XK), X = cxOf (L2.CX P w) P w K mg base ["_law_tape", "_law_rows_here", "_law_size_here", "_law_first", "_law_second"] d_28.qual (defScope s_28) f cdv A outer s H E) (G : Gd (tb.lw K) X Wx k c) : RSs (tb.lw K) X Wx (defBody s_28) (B_28 c) := by
  obtain ⟨cdv, A, outer, s, H, E, rfl⟩ := hX
  exact (rss_cons (pr2 3 4 G (ra_cons (re_call (i := 15) G rfl rfl N.g__law_number (ra_cons (ev 0) (ra_cons (ev 2) ra_nil))) (ra_cons (re_call (i := 15) G rfl rfl N.g__law_number (ra_cons (ev 0) (ra_cons (ev 2) ra_nil))) ra_nil))) (rss_one (rs_ret (re_tup (ra_cons (re_bin (r2_bin G .Add) (re_bin (r2_bin G .Mult) (ev 3) (re_ix G (re_ix G (ev 1) re_int) re_int)) (re_bin (r2_bin G .Mult) (ev 4) (re_ix G (re_ix G (ev 1) re_int) re_int))) (ra_cons (re_bin (r2_bin G .Add) (re_bin (r2_bin G .Mult) (ev 3) (re_ix G (re_ix G (ev 1) re_int) re_int)) (re_bin (r2_bin G .Mult) (ev 4) (re_ix G (re_ix G (ev 1) re_int) re_int))) ra_nil))))))
theorem ok_28 {fd : FuncData} (N : Nam K mg) (F : FunD K d_28.name d_28.qual d_28.params d_28.body d_28.scope (d_28.dvs K) (d_28.kws K) (adr K d_28.at_) fd) (fo : FOk (tb.lw K) P w K mg base k c) : FnOk P w K mg base (L2.CX P w) (k + 10) ((tb.lw K).fad 28) ((tb.lw K).fdt 28) ((tb.lw K).fps 28) (spM K (tb.lw K) ((tb.lw K).fps 28).length (fnD 5 (B_28 c))) :=
  fn_rule (N := ["_law_tape", "_law_rows_here", "_law_size_here", "_law_first", "_law_second"]) (funG_of F rfl rfl rfl) sc_28 fo (fun _ _ _ _ _ _ => rfl) fun X Wx hX G => rb_28 N hX G
theorem sc_29 : FnScope ["_law_one", "_law_other"] ["_law_one", "_law_other"] (defScope s_29) := ⟨rfl, rfl, rfl, by decide +kernel, rfl, by decide +kernel, by decide +kernel⟩
theorem rb_29 {f : Addr} {X : Cx} {Wx : WX} (N : Nam K mg) (hX : ∃ (cdv : Value) (A : Around) (outer : List Env) (s : Shared) (H : Hp) (E : XK), X = cxOf (L2.CX P w) P w K mg base ["_law_one", "_law_other"] d_29.qual (defScope s_29) f cdv A outer s H E) (G : Gd (tb.lw K) X Wx k c) : RSs (tb.lw K) X Wx (defBody s_29) (B_29 c) := by
  obtain ⟨cdv, A, outer, s, H, E, rfl⟩ := hX
  exact (rss_one (rs_ret (re_tup (ra_cons (re_bin (r2_bin G .Add) (re_ix G (ev 0) re_int) (re_ix G (ev 1) re_int)) (ra_cons (re_bin (r2_bin G .Add) (re_ix G (ev 0) re_int) (re_ix G (ev 1) re_int)) ra_nil)))))
theorem ok_29 {fd : FuncData} (N : Nam K mg) (F : FunD K d_29.name d_29.qual d_29.params d_29.body d_29.scope (d_29.dvs K) (d_29.kws K) (adr K d_29.at_) fd) (fo : FOk (tb.lw K) P w K mg base k c) : FnOk P w K mg base (L2.CX P w) (k + 10) ((tb.lw K).fad 29) ((tb.lw K).fdt 29) ((tb.lw K).fps 29) (spM K (tb.lw K) ((tb.lw K).fps 29).length (fnD 2 (B_29 c))) :=
  fn_rule (N := ["_law_one", "_law_other"]) (funG_of F rfl rfl rfl) sc_29 fo (fun _ _ _ _ _ _ => rfl) fun X Wx hX G => rb_29 N hX G
theorem sc_30 : FnScope ["_law_number_here", "_law_pair"] ["_law_number_here", "_law_pair"] (defScope s_30) := ⟨rfl, rfl, rfl, by decide +kernel, rfl, by decide +kernel, by decide +kernel⟩
theorem rb_30 {f : Addr} {X : Cx} {Wx : WX} (N : Nam K mg) (hX : ∃ (cdv : Value) (A : Around) (outer : List Env) (s : Shared) (H : Hp) (E : XK), X = cxOf (L2.CX P w) P w K mg base ["_law_number_here", "_law_pair"] d_30.qual (defScope s_30) f cdv A outer s H E) (G : Gd (tb.lw K) X Wx k c) : RSs (tb.lw K) X Wx (defBody s_30) (B_30 c) := by
  obtain ⟨cdv, A, outer, s, H, E, rfl⟩ := hX
  exact (rss_one (rs_ret (re_tup (ra_cons (re_bin (r2_bin G .Mult) (ev 0) (re_ix G (ev 1) re_int)) (ra_cons (re_bin (r2_bin G .Mult) (ev 0) (re_ix G (ev 1) re_int)) ra_nil)))))
theorem ok_30 {fd : FuncData} (N : Nam K mg) (F : FunD K d_30.name d_30.qual d_30.params d_30.body d_30.scope (d_30.dvs K) (d_30.kws K) (adr K d_30.at_) fd) (fo : FOk (tb.lw K) P w K mg base k c) : FnOk P w K mg base (L2.CX P w) (k + 10) ((tb.lw K).fad 30) ((tb.lw K).fdt 30) ((tb.lw K).fps 30) (spM K (tb.lw K) ((tb.lw K).fps 30).length (fnD 2 (B_30 c))) :=
  fn_rule (N := ["_law_number_here", "_law_pair"]) (funG_of F rfl rfl rfl) sc_30 fo (fun _ _ _ _ _ _ => rfl) fun X Wx hX G => rb_30 N hX G
theorem sc_31 : FnScope ["_law_tape"] ["_law_tape"] (defScope s_31) := ⟨rfl, rfl, rfl, by decide +kernel, rfl, by decide +kernel, by decide +kernel⟩
theorem rb_31 {f : Addr} {X : Cx} {Wx : WX} (N : Nam K mg) (hX : ∃ (cdv : Value) (A : Around) (outer : List Env) (s : Shared) (H : Hp) (E : XK), X = cxOf (L2.CX P w) P w K mg base ["_law_tape"] d_31.qual (defScope s_31) f cdv A outer s H E) (G : Gd (tb.lw K) X Wx k c) : RSs (tb.lw K) X Wx (defBody s_31) (B_31 c) := by
  obtain ⟨cdv, A, outer, s, H, E, rfl⟩ := hX
  exact (rss_one (rs_ret (re_call (i := 14) G rfl rfl N.g__law_size (ra_cons (ev 0) (ra_cons re_int ra_nil)))))
theorem ok_31 {fd : FuncData} (N : Nam K mg) (F : FunD K d_31.name d_31.qual d_31.params d_31.body d_31.scope (d_31.dvs K) (d_31.kws K) (adr K d_31.at_) fd) (fo : FOk (tb.lw K) P w K mg base k c) : FnOk P w K mg base (L2.CX P w) (k + 10) ((tb.lw K).fad 31) ((tb.lw K).fdt 31) ((tb.lw K).fps 31) (spM K (tb.lw K) ((tb.lw K).fps 31).length (fnD 1 (B_31 c))) :=
  fn_rule (N := ["_law_tape"]) (funG_of F rfl rfl rfl) sc_31 fo (fun _ _ _ _ _ _ => rfl) fun X Wx hX G => rb_31 N hX G
theorem sc_32 : FnScope ["_law_one", "_law_other"] ["_law_one", "_law_other"] (defScope s_32) := ⟨rfl, rfl, rfl, by decide +kernel, rfl, by decide +kernel, by decide +kernel⟩
theorem rb_32 {f : Addr} {X : Cx} {Wx : WX} (N : Nam K mg) (hX : ∃ (cdv : Value) (A : Around) (outer : List Env) (s : Shared) (H : Hp) (E : XK), X = cxOf (L2.CX P w) P w K mg base ["_law_one", "_law_other"] d_32.qual (defScope s_32) f cdv A outer s H E) (G : Gd (tb.lw K) X Wx k c) : RSs (tb.lw K) X Wx (defBody s_32) (B_32 c) := by
  obtain ⟨cdv, A, outer, s, H, E, rfl⟩ := hX
  exact (rss_one (rs_ret (re_bin (r2_bin G .Add) (re_bin (r2_bin G .Mult) (re_fld (g := 42) G (ev 0)) (re_fld (g := 42) G (ev 1))) (re_bin (r2_bin G .Mult) (re_fld (g := 43) G (ev 0)) (re_fld (g := 43) G (ev 1))))))
theorem ok_32 {fd : FuncData} (N : Nam K mg) (F : FunD K d_32.name d_32.qual d_32.params d_32.body d_32.scope (d_32.dvs K) (d_32.kws K) (adr K d_32.at_) fd) (fo : FOk (tb.lw K) P w K mg base k c) : FnOk P w K mg base (L2.CX P w) (k + 10) ((tb.lw K).fad 32) ((tb.lw K).fdt 32) ((tb.lw K).fps 32) (spM K (tb.lw K) ((tb.lw K).fps 32).length (fnD 2 (B_32 c))) :=
  fn_rule (N := ["_law_one", "_law_other"]) (funG_of F rfl rfl rfl) sc_32 fo (fun _ _ _ _ _ _ => rfl) fun X Wx hX G => rb_32 N hX G
theorem sc_33 : FnScope ["_law_tape", "_law_rows_here", "_law_over", "_law_lattice_here", "_law_dual", "_law_area_here", "_law_first", "_law_second", "_law_other", "_law_member_here", "_law_here", "_law_there"] ["_law_tape", "_law_rows_here", "_law_over", "_law_lattice_here"] (defScope s_33) := ⟨rfl, rfl, rfl, by decide +kernel, rfl, by decide +kernel, by decide +kernel⟩
theorem rb_33 {f : Addr} {X : Cx} {Wx : WX} (N : Nam K mg) (hX : ∃ (cdv : Value) (A : Around) (outer : List Env) (s : Shared) (H : Hp) (E : XK), X = cxOf (L2.CX P w) P w K mg base ["_law_tape", "_law_rows_here", "_law_over", "_law_lattice_here", "_law_dual", "_law_area_here", "_law_first", "_law_second", "_law_other", "_law_member_here", "_law_here", "_law_there"] d_33.qual (defScope s_33) f cdv A outer s H E) (G : Gd (tb.lw K) X Wx k c) : RSs (tb.lw K) X Wx (defBody s_33) (B_33 c) := by
  obtain ⟨cdv, A, outer, s, H, E, rfl⟩ := hX
  exact (rss_cons (sv 4 G (re_meth0 (i := 48) G (ev 3))) (rss_cons (rs_if (rt_not (rt_of (rtv_tru G) (re_iso (j := 3) G rfl (ev 4) rfl N.b_isinstance rfl N.g_Lattice))) (rss_one (rs_ret re_bl)) rss_nil) (rss_cons (sv 5 G (re_bfn (rc_abs) rfl N.b_abs bb_abs (ra_cons (re_call (i := 22) G rfl rfl N.g__law_area (ra_cons (re_ix G (ev 1) re_int) (ra_cons (re_ix G (ev 1) re_int) ra_nil))) ra_nil))) (rss_cons (rs_if (rt_not (rt_of (rtv_tru G) (re_call (i := 19) G rfl rfl N.g__law_ratio_is (ra_cons (re_fld (g := 47) G (ev 4)) (ra_cons (re_bin (r2_bin G .Mult) (ev 2) (ev 2)) (ra_cons (ev 5) ra_nil)))))) (rss_one (rs_ret re_bl)) rss_nil) (rss_cons (pr2 6 7 G (ra_cons (re_call (i := 15) G rfl rfl N.g__law_number (ra_cons (ev 0) (ra_cons re_int ra_nil))) (ra_cons (re_call (i := 15) G rfl rfl N.g__law_number (ra_cons (ev 0) (ra_cons re_int ra_nil))) ra_nil))) (rss_cons (sv 8 G (re_bin (r2_bin G .Add) (re_bin (r2_bin G .Mult) (ev 6) (re_ix G (re_meth0 (i := 51) G (ev 4)) re_int)) (re_bin (r2_bin G .Mult) (ev 7) (re_ix G (re_meth0 (i := 51) G (ev 4)) re_int)))) (rss_cons (sv 9 G (re_call (i := 21) G rfl rfl N.g__law_point (ra_cons (re_call (i := 28) G rfl rfl N.g__law_member (ra_cons (ev 0) (ra_cons (ev 1) (ra_cons re_int ra_nil)))) (ra_cons (ev 2) ra_nil)))) (rss_cons (rs_for G.po G.calm (ri_seq (re_bin (r2_bin G .Add) (re_meth0 (i := 51) G (ev 3)) (re_tup (ra_cons (ev 9) ra_nil)))) (gv 10 G) (rss_one (rs_for G.po G.calm (ri_seq (re_bin (r2_bin G .Add) (re_meth0 (i := 51) G (ev 4)) (re_tup (ra_cons (ev 8) ra_nil)))) (gv 11 G) (rss_one (rs_if (rt_cmp (rtv_tru G) (r2_ne G) (re_fld (g := 41) G (re_call (i := 32) G rfl rfl N.g__law_product (ra_cons (ev 10) (ra_cons (ev 11) ra_nil)))) re_int rfl) (rss_one (rs_ret re_bl)) rss_nil))))) (rss_one (rs_ret (re_and (rtv_tru G) (re_cmp (r2_eq G) (re_meth0 (i := 48) G (ev 4)) (ev 3) rfl) (re_and (rtv_tru G) (re_cmp (r2_inoY G) (ev 8) (ev 4) rfl) (re_one (re_call (i := 27) G rfl rfl N.g__law_is_lattice (ra_cons (ev 3) (ra_cons (ev 1) (ra_cons (ev 2) ra_nil)))))))))))))))))
theorem ok_33 {fd : FuncData} (N : Nam K mg) (F : FunD K d_33.name d_33.qual d_33.params d_33.body d_33.scope (d_33.dvs K) (d_33.kws K) (adr K d_33.at_) fd) (fo : FOk (tb.lw K) P w K mg base k c) : FnOk P w K mg base (L2.CX P w) (k + 10) ((tb.lw K).fad 33) ((tb.lw K).fdt 33) ((tb.lw K).fps 33) (spM K (tb.lw K) ((tb.lw K).fps 33).length (fnD 12 (B_33 c))) :=
  fn_rule (N := ["_law_tape", "_law_rows_here", "_law_over", "_law_lattice_here", "_law_dual", "_law_area_here", "_law_first", "_law_second", "_law_other", "_law_member_here", "_law_here", "_law_there"]) (funG_of F rfl rfl rfl) sc_33 fo (fun _ _ _ _ _ _ => rfl) fun X Wx hX G => rb_33 N hX G
theorem sc_34 : FnScope ["_law_tape", "_law_rows_here", "_law_over", "_law_lattice_here", "_law_dual", "_law_one", "_law_other", "_law_number_here", "_law_spot", "_law_form", "_law_first", "_law_second", "_law_whole", "_law_tests", "_law_points"] ["_law_tape", "_law_rows_here", "_law_over", "_law_lattice_here"] (defScope s_34) := ⟨rfl, rfl, rfl, by decide +kernel, rfl, by decide +kernel, by decide +kernel⟩
theorem rb_34 {f : Addr} {X : Cx} {Wx : WX} (N : Nam K mg) (hX : ∃ (cdv : Value) (A : Around) (outer : List Env) (s : Shared) (H : Hp) (E : XK), X = cxOf (L2.CX P w) P w K mg base ["_law_tape", "_law_rows_here", "_law_over", "_law_lattice_here", "_law_dual", "_law_one", "_law_other", "_law_number_here", "_law_spot", "_law_form", "_law_first", "_law_second", "_law_whole", "_law_tests", "_law_points"] d_34.qual (defScope s_34) f cdv A outer s H E) (G : Gd (tb.lw K) X Wx k c) : RSs (tb.lw K) X Wx (defBody s_34) (B_34 c) := by
  obtain ⟨cdv, A, outer, s, H, E, rfl⟩ := hX
  exact (rss_cons (sv 4 G (re_meth0 (i := 48) G (ev 3))) (rss_cons (rs_asg (re_meth0 (i := 51) G (ev 4)) (gt G (rgs_cons (gv 5 G) (rgs_cons (gv 6 G) rgs_nil)))) (rss_cons (sv 7 G (re_call (i := 11) G rfl rfl N.g__law_pick (ra_cons (ev 0) (ra_cons (re_lst (ra_cons re_int (ra_cons re_int (ra_cons re_int (ra_cons re_int (ra_cons (re_bin (r2_bin G .Add) re_int (re_call (i := 14) G rfl rfl N.g__law_size (ra_cons (ev 0) (ra_cons re_int ra_nil)))) ra_nil)))))) ra_nil)))) (rss_cons (sv 8 G (re_bin (r2_bin G .Mult) (re_bin (r2_bin G .Add) (re_bin (r2_bin G .Mult) (re_call (i := 15) G rfl rfl N.g__law_number (ra_cons (ev 0) (ra_cons re_int ra_nil))) (ev 5)) (re_bin (r2_bin G .Mult) (re_call (i := 15) G rfl rfl N.g__law_number (ra_cons (ev 0) (ra_cons re_int ra_nil))) (ev 6))) (re_mk (i := 0) (f := 37) G rfl rfl N.g_Ratio (ra_cons re_int (ra_cons (ev 7) ra_nil))))) (rss_cons (sv 9 G (re_mk (i := 2) (f := 68) G rfl rfl N.g_Form (ra_cons (re_fld (g := 42) G (ev 8)) (ra_cons (re_fld (g := 43) G (ev 8)) ra_nil)))) (rss_cons (pr2 10 11 G (ra_cons (re_call (i := 21) G rfl rfl N.g__law_point (ra_cons (re_ix G (ev 1) re_int) (ra_cons (ev 2) ra_nil))) (ra_cons (re_call (i := 21) G rfl rfl N.g__law_point (ra_cons (re_ix G (ev 1) re_int) (ra_cons (ev 2) ra_nil))) ra_nil))) (rss_cons (sv 12 G (re_and (rtv_tru G) (re_cmp (r2_eq G) (re_fld (g := 41) G (re_callI G (ev 9) (ra_cons (ev 10) ra_nil))) re_int rfl) (re_one (re_cmp (r2_eq G) (re_fld (g := 41) G (re_callI G (ev 9) (ra_cons (ev 11) ra_nil))) re_int rfl)))) (rss_cons (rs_if (RW.rt (rw_or (rt_not (rt_of (rtv_tru G) (re_call (i := 17) G rfl rfl N.g__law_truth (ra_cons (re_cmp (r2_inoY G) (ev 8) (ev 4) rfl) (ra_cons (ev 12) ra_nil))))) (rw_or1 (rt_not (rt_cmp (rtv_tru G) (r2_eq G) (re_call (i := 6) G rfl rfl N.g_value_at (ra_cons (ev 9) (ra_cons (ev 10) ra_nil))) (re_callI G (ev 9) (ra_cons (ev 10) ra_nil)) rfl))))) (rss_one (rs_ret re_bl)) rss_nil) (rss_cons (sv 13 G (re_meth0 (i := 53) G (ev 3))) (rss_cons (rs_setLc (i := 14) G rfl rfl (sw_true rfl rfl rfl rfl) (ri_seq (ev 13)) (blkOk_by (own := [("_law_one", 5)]) (by kernel_rfl)) (fun s1 H1 C1 cl1 fp1 => (gv 5 (G.blk s1 H1 _ _ fp1))) (fun s1 H1 C1 cl1 fp1 => rts_nil) (fun s1 H1 C1 cl1 fp1 => (re_mk (i := 1) (f := 60) (G.blk s1 H1 _ _ fp1) rfl rfl N.g_Point (ra_cons (re_fld (g := 42) (G.blk s1 H1 _ _ fp1) (ev 5)) (ra_cons (re_fld (g := 43) (G.blk s1 H1 _ _ fp1) (ev 5)) ra_nil)))) (by decide)) (rss_one (rs_ret (re_cmp (r2_eq G) (re_mk (i := 3) (f := 76) G rfl rfl N.g_Lattice (ra_cons (ev 14) ra_nil)) (ev 4) rfl)))))))))))))
theorem ok_34 {fd : FuncData} (N : Nam K mg) (F : FunD K d_34.name d_34.qual d_34.params d_34.body d_34.scope (d_34.dvs K) (d_34.kws K) (adr K d_34.at_) fd) (fo : FOk (tb.lw K) P w K mg base k c) : FnOk P w K mg base (L2.CX P w) (k + 10) ((tb.lw K).fad 34) ((tb.lw K).fdt 34) ((tb.lw K).fps 34) (spM K (tb.lw K) ((tb.lw K).fps 34).length (fnD 15 (B_34 c))) :=
  fn_rule (N := ["_law_tape", "_law_rows_here", "_law_over", "_law_lattice_here", "_law_dual", "_law_one", "_law_other", "_law_number_here", "_law_spot", "_law_form", "_law_first", "_law_second", "_law_whole", "_law_tests", "_law_points"]) (funG_of F rfl rfl rfl) sc_34 fo (fun _ _ _ _ _ _ => rfl) fun X Wx hX G => rb_34 N hX G
theorem sc_35 : FnScope ["_law_one", "_law_other", "_law_factor", "_law_left", "_law_right"] ["_law_one", "_law_other", "_law_factor"] (defScope s_35) := ⟨rfl, rfl, rfl, by decide +kernel, rfl, by decide +kernel, by decide +kernel⟩
theorem rb_35 {f : Addr} {X : Cx} {Wx : WX} (N : Nam K mg) (hX : ∃ (cdv : Value) (A : Around) (outer : List Env) (s : Shared) (H : Hp) (E : XK), X = cxOf (L2.CX P w) P w K mg base ["_law_one", "_law_other", "_law_factor", "_law_left", "_law_right"] d_35.qual (defScope s_35) f cdv A outer s H E) (G : Gd (tb.lw K) X Wx k c) : RSs (tb.lw K) X Wx (defBody s_35) (B_35 c) := by
  obtain ⟨cdv, A, outer, s, H, E, rfl⟩ := hX
  exact (rss_cons (pr2 3 4 G (ra_cons (re_meth0 (i := 48) G (ev 0)) (ra_cons (re_meth0 (i := 48) G (ev 1)) ra_nil))) (rss_cons (rs_if (RW.rt (rw_or (rt_not (rt_cmp (rtv_tru G) (r2_eq G) (re_meth0 (i := 48) G (re_bin (r2_bin G .Add) (ev 0) (ev 1))) (re_bin (r2_bin G .BitAnd) (ev 3) (ev 4)) rfl)) (rw_or1 (rt_not (rt_cmp (rtv_tru G) (r2_eq G) (re_meth0 (i := 48) G (re_bin (r2_bin G .BitAnd) (ev 0) (ev 1))) (re_bin (r2_bin G .Add) (ev 3) (ev 4)) rfl))))) (rss_one (rs_ret re_bl)) rss_nil) (rss_cons (rs_if (RW.rt (rw_or (rt_not (rt_of (rtv_tru G) (re_call (i := 17) G rfl rfl N.g__law_truth (ra_cons (re_cmp (r2_ord G .LtE) (ev 0) (ev 1) rfl) (ra_cons (re_cmp (r2_ord G .LtE) (ev 4) (ev 3) rfl) ra_nil))))) (rw_or1 (rt_not (rt_of (rtv_tru G) (re_call (i := 17) G rfl rfl N.g__law_truth (ra_cons (re_cmp (r2_ord G .LtE) (ev 1) (ev 0) rfl) (ra_cons (re_cmp (r2_ord G .LtE) (ev 3) (ev 4) rfl) ra_nil)))))))) (rss_one (rs_ret re_bl)) rss_nil) (rss_one (rs_ret (re_cmp (r2_eq G) (re_meth0 (i := 48) G (re_bin (r2_bin G .Mult) (ev 0) (ev 2))) (re_bin (r2_bin G .Mult) (ev 3) (re_meth (i := 50) G (ev 2) (ra_cons (re_bin (r2_bin G .Mult) (ev 2) (ev 2)) ra_nil))) rfl))))))
theorem ok_35 {fd : FuncData} (N : Nam K mg) (F : FunD K d_35.name d_35.qual d_35.params d_35.body d_35.scope (d_35.dvs K) (d_35.kws K) (adr K d_35.at_) fd) (fo : FOk (tb.lw K) P w K mg base k c) : FnOk P w K mg base (L2.CX P w) (k + 10) ((tb.lw K).fad 35) ((tb.lw K).fdt 35) ((tb.lw K).fps 35) (spM K (tb.lw K) ((tb.lw K).fps 35).length (fnD 5 (B_35 c))) :=
  fn_rule (N := ["_law_one", "_law_other", "_law_factor", "_law_left", "_law_right"]) (funG_of F rfl rfl rfl) sc_35 fo (fun _ _ _ _ _ _ => rfl) fun X Wx hX G => rb_35 N hX G
theorem sc_36 : FnScope ["_law_script", "_law_tape", "_law_over", "_law_above", "_law_rows_here", "_law_others", "_law_sort", "_law_one", "_law_other", "_law_factor"] ["_law_script"] (defScope s_36) := ⟨rfl, rfl, rfl, by decide +kernel, rfl, by decide +kernel, by decide +kernel⟩
theorem rb_36 {f : Addr} {X : Cx} {Wx : WX} (N : Nam K mg) (hX : ∃ (cdv : Value) (A : Around) (outer : List Env) (s : Shared) (H : Hp) (E : XK), X = cxOf (L2.CX P w) P w K mg base ["_law_script", "_law_tape", "_law_over", "_law_above", "_law_rows_here", "_law_others", "_law_sort", "_law_one", "_law_other", "_law_factor"] d_36.qual (defScope s_36) f cdv A outer s H E) (G : Gd (tb.lw K) X Wx k c) : RSs (tb.lw K) X Wx (defBody s_36) (B_36 c) := by
  obtain ⟨cdv, A, outer, s, H, E, rfl⟩ := hX
  exact (rss_cons (sv 1 G (re_call (i := 9) G rfl rfl N.g__law_begin (ra_cons (ev 0) ra_nil))) (rss_cons (pr2 2 3 G (ra_cons (re_bin (r2_bin G .Add) re_int (re_call (i := 14) G rfl rfl N.g__law_size (ra_cons (ev 1) (ra_cons re_int ra_nil)))) (ra_cons (re_bin (r2_bin G .Add) re_int (re_call (i := 14) G rfl rfl N.g__law_size (ra_cons (ev 1) (ra_cons re_int ra_nil)))) ra_nil))) (rss_cons (pr2 4 5 G (ra_cons (re_call (i := 24) G rfl rfl N.g__law_rows (ra_cons (ev 1) (ra_cons (re_fnv (i := 31) rfl rfl N.g__law_middle) ra_nil))) (ra_cons (re_call (i := 24) G rfl rfl N.g__law_rows (ra_cons (ev 1) (ra_cons (re_call (i := 11) G rfl rfl N.g__law_pick (ra_cons (ev 1) (ra_cons (re_lst (ra_cons (re_fnv (i := 25) rfl rfl N.g__law_small) (ra_cons (re_fnv (i := 31) rfl rfl N.g__law_middle) ra_nil))) ra_nil))) ra_nil))) ra_nil))) (rss_cons (sv 6 G (re_call (i := 10) G rfl rfl N.g__law_draw (ra_cons (ev 1) (ra_cons re_int ra_nil)))) (rss_cons (rs_if (rt_cmp (rtv_tru G) (r2_eq G) (ev 6) re_int rfl) (rss_one (sv 5 G (re_lst (ra_cons (re_call (i := 29) G rfl rfl N.g__law_plus (ra_cons (re_call (i := 30) G rfl rfl N.g__law_times (ra_cons re_int (ra_cons (re_ix G (ev 4) re_int) ra_nil))) (ra_cons (re_ix G (ev 4) re_int) ra_nil))) (ra_cons (re_call (i := 30) G rfl rfl N.g__law_times (ra_cons (re_bin (r2_bin G .Add) re_int (re_call (i := 10) G rfl rfl N.g__law_draw (ra_cons (ev 1) (ra_cons re_int ra_nil)))) (ra_cons (re_ix G (ev 4) re_int) ra_nil))) ra_nil))))) rss_nil) (rss_cons (rs_if (rt_cmp (rtv_tru G) (r2_eq G) (ev 6) re_int rfl) (rss_cons (sv 5 G (re_lst (ra_cons (re_call (i := 30) G rfl rfl N.g__law_times (ra_cons (re_bin (r2_bin G .Add) re_int (re_call (i := 10) G rfl rfl N.g__law_draw (ra_cons (ev 1) (ra_cons re_int ra_nil)))) (ra_cons (re_ix G (ev 4) re_int) ra_nil))) (ra_cons (re_call (i := 30) G rfl rfl N.g__law_times (ra_cons (re_bin (r2_bin G .Add) re_int (re_call (i := 10) G rfl rfl N.g__law_draw (ra_cons (ev 1) (ra_cons re_int ra_nil)))) (ra_cons (re_ix G (ev 4) re_int) ra_nil))) ra_nil)))) (rss_one (sv 3 G re_int))) rss_nil) (rss_cons (pr2 7 8 G (ra_cons (re_call (i := 26) G rfl rfl N.g__law_lattice (ra_cons (ev 4) (ra_cons (ev 2) ra_nil))) (ra_cons (re_call (i := 26) G rfl rfl N.g__law_lattice (ra_cons (ev 5) (ra_cons (re_bin (r2_bin G .Mult) (ev 2) (ev 3)) ra_nil))) ra_nil))) (rss_cons (rs_if (RW.rt (rw_or (rt_not (rt_of (rtv_tru G) (re_call (i := 33) G rfl rfl N.g__law_dual_right (ra_cons (ev 1) (ra_cons (ev 4) (ra_cons (ev 2) (ra_cons (ev 7) ra_nil))))))) (rw_or1 (rt_not (rt_of (rtv_tru G) (re_call (i := 33) G rfl rfl N.g__law_dual_right (ra_cons (ev 1) (ra_cons (ev 5) (ra_cons (re_bin (r2_bin G .Mult) (ev 2) (ev 3)) (ra_cons (ev 8) ra_nil)))))))))) (rss_one (rs_ret re_bl)) rss_nil) (rss_cons (rs_if (RW.rt (rw_or (rt_not (rt_of (rtv_tru G) (re_call (i := 34) G rfl rfl N.g__law_forms_right (ra_cons (ev 1) (ra_cons (ev 4) (ra_cons (ev 2) (ra_cons (ev 7) ra_nil))))))) (rw_or1 (rt_not (rt_of (rtv_tru G) (re_call (i := 34) G rfl rfl N.g__law_forms_right (ra_cons (ev 1) (ra_cons (ev 5) (ra_cons (re_bin (r2_bin G .Mult) (ev 2) (ev 3)) (ra_cons (ev 8) ra_nil)))))))))) (rss_one (rs_ret re_bl)) rss_nil) (rss_cons (sv 9 G (re_mk (i := 0) (f := 37) G rfl rfl N.g_Ratio (ra_cons (re_bin (r2_bin G .Mult) (re_call (i := 11) G rfl rfl N.g__law_pick (ra_cons (ev 1) (ra_cons (re_lst (ra_cons re_int (ra_cons (re_un (r1_neg G) re_int) ra_nil))) ra_nil))) (re_bin (r2_bin G .Add) re_int (re_call (i := 14) G rfl rfl N.g__law_size (ra_cons (ev 1) (ra_cons re_int ra_nil))))) (ra_cons (re_bin (r2_bin G .Add) re_int (re_call (i := 14) G rfl rfl N.g__law_size (ra_cons (ev 1) (ra_cons re_int ra_nil)))) ra_nil)))) (rss_cons (rs_if (RW.rt (rw_or (rt_not (rt_of (rtv_tru G) (re_call (i := 35) G rfl rfl N.g__law_two_right (ra_cons (ev 7) (ra_cons (ev 8) (ra_cons (ev 9) ra_nil)))))) (rw_or1 (rt_not (rt_of (rtv_tru G) (re_call (i := 35) G rfl rfl N.g__law_two_right (ra_cons (ev 8) (ra_cons (ev 7) (ra_cons (ev 9) ra_nil))))))))) (rss_one (rs_ret re_bl)) rss_nil) (rss_one (rs_ret (re_and (rtv_tru G) (re_call (i := 27) G rfl rfl N.g__law_is_lattice (ra_cons (ev 7) (ra_cons (ev 4) (ra_cons (ev 2) ra_nil)))) (re_one (re_call (i := 27) G rfl rfl N.g__law_is_lattice (ra_cons (ev 8) (ra_cons (ev 5) (ra_cons (re_bin (r2_bin G .Mult) (ev 2) (ev 3)) ra_nil)))))))))))))))))))
theorem ok_36 {fd : FuncData} (N : Nam K mg) (F : FunD K d_36.name d_36.qual d_36.params d_36.body d_36.scope (d_36.dvs K) (d_36.kws K) (adr K d_36.at_) fd) (fo : FOk (tb.lw K) P w K mg base k c) : FnOk P w K mg base (L2.CX P w) (k + 10) ((tb.lw K).fad 36) ((tb.lw K).fdt 36) ((tb.lw K).fps 36) (spM K (tb.lw K) ((tb.lw K).fps 36).length (fnD 10 (B_36 c))) :=
  fn_rule (N := ["_law_script", "_law_tape", "_law_over", "_law_above", "_law_rows_here", "_law_others", "_law_sort", "_law_one", "_law_other", "_law_factor"]) (funG_of F rfl rfl rfl) sc_36 fo (fun _ _ _ _ _ _ => rfl) fun X Wx hX G => rb_36 N hX G
theorem sc_37 : FnScope ["self", "top", "bottom", "value", "common"] ["self", "top", "bottom"] (defScope s_37) := ⟨rfl, rfl, rfl, by decide +kernel, rfl, by decide +kernel, by decide +kernel⟩
theorem rb_37 {f : Addr} {X : Cx} {Wx : WX} (N : Nam K mg) (hX : ∃ (cdv : Value) (A : Around) (outer : List Env) (s : Shared) (H : Hp) (E : XK), X = cxOf (L2.CX P w) P w K mg base ["self", "top", "bottom", "value", "common"] d_37.qual (defScope s_37) f cdv A outer s H E) (G : Gd (tb.lw K) X Wx k c) : RSs (tb.lw K) X Wx (defBody s_37) (B_37 c) := by
  obtain ⟨cdv, A, outer, s, H, E, rfl⟩ := hX
  exact (rss_cons (rs_for G.po G.calm (ri_seq (re_tup (ra_cons (ev 1) (ra_cons (ev 2) ra_nil)))) (gv 3 G) (rss_one (rs_if (RW.rt (rw_or (rt_not (rt_of (rtv_tru G) (re_ist (t := "int") G (by decide) (ev 3) rfl N.b_isinstance rfl N.b_int bb_int))) (rw_or1 (rt_of (rtv_tru G) (re_ist (t := "bool") G (by decide) (ev 3) rfl N.b_isinstance rfl N.b_bool bb_bool))))) (rss_one rs_no) rss_nil))) (rss_cons (rs_if (rt_cmp (rtv_tru G) (r2_eq G) (ev 2) re_int rfl) (rss_one rs_no) rss_nil) (rss_cons (sv 4 G (re_call (i := 1) G rfl rfl N.g_gcd_of (ra_cons (ev 1) (ra_cons (ev 2) ra_nil)))) (rss_cons (rs_if (rt_cmp (rtv_tru G) (r2_ord G .Lt) (ev 2) re_int rfl) (rss_one (sv 4 G (re_un (r1_neg G) (ev 4)))) rss_nil) (rss_cons (rs_fld (g := 40) G (ev 0) (re_bin (r2_bin G .FloorDiv) (ev 1) (ev 4))) (rss_one (rs_fld (g := 41) G (ev 0) (re_bin (r2_bin G .FloorDiv) (ev 2) (ev 4)))))))))
theorem ok_37 {fd : FuncData} (N : Nam K mg) (F : FunD K d_37.name d_37.qual d_37.params d_37.body d_37.scope (d_37.dvs K) (d_37.kws K) (adr K d_37.at_) fd) (fo : FOk (tb.lw K) P w K mg base k c) : FnOk P w K mg base (L2.CX P w) (k + 10) ((tb.lw K).fad 37) ((tb.lw K).fdt 37) ((tb.lw K).fps 37) (spM K (tb.lw K) ((tb.lw K).fps 37).length (fnD 5 (B_37 c))) :=
  fn_rule (N := ["self", "top", "bottom", "value", "common"]) (funG_of F rfl rfl rfl) sc_37 fo (fun _ _ _ _ _ _ => rfl) fun X Wx hX G => rb_37 N hX G
theorem sc_38 : FnScope ["self", "other"] ["self", "other"] (defScope s_38) := ⟨rfl, rfl, rfl, by decide +kernel, rfl, by decide +kernel, by decide +kernel⟩
theorem rb_38 {f : Addr} {X : Cx} {Wx : WX} (N : Nam K mg) (hX : ∃ (cdv : Value) (A : Around) (outer : List Env) (s : Shared) (H : Hp) (E : XK), X = cxOf (L2.CX P w) P w K mg base ["self", "other"] d_38.qual (defScope s_38) f cdv A outer s H E) (G : Gd (tb.lw K) X Wx k c) : RSs (tb.lw K) X Wx (defBody s_38) (B_38 c) := by
  obtain ⟨cdv, A, outer, s, H, E, rfl⟩ := hX
  exact (rss_cons (rs_if (rt_not (rt_of (rtv_tru G) (re_call (i := 0) G rfl rfl N.g_is_number (ra_cons (ev 1) ra_nil)))) (rss_one (rs_ret re_bl)) rss_nil) (rss_cons (sv 1 G (re_call (i := 5) G rfl rfl N.g_ratio_of (ra_cons (ev 1) ra_nil))) (rss_one (rs_ret (re_and (rtv_tru G) (re_cmp (r2_eq G) (re_fld (g := 40) G (ev 0)) (re_fld (g := 40) G (ev 1)) rfl) (re_one (re_cmp (r2_eq G) (re_fld (g := 41) G (ev 0)) (re_fld (g := 41) G (ev 1)) rfl)))))))
theorem ok_38 {fd : FuncData} (N : Nam K mg) (F : FunD K d_38.name d_38.qual d_38.params d_38.body d_38.scope (d_38.dvs K) (d_38.kws K) (adr K d_38.at_) fd) (fo : FOk (tb.lw K) P w K mg base k c) : FnOk P w K mg base (L2.CX P w) (k + 10) ((tb.lw K).fad 38) ((tb.lw K).fdt 38) ((tb.lw K).fps 38) (spM K (tb.lw K) ((tb.lw K).fps 38).length (fnD 2 (B_38 c))) :=
  fn_rule (N := ["self", "other"]) (funG_of F rfl rfl rfl) sc_38 fo (fun _ _ _ _ _ _ => rfl) fun X Wx hX G => rb_38 N hX G
theorem sc_39 : FnScope ["self", "other"] ["self", "other"] (defScope s_39) := ⟨rfl, rfl, rfl, by decide +kernel, rfl, by decide +kernel, by decide +kernel⟩
theorem rb_39 {f : Addr} {X : Cx} {Wx : WX} (N : Nam K mg) (hX : ∃ (cdv : Value) (A : Around) (outer : List Env) (s : Shared) (H : Hp) (E : XK), X = cxOf (L2.CX P w) P w K mg base ["self", "other"] d_39.qual (defScope s_39) f cdv A outer s H E) (G : Gd (tb.lw K) X Wx k c) : RSs (tb.lw K) X Wx (defBody s_39) (B_39 c) := by
  obtain ⟨cdv, A, outer, s, H, E, rfl⟩ := hX
  exact (rss_cons (rs_if (rt_not (rt_of (rtv_tru G) (re_call (i := 0) G rfl rfl N.g_is_number (ra_cons (ev 1) ra_nil)))) (rss_one rs_no) rss_nil) (rss_cons (sv 1 G (re_call (i := 5) G rfl rfl N.g_ratio_of (ra_cons (ev 1) ra_nil))) (rss_one (rs_ret (re_cmp (r2_ord G .Lt) (re_bin (r2_bin G .Mult) (re_fld (g := 40) G (ev 0)) (re_fld (g := 41) G (ev 1))) (re_bin (r2_bin G .Mult) (re_fld (g := 40) G (ev 1)) (re_fld (g := 41) G (ev 0))) rfl)))))
theorem ok_39 {fd : FuncData} (N : Nam K mg) (F : FunD K d_39.name d_39.qual d_39.params d_39.body d_39.scope (d_39.dvs K) (d_39.kws K) (adr K d_39.at_) fd) (fo : FOk (tb.lw K) P w K mg base k c) : FnOk P w K mg base (L2.CX P w) (k + 10) ((tb.lw K).fad 39) ((tb.lw K).fdt 39) ((tb.lw K).fps 39) (spM K (tb.lw K) ((tb.lw K).fps 39).length (fnD 2 (B_39 c))) :=
  fn_rule (N := ["self", "other"]) (funG_of F rfl rfl rfl) sc_39 fo (fun _ _ _ _ _ _ => rfl) fun X Wx hX G => rb_39 N hX G
theorem sc_40 : FnScope ["self", "other"] ["self", "other"] (defScope s_40) := ⟨rfl, rfl, rfl, by decide +kernel, rfl, by decide +kernel, by decide +kernel⟩
theorem rb_40 {f : Addr} {X : Cx} {Wx : WX} (N : Nam K mg) (hX : ∃ (cdv : Value) (A : Around) (outer : List Env) (s : Shared) (H : Hp) (E : XK), X = cxOf (L2.CX P w) P w K mg base ["self", "other"] d_40.qual (defScope s_40) f cdv A outer s H E) (G : Gd (tb.lw K) X Wx k c) : RSs (tb.lw K) X Wx (defBody s_40) (B_40 c) := by
  obtain ⟨cdv, A, outer, s, H, E, rfl⟩ := hX
  exact (rss_cons (rs_if (rt_not (rt_of (rtv_tru G) (re_call (i := 0) G rfl rfl N.g_is_number (ra_cons (ev 1) ra_nil)))) (rss_one rs_no) rss_nil) (rss_cons (sv 1 G (re_call (i := 5) G rfl rfl N.g_ratio_of (ra_cons (ev 1) ra_nil))) (rss_one (rs_ret (re_cmp (r2_ord G .LtE) (re_bin (r2_bin G .Mult) (re_fld (g := 40) G (ev 0)) (re_fld (g := 41) G (ev 1))) (re_bin (r2_bin G .Mult) (re_fld (g := 40) G (ev 1)) (re_fld (g := 41) G (ev 0))) rfl)))))
theorem ok_40 {fd : FuncData} (N : Nam K mg) (F : FunD K d_40.name d_40.qual d_40.params d_40.body d_40.scope (d_40.dvs K) (d_40.kws K) (adr K d_40.at_) fd) (fo : FOk (tb.lw K) P w K mg base k c) : FnOk P w K mg base (L2.CX P w) (k + 10) ((tb.lw K).fad 40) ((tb.lw K).fdt 40) ((tb.lw K).fps 40) (spM K (tb.lw K) ((tb.lw K).fps 40).length (fnD 2 (B_40 c))) :=
  fn_rule (N := ["self", "other"]) (funG_of F rfl rfl rfl) sc_40 fo (fun _ _ _ _ _ _ => rfl) fun X Wx hX G => rb_40 N hX G
theorem sc_41 : FnScope ["self", "other"] ["self", "other"] (defScope s_41) := ⟨rfl, rfl, rfl, by decide +kernel, rfl, by decide +kernel, by decide +kernel⟩
theorem rb_41 {f : Addr} {X : Cx} {Wx : WX} (N : Nam K mg) (hX : ∃ (cdv : Value) (A : Around) (outer : List Env) (s : Shared) (H : Hp) (E : XK), X = cxOf (L2.CX P w) P w K mg base ["self", "other"] d_41.qual (defScope s_41) f cdv A outer s H E) (G : Gd (tb.lw K) X Wx k c) : RSs (tb.lw K) X Wx (defBody s_41) (B_41 c) := by
  obtain ⟨cdv, A, outer, s, H, E, rfl⟩ := hX
  exact (rss_cons (rs_if (rt_not (rt_of (rtv_tru G) (re_call (i := 0) G rfl rfl N.g_is_number (ra_cons (ev 1) ra_nil)))) (rss_one rs_no) rss_nil) (rss_cons (sv 1 G (re_call (i := 5) G rfl rfl N.g_ratio_of (ra_cons (ev 1) ra_nil))) (rss_one (rs_ret (re_cmp (r2_ord G .Gt) (re_bin (r2_bin G .Mult) (re_fld (g := 40) G (ev 0)) (re_fld (g := 41) G (ev 1))) (re_bin (r2_bin G .Mult) (re_fld (g := 40) G (ev 1)) (re_fld (g := 41) G (ev 0))) rfl)))))
theorem ok_41 {fd : FuncData} (N : Nam K mg) (F : FunD K d_41.name d_41.qual d_41.params d_41.body d_41.scope (d_41.dvs K) (d_41.kws K) (adr K d_41.at_) fd) (fo : FOk (tb.lw K) P w K mg base k c) : FnOk P w K mg base (L2.CX P w) (k + 10) ((tb.lw K).fad 41) ((tb.lw K).fdt 41) ((tb.lw K).fps 41) (spM K (tb.lw K) ((tb.lw K).fps 41).length (fnD 2 (B_41 c))) :=
  fn_rule (N := ["self", "other"]) (funG_of F rfl rfl rfl) sc_41 fo (fun _ _ _ _ _ _ => rfl) fun X Wx hX G => rb_41 N hX G
theorem sc_42 : FnScope ["self", "other"] ["self", "other"] (defScope s_42) := ⟨rfl, rfl, rfl, by decide +kernel, rfl, by decide +kernel, by decide +kernel⟩
theorem rb_42 {f : Addr} {X : Cx} {Wx : WX} (N : Nam K mg) (hX : ∃ (cdv : Value) (A : Around) (outer : List Env) (s : Shared) (H : Hp) (E : XK), X = cxOf (L2.CX P w) P w K mg base ["self", "other"] d_42.qual (defScope s_42) f cdv A outer s H E) (G : Gd (tb.lw K) X Wx k c) : RSs (tb.lw K) X Wx (defBody s_42) (B_42 c) := by
  obtain ⟨cdv, A, outer, s, H, E, rfl⟩ := hX
  exact (rss_cons (rs_if (rt_not (rt_of (rtv_tru G) (re_call (i := 0) G rfl rfl N.g_is_number (ra_cons (ev 1) ra_nil)))) (rss_one rs_no) rss_nil) (rss_cons (sv 1 G (re_call (i := 5) G rfl rfl N.g_ratio_of (ra_cons (ev 1) ra_nil))) (rss_one (rs_ret (re_cmp (r2_ord G .GtE) (re_bin (r2_bin G .Mult) (re_fld (g := 40) G (ev 0)) (re_fld (g := 41) G (ev 1))) (re_bin (r2_bin G .Mult) (re_fld (g := 40) G (ev 1)) (re_fld (g := 41) G (ev 0))) rfl)))))
theorem ok_42 {fd : FuncData} (N : Nam K mg) (F : FunD K d_42.name d_42.qual d_42.params d_42.body d_42.scope (d_42.dvs K) (d_42.kws K) (adr K d_42.at_) fd) (fo : FOk (tb.lw K) P w K mg base k c) : FnOk P w K mg base (L2.CX P w) (k + 10) ((tb.lw K).fad 42) ((tb.lw K).fdt 42) ((tb.lw K).fps 42) (spM K (tb.lw K) ((tb.lw K).fps 42).length (fnD 2 (B_42 c))) :=
  fn_rule (N := ["self", "other"]) (funG_of F rfl rfl rfl) sc_42 fo (fun _ _ _ _ _ _ => rfl) fun X Wx hX G => rb_42 N hX G
theorem sc_43 : FnScope ["self", "other"] ["self", "other"] (defScope s_43) := ⟨rfl, rfl, rfl, by decide +kernel, rfl, by decide +kernel, by decide +kernel⟩
theorem rb_43 {f : Addr} {X : Cx} {Wx : WX} (N : Nam K mg) (hX : ∃ (cdv : Value) (A : Around) (outer : List Env) (s : Shared) (H : Hp) (E : XK), X = cxOf (L2.CX P w) P w K mg base ["self", "other"] d_43.qual (defScope s_43) f cdv A outer s H E) (G : Gd (tb.lw K) X Wx k c) : RSs (tb.lw K) X Wx (defBody s_43) (B_43 c) := by
  obtain ⟨cdv, A, outer, s, H, E, rfl⟩ := hX
  exact (rss_cons (rs_if (rt_not (rt_of (rtv_tru G) (re_call (i := 0) G rfl rfl N.g_is_number (ra_cons (ev 1) ra_nil)))) (rss_one rs_no) rss_nil) (rss_cons (sv 1 G (re_call (i := 5) G rfl rfl N.g_ratio_of (ra_cons (ev 1) ra_nil))) (rss_one (rs_ret (re_mk (i := 0) (f := 37) G rfl rfl N.g_Ratio (ra_cons (re_bin (r2_bin G .Add) (re_bin (r2_bin G .Mult) (re_fld (g := 40) G (ev 0)) (re_fld (g := 41) G (ev 1))) (re_bin (r2_bin G .Mult) (re_fld (g := 40) G (ev 1)) (re_fld (g := 41) G (ev 0)))) (ra_cons (re_bin (r2_bin G .Mult) (re_fld (g := 41) G (ev 0)) (re_fld (g := 41) G (ev 1))) ra_nil)))))))
theorem ok_43 {fd : FuncData} (N : Nam K mg) (F : FunD K d_43.name d_43.qual d_43.params d_43.body d_43.scope (d_43.dvs K) (d_43.kws K) (adr K d_43.at_) fd) (fo : FOk (tb.lw K) P w K mg base k c) : FnOk P w K mg base (L2.CX P w) (k + 10) ((tb.lw K).fad 43) ((tb.lw K).fdt 43) ((tb.lw K).fps 43) (spM K (tb.lw K) ((tb.lw K).fps 43).length (fnD 2 (B_43 c))) :=
  fn_rule (N := ["self", "other"]) (funG_of F rfl rfl rfl) sc_43 fo (fun _ _ _ _ _ _ => rfl) fun X Wx hX G => rb_43 N hX G
theorem sc_44 : FnScope ["self", "other"] ["self", "other"] (defScope s_44) := ⟨rfl, rfl, rfl, by decide +kernel, rfl, by decide +kernel, by decide +kernel⟩
theorem rb_44 {f : Addr} {X : Cx} {Wx : WX} (N : Nam K mg) (hX : ∃ (cdv : Value) (A : Around) (outer : List Env) (s : Shared) (H : Hp) (E : XK), X = cxOf (L2.CX P w) P w K mg base ["self", "other"] d_44.qual (defScope s_44) f cdv A outer s H E) (G : Gd (tb.lw K) X Wx k c) : RSs (tb.lw K) X Wx (defBody s_44) (B_44 c) := by
  obtain ⟨cdv, A, outer, s, H, E, rfl⟩ := hX
  exact (rss_cons (rs_if (rt_not (rt_of (rtv_tru G) (re_call (i := 0) G rfl rfl N.g_is_number (ra_cons (ev 1) ra_nil)))) (rss_one rs_no) rss_nil) (rss_one (rs_ret (re_mk (i := 0) (f := 37) G rfl rfl N.g_Ratio (ra_cons (re_bin (r2_bin G .Add) (re_fld (g := 40) G (ev 0)) (re_bin (r2_bin G .Mult) (ev 1) (re_fld (g := 41) G (ev 0)))) (ra_cons (re_fld (g := 41) G (ev 0)) ra_nil))))))
theorem ok_44 {fd : FuncData} (N : Nam K mg) (F : FunD K d_44.name d_44.qual d_44.params d_44.body d_44.scope (d_44.dvs K) (d_44.kws K) (adr K d_44.at_) fd) (fo : FOk (tb.lw K) P w K mg base k c) : FnOk P w K mg base (L2.CX P w) (k + 10) ((tb.lw K).fad 44) ((tb.lw K).fdt 44) ((tb.lw K).fps 44) (spM K (tb.lw K) ((tb.lw K).fps 44).length (fnD 2 (B_44 c))) :=
  fn_rule (N := ["self", "other"]) (funG_of F rfl rfl rfl) sc_44 fo (fun _ _ _ _ _ _ => rfl) fun X Wx hX G => rb_44 N hX G
theorem sc_45 : FnScope ["self", "other"] ["self", "other"] (defScope s_45) := ⟨rfl, rfl, rfl, by decide +kernel, rfl, by decide +kernel, by decide +kernel⟩
theorem rb_45 {f : Addr} {X : Cx} {Wx : WX} (N : Nam K mg) (hX : ∃ (cdv : Value) (A : Around) (outer : List Env) (s : Shared) (H : Hp) (E : XK), X = cxOf (L2.CX P w) P w K mg base ["self", "other"] d_45.qual (defScope s_45) f cdv A outer s H E) (G : Gd (tb.lw K) X Wx k c) : RSs (tb.lw K) X Wx (defBody s_45) (B_45 c) := by
  obtain ⟨cdv, A, outer, s, H, E, rfl⟩ := hX
  exact (rss_cons (rs_if (rt_not (rt_of (rtv_tru G) (re_call (i := 0) G rfl rfl N.g_is_number (ra_cons (ev 1) ra_nil)))) (rss_one rs_no) rss_nil) (rss_cons (sv 1 G (re_call (i := 5) G rfl rfl N.g_ratio_of (ra_cons (ev 1) ra_nil))) (rss_one (rs_ret (re_mk (i := 0) (f := 37) G rfl rfl N.g_Ratio (ra_cons (re_bin (r2_bin G .Sub) (re_bin (r2_bin G .Mult) (re_fld (g := 40) G (ev 0)) (re_fld (g := 41) G (ev 1))) (re_bin (r2_bin G .Mult) (re_fld (g := 40) G (ev 1)) (re_fld (g := 41) G (ev 0)))) (ra_cons (re_bin (r2_bin G .Mult) (re_fld (g := 41) G (ev 0)) (re_fld (g := 41) G (ev 1))) ra_nil)))))))
theorem ok_45 {fd : FuncData} (N : Nam K mg) (F : FunD K d_45.name d_45.qual d_45.params d_45.body d_45.scope (d_45.dvs K) (d_45.kws K) (adr K d_45.at_) fd) (fo : FOk (tb.lw K) P w K mg base k c) : FnOk P w K mg base (L2.CX P w) (k + 10) ((tb.lw K).fad 45) ((tb.lw K).fdt 45) ((tb.lw K).fps 45) (spM K (tb.lw K) ((tb.lw K).fps 45).length (fnD 2 (B_45 c))) :=
  fn_rule (N := ["self", "other"]) (funG_of F rfl rfl rfl) sc_45 fo (fun _ _ _ _ _ _ => rfl) fun X Wx hX G => rb_45 N hX G
theorem sc_46 : FnScope ["self", "other"] ["self", "other"] (defScope s_46) := ⟨rfl, rfl, rfl, by decide +kernel, rfl, by decide +kernel, by decide +kernel⟩
theorem rb_46 {f : Addr} {X : Cx} {Wx : WX} (N : Nam K mg) (hX : ∃ (cdv : Value) (A : Around) (outer : List Env) (s : Shared) (H : Hp) (E : XK), X = cxOf (L2.CX P w) P w K mg base ["self", "other"] d_46.qual (defScope s_46) f cdv A outer s H E) (G : Gd (tb.lw K) X Wx k c) : RSs (tb.lw K) X Wx (defBody s_46) (B_46 c) := by
  obtain ⟨cdv, A, outer, s, H, E, rfl⟩ := hX
  exact (rss_cons (rs_if (rt_not (rt_of (rtv_tru G) (re_call (i := 0) G rfl rfl N.g_is_number (ra_cons (ev 1) ra_nil)))) (rss_one rs_no) rss_nil) (rss_one (rs_ret (re_mk (i := 0) (f := 37) G rfl rfl N.g_Ratio (ra_cons (re_bin (r2_bin G .Sub) (re_bin (r2_bin G .Mult) (ev 1) (re_fld (g := 41) G (ev 0))) (re_fld (g := 40) G (ev 0))) (ra_cons (re_fld (g := 41) G (ev 0)) ra_nil))))))
theorem ok_46 {fd : FuncData} (N : Nam K mg) (F : FunD K d_46.name d_46.qual d_46.params d_46.body d_46.scope (d_46.dvs K) (d_46.kws K) (adr K d_46.at_) fd) (fo : FOk (tb.lw K) P w K mg base k c) : FnOk P w K mg base (L2.CX P w) (k + 10) ((tb.lw K).fad 46) ((tb.lw K).fdt 46) ((tb.lw K).fps 46) (spM K (tb.lw K) ((tb.lw K).fps 46).length (fnD 2 (B_46 c))) :=
  fn_rule (N := ["self", "other"]) (funG_of F rfl rfl rfl) sc_46 fo (fun _ _ _ _ _ _ => rfl) fun X Wx hX G => rb_46 N hX G
theorem sc_47 : FnScope ["self", "other"] ["self", "other"] (defScope s_47) := ⟨rfl, rfl, rfl, by decide +kernel, rfl, by decide +kernel, by decide +kernel⟩
theorem rb_47 {f : Addr} {X : Cx} {Wx : WX} (N : Nam K mg) (hX : ∃ (cdv : Value) (A : Around) (outer : List Env) (s : Shared) (H : Hp) (E : XK), X = cxOf (L2.CX P w) P w K mg base ["self", "other"] d_47.qual (defScope s_47) f cdv A outer s H E) (G : Gd (tb.lw K) X Wx k c) : RSs (tb.lw K) X Wx (defBody s_47) (B_47 c) := by
  obtain ⟨cdv, A, outer, s, H, E, rfl⟩ := hX
  exact (rss_cons (rs_if (rt_not (rt_of (rtv_tru G) (re_call (i := 0) G rfl rfl N.g_is_number (ra_cons (ev 1) ra_nil)))) (rss_one rs_no) rss_nil) (rss_cons (sv 1 G (re_call (i := 5) G rfl rfl N.g_ratio_of (ra_cons (ev 1) ra_nil))) (rss_one (rs_ret (re_mk (i := 0) (f := 37) G rfl rfl N.g_Ratio (ra_cons (re_bin (r2_bin G .Mult) (re_fld (g := 40) G (ev 0)) (re_fld (g := 40) G (ev 1))) (ra_cons (re_bin (r2_bin G .Mult) (re_fld (g := 41) G (ev 0)) (re_fld (g := 41) G (ev 1))) ra_nil)))))))
theorem ok_47 {fd : FuncData} (N : Nam K mg) (F : FunD K d_47.name d_47.qual d_47.params d_47.body d_47.scope (d_47.dvs K) (d_47.kws K) (adr K d_47.at_) fd) (fo : FOk (tb.lw K) P w K mg base k c) : FnOk P w K mg base (L2.CX P w) (k + 10) ((tb.lw K).fad 47) ((tb.lw K).fdt 47) ((tb.lw K).fps 47) (spM K (tb.lw K) ((tb.lw K).fps 47).length (fnD 2 (B_47 c))) :=
  fn_rule (N := ["self", "other"]) (funG_of F rfl rfl rfl) sc_47 fo (fun _ _ _ _ _ _ => rfl) fun X Wx hX G => rb_47 N hX G
theorem sc_48 : FnScope ["self", "other"] ["self", "other"] (defScope s_48) := ⟨rfl, rfl, rfl, by decide +kernel, rfl, by decide +kernel, by decide +kernel⟩
theorem rb_48 {f : Addr} {X : Cx} {Wx : WX} (N : Nam K mg) (hX : ∃ (cdv : Value) (A : Around) (outer : List Env) (s : Shared) (H : Hp) (E : XK), X = cxOf (L2.CX P w) P w K mg base ["self", "other"] d_48.qual (defScope s_48) f cdv A outer s H E) (G : Gd (tb.lw K) X Wx k c) : RSs (tb.lw K) X Wx (defBody s_48) (B_48 c) := by
  obtain ⟨cdv, A, outer, s, H, E, rfl⟩ := hX
  exact (rss_cons (rs_if (rt_not (rt_of (rtv_tru G) (re_call (i := 0) G rfl rfl N.g_is_number (ra_cons (ev 1) ra_nil)))) (rss_one rs_no) rss_nil) (rss_one (rs_ret (re_mk (i := 0) (f := 37) G rfl rfl N.g_Ratio (ra_cons (re_bin (r2_bin G .Mult) (ev 1) (re_fld (g := 40) G (ev 0))) (ra_cons (re_fld (g := 41) G (ev 0)) ra_nil))))))
theorem ok_48 {fd : FuncData} (N : Nam K mg) (F : FunD K d_48.name d_48.qual d_48.params d_48.body d_48.scope (d_48.dvs K) (d_48.kws K) (adr K d_48.at_) fd) (fo : FOk (tb.lw K) P w K mg base k c) : FnOk P w K mg base (L2.CX P w) (k + 10) ((tb.lw K).fad 48) ((tb.lw K).fdt 48) ((tb.lw K).fps 48) (spM K (tb.lw K) ((tb.lw K).fps 48).length (fnD 2 (B_48 c))) :=
  fn_rule (N := ["self", "other"]) (funG_of F rfl rfl rfl) sc_48 fo (fun _ _ _ _ _ _ => rfl) fun X Wx hX G => rb_48 N hX G
theorem sc_49 : FnScope ["self", "other"] ["self", "other"] (defScope s_49) := ⟨rfl, rfl, rfl, by decide +kernel, rfl, by decide +kernel, by decide +kernel⟩
theorem rb_49 {f : Addr} {X : Cx} {Wx : WX} (N : Nam K mg) (hX : ∃ (cdv : Value) (A : Around) (outer : List Env) (s : Shared) (H : Hp) (E : XK), X = cxOf (L2.CX P w) P w K mg base ["self", "other"] d_49.qual (defScope s_49) f cdv A outer s H E) (G : Gd (tb.lw K) X Wx k c) : RSs (tb.lw K) X Wx (defBody s_49) (B_49 c) := by
  obtain ⟨cdv, A, outer, s, H, E, rfl⟩ := hX
  exact (rss_cons (rs_if (rt_not (rt_of (rtv_tru G) (re_call (i := 0) G rfl rfl N.g_is_number (ra_cons (ev 1) ra_nil)))) (rss_one rs_no) rss_nil) (rss_one (rs_ret (re_meth0 (i := 49) G (re_meth (i := 50) G (ev 0) (ra_cons (ev 1) ra_nil))))))
theorem ok_49 {fd : FuncData} (N : Nam K mg) (F : FunD K d_49.name d_49.qual d_49.params d_49.body d_49.scope (d_49.dvs K) (d_49.kws K) (adr K d_49.at_) fd) (fo : FOk (tb.lw K) P w K mg base k c) : FnOk P w K mg base (L2.CX P w) (k + 10) ((tb.lw K).fad 49) ((tb.lw K).fdt 49) ((tb.lw K).fps 49) (spM K (tb.lw K) ((tb.lw K).fps 49).length (fnD 2 (B_49 c))) :=
  fn_rule (N := ["self", "other"]) (funG_of F rfl rfl rfl) sc_49 fo (fun _ _ _ _ _ _ => rfl) fun X Wx hX G => rb_49 N hX G
theorem sc_50 : FnScope ["self", "other"] ["self", "other"] (defScope s_50) := ⟨rfl, rfl, rfl, by decide +kernel, rfl, by decide +kernel, by decide +kernel⟩
theorem rb_50 {f : Addr} {X : Cx} {Wx : WX} (N : Nam K mg) (hX : ∃ (cdv : Value) (A : Around) (outer : List Env) (s : Shared) (H : Hp) (E : XK), X = cxOf (L2.CX P w) P w K mg base ["self", "other"] d_50.qual (defScope s_50) f cdv A outer s H E) (G : Gd (tb.lw K) X Wx k c) : RSs (tb.lw K) X Wx (defBody s_50) (B_50 c) := by
  obtain ⟨cdv, A, outer, s, H, E, rfl⟩ := hX
  exact (rss_cons (rs_if (rt_not (rt_of (rtv_tru G) (re_call (i := 0) G rfl rfl N.g_is_number (ra_cons (ev 1) ra_nil)))) (rss_one rs_no) rss_nil) (rss_one (rs_ret (re_meth0 (i := 49) G (re_meth (i := 50) G (re_call (i := 5) G rfl rfl N.g_ratio_of (ra_cons (ev 1) ra_nil)) (ra_cons (ev 0) ra_nil))))))
theorem ok_50 {fd : FuncData} (N : Nam K mg) (F : FunD K d_50.name d_50.qual d_50.params d_50.body d_50.scope (d_50.dvs K) (d_50.kws K) (adr K d_50.at_) fd) (fo : FOk (tb.lw K) P w K mg base k c) : FnOk P w K mg base (L2.CX P w) (k + 10) ((tb.lw K).fad 50) ((tb.lw K).fdt 50) ((tb.lw K).fps 50) (spM K (tb.lw K) ((tb.lw K).fps 50).length (fnD 2 (B_50 c))) :=
  fn_rule (N := ["self", "other"]) (funG_of F rfl rfl rfl) sc_50 fo (fun _ _ _ _ _ _ => rfl) fun X Wx hX G => rb_50 N hX G
theorem sc_51 : FnScope ["self", "other", "times"] ["self", "other"] (defScope s_51) := ⟨rfl, rfl, rfl, by decide +kernel, rfl, by decide +kernel, by decide +kernel⟩
theorem rb_51 {f : Addr} {X : Cx} {Wx : WX} (N : Nam K mg) (hX : ∃ (cdv : Value) (A : Around) (outer : List Env) (s : Shared) (H : Hp) (E : XK), X = cxOf (L2.CX P w) P w K mg base ["self", "other", "times"] d_51.qual (defScope s_51) f cdv A outer s H E) (G : Gd (tb.lw K) X Wx k c) : RSs (tb.lw K) X Wx (defBody s_51) (B_51 c) := by
  obtain ⟨cdv, A, outer, s, H, E, rfl⟩ := hX
  exact (rss_cons (rs_if (rt_not (rt_of (rtv_tru G) (re_call (i := 0) G rfl rfl N.g_is_number (ra_cons (ev 1) ra_nil)))) (rss_one rs_no) rss_nil) (rss_cons (sv 2 G (re_meth0 (i := 49) G (re_meth (i := 50) G (ev 0) (ra_cons (ev 1) ra_nil)))) (rss_one (rs_ret (re_bin (r2_bin G .Sub) (ev 0) (re_bin (r2_bin G .Mult) (ev 2) (re_call (i := 5) G rfl rfl N.g_ratio_of (ra_cons (ev 1) ra_nil))))))))
theorem ok_51 {fd : FuncData} (N : Nam K mg) (F : FunD K d_51.name d_51.qual d_51.params d_51.body d_51.scope (d_51.dvs K) (d_51.kws K) (adr K d_51.at_) fd) (fo : FOk (tb.lw K) P w K mg base k c) : FnOk P w K mg base (L2.CX P w) (k + 10) ((tb.lw K).fad 51) ((tb.lw K).fdt 51) ((tb.lw K).fps 51) (spM K (tb.lw K) ((tb.lw K).fps 51).length (fnD 3 (B_51 c))) :=
  fn_rule (N := ["self", "other", "times"]) (funG_of F rfl rfl rfl) sc_51 fo (fun _ _ _ _ _ _ => rfl) fun X Wx hX G => rb_51 N hX G
theorem sc_52 : FnScope ["self", "other", "times"] ["self", "other"] (defScope s_52) := ⟨rfl, rfl, rfl, by decide +kernel, rfl, by decide +kernel, by decide +kernel⟩
theorem rb_52 {f : Addr} {X : Cx} {Wx : WX} (N : Nam K mg) (hX : ∃ (cdv : Value) (A : Around) (outer : List Env) (s : Shared) (H : Hp) (E : XK), X = cxOf (L2.CX P w) P w K mg base ["self", "other", "times"] d_52.qual (defScope s_52) f cdv A outer s H E) (G : Gd (tb.lw K) X Wx k c) : RSs (tb.lw K) X Wx (defBody s_52) (B_52 c) := by
  obtain ⟨cdv, A, outer, s, H, E, rfl⟩ := hX
  exact (rss_cons (rs_if (rt_not (rt_of (rtv_tru G) (re_call (i := 0) G rfl rfl N.g_is_number (ra_cons (ev 1) ra_nil)))) (rss_one rs_no) rss_nil) (rss_cons (sv 2 G (re_meth0 (i := 49) G (re_meth (i := 50) G (re_call (i := 5) G rfl rfl N.g_ratio_of (ra_cons (ev 1) ra_nil)) (ra_cons (ev 0) ra_nil)))) (rss_one (rs_ret (re_bin (r2_bin G .Sub) (ev 1) (re_bin (r2_bin G .Mult) (ev 2) (ev 0)))))))
theorem ok_52 {fd : FuncData} (N : Nam K mg) (F : FunD K d_52.name d_52.qual d_52.params d_52.body d_52.scope (d_52.dvs K) (d_52.kws K) (adr K d_52.at_) fd) (fo : FOk (tb.lw K) P w K mg base k c) : FnOk P w K mg base (L2.CX P w) (k + 10) ((tb.lw K).fad 52) ((tb.lw K).fdt 52) ((tb.lw K).fps 52) (spM K (tb.lw K) ((tb.lw K).fps 52).length (fnD 3 (B_52 c))) :=
  fn_rule (N := ["self", "other", "times"]) (funG_of F rfl rfl rfl) sc_52 fo (fun _ _ _ _ _ _ => rfl) fun X Wx hX G => rb_52 N hX G
theorem sc_53 : FnScope ["self", "other"] ["self", "other"] (defScope s_53) := ⟨rfl, rfl, rfl, by decide +kernel, rfl, by decide +kernel, by decide +kernel⟩
theorem rb_53 {f : Addr} {X : Cx} {Wx : WX} (N : Nam K mg) (hX : ∃ (cdv : Value) (A : Around) (outer : List Env) (s : Shared) (H : Hp) (E : XK), X = cxOf (L2.CX P w) P w K mg base ["self", "other"] d_53.qual (defScope s_53) f cdv A outer s H E) (G : Gd (tb.lw K) X Wx k c) : RSs (tb.lw K) X Wx (defBody s_53) (B_53 c) := by
  obtain ⟨cdv, A, outer, s, H, E, rfl⟩ := hX
  exact (rss_cons (rs_if (RW.rt (rw_or (rt_not (rt_of (rtv_tru G) (re_ist (t := "int") G (by decide) (ev 1) rfl N.b_isinstance rfl N.b_int bb_int))) (rw_or1 (rt_of (rtv_tru G) (re_ist (t := "bool") G (by decide) (ev 1) rfl N.b_isinstance rfl N.b_bool bb_bool))))) (rss_one rs_no) rss_nil) (rss_one (rs_ret (re_mk (i := 0) (f := 37) G rfl rfl N.g_Ratio (ra_cons (re_call (i := 4) G rfl rfl N.g_raised (ra_cons (re_fld (g := 40) G (ev 0)) (ra_cons (ev 1) ra_nil))) (ra_cons (re_call (i := 4) G rfl rfl N.g_raised (ra_cons (re_fld (g := 41) G (ev 0)) (ra_cons (ev 1) ra_nil))) ra_nil))))))
theorem ok_53 {fd : FuncData} (N : Nam K mg) (F : FunD K d_53.name d_53.qual d_53.params d_53.body d_53.scope (d_53.dvs K) (d_53.kws K) (adr K d_53.at_) fd) (fo : FOk (tb.lw K) P w K mg base k c) : FnOk P w K mg base (L2.CX P w) (k + 10) ((tb.lw K).fad 53) ((tb.lw K).fdt 53) ((tb.lw K).fps 53) (spM K (tb.lw K) ((tb.lw K).fps 53).length (fnD 2 (B_53 c))) :=
  fn_rule (N := ["self", "other"]) (funG_of F rfl rfl rfl) sc_53 fo (fun _ _ _ _ _ _ => rfl) fun X Wx hX G => rb_53 N hX G
theorem sc_54 : FnScope ["self"] ["self"] (defScope s_54) := ⟨rfl, rfl, rfl, by decide +kernel, rfl, by decide +kernel, by decide +kernel⟩
theorem rb_54 {f : Addr} {X : Cx} {Wx : WX} (N : Nam K mg) (hX : ∃ (cdv : Value) (A : Around) (outer : List Env) (s : Shared) (H : Hp) (E : XK), X = cxOf (L2.CX P w) P w K mg base ["self"] d_54.qual (defScope s_54) f cdv A outer s H E) (G : Gd (tb.lw K) X Wx k c) : RSs (tb.lw K) X Wx (defBody s_54) (B_54 c) := by
  obtain ⟨cdv, A, outer, s, H, E, rfl⟩ := hX
  exact (rss_one (rs_ret (re_mk (i := 0) (f := 37) G rfl rfl N.g_Ratio (ra_cons (re_un (r1_neg G) (re_fld (g := 40) G (ev 0))) (ra_cons (re_fld (g := 41) G (ev 0)) ra_nil)))))
theorem ok_54 {fd : FuncData} (N : Nam K mg) (F : FunD K d_54.name d_54.qual d_54.params d_54.body d_54.scope (d_54.dvs K) (d_54.kws K) (adr K d_54.at_) fd) (fo : FOk (tb.lw K) P w K mg base k c) : FnOk P w K mg base (L2.CX P w) (k + 10) ((tb.lw K).fad 54) ((tb.lw K).fdt 54) ((tb.lw K).fps 54) (spM K (tb.lw K) ((tb.lw K).fps 54).length (fnD 1 (B_54 c))) :=
  fn_rule (N := ["self"]) (funG_of F rfl rfl rfl) sc_54 fo (fun _ _ _ _ _ _ => rfl) fun X Wx hX G => rb_54 N hX G
theorem sc_55 : FnScope ["self"] ["self"] (defScope s_55) := ⟨rfl, rfl, rfl, by decide +kernel, rfl, by decide +kernel, by decide +kernel⟩
theorem rb_55 {f : Addr} {X : Cx} {Wx : WX} (N : Nam K mg) (hX : ∃ (cdv : Value) (A : Around) (outer : List Env) (s : Shared) (H : Hp) (E : XK), X = cxOf (L2.CX P w) P w K mg base ["self"] d_55.qual (defScope s_55) f cdv A outer s H E) (G : Gd (tb.lw K) X Wx k c) : RSs (tb.lw K) X Wx (defBody s_55) (B_55 c) := by
  obtain ⟨cdv, A, outer, s, H, E, rfl⟩ := hX
  exact (rss_one (rs_ret (re_mk (i := 0) (f := 37) G rfl rfl N.g_Ratio (ra_cons (re_bfn (rc_abs) rfl N.b_abs bb_abs (ra_cons (re_fld (g := 40) G (ev 0)) ra_nil)) (ra_cons (re_fld (g := 41) G (ev 0)) ra_nil)))))
theorem ok_55 {fd : FuncData} (N : Nam K mg) (F : FunD K d_55.name d_55.qual d_55.params d_55.body d_55.scope (d_55.dvs K) (d_55.kws K) (adr K d_55.at_) fd) (fo : FOk (tb.lw K) P w K mg base k c) : FnOk P w K mg base (L2.CX P w) (k + 10) ((tb.lw K).fad 55) ((tb.lw K).fdt 55) ((tb.lw K).fps 55) (spM K (tb.lw K) ((tb.lw K).fps 55).length (fnD 1 (B_55 c))) :=
  fn_rule (N := ["self"]) (funG_of F rfl rfl rfl) sc_55 fo (fun _ _ _ _ _ _ => rfl) fun X Wx hX G => rb_55 N hX G
theorem sc_56 : FnScope ["self"] ["self"] (defScope s_56) := ⟨rfl, rfl, rfl, by decide +kernel, rfl, by decide +kernel, by decide +kernel⟩
theorem rb_56 {f : Addr} {X : Cx} {Wx : WX} (N : Nam K mg) (hX : ∃ (cdv : Value) (A : Around) (outer : List Env) (s : Shared) (H : Hp) (E : XK), X = cxOf (L2.CX P w) P w K mg base ["self"] d_56.qual (defScope s_56) f cdv A outer s H E) (G : Gd (tb.lw K) X Wx k c) : RSs (tb.lw K) X Wx (defBody s_56) (B_56 c) := by
  obtain ⟨cdv, A, outer, s, H, E, rfl⟩ := hX
  exact (rss_one (rs_ret (re_bty (rc_bool G) rfl N.b_bool bb_bool (ra_cons (re_fld (g := 40) G (ev 0)) ra_nil))))
theorem ok_56 {fd : FuncData} (N : Nam K mg) (F : FunD K d_56.name d_56.qual d_56.params d_56.body d_56.scope (d_56.dvs K) (d_56.kws K) (adr K d_56.at_) fd) (fo : FOk (tb.lw K) P w K mg base k c) : FnOk P w K mg base (L2.CX P w) (k + 10) ((tb.lw K).fad 56) ((tb.lw K).fdt 56) ((tb.lw K).fps 56) (spM K (tb.lw K) ((tb.lw K).fps 56).length (fnD 1 (B_56 c))) :=
  fn_rule (N := ["self"]) (funG_of F rfl rfl rfl) sc_56 fo (fun _ _ _ _ _ _ => rfl) fun X Wx hX G => rb_56 N hX G
theorem sc_57 : FnScope ["self", "number", "other"] ["self", "number"] (defScope s_57) := ⟨rfl, rfl, rfl, by decide +kernel, rfl, by decide +kernel, by decide +kernel⟩
theorem rb_57 {f : Addr} {X : Cx} {Wx : WX} (N : Nam K mg) (hX : ∃ (cdv : Value) (A : Around) (outer : List Env) (s : Shared) (H : Hp) (E : XK), X = cxOf (L2.CX P w) P w K mg base ["self", "number", "other"] d_57.qual (defScope s_57) f cdv A outer s H E) (G : Gd (tb.lw K) X Wx k c) : RSs (tb.lw K) X Wx (defBody s_57) (B_57 c) := by
  obtain ⟨cdv, A, outer, s, H, E, rfl⟩ := hX
  exact (rss_cons (sv 2 G (re_call (i := 5) G rfl rfl N.g_ratio_of (ra_cons (ev 1) ra_nil))) (rss_cons (rs_if (rt_cmp (rtv_tru G) (r2_eq G) (re_fld (g := 40) G (ev 2)) re_int rfl) (rss_one rs_no) rss_nil) (rss_one (rs_ret (re_mk (i := 0) (f := 37) G rfl rfl N.g_Ratio (ra_cons (re_bin (r2_bin G .Mult) (re_fld (g := 40) G (ev 0)) (re_fld (g := 41) G (ev 2))) (ra_cons (re_bin (r2_bin G .Mult) (re_fld (g := 41) G (ev 0)) (re_fld (g := 40) G (ev 2))) ra_nil)))))))
theorem ok_57 {fd : FuncData} (N : Nam K mg) (F : FunD K d_57.name d_57.qual d_57.params d_57.body d_57.scope (d_57.dvs K) (d_57.kws K) (adr K d_57.at_) fd) (fo : FOk (tb.lw K) P w K mg base k c) : FnOk P w K mg base (L2.CX P w) (k + 10) ((tb.lw K).fad 57) ((tb.lw K).fdt 57) ((tb.lw K).fps 57) (spM K (tb.lw K) ((tb.lw K).fps 57).length (fnD 3 (B_57 c))) :=
  fn_rule (N := ["self", "number", "other"]) (funG_of F rfl rfl rfl) sc_57 fo (fun _ _ _ _ _ _ => rfl) fun X Wx hX G => rb_57 N hX G
theorem sc_58 : FnScope ["self"] ["self"] (defScope s_58) := ⟨rfl, rfl, rfl, by decide +kernel, rfl, by decide +kernel, by decide +kernel⟩
theorem rb_58 {f : Addr} {X : Cx} {Wx : WX} (N : Nam K mg) (hX : ∃ (cdv : Value) (A : Around) (outer : List Env) (s : Shared) (H : Hp) (E : XK), X = cxOf (L2.CX P w) P w K mg base ["self"] d_58.qual (defScope s_58) f cdv A outer s H E) (G : Gd (tb.lw K) X Wx k c) : RSs (tb.lw K) X Wx (defBody s_58) (B_58 c) := by
  obtain ⟨cdv, A, outer, s, H, E, rfl⟩ := hX
  exact (rss_one (rs_ret (re_bin (r2_bin G .FloorDiv) (re_fld (g := 40) G (ev 0)) (re_fld (g := 41) G (ev 0)))))
theorem ok_58 {fd : FuncData} (N : Nam K mg) (F : FunD K d_58.name d_58.qual d_58.params d_58.body d_58.scope (d_58.dvs K) (d_58.kws K) (adr K d_58.at_) fd) (fo : FOk (tb.lw K) P w K mg base k c) : FnOk P w K mg base (L2.CX P w) (k + 10) ((tb.lw K).fad 58) ((tb.lw K).fdt 58) ((tb.lw K).fps 58) (spM K (tb.lw K) ((tb.lw K).fps 58).length (fnD 1 (B_58 c))) :=
  fn_rule (N := ["self"]) (funG_of F rfl rfl rfl) sc_58 fo (fun _ _ _ _ _ _ => rfl) fun X Wx hX G => rb_58 N hX G
theorem sc_59 : FnScope ["self"] ["self"] (defScope s_59) := ⟨rfl, rfl, rfl, by decide +kernel, rfl, by decide +kernel, by decide +kernel⟩
theorem rb_59 {f : Addr} {X : Cx} {Wx : WX} (N : Nam K mg) (hX : ∃ (cdv : Value) (A : Around) (outer : List Env) (s : Shared) (H : Hp) (E : XK), X = cxOf (L2.CX P w) P w K mg base ["self"] d_59.qual (defScope s_59) f cdv A outer s H E) (G : Gd (tb.lw K) X Wx k c) : RSs (tb.lw K) X Wx (defBody s_59) (B_59 c) := by
  obtain ⟨cdv, A, outer, s, H, E, rfl⟩ := hX
  exact (rss_one (rs_ret (re_cmp (r2_eq G) (re_fld (g := 41) G (ev 0)) re_int rfl)))
theorem ok_59 {fd : FuncData} (N : Nam K mg) (F : FunD K d_59.name d_59.qual d_59.params d_59.body d_59.scope (d_59.dvs K) (d_59.kws K) (adr K d_59.at_) fd) (fo : FOk (tb.lw K) P w K mg base k c) : FnOk P w K mg base (L2.CX P w) (k + 10) ((tb.lw K).fad 59) ((tb.lw K).fdt 59) ((tb.lw K).fps 59) (spM K (tb.lw K) ((tb.lw K).fps 59).length (fnD 1 (B_59 c))) :=
  fn_rule (N := ["self"]) (funG_of F rfl rfl rfl) sc_59 fo (fun _ _ _ _ _ _ => rfl) fun X Wx hX G => rb_59 N hX G
theorem sc_60 : FnScope ["self", "x", "y"] ["self", "x", "y"] (defScope s_60) := ⟨rfl, rfl, rfl, by decide +kernel, rfl, by decide +kernel, by decide +kernel⟩
theorem rb_60 {f : Addr} {X : Cx} {Wx : WX} (N : Nam K mg) (hX : ∃ (cdv : Value) (A : Around) (outer : List Env) (s : Shared) (H : Hp) (E : XK), X = cxOf (L2.CX P w) P w K mg base ["self", "x", "y"] d_60.qual (defScope s_60) f cdv A outer s H E) (G : Gd (tb.lw K) X Wx k c) : RSs (tb.lw K) X Wx (defBody s_60) (B_60 c) := by
  obtain ⟨cdv, A, outer, s, H, E, rfl⟩ := hX
  exact (rss_cons (rs_fld (g := 42) G (ev 0) (re_call (i := 5) G rfl rfl N.g_ratio_of (ra_cons (ev 1) ra_nil))) (rss_one (rs_fld (g := 43) G (ev 0) (re_call (i := 5) G rfl rfl N.g_ratio_of (ra_cons (ev 2) ra_nil)))))
theorem ok_60 {fd : FuncData} (N : Nam K mg) (F : FunD K d_60.name d_60.qual d_60.params d_60.body d_60.scope (d_60.dvs K) (d_60.kws K) (adr K d_60.at_) fd) (fo : FOk (tb.lw K) P w K mg base k c) : FnOk P w K mg base (L2.CX P w) (k + 10) ((tb.lw K).fad 60) ((tb.lw K).fdt 60) ((tb.lw K).fps 60) (spM K (tb.lw K) ((tb.lw K).fps 60).length (fnD 3 (B_60 c))) :=
  fn_rule (N := ["self", "x", "y"]) (funG_of F rfl rfl rfl) sc_60 fo (fun _ _ _ _ _ _ => rfl) fun X Wx hX G => rb_60 N hX G
theorem sc_61 : FnScope ["self", "other"] ["self", "other"] (defScope s_61) := ⟨rfl, rfl, rfl, by decide +kernel, rfl, by decide +kernel, by decide +kernel⟩
theorem rb_61 {f : Addr} {X : Cx} {Wx : WX} (N : Nam K mg) (hX : ∃ (cdv : Value) (A : Around) (outer : List Env) (s : Shared) (H : Hp) (E : XK), X = cxOf (L2.CX P w) P w K mg base ["self", "other"] d_61.qual (defScope s_61) f cdv A outer s H E) (G : Gd (tb.lw K) X Wx k c) : RSs (tb.lw K) X Wx (defBody s_61) (B_61 c) := by
  obtain ⟨cdv, A, outer, s, H, E, rfl⟩ := hX
  exact (rss_one (rs_ret (re_and (rtv_tru G) (re_iso (j := 1) G rfl (ev 1) rfl N.b_isinstance rfl N.g_Point) (re_and (rtv_tru G) (re_cmp (r2_eq G) (re_fld (g := 42) G (ev 0)) (re_fld (g := 42) G (ev 1)) rfl) (re_one (re_cmp (r2_eq G) (re_fld (g := 43) G (ev 0)) (re_fld (g := 43) G (ev 1)) rfl))))))
theorem ok_61 {fd : FuncData} (N : Nam K mg) (F : FunD K d_61.name d_61.qual d_61.params d_61.body d_61.scope (d_61.dvs K) (d_61.kws K) (adr K d_61.at_) fd) (fo : FOk (tb.lw K) P w K mg base k c) : FnOk P w K mg base (L2.CX P w) (k + 10) ((tb.lw K).fad 61) ((tb.lw K).fdt 61) ((tb.lw K).fps 61) (spM K (tb.lw K) ((tb.lw K).fps 61).length (fnD 2 (B_61 c))) :=
  fn_rule (N := ["self", "other"]) (funG_of F rfl rfl rfl) sc_61 fo (fun _ _ _ _ _ _ => rfl) fun X Wx hX G => rb_61 N hX G
theorem sc_62 : FnScope ["self", "other"] ["self", "other"] (defScope s_62) := ⟨rfl, rfl, rfl, by decide +kernel, rfl, by decide +kernel, by decide +kernel⟩
theorem rb_62 {f : Addr} {X : Cx} {Wx : WX} (N : Nam K mg) (hX : ∃ (cdv : Value) (A : Around) (outer : List Env) (s : Shared) (H : Hp) (E : XK), X = cxOf (L2.CX P w) P w K mg base ["self", "other"] d_62.qual (defScope s_62) f cdv A outer s H E) (G : Gd (tb.lw K) X Wx k c) : RSs (tb.lw K) X Wx (defBody s_62) (B_62 c) := by
  obtain ⟨cdv, A, outer, s, H, E, rfl⟩ := hX
  exact (rss_cons (rs_if (rt_not (rt_of (rtv_tru G) (re_iso (j := 1) G rfl (ev 1) rfl N.b_isinstance rfl N.g_Point))) (rss_one rs_no) rss_nil) (rss_one (rs_ret (re_mk (i := 1) (f := 60) G rfl rfl N.g_Point (ra_cons (re_bin (r2_bin G .Add) (re_fld (g := 42) G (ev 0)) (re_fld (g := 42) G (ev 1))) (ra_cons (re_bin (r2_bin G .Add) (re_fld (g := 43) G (ev 0)) (re_fld (g := 43) G (ev 1))) ra_nil))))))
theorem ok_62 {fd : FuncData} (N : Nam K mg) (F : FunD K d_62.name d_62.qual d_62.params d_62.body d_62.scope (d_62.dvs K) (d_62.kws K) (adr K d_62.at_) fd) (fo : FOk (tb.lw K) P w K mg base k c) : FnOk P w K mg base (L2.CX P w) (k + 10) ((tb.lw K).fad 62) ((tb.lw K).fdt 62) ((tb.lw K).fps 62) (spM K (tb.lw K) ((tb.lw K).fps 62).length (fnD 2 (B_62 c))) :=
  fn_rule (N := ["self", "other"]) (funG_of F rfl rfl rfl) sc_62 fo (fun _ _ _ _ _ _ => rfl) fun X Wx hX G => rb_62 N hX G
theorem sc_63 : FnScope ["self", "other"] ["self", "other"] (defScope s_63) := ⟨rfl, rfl, rfl, by decide +kernel, rfl, by decide +kernel, by decide +kernel⟩
theorem rb_63 {f : Addr} {X : Cx} {Wx : WX} (N : Nam K mg) (hX : ∃ (cdv : Value) (A : Around) (outer : List Env) (s : Shared) (H : Hp) (E : XK), X = cxOf (L2.CX P w) P w K mg base ["self", "other"] d_63.qual (defScope s_63) f cdv A outer s H E) (G : Gd (tb.lw K) X Wx k c) : RSs (tb.lw K) X Wx (defBody s_63) (B_63 c) := by
  obtain ⟨cdv, A, outer, s, H, E, rfl⟩ := hX
  exact (rss_cons (rs_if (rt_not (rt_of (rtv_tru G) (re_iso (j := 1) G rfl (ev 1) rfl N.b_isinstance rfl N.g_Point))) (rss_one rs_no) rss_nil) (rss_one (rs_ret (re_mk (i := 1) (f := 60) G rfl rfl N.g_Point (ra_cons (re_bin (r2_bin G .Sub) (re_fld (g := 42) G (ev 0)) (re_fld (g := 42) G (ev 1))) (ra_cons (re_bin (r2_bin G .Sub) (re_fld (g := 43) G (ev 0)) (re_fld (g := 43) G (ev 1))) ra_nil))))))
theorem ok_63 {fd : FuncData} (N : Nam K mg) (F : FunD K d_63.name d_63.qual d_63.params d_63.body d_63.scope (d_63.dvs K) (d_63.kws K) (adr K d_63.at_) fd) (fo : FOk (tb.lw K) P w K mg base k c) : FnOk P w K mg base (L2.CX P w) (k + 10) ((tb.lw K).fad 63) ((tb.lw K).fdt 63) ((tb.lw K).fps 63) (spM K (tb.lw K) ((tb.lw K).fps 63).length (fnD 2 (B_63 c))) :=
  fn_rule (N := ["self", "other"]) (funG_of F rfl rfl rfl) sc_63 fo (fun _ _ _ _ _ _ => rfl) fun X Wx hX G => rb_63 N hX G
theorem sc_64 : FnScope ["self", "other"] ["self", "other"] (defScope s_64) := ⟨rfl, rfl, rfl, by decide +kernel, rfl, by decide +kernel, by decide +kernel⟩
theorem rb_64 {f : Addr} {X : Cx} {Wx : WX} (N : Nam K mg) (hX : ∃ (cdv : Value) (A : Around) (outer : List Env) (s : Shared) (H : Hp) (E : XK), X = cxOf (L2.CX P w) P w K mg base ["self", "other"] d_64.qual (defScope s_64) f cdv A outer s H E) (G : Gd (tb.lw K) X Wx k c) : RSs (tb.lw K) X Wx (defBody s_64) (B_64 c) := by
  obtain ⟨cdv, A, outer, s, H, E, rfl⟩ := hX
  exact (rss_cons (rs_if (rt_not (rt_of (rtv_tru G) (re_call (i := 0) G rfl rfl N.g_is_number (ra_cons (ev 1) ra_nil)))) (rss_one rs_no) rss_nil) (rss_one (rs_ret (re_mk (i := 1) (f := 60) G rfl rfl N.g_Point (ra_cons (re_bin (r2_bin G .Mult) (re_fld (g := 42) G (ev 0)) (ev 1)) (ra_cons (re_bin (r2_bin G .Mult) (re_fld (g := 43) G (ev 0)) (ev 1)) ra_nil))))))
theorem ok_64 {fd : FuncData} (N : Nam K mg) (F : FunD K d_64.name d_64.qual d_64.params d_64.body d_64.scope (d_64.dvs K) (d_64.kws K) (adr K d_64.at_) fd) (fo : FOk (tb.lw K) P w K mg base k c) : FnOk P w K mg base (L2.CX P w) (k + 10) ((tb.lw K).fad 64) ((tb.lw K).fdt 64) ((tb.lw K).fps 64) (spM K (tb.lw K) ((tb.lw K).fps 64).length (fnD 2 (B_64 c))) :=
  fn_rule (N := ["self", "other"]) (funG_of F rfl rfl rfl) sc_64 fo (fun _ _ _ _ _ _ => rfl) fun X Wx hX G => rb_64 N hX G
theorem sc_65 : FnScope ["self", "other"] ["self", "other"] (defScope s_65) := ⟨rfl, rfl, rfl, by decide +kernel, rfl, by decide +kernel, by decide +kernel⟩
theorem rb_65 {f : Addr} {X : Cx} {Wx : WX} (N : Nam K mg) (hX : ∃ (cdv : Value) (A : Around) (outer : List Env) (s : Shared) (H : Hp) (E : XK), X = cxOf (L2.CX P w) P w K mg base ["self", "other"] d_65.qual (defScope s_65) f cdv A outer s H E) (G : Gd (tb.lw K) X Wx k c) : RSs (tb.lw K) X Wx (defBody s_65) (B_65 c) := by
  obtain ⟨cdv, A, outer, s, H, E, rfl⟩ := hX
  exact (rss_cons (rs_if (rt_not (rt_of (rtv_tru G) (re_call (i := 0) G rfl rfl N.g_is_number (ra_cons (ev 1) ra_nil)))) (rss_one rs_no) rss_nil) (rss_one (rs_ret (re_mk (i := 1) (f := 60) G rfl rfl N.g_Point (ra_cons (re_bin (r2_bin G .Mult) (re_fld (g := 42) G (ev 0)) (ev 1)) (ra_cons (re_bin (r2_bin G .Mult) (re_fld (g := 43) G (ev 0)) (ev 1)) ra_nil))))))
theorem ok_65 {fd : FuncData} (N : Nam K mg) (F : FunD K d_65.name d_65.qual d_65.params d_65.body d_65.scope (d_65.dvs K) (d_65.kws K) (adr K d_65.at_) fd) (fo : FOk (tb.lw K) P w K mg base k c) : FnOk P w K mg base (L2.CX P w) (k + 10) ((tb.lw K).fad 65) ((tb.lw K).fdt 65) ((tb.lw K).fps 65) (spM K (tb.lw K) ((tb.lw K).fps 65).length (fnD 2 (B_65 c))) :=
  fn_rule (N := ["self", "other"]) (funG_of F rfl rfl rfl) sc_65 fo (fun _ _ _ _ _ _ => rfl) fun X Wx hX G => rb_65 N hX G
theorem sc_66 : FnScope ["self"] ["self"] (defScope s_66) := ⟨rfl, rfl, rfl, by decide +kernel, rfl, by decide +kernel, by decide +kernel⟩
theorem rb_66 {f : Addr} {X : Cx} {Wx : WX} (N : Nam K mg) (hX : ∃ (cdv : Value) (A : Around) (outer : List Env) (s : Shared) (H : Hp) (E : XK), X = cxOf (L2.CX P w) P w K mg base ["self"] d_66.qual (defScope s_66) f cdv A outer s H E) (G : Gd (tb.lw K) X Wx k c) : RSs (tb.lw K) X Wx (defBody s_66) (B_66 c) := by
  obtain ⟨cdv, A, outer, s, H, E, rfl⟩ := hX
  exact (rss_one (rs_ret (re_mk (i := 1) (f := 60) G rfl rfl N.g_Point (ra_cons (re_un (r1_neg G) (re_fld (g := 42) G (ev 0))) (ra_cons (re_un (r1_neg G) (re_fld (g := 43) G (ev 0))) ra_nil)))))
theorem ok_66 {fd : FuncData} (N : Nam K mg) (F : FunD K d_66.name d_66.qual d_66.params d_66.body d_66.scope (d_66.dvs K) (d_66.kws K) (adr K d_66.at_) fd) (fo : FOk (tb.lw K) P w K mg base k c) : FnOk P w K mg base (L2.CX P w) (k + 10) ((tb.lw K).fad 66) ((tb.lw K).fdt 66) ((tb.lw K).fps 66) (spM K (tb.lw K) ((tb.lw K).fps 66).length (fnD 1 (B_66 c))) :=
  fn_rule (N := ["self"]) (funG_of F rfl rfl rfl) sc_66 fo (fun _ _ _ _ _ _ => rfl) fun X Wx hX G => rb_66 N hX G
theorem sc_67 : FnScope ["self"] ["self"] (defScope s_67) := ⟨rfl, rfl, rfl, by decide +kernel, rfl, by decide +kernel, by decide +kernel⟩
theorem rb_67 {f : Addr} {X : Cx} {Wx : WX} (N : Nam K mg) (hX : ∃ (cdv : Value) (A : Around) (outer : List Env) (s : Shared) (H : Hp) (E : XK), X = cxOf (L2.CX P w) P w K mg base ["self"] d_67.qual (defScope s_67) f cdv A outer s H E) (G : Gd (tb.lw K) X Wx k c) : RSs (tb.lw K) X Wx (defBody s_67) (B_67 c) := by
  obtain ⟨cdv, A, outer, s, H, E, rfl⟩ := hX
  exact (rss_one (rs_ret (re_or (rtv_tru G) (re_bty (rc_bool G) rfl N.b_bool bb_bool (ra_cons (re_fld (g := 42) G (ev 0)) ra_nil)) (re_one (re_bty (rc_bool G) rfl N.b_bool bb_bool (ra_cons (re_fld (g := 43) G (ev 0)) ra_nil))))))
theorem ok_67 {fd : FuncData} (N : Nam K mg) (F : FunD K d_67.name d_67.qual d_67.params d_67.body d_67.scope (d_67.dvs K) (d_67.kws K) (adr K d_67.at_) fd) (fo : FOk (tb.lw K) P w K mg base k c) : FnOk P w K mg base (L2.CX P w) (k + 10) ((tb.lw K).fad 67) ((tb.lw K).fdt 67) ((tb.lw K).fps 67) (spM K (tb.lw K) ((tb.lw K).fps 67).length (fnD 1 (B_67 c))) :=
  fn_rule (N := ["self"]) (funG_of F rfl rfl rfl) sc_67 fo (fun _ _ _ _ _ _ => rfl) fun X Wx hX G => rb_67 N hX G
theorem sc_68 : FnScope ["self", "x", "y"] ["self", "x", "y"] (defScope s_68) := ⟨rfl, rfl, rfl, by decide +kernel, rfl, by decide +kernel, by decide +kernel⟩
theorem rb_68 {f : Addr} {X : Cx} {Wx : WX} (N : Nam K mg) (hX : ∃ (cdv : Value) (A : Around) (outer : List Env) (s : Shared) (H : Hp) (E : XK), X = cxOf (L2.CX P w) P w K mg base ["self", "x", "y"] d_68.qual (defScope s_68) f cdv A outer s H E) (G : Gd (tb.lw K) X Wx k c) : RSs (tb.lw K) X Wx (defBody s_68) (B_68 c) := by
  obtain ⟨cdv, A, outer, s, H, E, rfl⟩ := hX
  exact (rss_cons (rs_fld (g := 42) G (ev 0) (re_call (i := 5) G rfl rfl N.g_ratio_of (ra_cons (ev 1) ra_nil))) (rss_one (rs_fld (g := 43) G (ev 0) (re_call (i := 5) G rfl rfl N.g_ratio_of (ra_cons (ev 2) ra_nil)))))
theorem ok_68 {fd : FuncData} (N : Nam K mg) (F : FunD K d_68.name d_68.qual d_68.params d_68.body d_68.scope (d_68.dvs K) (d_68.kws K) (adr K d_68.at_) fd) (fo : FOk (tb.lw K) P w K mg base k c) : FnOk P w K mg base (L2.CX P w) (k + 10) ((tb.lw K).fad 68) ((tb.lw K).fdt 68) ((tb.lw K).fps 68) (spM K (tb.lw K) ((tb.lw K).fps 68).length (fnD 3 (B_68 c))) :=
  fn_rule (N := ["self", "x", "y"]) (funG_of F rfl rfl rfl) sc_68 fo (fun _ _ _ _ _ _ => rfl) fun X Wx hX G => rb_68 N hX G
theorem sc_69 : FnScope ["self", "point"] ["self", "point"] (defScope s_69) := ⟨rfl, rfl, rfl, by decide +kernel, rfl, by decide +kernel, by decide +kernel⟩
theorem rb_69 {f : Addr} {X : Cx} {Wx : WX} (N : Nam K mg) (hX : ∃ (cdv : Value) (A : Around) (outer : List Env) (s : Shared) (H : Hp) (E : XK), X = cxOf (L2.CX P w) P w K mg base ["self", "point"] d_69.qual (defScope s_69) f cdv A outer s H E) (G : Gd (tb.lw K) X Wx k c) : RSs (tb.lw K) X Wx (defBody s_69) (B_69 c) := by
  obtain ⟨cdv, A, outer, s, H, E, rfl⟩ := hX
  exact (rss_one (rs_ret (re_call (i := 6) G rfl rfl N.g_value_at (ra_cons (ev 0) (ra_cons (ev 1) ra_nil)))))
theorem ok_69 {fd : FuncData} (N : Nam K mg) (F : FunD K d_69.name d_69.qual d_69.params d_69.body d_69.scope (d_69.dvs K) (d_69.kws K) (adr K d_69.at_) fd) (fo : FOk (tb.lw K) P w K mg base k c) : FnOk P w K mg base (L2.CX P w) (k + 10) ((tb.lw K).fad 69) ((tb.lw K).fdt 69) ((tb.lw K).fps 69) (spM K (tb.lw K) ((tb.lw K).fps 69).length (fnD 2 (B_69 c))) :=
  fn_rule (N := ["self", "point"]) (funG_of F rfl rfl rfl) sc_69 fo (fun _ _ _ _ _ _ => rfl) fun X Wx hX G => rb_69 N hX G
theorem sc_70 : FnScope ["self", "other"] ["self", "other"] (defScope s_70) := ⟨rfl, rfl, rfl, by decide +kernel, rfl, by decide +kernel, by decide +kernel⟩
theorem rb_70 {f : Addr} {X : Cx} {Wx : WX} (N : Nam K mg) (hX : ∃ (cdv : Value) (A : Around) (outer : List Env) (s : Shared) (H : Hp) (E : XK), X = cxOf (L2.CX P w) P w K mg base ["self", "other"] d_70.qual (defScope s_70) f cdv A outer s H E) (G : Gd (tb.lw K) X Wx k c) : RSs (tb.lw K) X Wx (defBody s_70) (B_70 c) := by
  obtain ⟨cdv, A, outer, s, H, E, rfl⟩ := hX
  exact (rss_one (rs_ret (re_and (rtv_tru G) (re_iso (j := 2) G rfl (ev 1) rfl N.b_isinstance rfl N.g_Form) (re_and (rtv_tru G) (re_cmp (r2_eq G) (re_fld (g := 42) G (ev 0)) (re_fld (g := 42) G (ev 1)) rfl) (re_one (re_cmp (r2_eq G) (re_fld (g := 43) G (ev 0)) (re_fld (g := 43) G (ev 1)) rfl))))))
theorem ok_70 {fd : FuncData} (N : Nam K mg) (F : FunD K d_70.name d_70.qual d_70.params d_70.body d_70.scope (d_70.dvs K) (d_70.kws K) (adr K d_70.at_) fd) (fo : FOk (tb.lw K) P w K mg base k c) : FnOk P w K mg base (L2.CX P w) (k + 10) ((tb.lw K).fad 70) ((tb.lw K).fdt 70) ((tb.lw K).fps 70) (spM K (tb.lw K) ((tb.lw K).fps 70).length (fnD 2 (B_70 c))) :=
  fn_rule (N := ["self", "other"]) (funG_of F rfl rfl rfl) sc_70 fo (fun _ _ _ _ _ _ => rfl) fun X Wx hX G => rb_70 N hX G
theorem sc_71 : FnScope ["self", "other"] ["self", "other"] (defScope s_71) := ⟨rfl, rfl, rfl, by decide +kernel, rfl, by decide +kernel, by decide +kernel⟩
theorem rb_71 {f : Addr} {X : Cx} {Wx : WX} (N : Nam K mg) (hX : ∃ (cdv : Value) (A : Around) (outer : List Env) (s : Shared) (H : Hp) (E : XK), X = cxOf (L2.CX P w) P w K mg base ["self", "other"] d_71.qual (defScope s_71) f cdv A outer s H E) (G : Gd (tb.lw K) X Wx k c) : RSs (tb.lw K) X Wx (defBody s_71) (B_71 c) := by
  obtain ⟨cdv, A, outer, s, H, E, rfl⟩ := hX
  exact (rss_cons (rs_if (rt_not (rt_of (rtv_tru G) (re_iso (j := 2) G rfl (ev 1) rfl N.b_isinstance rfl N.g_Form))) (rss_one rs_no) rss_nil) (rss_one (rs_ret (re_mk (i := 2) (f := 68) G rfl rfl N.g_Form (ra_cons (re_bin (r2_bin G .Add) (re_fld (g := 42) G (ev 0)) (re_fld (g := 42) G (ev 1))) (ra_cons (re_bin (r2_bin G .Add) (re_fld (g := 43) G (ev 0)) (re_fld (g := 43) G (ev 1))) ra_nil))))))
theorem ok_71 {fd : FuncData} (N : Nam K mg) (F : FunD K d_71.name d_71.qual d_71.params d_71.body d_71.scope (d_71.dvs K) (d_71.kws K) (adr K d_71.at_) fd) (fo : FOk (tb.lw K) P w K mg base k c) : FnOk P w K mg base (L2.CX P w) (k + 10) ((tb.lw K).fad 71) ((tb.lw K).fdt 71) ((tb.lw K).fps 71) (spM K (tb.lw K) ((tb.lw K).fps 71).length (fnD 2 (B_71 c))) :=
  fn_rule (N := ["self", "other"]) (funG_of F rfl rfl rfl) sc_71 fo (fun _ _ _ _ _ _ => rfl) fun X Wx hX G => rb_71 N hX G
theorem sc_72 : FnScope ["self", "other"] ["self", "other"] (defScope s_72) := ⟨rfl, rfl, rfl, by decide +kernel, rfl, by decide +kernel, by decide +kernel⟩
theorem rb_72 {f : Addr} {X : Cx} {Wx : WX} (N : Nam K mg) (hX : ∃ (cdv : Value) (A : Around) (outer : List Env) (s : Shared) (H : Hp) (E : XK), X = cxOf (L2.CX P w) P w K mg base ["self", "other"] d_72.qual (defScope s_72) f cdv A outer s H E) (G : Gd (tb.lw K) X Wx k c) : RSs (tb.lw K) X Wx (defBody s_72) (B_72 c) := by
  obtain ⟨cdv, A, outer, s, H, E, rfl⟩ := hX
  exact (rss_cons (rs_if (rt_not (rt_of (rtv_tru G) (re_iso (j := 2) G rfl (ev 1) rfl N.b_isinstance rfl N.g_Form))) (rss_one rs_no) rss_nil) (rss_one (rs_ret (re_mk (i := 2) (f := 68) G rfl rfl N.g_Form (ra_cons (re_bin (r2_bin G .Sub) (re_fld (g := 42) G (ev 0)) (re_fld (g := 42) G (ev 1))) (ra_cons (re_bin (r2_bin G .Sub) (re_fld (g := 43) G (ev 0)) (re_fld (g := 43) G (ev 1))) ra_nil))))))
theorem ok_72 {fd : FuncData} (N : Nam K mg) (F : FunD K d_72.name d_72.qual d_72.params d_72.body d_72.scope (d_72.dvs K) (d_72.kws K) (adr K d_72.at_) fd) (fo : FOk (tb.lw K) P w K mg base k c) : FnOk P w K mg base (L2.CX P w) (k + 10) ((tb.lw K).fad 72) ((tb.lw K).fdt 72) ((tb.lw K).fps 72) (spM K (tb.lw K) ((tb.lw K).fps 72).length (fnD 2 (B_72 c))) :=
  fn_rule (N := ["self", "other"]) (funG_of F rfl rfl rfl) sc_72 fo (fun _ _ _ _ _ _ => rfl) fun X Wx hX G => rb_72 N hX G
theorem sc_73 : FnScope ["self", "other"] ["self", "other"] (defScope s_73) := ⟨rfl, rfl, rfl, by decide +kernel, rfl, by decide +kernel, by decide +kernel⟩
theorem rb_73 {f : Addr} {X : Cx} {Wx : WX} (N : Nam K mg) (hX : ∃ (cdv : Value) (A : Around) (outer : List Env) (s : Shared) (H : Hp) (E : XK), X = cxOf (L2.CX P w) P w K mg base ["self", "other"] d_73.qual (defScope s_73) f cdv A outer s H E) (G : Gd (tb.lw K) X Wx k c) : RSs (tb.lw K) X Wx (defBody s_73) (B_73 c) := by
  obtain ⟨cdv, A, outer, s, H, E, rfl⟩ := hX
  exact (rss_cons (rs_if (rt_not (rt_of (rtv_tru G) (re_call (i := 0) G rfl rfl N.g_is_number (ra_cons (ev 1) ra_nil)))) (rss_one rs_no) rss_nil) (rss_one (rs_ret (re_mk (i := 2) (f := 68) G rfl rfl N.g_Form (ra_cons (re_bin (r2_bin G .Mult) (re_fld (g := 42) G (ev 0)) (ev 1)) (ra_cons (re_bin (r2_bin G .Mult) (re_fld (g := 43) G (ev 0)) (ev 1)) ra_nil))))))
theorem ok_73 {fd : FuncData} (N : Nam K mg) (F : FunD K d_73.name d_73.qual d_73.params d_73.body d_73.scope (d_73.dvs K) (d_73.kws K) (adr K d_73.at_) fd) (fo : FOk (tb.lw K) P w K mg base k c) : FnOk P w K mg base (L2.CX P w) (k + 10) ((tb.lw K).fad 73) ((tb.lw K).fdt 73) ((tb.lw K).fps 73) (spM K (tb.lw K) ((tb.lw K).fps 73).length (fnD 2 (B_73 c))) :=
  fn_rule (N := ["self", "other"]) (funG_of F rfl rfl rfl) sc_73 fo (fun _ _ _ _ _ _ => rfl) fun X Wx hX G => rb_73 N hX G
theorem sc_74 : FnScope ["self", "other"] ["self", "other"] (defScope s_74) := ⟨rfl, rfl, rfl, by decide +kernel, rfl, by decide +kernel, by decide +kernel⟩
theorem rb_74 {f : Addr} {X : Cx} {Wx : WX} (N : Nam K mg) (hX : ∃ (cdv : Value) (A : Around) (outer : List Env) (s : Shared) (H : Hp) (E : XK), X = cxOf (L2.CX P w) P w K mg base ["self", "other"] d_74.qual (defScope s_74) f cdv A outer s H E) (G : Gd (tb.lw K) X Wx k c) : RSs (tb.lw K) X Wx (defBody s_74) (B_74 c) := by
  obtain ⟨cdv, A, outer, s, H, E, rfl⟩ := hX
  exact (rss_cons (rs_if (rt_not (rt_of (rtv_tru G) (re_call (i := 0) G rfl rfl N.g_is_number (ra_cons (ev 1) ra_nil)))) (rss_one rs_no) rss_nil) (rss_one (rs_ret (re_mk (i := 2) (f := 68) G rfl rfl N.g_Form (ra_cons (re_bin (r2_bin G .Mult) (re_fld (g := 42) G (ev 0)) (ev 1)) (ra_cons (re_bin (r2_bin G .Mult) (re_fld (g := 43) G (ev 0)) (ev 1)) ra_nil))))))
theorem ok_74 {fd : FuncData} (N : Nam K mg) (F : FunD K d_74.name d_74.qual d_74.params d_74.body d_74.scope (d_74.dvs K) (d_74.kws K) (adr K d_74.at_) fd) (fo : FOk (tb.lw K) P w K mg base k c) : FnOk P w K mg base (L2.CX P w) (k + 10) ((tb.lw K).fad 74) ((tb.lw K).fdt 74) ((tb.lw K).fps 74) (spM K (tb.lw K) ((tb.lw K).fps 74).length (fnD 2 (B_74 c))) :=
  fn_rule (N := ["self", "other"]) (funG_of F rfl rfl rfl) sc_74 fo (fun _ _ _ _ _ _ => rfl) fun X Wx hX G => rb_74 N hX G
theorem sc_75 : FnScope ["self"] ["self"] (defScope s_75) := ⟨rfl, rfl, rfl, by decide +kernel, rfl, by decide +kernel, by decide +kernel⟩
theorem rb_75 {f : Addr} {X : Cx} {Wx : WX} (N : Nam K mg) (hX : ∃ (cdv : Value) (A : Around) (outer : List Env) (s : Shared) (H : Hp) (E : XK), X = cxOf (L2.CX P w) P w K mg base ["self"] d_75.qual (defScope s_75) f cdv A outer s H E) (G : Gd (tb.lw K) X Wx k c) : RSs (tb.lw K) X Wx (defBody s_75) (B_75 c) := by
  obtain ⟨cdv, A, outer, s, H, E, rfl⟩ := hX
  exact (rss_one (rs_ret (re_mk (i := 2) (f := 68) G rfl rfl N.g_Form (ra_cons (re_un (r1_neg G) (re_fld (g := 42) G (ev 0))) (ra_cons (re_un (r1_neg G) (re_fld (g := 43) G (ev 0))) ra_nil)))))
theorem ok_75 {fd : FuncData} (N : Nam K mg) (F : FunD K d_75.name d_75.qual d_75.params d_75.body d_75.scope (d_75.dvs K) (d_75.kws K) (adr K d_75.at_) fd) (fo : FOk (tb.lw K) P w K mg base k c) : FnOk P w K mg base (L2.CX P w) (k + 10) ((tb.lw K).fad 75) ((tb.lw K).fdt 75) ((tb.lw K).fps 75) (spM K (tb.lw K) ((tb.lw K).fps 75).length (fnD 1 (B_75 c))) :=
  fn_rule (N := ["self"]) (funG_of F rfl rfl rfl) sc_75 fo (fun _ _ _ _ _ _ => rfl) fun X Wx hX G => rb_75 N hX G
theorem sc_76 : FnScope ["self", "points", "over", "rows", "point", "table"] ["self", "points"] (defScope s_76) := ⟨rfl, rfl, rfl, by decide +kernel, rfl, by decide +kernel, by decide +kernel⟩
theorem rb_76 {f : Addr} {X : Cx} {Wx : WX} (N : Nam K mg) (hX : ∃ (cdv : Value) (A : Around) (outer : List Env) (s : Shared) (H : Hp) (E : XK), X = cxOf (L2.CX P w) P w K mg base ["self", "points", "over", "rows", "point", "table"] d_76.qual (defScope s_76) f cdv A outer s H E) (G : Gd (tb.lw K) X Wx k c) : RSs (tb.lw K) X Wx (defBody s_76) (B_76 c) := by
  obtain ⟨cdv, A, outer, s, H, E, rfl⟩ := hX
  exact (rss_cons (sv 2 G re_int) (rss_cons (sv 3 G (re_bty rc_list rfl N.b_list bb_list (ra_cons (ev 1) ra_nil))) (rss_cons (rs_for G.po G.calm (ri_seq (ev 3)) (gv 4 G) (rss_cons (rs_if (rt_not (rt_of (rtv_tru G) (re_iso (j := 1) G rfl (ev 4) rfl N.b_isinstance rfl N.g_Point))) (rss_one rs_no) rss_nil) (rss_one (sv 2 G (re_call (i := 2) G rfl rfl N.g_lcm_of (ra_cons (ev 2) (ra_cons (re_call (i := 2) G rfl rfl N.g_lcm_of (ra_cons (re_fld (g := 41) G (re_fld (g := 42) G (ev 4))) (ra_cons (re_fld (g := 41) G (re_fld (g := 43) G (ev 4))) ra_nil))) ra_nil))))))) (rss_cons (sv 5 G (re_call (i := 7) G rfl rfl N.g_stair (ra_cons (re_lc G (ri_seq (ev 3)) (blkOk_by (own := [("point", 4)]) (by kernel_rfl)) (fun s1 H1 C1 cl1 fp1 => (gv 4 (G.blk s1 H1 _ _ fp1))) (fun s1 H1 C1 cl1 fp1 => rts_nil) (fun s1 H1 C1 cl1 fp1 => (re_tup (ra_cons (re_fld (g := 40) (G.blk s1 H1 _ _ fp1) (re_bin (r2_bin (G.blk s1 H1 _ _ fp1) .Mult) (re_fld (g := 42) (G.blk s1 H1 _ _ fp1) (ev 4)) (ev 2))) (ra_cons (re_fld (g := 40) (G.blk s1 H1 _ _ fp1) (re_bin (r2_bin (G.blk s1 H1 _ _ fp1) .Mult) (re_fld (g := 43) (G.blk s1 H1 _ _ fp1) (ev 4)) (ev 2))) ra_nil)))) (by decide)) ra_nil))) (rss_cons (rs_fld (g := 44) G (ev 0) (re_mk (i := 0) (f := 37) G rfl rfl N.g_Ratio (ra_cons (re_ix G (ev 5) re_int) (ra_cons (ev 2) ra_nil)))) (rss_cons (rs_fld (g := 45) G (ev 0) (re_mk (i := 0) (f := 37) G rfl rfl N.g_Ratio (ra_cons (re_ix G (ev 5) re_int) (ra_cons (ev 2) ra_nil)))) (rss_one (rs_fld (g := 46) G (ev 0) (re_mk (i := 0) (f := 37) G rfl rfl N.g_Ratio (ra_cons (re_ix G (ev 5) re_int) (ra_cons (ev 2) ra_nil)))))))))))
theorem ok_76 {fd : FuncData} (N : Nam K mg) (F : FunD K d_76.name d_76.qual d_76.params d_76.body d_76.scope (d_76.dvs K) (d_76.kws K) (adr K d_76.at_) fd) (fo : FOk (tb.lw K) P w K mg base k c) : FnOk P w K mg base (L2.CX P w) (k + 10) ((tb.lw K).fad 76) ((tb.lw K).fdt 76) ((tb.lw K).fps 76) (spM K (tb.lw K) ((tb.lw K).fps 76).length (fnD 6 (B_76 c))) :=
  fn_rule (N := ["self", "points", "over", "rows", "point", "table"]) (funG_of F rfl rfl rfl) sc_76 fo (fun _ _ _ _ _ _ => rfl) fun X Wx hX G => rb_76 N hX G
theorem sc_77 : FnScope ["self"] ["self"] (defScope s_77) := ⟨rfl, rfl, rfl, by decide +kernel, rfl, by decide +kernel, by decide +kernel⟩
theorem rb_77 {f : Addr} {X : Cx} {Wx : WX} (N : Nam K mg) (hX : ∃ (cdv : Value) (A : Around) (outer : List Env) (s : Shared) (H : Hp) (E : XK), X = cxOf (L2.CX P w) P w K mg base ["self"] d_77.qual (defScope s_77) f cdv A outer s H E) (G : Gd (tb.lw K) X Wx k c) : RSs (tb.lw K) X Wx (defBody s_77) (B_77 c) := by
  obtain ⟨cdv, A, outer, s, H, E, rfl⟩ := hX
  exact (rss_one (rs_ret (re_bin (r2_bin G .Mult) (re_fld (g := 44) G (ev 0)) (re_fld (g := 46) G (ev 0)))))
theorem ok_77 {fd : FuncData} (N : Nam K mg) (F : FunD K d_77.name d_77.qual d_77.params d_77.body d_77.scope (d_77.dvs K) (d_77.kws K) (adr K d_77.at_) fd) (fo : FOk (tb.lw K) P w K mg base k c) : FnOk P w K mg base (L2.CX P w) (k + 10) ((tb.lw K).fad 77) ((tb.lw K).fdt 77) ((tb.lw K).fps 77) (spM K (tb.lw K) ((tb.lw K).fps 77).length (fnD 1 (B_77 c))) :=
  fn_rule (N := ["self"]) (funG_of F rfl rfl rfl) sc_77 fo (fun _ _ _ _ _ _ => rfl) fun X Wx hX G => rb_77 N hX G
theorem sc_78 : FnScope ["self"] ["self"] (defScope s_78) := ⟨rfl, rfl, rfl, by decide +kernel, rfl, by decide +kernel, by decide +kernel⟩
theorem rb_78 {f : Addr} {X : Cx} {Wx : WX} (N : Nam K mg) (hX : ∃ (cdv : Value) (A : Around) (outer : List Env) (s : Shared) (H : Hp) (E : XK), X = cxOf (L2.CX P w) P w K mg base ["self"] d_78.qual (defScope s_78) f cdv A outer s H E) (G : Gd (tb.lw K) X Wx k c) : RSs (tb.lw K) X Wx (defBody s_78) (B_78 c) := by
  obtain ⟨cdv, A, outer, s, H, E, rfl⟩ := hX
  exact (rss_one (rs_ret (re_tup (ra_cons (re_mk (i := 1) (f := 60) G rfl rfl N.g_Point (ra_cons (re_fld (g := 44) G (ev 0)) (ra_cons (re_fld (g := 45) G (ev 0)) ra_nil))) (ra_cons (re_mk (i := 1) (f := 60) G rfl rfl N.g_Point (ra_cons re_int (ra_cons (re_fld (g := 46) G (ev 0)) ra_nil))) ra_nil)))))
theorem ok_78 {fd : FuncData} (N : Nam K mg) (F : FunD K d_78.name d_78.qual d_78.params d_78.body d_78.scope (d_78.dvs K) (d_78.kws K) (adr K d_78.at_) fd) (fo : FOk (tb.lw K) P w K mg base k c) : FnOk P w K mg base (L2.CX P w) (k + 10) ((tb.lw K).fad 78) ((tb.lw K).fdt 78) ((tb.lw K).fps 78) (spM K (tb.lw K) ((tb.lw K).fps 78).length (fnD 1 (B_78 c))) :=
  fn_rule (N := ["self"]) (funG_of F rfl rfl rfl) sc_78 fo (fun _ _ _ _ _ _ => rfl) fun X Wx hX G => rb_78 N hX G
theorem sc_79 : FnScope ["self", "point", "first"] ["self", "point"] (defScope s_79) := ⟨rfl, rfl, rfl, by decide +kernel, rfl, by decide +kernel, by decide +kernel⟩
theorem rb_79 {f : Addr} {X : Cx} {Wx : WX} (N : Nam K mg) (hX : ∃ (cdv : Value) (A : Around) (outer : List Env) (s : Shared) (H : Hp) (E : XK), X = cxOf (L2.CX P w) P w K mg base ["self", "point", "first"] d_79.qual (defScope s_79) f cdv A outer s H E) (G : Gd (tb.lw K) X Wx k c) : RSs (tb.lw K) X Wx (defBody s_79) (B_79 c) := by
  obtain ⟨cdv, A, outer, s, H, E, rfl⟩ := hX
  exact (rss_cons (sv 2 G (re_meth (i := 50) G (re_fld (g := 42) G (ev 1)) (ra_cons (re_fld (g := 44) G (ev 0)) ra_nil))) (rss_one (rs_ret (re_tup (ra_cons (ev 2) (ra_cons (re_meth (i := 50) G (re_bin (r2_bin G .Sub) (re_fld (g := 43) G (ev 1)) (re_bin (r2_bin G .Mult) (ev 2) (re_fld (g := 45) G (ev 0)))) (ra_cons (re_fld (g := 46) G (ev 0)) ra_nil)) ra_nil))))))
theorem ok_79 {fd : FuncData} (N : Nam K mg) (F : FunD K d_79.name d_79.qual d_79.params d_79.body d_79.scope (d_79.dvs K) (d_79.kws K) (adr K d_79.at_) fd) (fo : FOk (tb.lw K) P w K mg base k c) : FnOk P w K mg base (L2.CX P w) (k + 10) ((tb.lw K).fad 79) ((tb.lw K).fdt 79) ((tb.lw K).fps 79) (spM K (tb.lw K) ((tb.lw K).fps 79).length (fnD 3 (B_79 c))) :=
  fn_rule (N := ["self", "point", "first"]) (funG_of F rfl rfl rfl) sc_79 fo (fun _ _ _ _ _ _ => rfl) fun X Wx hX G => rb_79 N hX G
theorem sc_80 : FnScope ["self", "first"] ["self"] (defScope s_80) := ⟨rfl, rfl, rfl, by decide +kernel, rfl, by decide +kernel, by decide +kernel⟩
theorem rb_80 {f : Addr} {X : Cx} {Wx : WX} (N : Nam K mg) (hX : ∃ (cdv : Value) (A : Around) (outer : List Env) (s : Shared) (H : Hp) (E : XK), X = cxOf (L2.CX P w) P w K mg base ["self", "first"] d_80.qual (defScope s_80) f cdv A outer s H E) (G : Gd (tb.lw K) X Wx k c) : RSs (tb.lw K) X Wx (defBody s_80) (B_80 c) := by
  obtain ⟨cdv, A, outer, s, H, E, rfl⟩ := hX
  exact (rss_cons (sv 1 G (re_mk (i := 2) (f := 68) G rfl rfl N.g_Form (ra_cons (re_meth (i := 50) G (re_mk (i := 0) (f := 37) G rfl rfl N.g_Ratio (ra_cons re_int ra_nil)) (ra_cons (re_fld (g := 44) G (ev 0)) ra_nil)) (ra_cons re_int ra_nil)))) (rss_one (rs_ret (re_tup (ra_cons (ev 1) (ra_cons (re_mk (i := 2) (f := 68) G rfl rfl N.g_Form (ra_cons (re_un (r1_neg G) (re_meth (i := 50) G (re_fld (g := 45) G (ev 0)) (ra_cons (re_fld (g := 47) G (ev 0)) ra_nil))) (ra_cons (re_meth (i := 50) G (re_mk (i := 0) (f := 37) G rfl rfl N.g_Ratio (ra_cons re_int ra_nil)) (ra_cons (re_fld (g := 46) G (ev 0)) ra_nil)) ra_nil))) ra_nil))))))
theorem ok_80 {fd : FuncData} (N : Nam K mg) (F : FunD K d_80.name d_80.qual d_80.params d_80.body d_80.scope (d_80.dvs K) (d_80.kws K) (adr K d_80.at_) fd) (fo : FOk (tb.lw K) P w K mg base k c) : FnOk P w K mg base (L2.CX P w) (k + 10) ((tb.lw K).fad 80) ((tb.lw K).fdt 80) ((tb.lw K).fps 80) (spM K (tb.lw K) ((tb.lw K).fps 80).length (fnD 2 (B_80 c))) :=
  fn_rule (N := ["self", "first"]) (funG_of F rfl rfl rfl) sc_80 fo (fun _ _ _ _ _ _ => rfl) fun X Wx hX G => rb_80 N hX G
theorem sc_81 : FnScope ["self", "first", "second"] ["self"] (defScope s_81) := ⟨rfl, rfl, rfl, by decide +kernel, rfl, by decide +kernel, by decide +kernel⟩
theorem rb_81 {f : Addr} {X : Cx} {Wx : WX} (N : Nam K mg) (hX : ∃ (cdv : Value) (A : Around) (outer : List Env) (s : Shared) (H : Hp) (E : XK), X = cxOf (L2.CX P w) P w K mg base ["self", "first", "second"] d_81.qual (defScope s_81) f cdv A outer s H E) (G : Gd (tb.lw K) X Wx k c) : RSs (tb.lw K) X Wx (defBody s_81) (B_81 c) := by
  obtain ⟨cdv, A, outer, s, H, E, rfl⟩ := hX
  exact (rss_cons (rs_asg (re_meth0 (i := 53) G (ev 0)) (gt G (rgs_cons (gv 1 G) (rgs_cons (gv 2 G) rgs_nil)))) (rss_one (rs_ret (re_mk (i := 3) (f := 76) G rfl rfl N.g_Lattice (ra_cons (re_lst (ra_cons (re_mk (i := 1) (f := 60) G rfl rfl N.g_Point (ra_cons (re_fld (g := 42) G (ev 1)) (ra_cons (re_fld (g := 43) G (ev 1)) ra_nil))) (ra_cons (re_mk (i := 1) (f := 60) G rfl rfl N.g_Point (ra_cons (re_fld (g := 42) G (ev 2)) (ra_cons (re_fld (g := 43) G (ev 2)) ra_nil))) ra_nil))) ra_nil)))))
theorem ok_81 {fd : FuncData} (N : Nam K mg) (F : FunD K d_81.name d_81.qual d_81.params d_81.body d_81.scope (d_81.dvs K) (d_81.kws K) (adr K d_81.at_) fd) (fo : FOk (tb.lw K) P w K mg base k c) : FnOk P w K mg base (L2.CX P w) (k + 10) ((tb.lw K).fad 81) ((tb.lw K).fdt 81) ((tb.lw K).fps 81) (spM K (tb.lw K) ((tb.lw K).fps 81).length (fnD 3 (B_81 c))) :=
  fn_rule (N := ["self", "first", "second"]) (funG_of F rfl rfl rfl) sc_81 fo (fun _ _ _ _ _ _ => rfl) fun X Wx hX G => rb_81 N hX G
theorem sc_82 : FnScope ["self", "point", "first", "second"] ["self", "point"] (defScope s_82) := ⟨rfl, rfl, rfl, by decide +kernel, rfl, by decide +kernel, by decide +kernel⟩
theorem rb_82 {f : Addr} {X : Cx} {Wx : WX} (N : Nam K mg) (hX : ∃ (cdv : Value) (A : Around) (outer : List Env) (s : Shared) (H : Hp) (E : XK), X = cxOf (L2.CX P w) P w K mg base ["self", "point", "first", "second"] d_82.qual (defScope s_82) f cdv A outer s H E) (G : Gd (tb.lw K) X Wx k c) : RSs (tb.lw K) X Wx (defBody s_82) (B_82 c) := by
  obtain ⟨cdv, A, outer, s, H, E, rfl⟩ := hX
  exact (rss_cons (rs_asg (re_meth (i := 52) G (ev 0) (ra_cons (ev 1) ra_nil)) (gt G (rgs_cons (gv 2 G) (rgs_cons (gv 3 G) rgs_nil)))) (rss_one (rs_ret (re_and (rtv_tru G) (re_meth0 (i := 54) G (ev 2)) (re_one (re_meth0 (i := 54) G (ev 3)))))))
theorem ok_82 {fd : FuncData} (N : Nam K mg) (F : FunD K d_82.name d_82.qual d_82.params d_82.body d_82.scope (d_82.dvs K) (d_82.kws K) (adr K d_82.at_) fd) (fo : FOk (tb.lw K) P w K mg base k c) : FnOk P w K mg base (L2.CX P w) (k + 10) ((tb.lw K).fad 82) ((tb.lw K).fdt 82) ((tb.lw K).fps 82) (spM K (tb.lw K) ((tb.lw K).fps 82).length (fnD 4 (B_82 c))) :=
  fn_rule (N := ["self", "point", "first", "second"]) (funG_of F rfl rfl rfl) sc_82 fo (fun _ _ _ _ _ _ => rfl) fun X Wx hX G => rb_82 N hX G
theorem sc_83 : FnScope ["self", "other"] ["self", "other"] (defScope s_83) := ⟨rfl, rfl, rfl, by decide +kernel, rfl, by decide +kernel, by decide +kernel⟩
theorem rb_83 {f : Addr} {X : Cx} {Wx : WX} (N : Nam K mg) (hX : ∃ (cdv : Value) (A : Around) (outer : List Env) (s : Shared) (H : Hp) (E : XK), X = cxOf (L2.CX P w) P w K mg base ["self", "other"] d_83.qual (defScope s_83) f cdv A outer s H E) (G : Gd (tb.lw K) X Wx k c) : RSs (tb.lw K) X Wx (defBody s_83) (B_83 c) := by
  obtain ⟨cdv, A, outer, s, H, E, rfl⟩ := hX
  exact (rss_cons (rs_if (rt_not (rt_of (rtv_tru G) (re_iso (j := 3) G rfl (ev 1) rfl N.b_isinstance rfl N.g_Lattice))) (rss_one (rs_ret re_bl)) rss_nil) (rss_one (rs_ret (re_and (rtv_tru G) (re_cmp (r2_eq G) (re_fld (g := 44) G (ev 0)) (re_fld (g := 44) G (ev 1)) rfl) (re_and (rtv_tru G) (re_cmp (r2_eq G) (re_fld (g := 45) G (ev 0)) (re_fld (g := 45) G (ev 1)) rfl) (re_one (re_cmp (r2_eq G) (re_fld (g := 46) G (ev 0)) (re_fld (g := 46) G (ev 1)) rfl)))))))
theorem ok_83 {fd : FuncData} (N : Nam K mg) (F : FunD K d_83.name d_83.qual d_83.params d_83.body d_83.scope (d_83.dvs K) (d_83.kws K) (adr K d_83.at_) fd) (fo : FOk (tb.lw K) P w K mg base k c) : FnOk P w K mg base (L2.CX P w) (k + 10) ((tb.lw K).fad 83) ((tb.lw K).fdt 83) ((tb.lw K).fps 83) (spM K (tb.lw K) ((tb.lw K).fps 83).length (fnD 2 (B_83 c))) :=
  fn_rule (N := ["self", "other"]) (funG_of F rfl rfl rfl) sc_83 fo (fun _ _ _ _ _ _ => rfl) fun X Wx hX G => rb_83 N hX G
theorem sc_84 : FnScope ["self", "other", "first", "second"] ["self", "other"] (defScope s_84) := ⟨rfl, rfl, rfl, by decide +kernel, rfl, by decide +kernel, by decide +kernel⟩
theorem rb_84 {f : Addr} {X : Cx} {Wx : WX} (N : Nam K mg) (hX : ∃ (cdv : Value) (A : Around) (outer : List Env) (s : Shared) (H : Hp) (E : XK), X = cxOf (L2.CX P w) P w K mg base ["self", "other", "first", "second"] d_84.qual (defScope s_84) f cdv A outer s H E) (G : Gd (tb.lw K) X Wx k c) : RSs (tb.lw K) X Wx (defBody s_84) (B_84 c) := by
  obtain ⟨cdv, A, outer, s, H, E, rfl⟩ := hX
  exact (rss_cons (rs_if (rt_not (rt_of (rtv_tru G) (re_iso (j := 3) G rfl (ev 1) rfl N.b_isinstance rfl N.g_Lattice))) (rss_one rs_no) rss_nil) (rss_cons (rs_asg (re_meth0 (i := 51) G (ev 0)) (gt G (rgs_cons (gv 2 G) (rgs_cons (gv 3 G) rgs_nil)))) (rss_one (rs_ret (re_and (rtv_tru G) (re_cmp (r2_inoY G) (ev 2) (ev 1) rfl) (re_one (re_cmp (r2_inoY G) (ev 3) (ev 1) rfl)))))))
theorem ok_84 {fd : FuncData} (N : Nam K mg) (F : FunD K d_84.name d_84.qual d_84.params d_84.body d_84.scope (d_84.dvs K) (d_84.kws K) (adr K d_84.at_) fd) (fo : FOk (tb.lw K) P w K mg base k c) : FnOk P w K mg base (L2.CX P w) (k + 10) ((tb.lw K).fad 84) ((tb.lw K).fdt 84) ((tb.lw K).fps 84) (spM K (tb.lw K) ((tb.lw K).fps 84).length (fnD 4 (B_84 c))) :=
  fn_rule (N := ["self", "other", "first", "second"]) (funG_of F rfl rfl rfl) sc_84 fo (fun _ _ _ _ _ _ => rfl) fun X Wx hX G => rb_84 N hX G
theorem sc_85 : FnScope ["self", "other"] ["self", "other"] (defScope s_85) := ⟨rfl, rfl, rfl, by decide +kernel, rfl, by decide +kernel, by decide +kernel⟩
theorem rb_85 {f : Addr} {X : Cx} {Wx : WX} (N : Nam K mg) (hX : ∃ (cdv : Value) (A : Around) (outer : List Env) (s : Shared) (H : Hp) (E : XK), X = cxOf (L2.CX P w) P w K mg base ["self", "other"] d_85.qual (defScope s_85) f cdv A outer s H E) (G : Gd (tb.lw K) X Wx k c) : RSs (tb.lw K) X Wx (defBody s_85) (B_85 c) := by
  obtain ⟨cdv, A, outer, s, H, E, rfl⟩ := hX
  exact (rss_cons (rs_if (rt_not (rt_of (rtv_tru G) (re_iso (j := 3) G rfl (ev 1) rfl N.b_isinstance rfl N.g_Lattice))) (rss_one rs_no) rss_nil) (rss_one (rs_ret (re_mk (i := 3) (f := 76) G rfl rfl N.g_Lattice (ra_cons (re_bin (r2_bin G .Add) (re_bty rc_list rfl N.b_list bb_list (ra_cons (re_meth0 (i := 51) G (ev 0)) ra_nil)) (re_bty rc_list rfl N.b_list bb_list (ra_cons (re_meth0 (i := 51) G (ev 1)) ra_nil))) ra_nil)))))
theorem ok_85 {fd : FuncData} (N : Nam K mg) (F : FunD K d_85.name d_85.qual d_85.params d_85.body d_85.scope (d_85.dvs K) (d_85.kws K) (adr K d_85.at_) fd) (fo : FOk (tb.lw K) P w K mg base k c) : FnOk P w K mg base (L2.CX P w) (k + 10) ((tb.lw K).fad 85) ((tb.lw K).fdt 85) ((tb.lw K).fps 85) (spM K (tb.lw K) ((tb.lw K).fps 85).length (fnD 2 (B_85 c))) :=
  fn_rule (N := ["self", "other"]) (funG_of F rfl rfl rfl) sc_85 fo (fun _ _ _ _ _ _ => rfl) fun X Wx hX G => rb_85 N hX G
theorem sc_86 : FnScope ["self", "other"] ["self", "other"] (defScope s_86) := ⟨rfl, rfl, rfl, by decide +kernel, rfl, by decide +kernel, by decide +kernel⟩
theorem rb_86 {f : Addr} {X : Cx} {Wx : WX} (N : Nam K mg) (hX : ∃ (cdv : Value) (A : Around) (outer : List Env) (s : Shared) (H : Hp) (E : XK), X = cxOf (L2.CX P w) P w K mg base ["self", "other"] d_86.qual (defScope s_86) f cdv A outer s H E) (G : Gd (tb.lw K) X Wx k c) : RSs (tb.lw K) X Wx (defBody s_86) (B_86 c) := by
  obtain ⟨cdv, A, outer, s, H, E, rfl⟩ := hX
  exact (rss_cons (rs_if (rt_not (rt_of (rtv_tru G) (re_iso (j := 3) G rfl (ev 1) rfl N.b_isinstance rfl N.g_Lattice))) (rss_one rs_no) rss_nil) (rss_one (rs_ret (re_meth0 (i := 48) G (re_bin (r2_bin G .Add) (re_meth0 (i := 48) G (ev 0)) (re_meth0 (i := 48) G (ev 1)))))))
theorem ok_86 {fd : FuncData} (N : Nam K mg) (F : FunD K d_86.name d_86.qual d_86.params d_86.body d_86.scope (d_86.dvs K) (d_86.kws K) (adr K d_86.at_) fd) (fo : FOk (tb.lw K) P w K mg base k c) : FnOk P w K mg base (L2.CX P w) (k + 10) ((tb.lw K).fad 86) ((tb.lw K).fdt 86) ((tb.lw K).fps 86) (spM K (tb.lw K) ((tb.lw K).fps 86).length (fnD 2 (B_86 c))) :=
  fn_rule (N := ["self", "other"]) (funG_of F rfl rfl rfl) sc_86 fo (fun _ _ _ _ _ _ => rfl) fun X Wx hX G => rb_86 N hX G
theorem sc_87 : FnScope ["self", "other"] ["self", "other"] (defScope s_87) := ⟨rfl, rfl, rfl, by decide +kernel, rfl, by decide +kernel, by decide +kernel⟩
theorem rb_87 {f : Addr} {X : Cx} {Wx : WX} (N : Nam K mg) (hX : ∃ (cdv : Value) (A : Around) (outer : List Env) (s : Shared) (H : Hp) (E : XK), X = cxOf (L2.CX P w) P w K mg base ["self", "other"] d_87.qual (defScope s_87) f cdv A outer s H E) (G : Gd (tb.lw K) X Wx k c) : RSs (tb.lw K) X Wx (defBody s_87) (B_87 c) := by
  obtain ⟨cdv, A, outer, s, H, E, rfl⟩ := hX
  exact (rss_cons (rs_if (rt_not (rt_of (rtv_tru G) (re_call (i := 0) G rfl rfl N.g_is_number (ra_cons (ev 1) ra_nil)))) (rss_one rs_no) rss_nil) (rss_one (rs_ret (re_call (i := 8) G rfl rfl N.g_scaled (ra_cons (ev 0) (ra_cons (ev 1) ra_nil))))))
theorem ok_87 {fd : FuncData} (N : Nam K mg) (F : FunD K d_87.name d_87.qual d_87.params d_87.body d_87.scope (d_87.dvs K) (d_87.kws K) (adr K d_87.at_) fd) (fo : FOk (tb.lw K) P w K mg base k c) : FnOk P w K mg base (L2.CX P w) (k + 10) ((tb.lw K).fad 87) ((tb.lw K).fdt 87) ((tb.lw K).fps 87) (spM K (tb.lw K) ((tb.lw K).fps 87).length (fnD 2 (B_87 c))) :=
  fn_rule (N := ["self", "other"]) (funG_of F rfl rfl rfl) sc_87 fo (fun _ _ _ _ _ _ => rfl) fun X Wx hX G => rb_87 N hX G
theorem sc_88 : FnScope ["self", "other"] ["self", "other"] (defScope s_88) := ⟨rfl, rfl, rfl, by decide +kernel, rfl, by decide +kernel, by decide +kernel⟩
theorem rb_88 {f : Addr} {X : Cx} {Wx : WX} (N : Nam K mg) (hX : ∃ (cdv : Value) (A : Around) (outer : List Env) (s : Shared) (H : Hp) (E : XK), X = cxOf (L2.CX P w) P w K mg base ["self", "other"] d_88.qual (defScope s_88) f cdv A outer s H E) (G : Gd (tb.lw K) X Wx k c) : RSs (tb.lw K) X Wx (defBody s_88) (B_88 c) := by
  obtain ⟨cdv, A, outer, s, H, E, rfl⟩ := hX
  exact (rss_cons (rs_if (rt_not (rt_of (rtv_tru G) (re_call (i := 0) G rfl rfl N.g_is_number (ra_cons (ev 1) ra_nil)))) (rss_one rs_no) rss_nil) (rss_one (rs_ret (re_call (i := 8) G rfl rfl N.g_scaled (ra_cons (ev 0) (ra_cons (ev 1) ra_nil))))))
theorem ok_88 {fd : FuncData} (N : Nam K mg) (F : FunD K d_88.name d_88.qual d_88.params d_88.body d_88.scope (d_88.dvs K) (d_88.kws K) (adr K d_88.at_) fd) (fo : FOk (tb.lw K) P w K mg base k c) : FnOk P w K mg base (L2.CX P w) (k + 10) ((tb.lw K).fad 88) ((tb.lw K).fdt 88) ((tb.lw K).fps 88) (spM K (tb.lw K) ((tb.lw K).fps 88).length (fnD 2 (B_88 c))) :=
  fn_rule (N := ["self", "other"]) (funG_of F rfl rfl rfl) sc_88 fo (fun _ _ _ _ _ _ => rfl) fun X Wx hX G => rb_88 N hX G
theorem no_47 {fd : FuncData} (N : Nam K mg) (F : FunD K d_47.name d_47.qual d_47.params d_47.body d_47.scope (d_47.dvs K) (d_47.kws K) (adr K d_47.at_) fd) (fo : FOk (tb.lw K) P w K mg base k c) : NiOk (tb.lw K) P w K mg base (k + 10) ((tb.lw K).fad 47) ((tb.lw K).fdt 47) ((tb.lw K).fps 47) (fun ds st => (nt_47 c (startE 2 ds) st).bind fun b st => .ok (.bl b) st) :=
  ni_rule (N := ["self", "other"]) (funG_of F rfl rfl rfl) sc_47 fo (fun _ _ _ _ _ _ => rfl) rfl (fun _ _ _ _ _ _ => rfl) N.b_NotImplemented fun X Wx hX G => by
    obtain ⟨cdv, A, outer, s, H, E, rfl⟩ := hX
    exact (rt_not (rt_of (rtv_tru G) (re_call (i := 0) G rfl rfl N.g_is_number (ra_cons (ev 1) ra_nil))))
theorem no_62 {fd : FuncData} (N : Nam K mg) (F : FunD K d_62.name d_62.qual d_62.params d_62.body d_62.scope (d_62.dvs K) (d_62.kws K) (adr K d_62.at_) fd) (fo : FOk (tb.lw K) P w K mg base k c) : NiOk (tb.lw K) P w K mg base (k + 10) ((tb.lw K).fad 62) ((tb.lw K).fdt 62) ((tb.lw K).fps 62) (fun ds st => (nt_62 c (startE 2 ds) st).bind fun b st => .ok (.bl b) st) :=
  ni_rule (N := ["self", "other"]) (funG_of F rfl rfl rfl) sc_62 fo (fun _ _ _ _ _ _ => rfl) rfl (fun _ _ _ _ _ _ => rfl) N.b_NotImplemented fun X Wx hX G => by
    obtain ⟨cdv, A, outer, s, H, E, rfl⟩ := hX
    exact (rt_not (rt_of (rtv_tru G) (re_iso (j := 1) G rfl (ev 1) rfl N.b_isinstance rfl N.g_Point)))
theorem no_63 {fd : FuncData} (N : Nam K mg) (F : FunD K d_63.name d_63.qual d_63.params d_63.body d_63.scope (d_63.dvs K) (d_63.kws K) (adr K d_63.at_) fd) (fo : FOk (tb.lw K) P w K mg base k c) : NiOk (tb.lw K) P w K mg base (k + 10) ((tb.lw K).fad 63) ((tb.lw K).fdt 63) ((tb.lw K).fps 63) (fun ds st => (nt_63 c (startE 2 ds) st).bind fun b st => .ok (.bl b) st) :=
  ni_rule (N := ["self", "other"]) (funG_of F rfl rfl rfl) sc_63 fo (fun _ _ _ _ _ _ => rfl) rfl (fun _ _ _ _ _ _ => rfl) N.b_NotImplemented fun X Wx hX G => by
    obtain ⟨cdv, A, outer, s, H, E, rfl⟩ := hX
    exact (rt_not (rt_of (rtv_tru G) (re_iso (j := 1) G rfl (ev 1) rfl N.b_isinstance rfl N.g_Point)))
theorem no_64 {fd : FuncData} (N : Nam K mg) (F : FunD K d_64.name d_64.qual d_64.params d_64.body d_64.scope (d_64.dvs K) (d_64.kws K) (adr K d_64.at_) fd) (fo : FOk (tb.lw K) P w K mg base k c) : NiOk (tb.lw K) P w K mg base (k + 10) ((tb.lw K).fad 64) ((tb.lw K).fdt 64) ((tb.lw K).fps 64) (fun ds st => (nt_64 c (startE 2 ds) st).bind fun b st => .ok (.bl b) st) :=
  ni_rule (N := ["self", "other"]) (funG_of F rfl rfl rfl) sc_64 fo (fun _ _ _ _ _ _ => rfl) rfl (fun _ _ _ _ _ _ => rfl) N.b_NotImplemented fun X Wx hX G => by
    obtain ⟨cdv, A, outer, s, H, E, rfl⟩ := hX
    exact (rt_not (rt_of (rtv_tru G) (re_call (i := 0) G rfl rfl N.g_is_number (ra_cons (ev 1) ra_nil))))
theorem no_71 {fd : FuncData} (N : Nam K mg) (F : FunD K d_71.name d_71.qual d_71.params d_71.body d_71.scope (d_71.dvs K) (d_71.kws K) (adr K d_71.at_) fd) (fo : FOk (tb.lw K) P w K mg base k c) : NiOk (tb.lw K) P w K mg base (k + 10) ((tb.lw K).fad 71) ((tb.lw K).fdt 71) ((tb.lw K).fps 71) (fun ds st => (nt_71 c (startE 2 ds) st).bind fun b st => .ok (.bl b) st) :=
  ni_rule (N := ["self", "other"]) (funG_of F rfl rfl rfl) sc_71 fo (fun _ _ _ _ _ _ => rfl) rfl (fun _ _ _ _ _ _ => rfl) N.b_NotImplemented fun X Wx hX G => by
    obtain ⟨cdv, A, outer, s, H, E, rfl⟩ := hX
    exact (rt_not (rt_of (rtv_tru G) (re_iso (j := 2) G rfl (ev 1) rfl N.b_isinstance rfl N.g_Form)))
theorem no_72 {fd : FuncData} (N : Nam K mg) (F : FunD K d_72.name d_72.qual d_72.params d_72.body d_72.scope (d_72.dvs K) (d_72.kws K) (adr K d_72.at_) fd) (fo : FOk (tb.lw K) P w K mg base k c) : NiOk (tb.lw K) P w K mg base (k + 10) ((tb.lw K).fad 72) ((tb.lw K).fdt 72) ((tb.lw K).fps 72) (fun ds st => (nt_72 c (startE 2 ds) st).bind fun b st => .ok (.bl b) st) :=
  ni_rule (N := ["self", "other"]) (funG_of F rfl rfl rfl) sc_72 fo (fun _ _ _ _ _ _ => rfl) rfl (fun _ _ _ _ _ _ => rfl) N.b_NotImplemented fun X Wx hX G => by
    obtain ⟨cdv, A, outer, s, H, E, rfl⟩ := hX
    exact (rt_not (rt_of (rtv_tru G) (re_iso (j := 2) G rfl (ev 1) rfl N.b_isinstance rfl N.g_Form)))
theorem no_73 {fd : FuncData} (N : Nam K mg) (F : FunD K d_73.name d_73.qual d_73.params d_73.body d_73.scope (d_73.dvs K) (d_73.kws K) (adr K d_73.at_) fd) (fo : FOk (tb.lw K) P w K mg base k c) : NiOk (tb.lw K) P w K mg base (k + 10) ((tb.lw K).fad 73) ((tb.lw K).fdt 73) ((tb.lw K).fps 73) (fun ds st => (nt_73 c (startE 2 ds) st).bind fun b st => .ok (.bl b) st) :=
  ni_rule (N := ["self", "other"]) (funG_of F rfl rfl rfl) sc_73 fo (fun _ _ _ _ _ _ => rfl) rfl (fun _ _ _ _ _ _ => rfl) N.b_NotImplemented fun X Wx hX G => by
    obtain ⟨cdv, A, outer, s, H, E, rfl⟩ := hX
    exact (rt_not (rt_of (rtv_tru G) (re_call (i := 0) G rfl rfl N.g_is_number (ra_cons (ev 1) ra_nil))))
theorem no_85 {fd : FuncData} (N : Nam K mg) (F : FunD K d_85.name d_85.qual d_85.params d_85.body d_85.scope (d_85.dvs K) (d_85.kws K) (adr K d_85.at_) fd) (fo : FOk (tb.lw K) P w K mg base k c) : NiOk (tb.lw K) P w K mg base (k + 10) ((tb.lw K).fad 85) ((tb.lw K).fdt 85) ((tb.lw K).fps 85) (fun ds st => (nt_85 c (startE 2 ds) st).bind fun b st => .ok (.bl b) st) :=
  ni_rule (N := ["self", "other"]) (funG_of F rfl rfl rfl) sc_85 fo (fun _ _ _ _ _ _ => rfl) rfl (fun _ _ _ _ _ _ => rfl) N.b_NotImplemented fun X Wx hX G => by
    obtain ⟨cdv, A, outer, s, H, E, rfl⟩ := hX
    exact (rt_not (rt_of (rtv_tru G) (re_iso (j := 3) G rfl (ev 1) rfl N.b_isinstance rfl N.g_Lattice)))
theorem no_87 {fd : FuncData} (N : Nam K mg) (F : FunD K d_87.name d_87.qual d_87.params d_87.body d_87.scope (d_87.dvs K) (d_87.kws K) (adr K d_87.at_) fd) (fo : FOk (tb.lw K) P w K mg base k c) : NiOk (tb.lw K) P w K mg base (k + 10) ((tb.lw K).fad 87) ((tb.lw K).fdt 87) ((tb.lw K).fps 87) (fun ds st => (nt_87 c (startE 2 ds) st).bind fun b st => .ok (.bl b) st) :=
  ni_rule (N := ["self", "other"]) (funG_of F rfl rfl rfl) sc_87 fo (fun _ _ _ _ _ _ => rfl) rfl (fun _ _ _ _ _ _ => rfl) N.b_NotImplemented fun X Wx hX G => by
    obtain ⟨cdv, A, outer, s, H, E, rfl⟩ := hX
    exact (rt_not (rt_of (rtv_tru G) (re_call (i := 0) G rfl rfl N.g_is_number (ra_cons (ev 1) ra_nil))))
end
end G13
namespace G13
open PySem PySem.Spec PyProof.Rows L2 Gm
def fa : List He.Fa := [.glo "Ratio", .glo "gcd_of", .glo "is_number", .glo "bezout", .glo "ratio_of", .glo "Lattice", .glo "_law_draw", .glo "_law_ten", .glo "_law_long", .glo "_law_size", .glo "_law_whole_is", .glo "_law_gcd", .glo "_law_told", .glo "Point", .glo "_law_area", .glo "_law_pick", .glo "_law_point", .glo "_law_stair", .glo "_law_ratio_is", .glo "_law_number", .glo "_law_member", .glo "_law_product", .glo "_law_is_lattice", .glo "Form", .glo "_law_truth", .glo "value_at", .glo "_law_begin", .glo "_law_middle", .glo "_law_small", .glo "_law_rows", .glo "_law_times", .glo "_law_plus", .glo "_law_lattice", .glo "_law_dual_right", .glo "_law_forms_right", .glo "_law_two_right", .glo "raised", .glo "lcm_of", .glo "stair", .glo "scaled", .free "isinstance", .free "int", .free "bool", .free "abs", .free "list", .free "len", .free "range", .free "max", .free "NotImplemented", .glo "law"]
def fn : List He.DefD := [d_0, d_1, d_2, d_3, d_4, d_5, d_6, d_7, d_8, d_9, d_10, d_11, d_12, d_13, d_14, d_15, d_16, d_17, d_18, d_19, d_20, d_21, d_22, d_23, d_24, d_25, d_26, d_27, d_28, d_29, d_30, d_31, d_32, d_33, d_34, d_35, d_36, d_37, d_38, d_39, d_40, d_41, d_42, d_43, d_44, d_45, d_46, d_47, d_48, d_49, d_50, d_51, d_52, d_53, d_54, d_55, d_56, d_57, d_58, d_59, d_60, d_61, d_62, d_63, d_64, d_65, d_66, d_67, d_68, d_69, d_70, d_71, d_72, d_73, d_74, d_75, d_76, d_77, d_78, d_79, d_80, d_81, d_82, d_83, d_84, d_85, d_86, d_87, d_88]
def ex (K : PySem.W.Frag) : Bool := okB tb K
abbrev R : PySem.W.OpenRow := PySem.W.OpenLaw.row PySem.Challenge.rw_overfloors_k13_whole_duals
abbrev hk : PySem.W.Hook := hookG 6 fa fn ex
def ob (s : PySem.W.SharedT) : AlG := obsH 6 fa fn ex (HandSHeadRun.getT s)
theorem ob_eq (s : PySem.W.SharedT) : ob s = hk.obs s.abs := obsH_eq (HandSHeadRun.getT_eq s)
def names0 : List PySem.Str := ["_wall", "__name__", "FloorError", "BadNumber", "BadPoint", "Flat", "is_number", "gcd_of", "lcm_of", "bezout", "raised", "Ratio", "ratio_of", "Point", "Form", "value_at", "stair", "Lattice", "scaled", "_law_begin", "_law_draw", "_law_pick", "_law_ten", "_law_long", "_law_size", "_law_number", "_law_gcd", "_law_truth", "_law_whole_is", "_law_ratio_is"]
def names1 : List PySem.Str := ["_law_told", "_law_point", "_law_area", "_law_stair", "_law_rows", "_law_small", "_law_lattice", "_law_is_lattice", "_law_member", "_law_plus", "_law_times", "_law_middle", "_law_product", "_law_dual_right", "_law_forms_right", "_law_two_right"]
def names : List PySem.Str := names0 ++ names1
theorem run_top (w : World) : HandSHeadRun.RunEq R (PySem.W.view R.prog [50]) hk ob 20000 names w := by
  intro os
  kernel_rfl
end G13
namespace G13
open PySem PySem.Spec PyProof.Rows L2 Gm
theorem gcd_loop (c : Fn) : ∀ (b a : Nat) (st : Store), ∃ m, whileN (tOf (truD T c) (xVar 1)) (sPar 0 1 (aCons (xVar 1) (aCons (xBin (binD T c .Mod) (xVar 0) (xVar 1)) aNil))) m [some (.int a), some (.int b)] st = .nx [some (.int (Nat.gcd a b)), some (.int 0)] st := by
  intro b
  induction b using Nat.strongRecOn with
  | ind b ih =>
    intro a st
    by_cases hb : b = 0
    · subst hb
      refine ⟨1, ?_⟩
      unfold whileN
      simp
    · obtain ⟨m, hm⟩ := ih (a % b) (Nat.mod_lt _ (Nat.pos_of_ne_zero hb)) b st
      refine ⟨m + 1, ?_⟩
      have hz : (b : Int) ≠ 0 := by omega
      rw [gcd_step a b hb] at hm
      unfold whileN
      simp [hb, hz, ib_mod, fmod_nat]
      simpa using hm
theorem s_gcd (n : Nat) (i j : Int) (st : Store) : run (n + 1) 1 [.int i, .int j] st = .ok (.int (Int.gcd i j)) st := by
  rw [run_1]
  refine fnD_rt0 ?_ rfl
  obtain ⟨m, hm⟩ := gcd_loop (run n) j.natAbs i.natAbs st
  have hw := sWhile_eq m hm (by simp)
  simp only [B_1, ap_sSeq, ap_sPar, ap_aCons, ap_xBi, ap_xVar, ap_aNil, startE, ap_sRet]
  simp [abs_if]
  rw [hw]
  simp [Int.gcd]
theorem s_isnum_int (n : Nat) (i : Int) (st : Store) : run (n + 1) 0 [.int i] st = .ok (.bl true) st := by
  rw [run_0]
  refine fnD_rt0 ?_ rfl
  simp [B_0, startE]
theorem isC_Ratio : T.isC 0 = true := rfl
theorem sub_Ratio : T.sub 0 0 = true := rfl
theorem s_isnum_rat (n : Nat) (ds : List D) (st : Store) : run (n + 1) 0 [.obj 0 ds] st = .ok (.bl true) st := by
  rw [run_0]
  refine fnD_rt0 ?_ rfl
  simp [B_0, startE, isC_Ratio, sub_Ratio]
/-- a fraction as the program keeps it -/
def rD (q : Rat) : D := .obj 0 [.int q.num, .int q.den]
@[simp] theorem fk_Ratio_top (d : D) (ρ : Ev) (st : Store) : fldK T 40 d ρ (.ref st.length) (st ++ [.ins 0 []]) = .nx ρ (st ++ [.ins 0 [(40, d)]]) := fk_new d ρ st rfl
@[simp] theorem fk_Ratio_bottom (d e : D) (ρ : Ev) (st : Store) : fldK T 41 d ρ (.ref st.length) (st ++ [.ins 0 [(40, e)]]) = .nx ρ (st ++ [.ins 0 [(40, e), (41, d)]]) := fk_new d ρ st rfl
@[simp] theorem fd_Ratio_top (c : Fn) (a b : D) (st : Store) : fldD T c 40 (.obj 0 [a, b]) st = .ok a st := fld_obj st rfl rfl
@[simp] theorem fd_Ratio_bottom (c : Fn) (a b : D) (st : Store) : fldD T c 41 (.obj 0 [a, b]) st = .ok b st := fld_obj st rfl rfl
theorem s_init (n : Nat) (i j : Int) (st : Store) (hj : j ≠ 0) (hs : Nb 8000 j) : run (n + 2) 37 [.ref st.length, .int i, .int j] (st ++ [.ins 0 []]) = .ok .non (st ++ [.ins 0 [(40, .int (Rat.divInt i j).num), (41, .int (Rat.divInt i j).den)]]) := by
  rw [run_37]
  have hc : com i j ≠ 0 ∧ (com i j).natAbs.log2 < 9000 := ⟨com_ne hj, log2_lt (Nat.lt_of_le_of_lt (com_le hj) (Nat.lt_of_lt_of_le hs (Nat.pow_le_pow_right (by decide) (by decide)))) (by decide)⟩
  refine fnD_init (ρ := [some (.ref st.length), some (.int i), some (.int j), some (.int j), some (.int (com i j))]) ?_ (by simp)
  rw [← cut_num hj, ← cut_den hj]
  have hj2 : (j == 0) = false := by simpa using hj
  by_cases hn : j < 0
  · have e : -(Int.gcd i j : Int) = com i j := by unfold com; rw [if_pos hn]
    simp [B_37, startE, iSeq, forI, hj, hj2, hn, s_gcd, e, ib_fdiv, hc]
  · have e : (Int.gcd i j : Int) = com i j := by unfold com; rw [if_neg hn]
    simp [B_37, startE, iSeq, forI, hj, hj2, hn, s_gcd, e, ib_fdiv, hc]
theorem Rat.ext_iff' (p q : Rat) : (p.num = q.num ∧ (p.den : Int) = (q.den : Int)) ↔ p = q := by
  constructor
  · intro ⟨h1, h2⟩
    exact Rat.ext h1 (Int.ofNat.inj h2)
  · intro h
    subst h
    exact ⟨rfl, rfl⟩
theorem s_mk (n : Nat) (i j : Int) (st : Store) (hj : j ≠ 0) (hs : Nb 8000 j) : mkD T (run (n + 2)) 0 [.int i, .int j] st = .ok (rD (Rat.divInt i j)) st :=
  mkD_new (fs := [(40, .int (Rat.divInt i j).num), (41, .int (Rat.divInt i j).den)]) rfl (s_init n i j st hj hs) rfl (by simp)
theorem s_mk1 (n : Nat) (i : Int) (st : Store) : mkD T (run (n + 2)) 0 [.int i] st = .ok (rD (i : Rat)) st := by
  rw [← rat_int]
  exact mkD_new (fs := [(40, .int (Rat.divInt i 1).num), (41, .int (Rat.divInt i 1).den)]) rfl (s_init n i 1 st (by decide) (by unfold Nb; exact Nat.one_lt_two_pow (by decide))) rfl (by simp)
theorem noRef_rD (n : Nat) (q : Rat) : noRef n (rD q) = true := by simp [rD]
theorem rhs_rD (q : Rat) : rhs T (rD q) = true := rfl
theorem s_isnum (n : Nat) (q : Rat) (st : Store) : run (n + 1) 0 [rD q] st = .ok (.bl true) st := s_isnum_rat n _ st
theorem fd_top (c : Fn) (q : Rat) (st : Store) : fldD T c 40 (rD q) st = .ok (.int q.num) st := fd_Ratio_top c _ _ st
theorem fd_bottom (c : Fn) (q : Rat) (st : Store) : fldD T c 41 (rD q) st = .ok (.int q.den) st := fd_Ratio_bottom c _ _ st
theorem iso_rD (q : Rat) (st : Store) : isoD T 0 (rD q) st = .ok (.bl true) st := by simp [rD, isC_Ratio, sub_Ratio]
theorem s_ratio_of (n : Nat) (q : Rat) (st : Store) : run (n + 1) 5 [rD q] st = .ok (rD q) st := by
  rw [run_5]
  refine fnD_rt0 ?_ (noRef_rD _ _)
  simp [B_5, startE, iso_rD]
theorem s_ratio_of_int (n : Nat) (i : Int) (st : Store) : run (n + 3) 5 [.int i] st = .ok (rD (i : Rat)) st := by
  rw [run_5]
  refine fnD_rt0 ?_ (noRef_rD _ _)
  simp [B_5, startE, s_isnum_int, s_mk1]
theorem s_over (n : Nat) (p q : Rat) (st : Store) (hp : Sz 4000 p) (hq : Sz 4000 q) (h0 : q ≠ 0) : run (n + 3) 57 [rD p, rD q] st = .ok (rD (p / q)) st := by
  have hz : q.num ≠ 0 := fun z => h0 (Rat.num_eq_zero.mp z)
  have hz2 : (q.num == 0) = false := by simpa using hz
  have hd : (p.den : Int) * q.num ≠ 0 := Int.mul_ne_zero (Rat.den_ne' p) hz
  have e : p / q = Rat.divInt (p.num * q.den) (p.den * q.num) := by
    rw [Rat.div_def, Rat.inv_def]
    conv => lhs; rw [← Rat.num_divInt_den p]
    rw [Rat.divInt_mul_divInt]
  rw [e, run_57]
  refine fnD_rt0 ?_ (noRef_rD _ _)
  simp [-Rat.divInt_ofNat, B_57, startE, s_ratio_of, fd_top, fd_bottom, hz2, ib_mul, hp.num.ok hq.den (by decide), hp.den.ok hq.num (by decide), s_mk n _ _ _ hd ((hp.den.mul hq.num).mono (by decide))]
section
variable (n : Nat) (p q : Rat) (j : Int) (st : Store)
theorem b_add (hp : Sz 4000 p) (hq : Sz 4000 q) : binD T (run (n + 3)) .Add (rD p) (rD q) st = .ok (rD (p + q)) st := by
  refine (bin_own st rfl (by decide)).trans ?_
  show run (n + 3) 43 [rD p, rD q] st = _
  rw [run_43, ← rat_add]
  refine fnD_rt0 ?_ (noRef_rD _ _)
  simp [-Rat.divInt_ofNat, B_43, startE, s_isnum, s_ratio_of, fd_top, fd_bottom, ib_mul, hp.num.ok hq.den (by decide), hp.den.ok hq.den (by decide), hq.num.ok hp.den (by decide), s_mk n _ _ _ (Int.mul_ne_zero (Rat.den_ne' p) (Rat.den_ne' q)) ((hp.den.mul hq.den).mono (by decide))]
theorem b_sub (hp : Sz 4000 p) (hq : Sz 4000 q) : binD T (run (n + 3)) .Sub (rD p) (rD q) st = .ok (rD (p - q)) st := by
  refine (bin_own st rfl (by decide)).trans ?_
  show run (n + 3) 45 [rD p, rD q] st = _
  rw [run_45, ← rat_sub]
  refine fnD_rt0 ?_ (noRef_rD _ _)
  simp [-Rat.divInt_ofNat, B_45, startE, s_isnum, s_ratio_of, fd_top, fd_bottom, ib_mul, hp.num.ok hq.den (by decide), hp.den.ok hq.den (by decide), hq.num.ok hp.den (by decide), s_mk n _ _ _ (Int.mul_ne_zero (Rat.den_ne' p) (Rat.den_ne' q)) ((hp.den.mul hq.den).mono (by decide))]
theorem b_mul (hp : Sz 4000 p) (hq : Sz 4000 q) : binD T (run (n + 3)) .Mult (rD p) (rD q) st = .ok (rD (p * q)) st := by
  refine (bin_own st rfl (by decide)).trans ?_
  show run (n + 3) 47 [rD p, rD q] st = _
  rw [run_47, ← rat_mul]
  refine fnD_rt0 ?_ (noRef_rD _ _)
  simp [-Rat.divInt_ofNat, B_47, startE, s_isnum, s_ratio_of, fd_top, fd_bottom, ib_mul, hp.num.ok hq.num (by decide), hp.den.ok hq.den (by decide), s_mk n _ _ _ (Int.mul_ne_zero (Rat.den_ne' p) (Rat.den_ne' q)) ((hp.den.mul hq.den).mono (by decide))]
theorem b_sub_i (hp : Sz 4000 p) (hj : Nb 4000 j) : binD T (run (n + 4)) .Sub (rD p) (.int j) st = .ok (rD (p - (j : Rat))) st := by
  have hq := Sz.int hj (by decide)
  refine (bin_oi st rfl (by decide)).trans ?_
  show run (n + 4) 45 [rD p, .int j] st = _
  rw [run_45, ← rat_sub]
  refine fnD_rt0 ?_ (noRef_rD _ _)
  simp [-Rat.divInt_ofNat, -Rat.num_intCast, -Rat.den_intCast, B_45, startE, s_isnum_int, s_ratio_of_int, fd_top, fd_bottom, ib_mul, hp.num.ok hq.den (by decide), hp.den.ok hq.den (by decide), hq.num.ok hp.den (by decide), s_mk (n + 1) _ _ _ (Int.mul_ne_zero (Rat.den_ne' p) (Rat.den_ne' j)) ((hp.den.mul hq.den).mono (by decide))]
theorem b_add_i (hp : Sz 4000 p) (hj : Nb 4000 j) : binD T (run (n + 4)) .Add (rD p) (.int j) st = .ok (rD (p + (j : Rat))) st := by
  have hq := Sz.int hj (by decide)
  refine (bin_oi st rfl (by decide)).trans ?_
  show run (n + 4) 43 [rD p, .int j] st = _
  rw [run_43, ← rat_add]
  refine fnD_rt0 ?_ (noRef_rD _ _)
  simp [-Rat.divInt_ofNat, -Rat.num_intCast, -Rat.den_intCast, B_43, startE, s_isnum_int, s_ratio_of_int, fd_top, fd_bottom, ib_mul, hp.num.ok hq.den (by decide), hp.den.ok hq.den (by decide), hq.num.ok hp.den (by decide), s_mk (n + 1) _ _ _ (Int.mul_ne_zero (Rat.den_ne' p) (Rat.den_ne' j)) ((hp.den.mul hq.den).mono (by decide))]
theorem b_mul_i (hp : Sz 4000 p) (hj : Nb 4000 j) : binD T (run (n + 4)) .Mult (rD p) (.int j) st = .ok (rD (p * (j : Rat))) st := by
  have hq := Sz.int hj (by decide)
  refine (bin_oi st rfl (by decide)).trans ?_
  show run (n + 4) 47 [rD p, .int j] st = _
  rw [run_47, ← rat_mul]
  refine fnD_rt0 ?_ (noRef_rD _ _)
  simp [-Rat.divInt_ofNat, -Rat.num_intCast, -Rat.den_intCast, B_47, startE, s_isnum_int, s_ratio_of_int, fd_top, fd_bottom, ib_mul, hp.num.ok hq.num (by decide), hp.den.ok hq.den (by decide), s_mk (n + 1) _ _ _ (Int.mul_ne_zero (Rat.den_ne' p) (Rat.den_ne' j)) ((hp.den.mul hq.den).mono (by decide))]
theorem b_rmul (hp : Sz 4000 p) (hj : Nb 4000 j) : binD T (run (n + 3)) .Mult (.int j) (rD p) st = .ok (rD ((j : Rat) * p)) st := by
  refine (bin_io st (g := 47) rfl rfl rfl).trans ?_
  show run (n + 3) 48 [rD p, .int j] st = _
  have e : (j : Rat) * p = Rat.divInt (j * p.num) p.den := by
    rw [← rat_mul, Rat.num_intCast, Rat.den_intCast]
    simp
  rw [run_48, e]
  refine fnD_rt0 ?_ (noRef_rD _ _)
  simp [-Rat.divInt_ofNat, B_48, startE, s_isnum_int, fd_top, fd_bottom, ib_mul, hj.ok hp.num (by decide), s_mk n _ _ _ (Rat.den_ne' p) (hp.den.mono (by decide))]
theorem b_neg (hp : Sz 4000 p) : negD T (run (n + 3)) (rD p) st = .ok (rD (-p)) st := by
  refine (neg_own st rfl).trans ?_
  show run (n + 3) 54 [rD p] st = _
  rw [run_54, ← rat_neg]
  refine fnD_rt0 ?_ (noRef_rD _ _)
  simp [-Rat.divInt_ofNat, B_54, startE, fd_top, fd_bottom, s_mk n _ _ _ (Rat.den_ne' p) (hp.den.mono (by decide))]
theorem s_req : run (n + 2) 38 [rD p, rD q] st = .ok (.bl (decide (p = q))) st := by
  rw [run_38]
  refine fnD_rt0 ?_ (by simp)
  have e := Rat.ext_iff' p q
  by_cases h1 : p.num = q.num
  · have h2 : (p.num == q.num) = true := by simpa using h1
    simp [B_38, startE, s_isnum, s_ratio_of, fd_top, fd_bottom, h1]
    rw [Bool.eq_iff_iff]
    simp [← e, h1]
  · have h2 : (p.num == q.num) = false := by simpa using h1
    have h3 : ¬ p = q := fun h => h1 (congrArg _ h)
    simp [B_38, startE, s_isnum, s_ratio_of, fd_top, fd_bottom, h2, h3]
theorem s_req_i : run (n + 4) 38 [rD p, .int j] st = .ok (.bl (decide (p = (j : Rat)))) st := by
  rw [run_38]
  refine fnD_rt0 ?_ (by simp)
  have e := Rat.ext_iff' p j
  by_cases h1 : p.num = (j : Rat).num
  · simp [-Rat.divInt_ofNat, -Rat.num_intCast, -Rat.den_intCast, B_38, startE, s_isnum_int, s_ratio_of_int, fd_top, fd_bottom, h1]
    rw [Bool.eq_iff_iff]
    simp [-Rat.num_intCast, -Rat.den_intCast, ← e, h1]
  · have h2 : (p.num == (j : Rat).num) = false := by simpa [-Rat.num_intCast] using h1
    have h3 : ¬ p = j := fun h => h1 (congrArg _ h)
    simp [-Rat.divInt_ofNat, -Rat.num_intCast, -Rat.den_intCast, B_38, startE, s_isnum_int, s_ratio_of_int, fd_top, fd_bottom, h2, h3]
theorem b_eq (neg : Bool) : eqB T (run (n + 2)) neg (rD p) (rD q) st = .ok (.bl (decide (p = q) != neg)) st := eqB_own st rfl rfl (s_req n p q st)
theorem b_eq_i (neg : Bool) : eqB T (run (n + 4)) neg (rD p) (.int j) st = .ok (.bl (decide (p = (j : Rat)) != neg)) st := eqB_own st rfl rfl (s_req_i n p j st)
theorem b_bool_int (c : Fn) (i : Int) : bBool T c [.int i] st = .ok (.bl (i != 0)) st := rfl
theorem b_bool : run (n + 1) 56 [rD p] st = .ok (.bl (decide (p ≠ 0))) st := by
  rw [run_56]
  refine fnD_rt0 ?_ (by simp)
  simp [B_56, startE, fd_top, b_bool_int]
  rw [Bool.eq_iff_iff]
  simp [Rat.num_eq_zero]
end
end G13
namespace G13
open PySem PySem.Spec PyProof.Rows L2 Gm
def IsN (a : D) (q : Rat) : Prop := a = rD q ∨ ∃ i : Int, a = .int i ∧ q = (i : Rat)
theorem IsN.rD (q : Rat) : IsN (rD q) q := .inl rfl
theorem IsN.int (i : Int) : IsN (.int i) (i : Rat) := .inr ⟨i, rfl, rfl⟩
theorem s_rof {a : D} {q : Rat} (n : Nat) (st : Store) (h : IsN a q) : run (n + 3) 5 [a] st = .ok (rD q) st := by
  rcases h with rfl | ⟨i, rfl, rfl⟩
  · exact s_ratio_of (n + 2) q st
  · exact s_ratio_of_int n i st
/-- a point as the program keeps it -/
def pD (x y : Rat) : D := .obj 1 [rD x, rD y]
theorem isC_Point : T.isC 1 = true := rfl
theorem sub_Point : T.sub 1 1 = true := rfl
theorem fk_Point_x (d : D) (ρ : Ev) (st : Store) : fldK T 42 d ρ (.ref st.length) (st ++ [.ins 1 []]) = .nx ρ (st ++ [.ins 1 [(42, d)]]) := fk_new d ρ st rfl
theorem fk_Point_y (d e : D) (ρ : Ev) (st : Store) : fldK T 43 d ρ (.ref st.length) (st ++ [.ins 1 [(42, e)]]) = .nx ρ (st ++ [.ins 1 [(42, e), (43, d)]]) := fk_new d ρ st rfl
theorem fd_x (c : Fn) (x y : Rat) (st : Store) : fldD T c 42 (pD x y) st = .ok (rD x) st := fld_obj st rfl rfl
theorem fd_y (c : Fn) (x y : Rat) (st : Store) : fldD T c 43 (pD x y) st = .ok (rD y) st := fld_obj st rfl rfl
theorem iso_pD (x y : Rat) (st : Store) : isoD T 1 (pD x y) st = .ok (.bl true) st := by simp [pD, isC_Point, sub_Point]
theorem noRef_pD (n : Nat) (x y : Rat) : noRef n (pD x y) = true := by simp [pD, noRef_rD]
theorem s_mkP {a b : D} {x y : Rat} (n : Nat) (st : Store) (ha : IsN a x) (hb : IsN b y) : mkD T (run (n + 4)) 1 [a, b] st = .ok (pD x y) st := by
  refine mkD_new (f := 60) (fs := [(42, rD x), (43, rD y)]) rfl ?_ rfl (by simp [noRef_rD])
  rw [cl_60_3]
  rw [run_60]
  refine fnD_init (ρ := [some (.ref st.length), some a, some b]) ?_ (by simp [noRef_rD])
  simp [B_60, startE, s_rof n _ ha, s_rof n _ hb, fk_Point_x, fk_Point_y]
theorem s_mkP_r (n : Nat) (x y : Rat) (st : Store) : mkD T (run (n + 4)) 1 [rD x, rD y] st = .ok (pD x y) st := s_mkP n st (.rD x) (.rD y)
theorem s_mkP_i (n : Nat) (i j : Int) (st : Store) : mkD T (run (n + 4)) 1 [.int i, .int j] st = .ok (pD i j) st := s_mkP n st (.int i) (.int j)
section
variable (n : Nat) (x y z w : Rat) (st : Store)
theorem p_add (h1 : Sz 4000 x) (h2 : Sz 4000 y) (h3 : Sz 4000 z) (h4 : Sz 4000 w) : binD T (run (n + 5)) .Add (pD x y) (pD z w) st = .ok (pD (x + z) (y + w)) st := by
  refine (bin_own st rfl (by decide)).trans ?_
  show run (n + 5) 62 [pD x y, pD z w] st = _
  rw [run_62]
  refine fnD_rt0 ?_ (noRef_pD _ _ _)
  simp [B_62, startE, iso_pD, fd_x, fd_y, b_add, h1, h2, h3, h4, s_mkP_r]
theorem p_sub (h1 : Sz 4000 x) (h2 : Sz 4000 y) (h3 : Sz 4000 z) (h4 : Sz 4000 w) : binD T (run (n + 5)) .Sub (pD x y) (pD z w) st = .ok (pD (x - z) (y - w)) st := by
  refine (bin_own st rfl (by decide)).trans ?_
  show run (n + 5) 63 [pD x y, pD z w] st = _
  rw [run_63]
  refine fnD_rt0 ?_ (noRef_pD _ _ _)
  simp [B_63, startE, iso_pD, fd_x, fd_y, b_sub, h1, h2, h3, h4, s_mkP_r]
theorem p_neg (h1 : Sz 4000 x) (h2 : Sz 4000 y) : negD T (run (n + 5)) (pD x y) st = .ok (pD (-x) (-y)) st := by
  refine (neg_own st rfl).trans ?_
  show run (n + 5) 66 [pD x y] st = _
  rw [run_66]
  refine fnD_rt0 ?_ (noRef_pD _ _ _)
  simp [B_66, startE, fd_x, fd_y, b_neg, h1, h2, s_mkP_r]
theorem s_peq : run (n + 3) 61 [pD x y, pD z w] st = .ok (.bl (decide (x = z ∧ y = w))) st := by
  rw [run_61]
  refine fnD_rt0 ?_ (by simp)
  by_cases h1 : x = z
  · by_cases h2 : y = w <;> simp [B_61, startE, iso_pD, fd_x, fd_y, b_eq, h1, h2]
  · simp [B_61, startE, iso_pD, fd_x, fd_y, b_eq, h1]
theorem p_eq (neg : Bool) : eqB T (run (n + 3)) neg (pD x y) (pD z w) st = .ok (.bl (decide (x = z ∧ y = w) != neg)) st := eqB_own st rfl rfl (s_peq n x y z w st)
theorem bBool_rD : bBool T (run (n + 1)) [rD x] st = .ok (.bl (decide (x ≠ 0))) st := by
  unfold rD bBool
  simp only [me_0_34]
  show (run (n + 1) 56 [rD x] st).bind _ = _
  rw [b_bool]
  rfl
theorem s_pbool : run (n + 2) 67 [pD x y] st = .ok (.bl (decide (¬ (x = 0 ∧ y = 0)))) st := by
  rw [run_67]
  refine fnD_rt0 ?_ (by simp)
  by_cases h1 : x = 0
  · by_cases h2 : y = 0 <;> simp [B_67, startE, fd_x, fd_y, bBool_rD, h1, h2]
  · simp [B_67, startE, fd_x, fd_y, bBool_rD, h1]
theorem tru_pD : truD T (run (n + 2)) (pD x y) st = .ok (decide (¬ (x = 0 ∧ y = 0))) st := tru_own st rfl (s_pbool n x y st)
end
end G13
namespace G13
open PySem PySem.Spec PyProof.Rows L2 Gm
theorem fmod_nn (a : Int) {b : Int} (h : 0 < b) : 0 ≤ a.fmod b := by
  rw [Int.fmod_eq_emod_of_nonneg _ (Int.le_of_lt h)]
  exact Int.emod_nonneg _ (by omega)
theorem fmod_lt (a : Int) {b : Int} (h : 0 < b) : a.fmod b < b := by
  rw [Int.fmod_eq_emod_of_nonneg _ (Int.le_of_lt h)]
  exact Int.emod_lt_of_pos _ h
theorem fdiv_nn {a b : Int} (ha : 0 ≤ a) (h : 0 < b) : 0 ≤ a.fdiv b := by
  rw [Int.fdiv_eq_ediv_of_nonneg _ (Int.le_of_lt h)]
  exact Int.ediv_nonneg ha (Int.le_of_lt h)
theorem Nb.of {i : Int} {b : Nat} (h0 : 0 ≤ i) (h : i < ((2 ^ b : Nat) : Int)) : Nb b i := by
  unfold Nb
  omega
theorem le_abs {i : Int} {s t : Nat} (h : i.natAbs ≤ 2 ^ s) (ht : s ≤ t) : i.natAbs ≤ 2 ^ t := Nat.le_trans h (Nat.pow_le_pow_right (by decide) ht)
theorem add_abs {i j : Int} {s : Nat} (h1 : i.natAbs ≤ 2 ^ s) (h2 : j.natAbs ≤ 2 ^ s) : (i + j).natAbs ≤ 2 ^ (s + 1) := by
  have := Int.natAbs_add_le i j
  rw [Nat.pow_succ]
  omega
theorem sub_abs {i j : Int} {s : Nat} (h1 : i.natAbs ≤ 2 ^ s) (h2 : j.natAbs ≤ 2 ^ s) : (i - j).natAbs ≤ 2 ^ (s + 1) := by
  rw [Int.sub_eq_add_neg]
  exact add_abs h1 (by rw [Int.natAbs_neg]; exact h2)
theorem mul_abs {i j : Int} {s t : Nat} (h1 : i.natAbs ≤ 2 ^ s) (h2 : j.natAbs ≤ 2 ^ t) : (i * j).natAbs ≤ 2 ^ (s + t) := by
  rw [Int.natAbs_mul, Nat.pow_add]
  exact Nat.mul_le_mul h1 h2
theorem sq_nn (i : Int) : 0 ≤ i * i := by
  rcases Int.le_total 0 i with h | h
  · exact Int.mul_nonneg h h
  · exact Int.mul_nonneg_of_nonpos_of_nonpos h h
theorem sq_pos {i : Int} (h : i ≠ 0) : 0 < i * i := by
  rcases Int.lt_or_gt_of_ne h with h | h
  · exact Int.mul_pos_of_neg_of_neg h h
  · exact Int.mul_pos h h
--HERE
theorem bin_ll {c : Fn} {m p : Nat} {st : Store} {a b : List D} (h1 : st[m]? = some (.lst a)) (h2 : st[p]? = some (.lst b)) (hl : a.length + b.length < 100) : binD T c .Add (.ref m) (.ref p) st = .ok (.ref st.length) (st ++ [.lst (a ++ b)]) := by
  unfold binD
  simp only [h1, h2]
  exact if_pos ⟨trivial, Nat.le_trans (Nat.le_of_lt hl) (by decide)⟩
theorem Sz.small {i : Int} (h : i.natAbs < 2) (s : Nat) (hs : 0 < s) : Sz s (i : Rat) := Sz.int (Nat.lt_of_lt_of_le h (Nat.one_lt_two_pow (Nat.ne_of_gt hs))) hs
theorem Sz.zero (s : Nat) (hs : 0 < s) : Sz s 0 := Sz.small (i := 0) (by decide) s hs
theorem newLst_ (ds : List D) (st : Store) : newLst ds st = .ok (.ref st.length) (st ++ [.lst ds]) := rfl
theorem iSeq_of {f : Fe} {ρ : Ev} {st : Store} {d : D} {ds : List D} (h : f ρ st = .ok d st) (hs : seqOf d st = some ds) : ∃ chk, iSeq f ρ st = .ok (ds, chk) st ∧ ∀ e, chk (st ++ e) := by
  unfold seqOf at hs
  unfold iSeq
  rw [h, Res.bind_ok]
  split at hs
  · cases hs
    exact ⟨_, rfl, fun _ => trivial⟩
  · rename_i n
    split at hs <;> simp at hs
    · rename_i l hl
      subst hs
      first
        | exact ⟨_, rfl, fun e => get_ext hl⟩
        | (dsimp only; rw [hl]; exact ⟨_, rfl, fun e => get_ext hl⟩)
    · rename_i l hl
      subst hs
      first
        | exact ⟨_, rfl, fun e => get_ext hl⟩
        | (dsimp only; rw [hl]; exact ⟨_, rfl, fun e => get_ext hl⟩)
  · cases hs
theorem seqOf_ext {d : D} {st : Store} {ds : List D} (e : Store) (h : seqOf d st = some ds) : seqOf d (st ++ e) = some ds := by
  cases d with
  | tup l => exact h
  | ref n =>
    unfold seqOf at h ⊢
    dsimp only at h ⊢
    cases hn : st[n]? with
    | none => rw [hn] at h; cases h
    | some x =>
      rw [hn] at h
      rw [get_ext hn]
      exact h
  | _ => cases h
theorem hm_over (c : Fn) (r : Fa) (ρ : Ev) (q : Rat) (st : Store) : methK T c 50 r ρ (rD q) st = (r ρ st).bind (kMe T c 57 (rD q)) := methK_obj ρ st T c r rfl
theorem Sz.one (s : Nat) (hs : 0 < s) : Sz s 1 := Sz.small (i := 1) (by decide) s hs
end G13
namespace G13
open PySem PySem.Spec PyProof.Rows L2 Gm
theorem fdiv_nat (a b : Nat) : (a : Int).fdiv (b : Int) = ((a / b : Nat) : Int) := by
  rw [Int.fdiv_eq_ediv_of_nonneg _ (by omega)]
  exact (Int.natCast_ediv a b).symm
theorem fdiv_same {a b : Nat} : (-(a : Int)).fdiv (-(b : Int)) = ((a / b : Nat) : Int) := by
  rw [Int.neg_fdiv_neg]
  exact fdiv_nat a b
theorem s_lcm (n : Nat) (i j : Int) (st : Store) (hi : 0 < i) (hj : 0 < j) (bi : Nb 4000 i) (bj : Nb 4000 j) : run (n + 2) 2 [.int i, .int j] st = .ok (.int (Int.lcm i j)) st := by
  obtain ⟨a, rfl⟩ := Int.eq_ofNat_of_zero_le (Int.le_of_lt hi)
  obtain ⟨b, rfl⟩ := Int.eq_ofNat_of_zero_le (Int.le_of_lt hj)
  have ha : 0 < a := by omega
  have hb : 0 < b := by omega
  have hg : 0 < Nat.gcd a b := Nat.gcd_pos_of_pos_left b ha
  have hd : ((Nat.gcd a b : Nat) : Int) ≠ 0 ∧ ((Nat.gcd a b : Nat) : Int).natAbs.log2 < 9000 := by
    refine ⟨by omega, log2_lt ?_ (by decide)⟩
    refine Nat.lt_of_le_of_lt (m := a) (Nat.le_of_dvd ha (Nat.gcd_dvd_left a b)) (Nat.lt_of_lt_of_le bi (Nat.pow_le_pow_right (by decide) (by decide)))
  have e1 : (a : Int).fdiv ((Nat.gcd a b : Nat) : Int) = ((a / Nat.gcd a b : Nat) : Int) := fdiv_nat a _
  have hm : IntMulOk ((a / Nat.gcd a b : Nat) : Int) (b : Int) := by
    refine Nb.ok (b := 4000) (b' := 4000) ?_ bj (by decide)
    exact Nat.lt_of_le_of_lt (Nat.div_le_self a _) bi
  have e2 : a / Nat.gcd a b * b = Nat.lcm a b := by
    rw [Nat.lcm_eq_mul_div]
    exact Nat.div_mul_right_comm (Nat.gcd_dvd_left a b) b
  have g1 : Int.gcd (a : Int) (b : Int) = Nat.gcd a b := rfl
  have l1 : Int.lcm (a : Int) (b : Int) = Nat.lcm a b := rfl
  rw [run_2, l1, ← e2]
  refine fnD_rt0 ?_ rfl
  have z1 : ((a : Int) == 0) = false := by simp; omega
  have z2 : ((b : Int) == 0) = false := by simp; omega
  have hc : ∀ st, run (n + 1) 1 [.int (a : Int), .int (b : Int)] st = .ok (.int ((Nat.gcd a b : Nat) : Int)) st := fun st => s_gcd n _ _ st
  have nn : ¬ (((a / Nat.gcd a b : Nat) : Int) * (b : Int) < 0) := Int.not_lt.mpr (Int.mul_nonneg (Int.natCast_nonneg _) (Int.natCast_nonneg _))
  simp [-Int.natCast_ediv, -Int.natCast_mul, B_2, startE, z1, z2, hc, ib_fdiv st hd, e1, ib_mul, hm, nn]
  exact (Int.natCast_mul _ _).symm
/-- the state of bezout -/
structure Bz (F G : Int) (c0 c1 c2 : Nat) (o0 o1 o2 n0 n1 n2 : Int) : Prop where
  eo : o1 * F + o2 * G = o0
  en : n1 * F + n2 * G = n0
  sg : (0 ≤ o0 ∧ 0 ≤ n0) ∨ (o0 ≤ 0 ∧ n0 ≤ 0)
  gc : Int.gcd o0 n0 = Int.gcd F G
  a0 : o0.natAbs ≤ c0
  b0 : n0.natAbs ≤ c0
  a1 : o1.natAbs ≤ c1
  b1 : n1.natAbs ≤ c1
  s1 : n1.natAbs * o0.natAbs + o1.natAbs * n0.natAbs ≤ c1
  a2 : o2.natAbs ≤ c2
  b2 : n2.natAbs ≤ c2
  s2 : n2.natAbs * o0.natAbs + o2.natAbs * n0.natAbs ≤ c2
theorem bz_s {a b c : Nat} {o n t : Int} (ht : t = ((a / b : Nat) : Int)) (hb : 0 < b) (h : n.natAbs * a + o.natAbs * b ≤ c) : (o - t * n).natAbs ≤ c ∧ (o - t * n).natAbs * b + n.natAbs * (a % b) ≤ c := by
  have h1 : (o - t * n).natAbs ≤ o.natAbs + (a / b) * n.natAbs := by
    have := Int.natAbs_sub_le o (t * n)
    rw [Int.natAbs_mul] at this
    rw [ht, Int.natAbs_natCast] at this
    rw [ht]
    exact this
  have h2 : (o - t * n).natAbs * b ≤ o.natAbs * b + (a / b) * n.natAbs * b := by
    rw [← Nat.add_mul]
    exact Nat.mul_le_mul_right b h1
  have h3 : (a / b) * n.natAbs * b + n.natAbs * (a % b) = n.natAbs * a := by
    have e := Nat.div_add_mod a b
    calc (a / b) * n.natAbs * b + n.natAbs * (a % b) = n.natAbs * (b * (a / b) + a % b) := by grind
      _ = n.natAbs * a := by rw [e]
  have h4 : (o - t * n).natAbs ≤ (o - t * n).natAbs * b := Nat.le_mul_of_pos_right _ hb
  omega
theorem Bz.step {F G : Int} {c0 c1 c2 : Nat} {o0 o1 o2 n0 n1 n2 : Int} (h : Bz F G c0 c1 c2 o0 o1 o2 n0 n1 n2) (h0 : n0 ≠ 0) :
    Bz F G c0 c1 c2 n0 n1 n2 (o0 - o0.fdiv n0 * n0) (o1 - o0.fdiv n0 * n1) (o2 - o0.fdiv n0 * n2) ∧ (o0 - o0.fdiv n0 * n0).natAbs < n0.natAbs ∧ (o0.fdiv n0).natAbs ≤ c0 := by
  have hb : 0 < n0.natAbs := by omega
  have ht : o0.fdiv n0 = ((o0.natAbs / n0.natAbs : Nat) : Int) := by
    rcases h.sg with ⟨p, q⟩ | ⟨p, q⟩
    · conv => lhs; rw [show o0 = (o0.natAbs : Int) by omega, show n0 = (n0.natAbs : Int) by omega]
      exact fdiv_nat _ _
    · conv => lhs; rw [show o0 = -(o0.natAbs : Int) by omega, show n0 = -(n0.natAbs : Int) by omega]
      exact fdiv_same
  have hr : ((o0.natAbs / n0.natAbs : Nat) : Int) * (n0.natAbs : Int) + ((o0.natAbs % n0.natAbs : Nat) : Int) = (o0.natAbs : Int) := by
    have := Nat.div_add_mod o0.natAbs n0.natAbs
    rw [Nat.mul_comm] at this
    rw [← Int.natCast_mul, ← Int.natCast_add, this]
  have hm := Nat.mod_lt o0.natAbs hb
  have er : (o0 - o0.fdiv n0 * n0).natAbs = o0.natAbs % n0.natAbs := by
    rw [ht]
    rcases h.sg with ⟨p, q⟩ | ⟨p, q⟩
    · have e1 : (n0.natAbs : Int) = n0 := by omega
      rw [e1] at hr
      omega
    · have e1 : (n0.natAbs : Int) = -n0 := by omega
      rw [e1, Int.mul_neg] at hr
      omega
  have sr : (0 ≤ n0 ∧ 0 ≤ o0 - o0.fdiv n0 * n0) ∨ (n0 ≤ 0 ∧ o0 - o0.fdiv n0 * n0 ≤ 0) := by
    rw [ht]
    rcases h.sg with ⟨p, q⟩ | ⟨p, q⟩
    · have e1 : (n0.natAbs : Int) = n0 := by omega
      rw [e1] at hr
      left
      omega
    · have e1 : (n0.natAbs : Int) = -n0 := by omega
      rw [e1, Int.mul_neg] at hr
      right
      omega
  have k1 := bz_s ht hb h.s1
  have k2 := bz_s ht hb h.s2
  have hz := h.b0
  refine ⟨⟨h.en, ?_, sr, ?_, h.b0, by rw [er]; omega, h.b1, k1.1, ?_, h.b2, k2.1, ?_⟩, by rw [er]; exact hm, ?_⟩
  · have e1 := h.eo
    have e2 := h.en
    generalize o0.fdiv n0 = t at *
    grind
  · rw [← h.gc]
    show Nat.gcd n0.natAbs (o0 - o0.fdiv n0 * n0).natAbs = Nat.gcd o0.natAbs n0.natAbs
    rw [er]
    exact gcd_step o0.natAbs n0.natAbs (by omega)
  · rw [er]
    exact k1.2
  · rw [er]
    exact k2.2
  · rw [ht, Int.natAbs_natCast]
    exact Nat.le_trans (Nat.div_le_self _ _) h.a0
theorem bz_loop {F G : Int} {c0 c1 c2 : Nat} (c : Fn) (hc : c0 < 2 ^ 4000 ∧ c1 < 2 ^ 4000 ∧ c2 < 2 ^ 4000) : ∀ (k : Nat) (o0 o1 o2 n0 n1 n2 : Int) (q : Option D) (st : Store), n0.natAbs ≤ k → Bz F G c0 c1 c2 o0 o1 o2 n0 n1 n2 →
    ∃ N g s t w1 w2 q', Bz F G c0 c1 c2 g s t 0 w1 w2 ∧ whileN (tOf (truD T c) (xBin subD (xVar 3) (xK (.int 0)))) (sSeq (sAsg (xBin (binD T c .FloorDiv) (xBin subD (xVar 2) (xK (.int 0))) (xBin subD (xVar 3) (xK (.int 0)))) (gNm 4)) (sPar 2 3 (aCons (xVar 3) (aCons (xTup (aCons (xBin (binD T c .Sub) (xBin subD (xVar 2) (xK (.int 0))) (xBin (binD T c .Mult) (xVar 4) (xBin subD (xVar 3) (xK (.int 0))))) (aCons (xBin (binD T c .Sub) (xBin subD (xVar 2) (xK (.int 1))) (xBin (binD T c .Mult) (xVar 4) (xBin subD (xVar 3) (xK (.int 1))))) (aCons (xBin (binD T c .Sub) (xBin subD (xVar 2) (xK (.int 2))) (xBin (binD T c .Mult) (xVar 4) (xBin subD (xVar 3) (xK (.int 2))))) aNil)))) aNil)))) N
      [some (.int F), some (.int G), some (.tup [.int o0, .int o1, .int o2]), some (.tup [.int n0, .int n1, .int n2]), q] st = .nx [some (.int F), some (.int G), some (.tup [.int g, .int s, .int t]), some (.tup [.int 0, .int w1, .int w2]), q'] st := by
  intro k
  induction k with
  | zero =>
    intro o0 o1 o2 n0 n1 n2 q st hk h
    have e : n0 = 0 := by omega
    subst e
    refine ⟨1, o0, o1, o2, n1, n2, q, h, ?_⟩
    unfold whileN
    simp
  | succ k ih =>
    intro o0 o1 o2 n0 n1 n2 q st hk h
    by_cases h0 : n0 = 0
    · subst h0
      refine ⟨1, o0, o1, o2, n1, n2, q, h, ?_⟩
      unfold whileN
      simp
    · obtain ⟨h', hl, ht⟩ := h.step h0
      obtain ⟨N, g, s, t, w1, w2, q', hg, hN⟩ := ih n0 n1 n2 _ _ _ (some (.int (o0.fdiv n0))) st (by omega) h'
      refine ⟨N + 1, g, s, t, w1, w2, q', hg, ?_⟩
      have nt : Nb 4000 (o0.fdiv n0) := by unfold Nb; omega
      have m0 := nt.ok (b' := 4000) (j := n0) (by unfold Nb; have := h.b0; omega) (by decide)
      have m1 := nt.ok (b' := 4000) (j := n1) (by unfold Nb; have := h.b1; omega) (by decide)
      have m2 := nt.ok (b' := 4000) (j := n2) (by unfold Nb; have := h.b2; omega) (by decide)
      have hd : n0 ≠ 0 ∧ n0.natAbs.log2 < 9000 := ⟨h0, log2_lt (Nat.lt_of_le_of_lt h.b0 (Nat.lt_of_lt_of_le hc.1 (Nat.pow_le_pow_right (by decide) (by decide)))) (by decide)⟩
      unfold whileN
      simp [h0, ib_fdiv st hd, ib_mul, m0, m1, m2]
      exact hN
theorem s_bezout (n : Nat) (F G : Int) (c0 : Nat) (st : Store) (hF : 0 ≤ F) (hG : G ≠ 0) (bF : F.natAbs ≤ c0) (bG : G.natAbs ≤ c0) (hc : 3 * c0 < 2 ^ 4000) :
    ∃ s t, run (n + 1) 3 [.int F, .int G] st = .ok (.tup [.int (Int.gcd F G), .int s, .int t]) st ∧ s * F + t * G = Int.gcd F G ∧ s.natAbs ≤ 3 * c0 ∧ t.natAbs ≤ 3 * c0 := by
  have key : ∃ N g s t w1 w2 q', Bz F G c0 (3 * c0) (3 * c0) g s t 0 w1 w2 ∧ whileN (tOf (truD T (run n)) (xBin subD (xVar 3) (xK (.int 0)))) (sSeq (sAsg (xBin (binD T (run n) .FloorDiv) (xBin subD (xVar 2) (xK (.int 0))) (xBin subD (xVar 3) (xK (.int 0)))) (gNm 4)) (sPar 2 3 (aCons (xVar 3) (aCons (xTup (aCons (xBin (binD T (run n) .Sub) (xBin subD (xVar 2) (xK (.int 0))) (xBin (binD T (run n) .Mult) (xVar 4) (xBin subD (xVar 3) (xK (.int 0))))) (aCons (xBin (binD T (run n) .Sub) (xBin subD (xVar 2) (xK (.int 1))) (xBin (binD T (run n) .Mult) (xVar 4) (xBin subD (xVar 3) (xK (.int 1))))) (aCons (xBin (binD T (run n) .Sub) (xBin subD (xVar 2) (xK (.int 2))) (xBin (binD T (run n) .Mult) (xVar 4) (xBin subD (xVar 3) (xK (.int 2))))) aNil)))) aNil)))) N
      [some (.int F), some (.int G), some (.tup [.int F, .int 1, .int 0]), some (.tup [.int G, .int 0, .int 1]), none] st = .nx [some (.int F), some (.int G), some (.tup [.int g, .int s, .int t]), some (.tup [.int 0, .int w1, .int w2]), q'] st := by
    have c3 : c0 < 2 ^ 4000 ∧ 3 * c0 < 2 ^ 4000 ∧ 3 * c0 < 2 ^ 4000 := ⟨by omega, hc, hc⟩
    rcases Int.lt_or_gt_of_ne hG with hn | hp
    · have et : F.fdiv G = (-F) / (-G) := by
        have e := Int.neg_fdiv_neg (a := -F) (b := -G)
        rw [Int.neg_neg, Int.neg_neg] at e
        rw [e, Int.fdiv_eq_ediv_of_nonneg _ (by omega)]
      have e1 := Int.mul_ediv_add_emod (-F) (-G)
      have e2 := Int.emod_nonneg (-F) (b := -G) (by omega)
      have e3 := Int.emod_lt_of_pos (-F) (b := -G) (by omega)
      rw [← et] at e1
      generalize (-F) % (-G) = m at e1 e2 e3
      have hd : G ≠ 0 ∧ G.natAbs.log2 < 9000 := ⟨hG, log2_lt (Nat.lt_of_le_of_lt bG (Nat.lt_of_lt_of_le c3.1 (Nat.pow_le_pow_right (by decide) (by decide)))) (by decide)⟩
      have hfd := ib_fdiv (i := F) st hd
      generalize F.fdiv G = t at *
      have er : F - t * G = -m := by
        rw [Int.neg_mul] at e1
        rw [Int.mul_comm t G]
        omega
      have tb : t.natAbs * G.natAbs ≤ F.natAbs + G.natAbs := by
        rw [← Int.natAbs_mul, Int.mul_comm t G]
        rw [Int.neg_mul] at e1
        omega
      have t1 : t.natAbs ≤ t.natAbs * G.natAbs := Nat.le_mul_of_pos_right _ (by omega)
      have init : Bz F G c0 (3 * c0) (3 * c0) G 0 1 (F - t * G) (1 - t * 0) (0 - t * 1) := by
        refine ⟨by rw [Int.zero_mul, Int.one_mul, Int.zero_add], by rw [Int.mul_zero, Int.mul_one]; grind, .inr ⟨by omega, by omega⟩, ?_, bG, by omega, by omega, by rw [Int.mul_zero]; omega, ?_, by omega, by rw [Int.mul_one]; omega, ?_⟩
        · rw [show F - t * G = F + G * (-t) by grind, Int.gcd_add_mul_left_right, Int.gcd_comm]
        · rw [Int.mul_zero, Int.sub_zero, er]
          simp
          omega
        · rw [Int.mul_one, Int.zero_sub, Int.natAbs_neg, er]
          have : (1 : Int).natAbs = 1 := rfl
          rw [this]
          omega
      obtain ⟨N, g, s, w, w1, w2, q', hg, hN⟩ := bz_loop (run n) c3 (F - t * G).natAbs G 0 1 (F - t * G) (1 - t * 0) (0 - t * 1) (some (.int t)) st (Nat.le_refl _) init
      refine ⟨N + 1, g, s, w, w1, w2, q', hg, ?_⟩
      have nt : Nb 4000 t := by unfold Nb; omega
      have m0 := nt.ok (b' := 4000) (j := G) (by unfold Nb; omega) (by decide)
      have m1 := nt.ok (b' := 4000) (j := 0) (by unfold Nb; decide) (by decide)
      have m2 := nt.ok (b' := 4000) (j := 1) (by unfold Nb; decide) (by decide)
      unfold whileN
      simp only [Int.mul_zero, Int.mul_one] at hN
      simp [hG, hfd, ib_mul, m0, m1, m2]
      simpa using hN
    · have init : Bz F G c0 (3 * c0) (3 * c0) F 1 0 G 0 1 :=
        ⟨by rw [Int.zero_mul, Int.one_mul, Int.add_zero], by rw [Int.zero_mul, Int.one_mul, Int.zero_add], .inl ⟨hF, by omega⟩, rfl, bF, bG, by omega, by omega, by simp; omega, by omega, by omega, by simp; omega⟩
      obtain ⟨N, g, s, w, w1, w2, q', hg, hN⟩ := bz_loop (run n) c3 G.natAbs F 1 0 G 0 1 none st (Nat.le_refl _) init
      exact ⟨N, g, s, w, w1, w2, q', hg, hN⟩
  obtain ⟨N, g, s, t, w1, w2, q', hg, hN⟩ := key
  have hw := sWhile_eq N hN (by simp)
  have e0 := hg.eo
  have eg : g.natAbs = Int.gcd F G := by
    have := hg.gc
    rw [Int.gcd_zero_right] at this
    exact this
  by_cases hl : g < 0
  · refine ⟨-s, -t, ?_, ?_, by rw [Int.natAbs_neg]; exact hg.a1, by rw [Int.natAbs_neg]; exact hg.a2⟩
    · rw [run_3]
      refine fnD_rt0 ?_ (by simp)
      have e3 : ((Int.gcd F G : Nat) : Int) = -g := by omega
      rw [e3]
      simp [B_3, startE]
      rw [hw]
      simp [hl]
    · rw [Int.neg_mul, Int.neg_mul]
      omega
  · refine ⟨s, t, ?_, by omega, hg.a1, hg.a2⟩
    rw [run_3]
    refine fnD_rt0 ?_ (by simp)
    have e3 : ((Int.gcd F G : Nat) : Int) = g := by omega
    rw [e3]
    simp [B_3, startE]
    rw [hw]
    simp [hl]
end G13
namespace G13
open PySem PySem.Spec PyProof.Rows L2 Gm
theorem bez (a b : Int) : ∃ u v : Int, u * a + v * b = (Int.gcd a b : Int) := by
  have go : ∀ (n : Nat) (m : Nat), ∃ u v : Int, u * (m : Int) + v * (n : Int) = (Nat.gcd m n : Int) := by
    intro n
    induction n using Nat.strongRecOn with
    | ind n ih =>
      intro m
      by_cases hn : n = 0
      · subst hn
        exact ⟨1, 0, by rw [Nat.gcd_zero_right]; omega⟩
      · obtain ⟨u, v, h⟩ := ih (m % n) (Nat.mod_lt _ (by omega)) n
        rw [gcd_step m n hn] at h
        have e : ((m % n : Nat) : Int) = (m : Int) - (n : Int) * ((m / n : Nat) : Int) := by
          have := Nat.div_add_mod m n
          have h2 : ((n * (m / n) + m % n : Nat) : Int) = (m : Int) := by rw [this]
          rw [Int.natCast_add, Int.natCast_mul] at h2
          omega
        rw [e] at h
        exact ⟨v, u - v * ((m / n : Nat) : Int), by rw [← h]; grind⟩
  obtain ⟨u, v, h⟩ := go b.natAbs a.natAbs
  have hg : (Int.gcd a b : Int) = (Nat.gcd a.natAbs b.natAbs : Int) := rfl
  rw [hg, ← h]
  rcases Int.natAbs_eq a with ha | ha <;> rcases Int.natAbs_eq b with hb | hb
  · exact ⟨u, v, by rw [← ha, ← hb]⟩
  · exact ⟨u, -v, by
      have e1 : (a.natAbs : Int) = a := by omega
      have e2 : (b.natAbs : Int) = -b := by omega
      rw [e1, e2]; grind⟩
  · exact ⟨-u, v, by
      have e1 : (a.natAbs : Int) = -a := by omega
      have e2 : (b.natAbs : Int) = b := by omega
      rw [e1, e2]; grind⟩
  · exact ⟨-u, -v, by
      have e1 : (a.natAbs : Int) = -a := by omega
      have e2 : (b.natAbs : Int) = -b := by omega
      rw [e1, e2]; grind⟩
/-- what rows of integers make -/
inductive Sp (R : List (Int × Int)) : Int → Int → Prop
  | zero : Sp R 0 0
  | add {x y u v : Int} (k : Int) : (u, v) ∈ R → Sp R x y → Sp R (x + k * u) (y + k * v)
theorem Sp.of {R : List (Int × Int)} {u v : Int} (h : (u, v) ∈ R) : Sp R u v := by
  have := Sp.add (R := R) 1 h .zero
  rwa [Int.one_mul, Int.one_mul, Int.zero_add, Int.zero_add] at this
theorem Sp.plus {R : List (Int × Int)} {x y u v : Int} (h : Sp R x y) (g : Sp R u v) : Sp R (x + u) (y + v) := by
  induction g with
  | zero => rwa [Int.add_zero, Int.add_zero]
  | add k hm _ ih =>
    have := Sp.add k hm ih
    rwa [Int.add_assoc, Int.add_assoc] at this
theorem Sp.times {R : List (Int × Int)} {x y : Int} (k : Int) (h : Sp R x y) : Sp R (k * x) (k * y) := by
  induction h with
  | zero => rw [Int.mul_zero]; exact .zero
  | add j hm _ ih =>
    have := Sp.add (k * j) hm ih
    rwa [Int.mul_assoc, Int.mul_assoc, ← Int.mul_add, ← Int.mul_add] at this
theorem Sp.two {R : List (Int × Int)} {x y u v : Int} (i j : Int) (h : Sp R x y) (g : Sp R u v) : Sp R (i * x + j * u) (i * y + j * v) := (h.times i).plus (g.times j)
theorem Sp.mono {R R' : List (Int × Int)} {x y : Int} (hs : ∀ p ∈ R, p ∈ R') (h : Sp R x y) : Sp R' x y := by
  induction h with
  | zero => exact .zero
  | add k hm _ ih => exact .add k (hs _ hm) ih
/-- rows (w, l) and (0, t) make just what the rows R make -/
structure Stt (R : List (Int × Int)) (w l t : Int) : Prop where
  w0 : 0 ≤ w
  t0 : 0 ≤ t
  of : ∀ x y, (x, y) ∈ R → ∃ i j : Int, x = i * w ∧ y = i * l + j * t
  s1 : Sp R w l
  s2 : Sp R 0 t
theorem Stt.nil : Stt [] 0 0 0 := ⟨Int.le_refl 0, Int.le_refl 0, fun _ _ h => (List.not_mem_nil h).elim, .zero, .zero⟩
theorem in_snoc {R : List (Int × Int)} {q : Int × Int} : ∀ p ∈ R, p ∈ R ++ [q] := fun p hp => List.mem_append_left _ hp
theorem Stt.zx {R : List (Int × Int)} {w l t : Int} (h : Stt R w l t) (y : Int) : Stt (R ++ [(0, y)]) w l (Int.gcd t y) := by
  obtain ⟨u, v, hb⟩ := bez t y
  have d1 : (Int.gcd t y : Int) ∣ t := Int.gcd_dvd_left ..
  have d2 : (Int.gcd t y : Int) ∣ y := Int.gcd_dvd_right ..
  obtain ⟨p, hp⟩ := d1
  obtain ⟨q, hq⟩ := d2
  have hl : Sp (R ++ [(0, y)]) 0 y := .of (by simp)
  refine ⟨h.w0, Int.natCast_nonneg _, fun a b hm => ?_, h.s1.mono in_snoc, ?_⟩
  · rcases List.mem_append.mp hm with hm | hm
    · obtain ⟨i, j, e1, e2⟩ := h.of a b hm
      refine ⟨i, j * p, e1, ?_⟩
      rw [e2]
      conv => lhs; rw [hp]
      grind
    · have := List.mem_singleton.mp hm
      cases this
      exact ⟨0, q, by rw [Int.zero_mul], by rw [Int.zero_mul, Int.zero_add, Int.mul_comm]; exact hq⟩
  · have := Sp.two u v (h.s2.mono (R' := R ++ [(0, y)]) in_snoc) hl
    rw [hb] at this
    rwa [Int.mul_zero, Int.mul_zero, Int.add_zero] at this
theorem Stt.mod {R : List (Int × Int)} {w l t : Int} (h : Stt R w l t) : Stt R w (l.fmod t) t := by
  have e : l.fmod t = l - t * l.fdiv t := Int.fmod_def l t
  rw [e]
  refine ⟨h.w0, h.t0, fun a b hm => ?_, ?_, h.s2⟩
  · obtain ⟨i, j, e1, e2⟩ := h.of a b hm
    exact ⟨i, j + i * l.fdiv t, e1, by rw [e2]; grind⟩
  · have := Sp.two 1 (-(l.fdiv t)) h.s1 h.s2
    rw [Int.one_mul, Int.one_mul, Int.mul_zero, Int.add_zero] at this
    rwa [show l + -l.fdiv t * t = l - t * l.fdiv t by grind] at this
theorem Stt.step {R : List (Int × Int)} {w l t : Int} (h : Stt R w l t) (x y c f g wc xc : Int) (hc : 0 < c) (e1 : w = wc * c) (e2 : x = xc * c) (e3 : f * w + g * x = c) :
    Stt (R ++ [(x, y)]) c (f * l + g * y) (Int.gcd t (wc * y - xc * l)) := by
  obtain ⟨u, v, hb⟩ := bez t (wc * y - xc * l)
  obtain ⟨p, hp⟩ : (Int.gcd t (wc * y - xc * l) : Int) ∣ t := Int.gcd_dvd_left ..
  obtain ⟨q, hq⟩ : (Int.gcd t (wc * y - xc * l) : Int) ∣ (wc * y - xc * l) := Int.gcd_dvd_right ..
  have one : f * wc + g * xc = 1 := by
    have : c * (f * wc + g * xc) = c * 1 := by rw [e1, e2] at e3; grind
    exact Int.eq_of_mul_eq_mul_left (by omega) this
  have hl : Sp (R ++ [(x, y)]) x y := .of (by simp)
  have h1 := h.s1.mono (R' := R ++ [(x, y)]) in_snoc
  have h2 := h.s2.mono (R' := R ++ [(x, y)]) in_snoc
  have hr : Sp (R ++ [(x, y)]) 0 (wc * y - xc * l) := by
    have := Sp.two wc (-xc) hl h1
    rw [show wc * x + -xc * w = 0 by rw [e1, e2]; grind, show wc * y + -xc * l = wc * y - xc * l by grind] at this
    exact this
  have hG : (0 : Int) ≤ (Int.gcd t (wc * y - xc * l) : Int) := Int.natCast_nonneg _
  generalize (Int.gcd t (wc * y - xc * l) : Int) = G at *
  refine ⟨Int.le_of_lt hc, ?_, fun a b hm => ?_, ?_, ?_⟩
  · exact hG
  · rcases List.mem_append.mp hm with hm | hm
    · obtain ⟨i, j, k1, k2⟩ := h.of a b hm
      refine ⟨i * wc, i * -g * q + j * p, by rw [k1, e1]; grind, ?_⟩
      have r1 : l - wc * (f * l + g * y) = -g * (wc * y - xc * l) := by
        have : l = (f * wc + g * xc) * l := by rw [one, Int.one_mul]
        conv => lhs; lhs; rw [this]
        grind
      rw [hq] at r1
      have r2 : l = wc * (f * l + g * y) + -g * (G * q) := by omega
      rw [k2]
      conv => lhs; rw [hp]
      conv => lhs; lhs; rhs; rw [r2]
      grind
    · have := List.mem_singleton.mp hm
      cases this
      refine ⟨xc, f * q, e2, ?_⟩
      have r1 : y - xc * (f * l + g * y) = f * (wc * y - xc * l) := by
        have : y = (f * wc + g * xc) * y := by rw [one, Int.one_mul]
        conv => lhs; lhs; rw [this]
        grind
      rw [hq] at r1
      have : f * (G * q) = f * q * G := by grind
      omega
  · have := Sp.two f g h1 hl
    rwa [e3] at this
  · have := Sp.two u v h2 hr
    rw [hb] at this
    rwa [Int.mul_zero, Int.mul_zero, Int.add_zero] at this
end G13
namespace G13
open PySem PySem.Spec PyProof.Rows L2 Gm
def prD (p : Int × Int) : D := .tup [.int p.1, .int p.2]
noncomputable def stB (c : Fn) : Fs := (sSeq (sIf (tOf (truD T c) (xBin (eqB T c false) (xVar 4) (xK (.int 0)))) (sSeq (sAsg (xCall T c 1 (aCons (xVar 3) (aCons (xVar 5) aNil))) (gNm 3)) sCt) sNx) (sSeq (sAsg (xCall T c 3 (aCons (xVar 1) (aCons (xVar 4) aNil))) (gTp (gsCons (gNm 6) (gsCons (gNm 7) (gsCons (gNm 8) gsNil))))) (sSeq (sAsg (xBin (binD T c .Sub) (xBin (binD T c .Mult) (xBin (binD T c .FloorDiv) (xVar 1) (xVar 6)) (xVar 5)) (xBin (binD T c .Mult) (xBin (binD T c .FloorDiv) (xVar 4) (xVar 6)) (xVar 2))) (gNm 9)) (sSeq (sPar 1 2 (aCons (xVar 6) (aCons (xBin (binD T c .Add) (xBin (binD T c .Mult) (xVar 7) (xVar 2)) (xBin (binD T c .Mult) (xVar 8) (xVar 5))) aNil))) (sSeq (sAsg (xCall T c 1 (aCons (xVar 3) (aCons (xVar 9) aNil))) (gNm 3)) (sIf (tOf (truD T c) (xVar 3)) (sAsg (xBin (binD T c .Mod) (xVar 2) (xVar 3)) (gNm 2)) sNx))))))
theorem gcd_le {a b : Int} {m : Nat} (ha : a.natAbs ≤ m) (hb : b.natAbs ≤ m) : ((Int.gcd a b : Nat) : Int).natAbs ≤ m := by
  rw [Int.natAbs_natCast]
  show Nat.gcd a.natAbs b.natAbs ≤ m
  by_cases h : a.natAbs = 0
  · rw [h, Nat.gcd_zero_left]; exact hb
  · exact Nat.le_trans (Nat.gcd_le_left _ (by omega)) ha
theorem fmod_le {a b : Int} {m : Nat} (h0 : 0 < b) (hb : b.natAbs ≤ m) : (a.fmod b).natAbs ≤ m := by
  have h1 := fmod_nn a h0
  have h2 := fmod_lt a h0
  omega
theorem stair_step (n : Nat) (s k : Nat) (hs : s ≤ 3990) (hk : k ≤ 8) (R : List (Int × Int)) (w l t x y : Int) (d : D) (o4 o5 o6 o7 o8 o9 : Option D) (st : Store) (h : Stt R w l t) (bw : w.natAbs ≤ 2 ^ s) (bl : l.natAbs ≤ 2 ^ ((s + 4) * (k + 1))) (bt : t.natAbs ≤ 2 ^ ((s + 4) * (k + 1))) (bx : x.natAbs ≤ 2 ^ s) (bY : y.natAbs ≤ 2 ^ s) :
    ∃ w' l' t' o6' o7' o8' o9', (stB (run (n + 1)) [some d, some (.int w), some (.int l), some (.int t), some (.int x), some (.int y), o6, o7, o8, o9] st = .nx [some d, some (.int w'), some (.int l'), some (.int t'), some (.int x), some (.int y), o6', o7', o8', o9'] st ∨
        stB (run (n + 1)) [some d, some (.int w), some (.int l), some (.int t), some (.int x), some (.int y), o6, o7, o8, o9] st = .ct [some d, some (.int w'), some (.int l'), some (.int t'), some (.int x), some (.int y), o6', o7', o8', o9'] st) ∧
      Stt (R ++ [(x, y)]) w' l' t' ∧ w'.natAbs ≤ 2 ^ s ∧ l'.natAbs ≤ 2 ^ ((s + 4) * (k + 1 + 1)) ∧ t'.natAbs ≤ 2 ^ ((s + 4) * (k + 1 + 1)) := by
  have up : ∀ {i : Int}, i.natAbs ≤ 2 ^ ((s + 4) * (k + 1)) → i.natAbs ≤ 2 ^ ((s + 4) * (k + 1 + 1)) := fun h => le_abs h (Nat.mul_le_mul_left _ (Nat.le_succ _))
  have up2 : ∀ {i : Int}, i.natAbs ≤ 2 ^ s → i.natAbs ≤ 2 ^ ((s + 4) * (k + 1)) := fun h => le_abs h (by rw [Nat.mul_add]; omega)
  have gc : ∀ i j st, run (n + 1) 1 [.int i, .int j] st = .ok (.int ((Int.gcd i j : Nat) : Int)) st := fun i j st => s_gcd n i j st
  by_cases hx : x = 0
  · subst hx
    refine ⟨w, l, (Int.gcd t y : Int), o6, o7, o8, o9, .inr ?_, h.zx y, bw, up bl, up (gcd_le bt (up2 bY))⟩
    unfold stB
    simp [gc]
  · have hx2 : (x == 0) = false := by simpa using hx
    have h3 : 3 * 2 ^ s < 2 ^ 4000 := by
      have : 2 ^ (s + 2) < 2 ^ 4000 := Nat.pow_lt_pow_right (by decide) (by omega)
      rw [Nat.pow_add] at this
      omega
    obtain ⟨f, g, e1, e2, b1, b2⟩ := s_bezout n w x (2 ^ s) st h.w0 hx bw bx h3
    have hc : 0 < (Int.gcd w x : Int) := by
      have := Int.gcd_pos_of_ne_zero_right (a := w) hx
      omega
    have bc : ((Int.gcd w x : Nat) : Int).natAbs ≤ 2 ^ s := gcd_le bw bx
    have d1 : (Int.gcd w x : Int) ∣ w := Int.gcd_dvd_left ..
    have d2 : (Int.gcd w x : Int) ∣ x := Int.gcd_dvd_right ..
    generalize (Int.gcd w x : Int) = c at *
    have q1 : w.fdiv c = w / c := Int.fdiv_eq_ediv_of_nonneg _ (Int.le_of_lt hc)
    have q2 : x.fdiv c = x / c := Int.fdiv_eq_ediv_of_nonneg _ (Int.le_of_lt hc)
    have w1 : w = w.fdiv c * c := by rw [q1]; exact (Int.ediv_mul_cancel d1).symm
    have w2 : x = x.fdiv c * c := by rw [q2]; exact (Int.ediv_mul_cancel d2).symm
    have n1 : (w.fdiv c).natAbs ≤ 2 ^ s := by
      refine Nat.le_trans ?_ bw
      conv => rhs; rw [w1, Int.natAbs_mul]
      exact Nat.le_mul_of_pos_right _ (by omega)
    have n2 : (x.fdiv c).natAbs ≤ 2 ^ s := by
      refine Nat.le_trans ?_ bx
      conv => rhs; rw [w2, Int.natAbs_mul]
      exact Nat.le_mul_of_pos_right _ (by omega)
    have hd : c ≠ 0 ∧ c.natAbs.log2 < 9000 := ⟨by omega, log2_lt (Nat.lt_of_le_of_lt bc (Nat.pow_lt_pow_right (by decide) (by omega))) (by decide)⟩
    have f1 := ib_fdiv (i := w) (st := st) hd
    have f2 := ib_fdiv (i := x) (st := st) hd
    have S := h.step x y c f g (w.fdiv c) (x.fdiv c) hc w1 w2 e2
    generalize w.fdiv c = wc at *
    generalize x.fdiv c = xc at *
    have nb : ∀ {i : Int} {e : Nat}, i.natAbs ≤ 2 ^ e → Nb (e + 1) i := fun h => Nat.lt_of_le_of_lt h (Nat.pow_lt_pow_right (by decide) (Nat.lt_succ_self _))
    have big : (s + 4) * (k + 1) ≤ 40000 := Nat.le_trans (Nat.mul_le_mul (by omega : s + 4 ≤ 4000) (by omega : k + 1 ≤ 9)) (by decide)
    have b1' : f.natAbs ≤ 2 ^ (s + 2) := by rw [Nat.pow_add]; omega
    have b2' : g.natAbs ≤ 2 ^ (s + 2) := by rw [Nat.pow_add]; omega
    have m1 := (nb n1).ok (nb bY) (by omega)
    have m2 := (nb n2).ok (nb bl) (by omega)
    have m3 := (nb b1').ok (nb bl) (by omega)
    have m4 := (nb b2').ok (nb bY) (by omega)
    have br : (wc * y - xc * l).natAbs ≤ 2 ^ ((s + 4) * (k + 1 + 1)) := by
      have z1 : s + s ≤ s + (s + 4) * (k + 1) := by rw [Nat.mul_add]; omega
      exact le_abs (sub_abs (s := s + (s + 4) * (k + 1)) (le_abs (mul_abs n1 bY) z1) (mul_abs n2 bl)) (by rw [Nat.mul_add _ (k + 1)]; omega)
    have bl1 : (f * l + g * y).natAbs ≤ 2 ^ ((s + 4) * (k + 1 + 1)) := by
      have z1 : s + 2 + s ≤ s + 2 + (s + 4) * (k + 1) := by rw [Nat.mul_add]; omega
      exact le_abs (add_abs (s := s + 2 + (s + 4) * (k + 1)) (mul_abs b1' bl) (le_abs (mul_abs b2' bY) z1)) (by rw [Nat.mul_add _ (k + 1)]; omega)
    have bG := gcd_le (up bt) br
    have G0 : (0 : Int) ≤ (Int.gcd t (wc * y - xc * l) : Int) := Int.natCast_nonneg _
    have gG := gc t (wc * y - xc * l) st
    generalize (Int.gcd t (wc * y - xc * l) : Int) = G at *
    by_cases hG : G = 0
    · refine ⟨c, f * l + g * y, G, some (.int c), some (.int f), some (.int g), some (.int (wc * y - xc * l)), .inl ?_, S, bc, bl1, bG⟩
      unfold stB
      simp [hx2, e1, f1, f2, ib_mul, m1, m2, m3, m4, gG, hG]
    · have hm := ib_mod (i := f * l + g * y) (st := st) hG
      have hG2 : (G != 0) = true := by simpa using hG
      refine ⟨c, (f * l + g * y).fmod G, G, some (.int c), some (.int f), some (.int g), some (.int (wc * y - xc * l)), .inl ?_, S.mod, bc, fmod_le (by omega) bG, bG⟩
      unfold stB
      simp [hx2, e1, f1, f2, ib_mul, m1, m2, m3, m4, gG, hG2, hm]
theorem stair_loop (n : Nat) (s : Nat) (hs : s ≤ 3990) (chk : Store → Prop) (d : D) (st : Store) (hc : chk st) : ∀ (Q R : List (Int × Int)) (w l t : Int) (o4 o5 o6 o7 o8 o9 : Option D), Stt R w l t → w.natAbs ≤ 2 ^ s → l.natAbs ≤ 2 ^ ((s + 4) * (R.length + 1)) → t.natAbs ≤ 2 ^ ((s + 4) * (R.length + 1)) →
    (∀ p ∈ Q, p.1.natAbs ≤ 2 ^ s ∧ p.2.natAbs ≤ 2 ^ s) → R.length + Q.length ≤ 8 → ∃ w' l' t' o4' o5' o6' o7' o8' o9',
      forI chk (gTp (gsCons (gNm 4) (gsCons (gNm 5) gsNil))) (stB (run (n + 1))) (Q.map prD) [some d, some (.int w), some (.int l), some (.int t), o4, o5, o6, o7, o8, o9] st = .nx [some d, some (.int w'), some (.int l'), some (.int t'), o4', o5', o6', o7', o8', o9'] st ∧ Stt (R ++ Q) w' l' t' := by
  intro Q
  induction Q with
  | nil =>
    intro R w l t o4 o5 o6 o7 o8 o9 h bw bl bt hq hl
    refine ⟨w, l, t, o4, o5, o6, o7, o8, o9, ?_, by rw [List.append_nil]; exact h⟩
    unfold forI
    exact if_pos hc
  | cons p Q ih =>
    intro R w l t o4 o5 o6 o7 o8 o9 h bw bl bt hq hl
    rw [List.length_cons] at hl
    obtain ⟨x, y⟩ := p
    obtain ⟨bx, bY⟩ := hq (x, y) List.mem_cons_self
    obtain ⟨w1, l1, t1, p6, p7, p8, p9, hB, S, c1, c2, c3⟩ := stair_step n s R.length hs (by omega) R w l t x y d o4 o5 o6 o7 o8 o9 st h bw bl bt bx bY
    have len : (R ++ [(x, y)]).length = R.length + 1 := by simp
    obtain ⟨w', l', t', q4, q5, q6, q7, q8, q9, hF, S'⟩ := ih (R ++ [(x, y)]) w1 l1 t1 (some (.int x)) (some (.int y)) p6 p7 p8 p9 S c1 (by rw [len]; exact c2) (by rw [len]; exact c3) (fun p hp => hq p (List.mem_cons_of_mem _ hp)) (by rw [len]; omega)
    refine ⟨w', l', t', q4, q5, q6, q7, q8, q9, ?_, by rw [List.append_assoc] at S'; exact S'⟩
    rw [List.map_cons]
    conv => lhs; unfold forI
    rw [if_pos hc]
    have hg : gTp (gsCons (gNm 4) (gsCons (gNm 5) gsNil)) (prD (x, y)) [some d, some (.int w), some (.int l), some (.int t), o4, o5, o6, o7, o8, o9] st = .ok [some d, some (.int w), some (.int l), some (.int t), some (.int x), some (.int y), o6, o7, o8, o9] st := by
      simp [prD]
    rw [hg]
    rcases hB with hB | hB
    · simp only [hB]
      exact hF
    · simp only [hB]
      exact hF
theorem s_stair (n : Nat) (s : Nat) (hs : s ≤ 3990) (d : D) (Q : List (Int × Int)) (st : Store) (hd : seqOf d st = some (Q.map prD)) (hQ : ∀ p ∈ Q, p.1.natAbs ≤ 2 ^ s ∧ p.2.natAbs ≤ 2 ^ s) (hl : Q.length ≤ 8) (hm : ∃ p ∈ Q, ∃ q ∈ Q, p.1 * q.2 - p.2 * q.1 ≠ 0) :
    ∃ a b t, run (n + 2) 7 [d] st = .ok (.tup [.int a, .int b, .int t]) st ∧ Stt Q a b t ∧ 0 < a ∧ 0 < t ∧ 0 ≤ b ∧ b < t := by
  obtain ⟨chk, hi, hc⟩ := iSeq_of (f := xVar 0) (ρ := [some d, some (.int 0), some (.int 0), some (.int 0), none, none, none, none, none, none]) (st := st) (by simp) hd
  have hc0 := hc []
  rw [List.append_nil] at hc0
  obtain ⟨w, l, t, o4, o5, o6, o7, o8, o9, hF, S⟩ := stair_loop n s hs chk d st hc0 Q [] 0 0 0 none none none none none none .nil (Nat.zero_le _) (Nat.zero_le _) (Nat.zero_le _) hQ (by simpa using hl)
  rw [List.nil_append] at S
  have nz : w ≠ 0 ∧ t ≠ 0 := by
    obtain ⟨p, hp, q, hq, hne⟩ := hm
    obtain ⟨i, j, k1, k2⟩ := S.of p.1 p.2 hp
    obtain ⟨i', j', k3, k4⟩ := S.of q.1 q.2 hq
    have e : p.1 * q.2 - p.2 * q.1 = w * t * (i * j' - j * i') := by rw [k1, k2, k3, k4]; grind
    rw [e] at hne
    constructor
    · intro z
      exact hne (by rw [z, Int.zero_mul, Int.zero_mul])
    · intro z
      exact hne (by rw [z, Int.mul_zero, Int.zero_mul])
  have w0 : 0 < w := by have := S.w0; omega
  have t0 : 0 < t := by have := S.t0; omega
  have hmod := ib_mod (i := l) (st := st) nz.2
  refine ⟨w, l.fmod t, t, ?_, S.mod, w0, t0, fmod_nn l t0, fmod_lt l t0⟩
  rw [run_7]
  refine fnD_rt0 ?_ (by simp)
  unfold stB at hF
  have z1 : (w == 0) = false := by simpa using nz.1
  have z2 : (t == 0) = false := by simpa using nz.2
  simp [B_7, startE, hi, hF, z1, z2, hmod]
end G13
namespace G13
open PySem PySem.Spec PyProof.Rows L2 Gm
def pDp (p : Rat × Rat) : D := pD p.1 p.2
def latD (a b d : Rat) : D := .obj 3 [rD a, rD b, rD d]
theorem noRef_latD (n : Nat) (a b d : Rat) : noRef n (latD a b d) = true := by simp [latD, noRef_rD]
theorem lcmN {a b : Nat} {D : Int} (h1 : (a : Int) ∣ D) (h2 : (b : Int) ∣ D) : ((Nat.lcm a b : Nat) : Int) ∣ D := Int.coe_lcm_dvd h1 h2
/-- the least common bottom -/
def ovr (o : Int) : List (Rat × Rat) → Int
  | [] => o
  | p :: ps => ovr (Int.lcm o (Nat.lcm p.1.den p.2.den)) ps
theorem ovr_dvd : ∀ (ps : List (Rat × Rat)) (o D : Int), o ∣ D → (∀ p ∈ ps, (p.1.den : Int) ∣ D ∧ (p.2.den : Int) ∣ D) → ovr o ps ∣ D
  | [], o, D, h, _ => h
  | p :: ps, o, D, h, g => by
    unfold ovr
    refine ovr_dvd ps _ D ?_ fun q hq => g q (List.mem_cons_of_mem _ hq)
    obtain ⟨g1, g2⟩ := g p List.mem_cons_self
    exact Int.coe_lcm_dvd h (lcmN g1 g2)
theorem dvd_ovr : ∀ (ps : List (Rat × Rat)) (o : Int), o ∣ ovr o ps ∧ ∀ p ∈ ps, (p.1.den : Int) ∣ ovr o ps ∧ (p.2.den : Int) ∣ ovr o ps
  | [], o => ⟨Int.dvd_refl o, fun _ h => (List.not_mem_nil h).elim⟩
  | p :: ps, o => by
    obtain ⟨h1, h2⟩ := dvd_ovr ps (Int.lcm o (Nat.lcm p.1.den p.2.den))
    have e : ovr o (p :: ps) = ovr (Int.lcm o (Nat.lcm p.1.den p.2.den)) ps := rfl
    rw [e]
    have l1 : ((Nat.lcm p.1.den p.2.den : Nat) : Int) ∣ ovr (Int.lcm o (Nat.lcm p.1.den p.2.den)) ps := Int.dvd_trans (Int.dvd_lcm_right ..) h1
    refine ⟨Int.dvd_trans (Int.dvd_lcm_left ..) h1, fun q hq => ?_⟩
    rcases List.mem_cons.mp hq with rfl | hq
    · exact ⟨Int.dvd_trans (Int.natCast_dvd_natCast.mpr (Nat.dvd_lcm_left _ _)) l1, Int.dvd_trans (Int.natCast_dvd_natCast.mpr (Nat.dvd_lcm_right _ _)) l1⟩
    · exact h2 q hq
theorem ovr_pos : ∀ (ps : List (Rat × Rat)) (o : Int), 0 < o → 0 < ovr o ps
  | [], o, h => h
  | p :: ps, o, h => by
    unfold ovr
    refine ovr_pos ps _ ?_
    have h1 : 0 < Nat.lcm p.1.den p.2.den := Nat.lcm_pos p.1.den_pos p.2.den_pos
    have : 0 < Int.lcm o (Nat.lcm p.1.den p.2.den) := Int.lcm_pos (by omega) (by omega)
    omega
theorem le_of_dvd' {a b : Int} (h : a ∣ b) (hb : 0 < b) : a ≤ b := Int.le_of_dvd hb h
/-- all over one number -/
def Cd (D : Int) (p : Rat × Rat) : Prop := (p.1.den : Int) ∣ D ∧ (p.2.den : Int) ∣ D
noncomputable def ovB (c : Fn) : Fs := (sSeq (sIf (tNot (tOf (truD T c) (xIso T 1 (xVar 4)))) sNo sNx) (sAsg (xCall T c 2 (aCons (xVar 2) (aCons (xCall T c 2 (aCons (xFld T c 41 (xFld T c 42 (xVar 4))) (aCons (xFld T c 41 (xFld T c 43 (xVar 4))) aNil))) aNil))) (gNm 2)))
theorem ov_loop (n : Nat) (chk : Store → Prop) (a0 a1 a3 : Option D) (o5 : Option D) (D0 : Int) (hD : 0 < D0) (bD : Nb 4000 D0) (st : Store) (hc : chk st) : ∀ (ps : List (Rat × Rat)) (o : Int) (o4 : Option D), 0 < o → o ∣ D0 → (∀ p ∈ ps, Cd D0 p) →
    ∃ o4', forI chk (gNm 4) (ovB (run (n + 2))) (ps.map pDp) [a0, a1, some (.int o), a3, o4, o5] st = .nx [a0, a1, some (.int (ovr o ps)), a3, o4', o5] st := by
  intro ps
  induction ps with
  | nil =>
    intro o o4 ho hd hp
    refine ⟨o4, ?_⟩
    unfold forI
    exact if_pos hc
  | cons p ps ih =>
    intro o o4 ho hd hp
    obtain ⟨d1, d2⟩ := hp p List.mem_cons_self
    have sm : ∀ {i : Int}, 0 < i → i ∣ D0 → Nb 4000 i := fun {i} h0 h => by
      have := le_of_dvd' h hD
      unfold Nb at bD ⊢
      omega
    have p1 := Rat.den_pos' p.1
    have p2 := Rat.den_pos' p.2
    have l1 : 0 < ((Nat.lcm p.1.den p.2.den : Nat) : Int) := by
      have : 0 < Nat.lcm p.1.den p.2.den := Nat.lcm_pos p.1.den_pos p.2.den_pos
      omega
    have l1d : ((Nat.lcm p.1.den p.2.den : Nat) : Int) ∣ D0 := lcmN d1 d2
    have e1 : ∀ st, run (n + 2) 2 [.int p.1.den, .int p.2.den] st = .ok (.int (Nat.lcm p.1.den p.2.den)) st := fun st => s_lcm n _ _ st p1 p2 (sm p1 d1) (sm p2 d2)
    have e2 : ∀ st, run (n + 2) 2 [.int o, .int (Nat.lcm p.1.den p.2.den)] st = .ok (.int (Int.lcm o (Nat.lcm p.1.den p.2.den))) st := fun st => s_lcm n _ _ st ho l1 (sm ho hd) (sm l1 l1d)
    have l2 : 0 < ((Int.lcm o (Nat.lcm p.1.den p.2.den) : Nat) : Int) := by
      have : 0 < Int.lcm o (Nat.lcm p.1.den p.2.den) := Int.lcm_pos (by omega) (by omega)
      omega
    obtain ⟨o4', h⟩ := ih (Int.lcm o (Nat.lcm p.1.den p.2.den)) (some (pDp p)) l2 (Int.coe_lcm_dvd hd l1d) (fun q hq => hp q (List.mem_cons_of_mem _ hq))
    refine ⟨o4', ?_⟩
    rw [List.map_cons]
    conv => lhs; unfold forI
    rw [if_pos hc]
    have hB : ovB (run (n + 2)) [a0, a1, some (.int o), a3, some (pDp p), o5] st = .nx [a0, a1, some (.int (Int.lcm o (Nat.lcm p.1.den p.2.den))), a3, some (pDp p), o5] st := by
      unfold ovB
      simp [pDp, iso_pD, fd_x, fd_y, fd_bottom, e1, e2]
    simp only [ap_gNm]
    simp [hB]
    exact h
end G13
namespace G13
open PySem PySem.Spec PyProof.Rows L2 Gm
theorem int_of {q : Rat} {o : Int} (h : (q.den : Int) ∣ o) : q * (o : Rat) = ((q * (o : Rat)).num : Rat) := by
  obtain ⟨j, rfl⟩ := h
  have hd : ((q.den : Int) : Rat) ≠ 0 := fun e => Rat.den_ne' q (Rat.intCast_eq_zero_iff.mp e)
  have e : q * (((q.den : Int) * j : Int) : Rat) = ((q.num * j : Int) : Rat) := by
    rw [Rat.intCast_mul, Rat.intCast_mul]
    have : q = (q.num : Rat) / ((q.den : Int) : Rat) := by rw [← Rat.divInt_eq_div, Rat.num_divInt_den]
    conv => lhs; lhs; rw [this]
    generalize ((q.den : Int) : Rat) = u at *
    grind
  rw [e, Rat.num_intCast]
theorem den_of {q : Rat} {n o : Int} (ho : o ≠ 0) (h : q = (n : Rat) / o) : (q.den : Int) ∣ o := by
  rw [← Rat.divInt_eq_div] at h
  rw [h, ← cut_den ho]
  obtain ⟨k, hk⟩ := com_dvd_right n o
  conv => rhs; rw [hk]
  conv => lhs; rw [hk]
  refine ⟨com n (com n o * k), ?_⟩
  have hc : com n o ≠ 0 := com_ne ho
  have e : com n (com n o * k) = com n o := by rw [← hk]
  rw [e, Int.mul_fdiv_cancel_left _ hc, Int.mul_comm]
inductive SpR (R : List (Rat × Rat)) : Rat → Rat → Prop
  | zero : SpR R 0 0
  | add {x y : Rat} {p : Rat × Rat} (k : Int) : p ∈ R → SpR R x y → SpR R (x + k * p.1) (y + k * p.2)
/-- the lattice of ps, by its own table -/
structure La (ps : List (Rat × Rat)) (a b d : Rat) : Prop where
  a0 : 0 < a
  d0 : 0 < d
  b0 : 0 ≤ b
  bd : b < d
  of : ∀ p ∈ ps, ∃ i j : Int, p.1 = i * a ∧ p.2 = i * b + j * d
  s1 : SpR ps a b
  s2 : SpR ps 0 d
/-- numbers over D of s bits -/
def Ov (D : Int) (s : Nat) (p : Rat × Rat) : Prop := ∃ n m : Int, p.1 = (n : Rat) / D ∧ p.2 = (m : Rat) / D ∧ n.natAbs ≤ 2 ^ s ∧ m.natAbs ≤ 2 ^ s
structure Lz (D : Int) (s : Nat) (a b d : Rat) : Prop where
  ex : ∃ α β δ : Int, a = (α : Rat) / D ∧ b = (β : Rat) / D ∧ d = (δ : Rat) / D ∧ 0 < α ∧ 0 ≤ β ∧ β < δ ∧ α.natAbs ≤ 2 ^ s ∧ (α * δ).natAbs ≤ 2 ^ (2 * s + 1)
theorem SpR.of_sp {ps : List (Rat × Rat)} {o : Int} (ho : (o : Rat) ≠ 0) (hi : ∀ p ∈ ps, (p.1.den : Int) ∣ o ∧ (p.2.den : Int) ∣ o) {w l : Int} (h : Sp (ps.map fun p => ((p.1 * (o : Rat)).num, (p.2 * (o : Rat)).num)) w l) : SpR ps ((w : Rat) / o) ((l : Rat) / o) := by
  induction h with
  | zero =>
    rw [show ((0 : Int) : Rat) / o = 0 by rw [show ((0 : Int) : Rat) = 0 from rfl]; grind]
    exact .zero
  | @add x y u v k hm _ ih =>
    obtain ⟨p, hp, e⟩ := List.mem_map.mp hm
    simp only [Prod.mk.injEq] at e
    obtain ⟨e1, e2⟩ := e
    obtain ⟨d1, d2⟩ := hi p hp
    have f1 := int_of d1
    have f2 := int_of d2
    rw [e1] at f1
    rw [e2] at f2
    have := SpR.add (R := ps) k hp ih
    rw [show (((x + k * u : Int) : Rat) / o) = (x : Rat) / o + k * p.1 by rw [Rat.intCast_add, Rat.intCast_mul]; grind, show (((y + k * v : Int) : Rat) / o) = (y : Rat) / o + k * p.2 by rw [Rat.intCast_add, Rat.intCast_mul]; grind]
    exact this
theorem La.of_stt {ps : List (Rat × Rat)} {o a b d : Int} (ho : 0 < o) (hi : ∀ p ∈ ps, (p.1.den : Int) ∣ o ∧ (p.2.den : Int) ∣ o) (S : Stt (ps.map fun p => ((p.1 * (o : Rat)).num, (p.2 * (o : Rat)).num)) a b d) (ha : 0 < a) (hd : 0 < d) (hb : 0 ≤ b) (hbd : b < d) :
    La ps ((a : Rat) / o) ((b : Rat) / o) ((d : Rat) / o) := by
  have ho' : (o : Rat) ≠ 0 := fun e => by
    have := Rat.intCast_eq_zero_iff.mp e
    omega
  have hop : (0 : Rat) < (o : Rat) := Rat.intCast_pos.mpr ho
  have hinv : (0 : Rat) < (o : Rat)⁻¹ := Rat.inv_pos.mpr hop
  refine ⟨?_, ?_, ?_, ?_, fun p hp => ?_, SpR.of_sp ho' hi S.s1, ?_⟩
  · rw [Rat.div_def]; exact Rat.mul_pos (Rat.intCast_pos.mpr ha) hinv
  · rw [Rat.div_def]; exact Rat.mul_pos (Rat.intCast_pos.mpr hd) hinv
  · rw [Rat.div_def]; exact Rat.mul_nonneg (Rat.intCast_nonneg.mpr hb) (Rat.le_of_lt hinv)
  · rw [Rat.div_def, Rat.div_def]
    have h1 : (0 : Rat) < ((d - b : Int) : Rat) := Rat.intCast_pos.mpr (by omega)
    have := Rat.mul_pos h1 hinv
    rw [Rat.intCast_sub] at this
    grind
  · obtain ⟨d1, d2⟩ := hi p hp
    have f1 := int_of d1
    have f2 := int_of d2
    obtain ⟨i, j, e1, e2⟩ := S.of _ _ (List.mem_map.mpr ⟨p, hp, rfl⟩)
    rw [e1, Rat.intCast_mul] at f1
    rw [e2, Rat.intCast_add, Rat.intCast_mul, Rat.intCast_mul] at f2
    exact ⟨i, j, by grind, by grind⟩
  · have := SpR.of_sp ho' hi S.s2
    rwa [show ((0 : Int) : Rat) / o = 0 by rw [show ((0 : Int) : Rat) = 0 from rfl]; grind] at this
/-- the size of the table, by the points -/
theorem Lz.of_la {ps : List (Rat × Rat)} {a b d : Rat} {D : Int} {s : Nat} (hD : 0 < D) (L : La ps a b d) (hz : ∃ α β δ : Int, a = (α : Rat) / D ∧ b = (β : Rat) / D ∧ d = (δ : Rat) / D) (hp : ∀ p ∈ ps, Ov D s p) (hm : ∃ p ∈ ps, ∃ q ∈ ps, p.1 * q.2 - p.2 * q.1 ≠ 0) : Lz D s a b d := by
  obtain ⟨α, β, δ, ea, eb, ed⟩ := hz
  have hD' : (D : Rat) ≠ 0 := fun e => by
    have := Rat.intCast_eq_zero_iff.mp e
    omega
  have hDp : (0 : Rat) < (D : Rat) := Rat.intCast_pos.mpr hD
  have pos : ∀ {q : Rat} {i : Int}, q = (i : Rat) / D → 0 < q → 0 < i := fun {q i} e h => by
    have := Rat.mul_pos h hDp
    rw [e, show (i : Rat) / D * D = i by grind] at this
    exact Rat.intCast_pos.mp this
  have α0 := pos ea L.a0
  have δ0 := pos ed L.d0
  have βδ : β < δ := by
    have h1 : (0 : Rat) < d - b := by have := L.bd; grind
    have := pos (i := δ - β) (by rw [Rat.intCast_sub, ed, eb]; grind) h1
    omega
  have β0 : 0 ≤ β := by
    by_cases h : 0 ≤ β
    · exact h
    · have h1 : (0 : Rat) < ((-β : Int) : Rat) := Rat.intCast_pos.mpr (by omega)
      have h2 : (0 : Rat) < (D : Rat)⁻¹ := Rat.inv_pos.mpr hDp
      have h3 := Rat.mul_pos h1 h2
      have h4 := L.b0
      rw [eb, Rat.div_def] at h4
      rw [Rat.intCast_neg] at h3
      grind
  obtain ⟨p, hp1, q, hq1, hne⟩ := hm
  obtain ⟨i, j, k1, k2⟩ := L.of p hp1
  obtain ⟨i', j', k3, k4⟩ := L.of q hq1
  obtain ⟨n, m, e1, e2, b1, b2⟩ := hp p hp1
  obtain ⟨n', m', e3, e4, b3, b4⟩ := hp q hq1
  have inj : ∀ {u v : Int}, (u : Rat) = v → u = v := fun h => Rat.intCast_inj.mp h
  have c1 : n = i * α := inj (by rw [Rat.intCast_mul]; rw [k1, ea] at e1; grind)
  have c3 : n' = i' * α := inj (by rw [Rat.intCast_mul]; rw [k3, ea] at e3; grind)
  have c2 : m = i * β + j * δ := inj (by rw [Rat.intCast_add, Rat.intCast_mul, Rat.intCast_mul]; rw [k2, eb, ed] at e2; grind)
  have c4 : m' = i' * β + j' * δ := inj (by rw [Rat.intCast_add, Rat.intCast_mul, Rat.intCast_mul]; rw [k4, eb, ed] at e4; grind)
  have det : n * m' - m * n' = α * δ * (i * j' - j * i') := by rw [c1, c2, c3, c4]; grind
  have dn : n * m' - m * n' ≠ 0 := fun z => hne (by
    have : ((n * m' - m * n' : Int) : Rat) = 0 := by rw [z]; rfl
    rw [Rat.intCast_sub, Rat.intCast_mul, Rat.intCast_mul] at this
    rw [e1, e2, e3, e4]
    grind)
  have up : ∀ {u v w : Int} {t : Nat}, u = v * w → u ≠ 0 → u.natAbs ≤ t → v.natAbs ≤ t := fun {u v w t} e h hb => by
    rw [e, Int.natAbs_mul] at hb
    have hw : 0 < w.natAbs := by
      rcases Nat.eq_zero_or_pos w.natAbs with z | z
      · exact absurd (by rw [e, Int.natAbs_eq_zero.mp z, Int.mul_zero]) h
      · exact z
    exact Nat.le_trans (Nat.le_mul_of_pos_right _ hw) hb
  refine ⟨α, β, δ, ea, eb, ed, α0, β0, βδ, ?_, ?_⟩
  · by_cases hn : n = 0
    · have hn' : n' ≠ 0 := fun z => dn (by rw [hn, z, Int.zero_mul, Int.mul_zero]; rfl)
      exact up (by rw [c3, Int.mul_comm]) hn' b3
    · exact up (by rw [c1, Int.mul_comm]) hn b1
  · refine up det dn ?_
    exact le_abs (sub_abs (mul_abs b1 b4) (mul_abs b2 b3)) (by omega)
end G13
namespace G13
open PySem PySem.Spec PyProof.Rows L2 Gm
theorem fk_la (d : D) (ρ : Ev) (st e : Store) : fldK T 44 d ρ (.ref st.length) (st ++ .ins 3 [] :: e) = .nx ρ (st ++ .ins 3 [(44, d)] :: e) := fk_newg d ρ st e rfl
theorem fk_lb (d f : D) (ρ : Ev) (st e : Store) : fldK T 45 d ρ (.ref st.length) (st ++ .ins 3 [(44, f)] :: e) = .nx ρ (st ++ .ins 3 [(44, f), (45, d)] :: e) := fk_newg d ρ st e rfl
theorem fk_ld (d f g : D) (ρ : Ev) (st e : Store) : fldK T 46 d ρ (.ref st.length) (st ++ .ins 3 [(44, f), (45, g)] :: e) = .nx ρ (st ++ .ins 3 [(44, f), (45, g), (46, d)] :: e) := fk_newg d ρ st e rfl
theorem fd_la (k : Fn) (a b d : Rat) (st : Store) : fldD T k 44 (latD a b d) st = .ok (rD a) st := fld_obj st rfl rfl
theorem fd_lb (k : Fn) (a b d : Rat) (st : Store) : fldD T k 45 (latD a b d) st = .ok (rD b) st := fld_obj st rfl rfl
theorem fd_ld (k : Fn) (a b d : Rat) (st : Store) : fldD T k 46 (latD a b d) st = .ok (rD d) st := fld_obj st rfl rfl
theorem iso_latD (a b d : Rat) (st : Store) : isoD T 3 (latD a b d) st = .ok (.bl true) st := by simp [latD]
/-- a point's pair over a number -/
def prF (o : Int) : D → D
  | .obj _ [.obj _ [.int a, .int b], .obj _ [.int c, .int e]] => .tup [.int (Rat.divInt a b * (o : Rat)).num, .int (Rat.divInt c e * (o : Rat)).num]
  | _ => .non
theorem prF_p (o : Int) (p : Rat × Rat) : prF o (pDp p) = prD ((p.1 * (o : Rat)).num, (p.2 * (o : Rat)).num) := by
  unfold pDp pD rD prF prD
  simp only [Rat.num_divInt_den]
theorem Ov.cd {D : Int} {s : Nat} {p : Rat × Rat} (hD : 0 < D) (h : Ov D s p) : Cd D p := by
  obtain ⟨n, m, e1, e2, _, _⟩ := h
  exact ⟨den_of (by omega) e1, den_of (by omega) e2⟩
theorem num_le {D o n : Int} {s : Nat} {x : Rat} (hD : 0 < D) (ho : 0 < o) (hod : o ∣ D) (hx : (x.den : Int) ∣ o) (e : x = (n : Rat) / D) (hn : n.natAbs ≤ 2 ^ s) : (x * (o : Rat)).num.natAbs ≤ 2 ^ s := by
  obtain ⟨k, rfl⟩ := hod
  have f := int_of hx
  have ho' : (o : Rat) ≠ 0 := fun e => by
    have := Rat.intCast_eq_zero_iff.mp e
    omega
  have k0 : k ≠ 0 := fun z => by rw [z, Int.mul_zero] at hD; omega
  have k0' : (k : Rat) ≠ 0 := fun e => k0 (Rat.intCast_eq_zero_iff.mp e)
  have h : n = (x * (o : Rat)).num * k := by
    refine Rat.intCast_inj.mp ?_
    rw [Rat.intCast_mul, ← f, e, Rat.intCast_mul]
    generalize (n : Rat) = n at *
    generalize (o : Rat) = o at *
    generalize (k : Rat) = k at *
    grind
  rw [h, Int.natAbs_mul] at hn
  exact Nat.le_trans (Nat.le_mul_of_pos_right _ (by omega)) hn
theorem over_D {D o w : Int} (hod : o ∣ D) (ho : 0 < o) (hD : 0 < D) : ∃ α : Int, (w : Rat) / o = (α : Rat) / D := by
  obtain ⟨k, rfl⟩ := hod
  have ho' : (o : Rat) ≠ 0 := fun e => by
    have := Rat.intCast_eq_zero_iff.mp e
    omega
  have k0 : k ≠ 0 := fun z => by rw [z, Int.mul_zero] at hD; omega
  have k0' : (k : Rat) ≠ 0 := fun e => k0 (Rat.intCast_eq_zero_iff.mp e)
  exact ⟨w * k, by rw [Rat.intCast_mul, Rat.intCast_mul]; grind⟩
theorem s_mkL (n : Nat) (s : Nat) (hs : s ≤ 3990) (pts : D) (ps : List (Rat × Rat)) (st : Store) (hd : seqOf pts st = some (ps.map pDp)) (hl : ps.length ≤ 8) (D0 : Int) (hD : 0 < D0) (bD : Nb 3990 D0) (hp : ∀ p ∈ ps, Ov D0 s p) (hm : ∃ p ∈ ps, ∃ q ∈ ps, p.1 * q.2 - p.2 * q.1 ≠ 0) :
    ∃ a b d, mkD T (run (n + 5)) 3 [pts] st = .ok (latD a b d) st ∧ La ps a b d ∧ Lz D0 s a b d := by
  have hcd : ∀ p ∈ ps, Cd D0 p := fun p h => (hp p h).cd hD
  have o0 := ovr_pos ps 1 (by decide)
  have od : ovr 1 ps ∣ D0 := ovr_dvd ps 1 D0 (Int.one_dvd _) hcd
  have oi := (dvd_ovr ps 1).2
  have ob : Nb 3990 (ovr 1 ps) := by
    have := le_of_dvd' od hD
    unfold Nb at bD ⊢
    omega
  have ol := fun (chk : Store → Prop) (a0 a1 a3 o5 : Option D) (st : Store) (hc : chk st) => ov_loop (n + 2) chk a0 a1 a3 o5 D0 hD (bD.mono (by decide)) st hc ps 1 none (by decide) (Int.one_dvd _) hcd
  generalize ovr 1 ps = o at *
  have sz : ∀ p ∈ ps, Sz 4000 p.1 ∧ Sz 4000 p.2 := fun p h => by
    obtain ⟨x, y, e1, e2, b1, b2⟩ := hp p h
    have z : ∀ {i : Int}, i.natAbs ≤ 2 ^ s → Sz 4000 ((i : Rat) / D0) := fun {i} hi => by
      rw [← Rat.divInt_eq_div]
      exact Sz.of (Nat.lt_of_le_of_lt hi (Nat.pow_lt_pow_right (by decide) (by omega))) (bD.mono (by decide)) (by omega)
    exact ⟨by rw [e1]; exact z b1, by rw [e2]; exact z b2⟩
  have hQ : ∀ q ∈ ps.map (fun p => ((p.1 * (o : Rat)).num, (p.2 * (o : Rat)).num)), q.1.natAbs ≤ 2 ^ s ∧ q.2.natAbs ≤ 2 ^ s := fun q hq => by
    obtain ⟨p, h, rfl⟩ := List.mem_map.mp hq
    obtain ⟨x, y, k1, k2, b1, b2⟩ := hp p h
    exact ⟨num_le hD o0 od (oi p h).1 k1 b1, num_le hD o0 od (oi p h).2 k2 b2⟩
  have hM : ∃ p ∈ ps.map (fun p => ((p.1 * (o : Rat)).num, (p.2 * (o : Rat)).num)), ∃ q ∈ ps.map (fun p => ((p.1 * (o : Rat)).num, (p.2 * (o : Rat)).num)), p.1 * q.2 - p.2 * q.1 ≠ 0 := by
    obtain ⟨p, h1, q, h2, hne⟩ := hm
    refine ⟨_, List.mem_map.mpr ⟨p, h1, rfl⟩, _, List.mem_map.mpr ⟨q, h2, rfl⟩, fun z => hne ?_⟩
    have f1 := int_of (oi p h1).1
    have f2 := int_of (oi p h1).2
    have f3 := int_of (oi q h2).1
    have f4 := int_of (oi q h2).2
    have zz := congrArg (fun i : Int => (i : Rat)) z
    simp only [Rat.intCast_sub, Rat.intCast_mul] at zz
    rw [← f1, ← f2, ← f3, ← f4, show ((0 : Int) : Rat) = 0 from rfl] at zz
    have ho' : (o : Rat) ≠ 0 := fun e => by
      have := Rat.intCast_eq_zero_iff.mp e
      omega
    have : (o : Rat) * o * (p.1 * q.2 - p.2 * q.1) = 0 := by grind
    rcases Rat.mul_eq_zero.mp this with h | h
    · rcases Rat.mul_eq_zero.mp h with h | h
      · exact absurd h ho'
      · exact absurd h ho'
    · exact h
  have hr1 : seqOf pts (st ++ [.ins 3 []]) = some (ps.map pDp) := seqOf_ext _ hd
  have e1 : bList [pts] (st ++ [.ins 3 []]) = .ok (.ref (st.length + 1)) (st ++ [.ins 3 [], .lst (ps.map pDp)]) := by
    unfold bList
    simp [hr1, newLst]
  have g1 : ∀ e : Store, (st ++ Cell.ins 3 [] :: .lst (ps.map pDp) :: e)[st.length + 1]? = some (Cell.lst (ps.map pDp)) := fun e => get_1 _ _ _ _
  have i1 : iSeq (xVar 3) [some (.ref st.length), some pts, some (.int 1), some (.ref (st.length + 1)), none, none] (st ++ [.ins 3 [], .lst (ps.map pDp)]) = .ok (ps.map pDp, fun st' => st'[st.length + 1]? = some (.lst (ps.map pDp))) (st ++ [.ins 3 [], .lst (ps.map pDp)]) := iSeq_lst (by simp) (g1 [])
  obtain ⟨o4, l1⟩ := ol (fun st' => st'[st.length + 1]? = some (.lst (ps.map pDp))) (some (.ref st.length)) (some pts) (some (.ref (st.length + 1))) none (st ++ [.ins 3 [], .lst (ps.map pDp)]) (g1 [])
  have i2 : iSeq (xVar 3) [some (.ref st.length), some pts, some (.int o), some (.ref (st.length + 1)), o4, none] (st ++ [.ins 3 [], .lst (ps.map pDp)]) = .ok (ps.map pDp, fun st' => st'[st.length + 1]? = some (.lst (ps.map pDp))) (st ++ [.ins 3 [], .lst (ps.map pDp)]) := iSeq_lst (by simp) (g1 [])
  have mi : ∀ (q : Rat) st, Sz 4000 q → binD T (run (n + 4)) .Mult (rD q) (.int o) st = .ok (rD (q * (o : Rat))) st := fun q st hq => b_mul_i n q o st hq (ob.mono (by decide))
  obtain ⟨e, hlc⟩ := lc_pg (f := xTup (aCons (xFld T (run (n + 4)) 40 (xBin (binD T (run (n + 4)) .Mult) (xFld T (run (n + 4)) 42 (xVar 4)) (xVar 2))) (aCons (xFld T (run (n + 4)) 40 (xBin (binD T (run (n + 4)) .Mult) (xFld T (run (n + 4)) 43 (xVar 4)) (xVar 2))) aNil))) (i := 4) (vs := [4]) (F := prF o) i2 (fun e => by
      rw [List.append_assoc]
      exact g1 e) (fun d hd e' => by
      refine ⟨[], ?_⟩
      obtain ⟨p, hp', rfl⟩ := List.mem_map.mp hd
      rw [prF_p]
      obtain ⟨z1, z2⟩ := sz p hp'
      simp [wipeE, pDp, prD, fd_x, fd_y, mi, z1, z2, fd_top]) (by
      rw [List.length_map]
      exact Nat.le_trans hl (by decide))
  have em : (ps.map pDp).map (prF o) = (ps.map fun p => ((p.1 * (o : Rat)).num, (p.2 * (o : Rat)).num)).map prD := by
    rw [List.map_map, List.map_map]
    exact List.map_congr_left fun p _ => prF_p o p
  rw [em] at hlc
  obtain ⟨a, b, t, e2, S, a0, t0, b0, bt⟩ := s_stair (n + 2) s hs (.ref (st.length + 2)) (ps.map fun p => ((p.1 * (o : Rat)).num, (p.2 * (o : Rat)).num)) (st ++ Cell.ins 3 [] :: .lst (ps.map pDp) :: .lst ((ps.map fun p => ((p.1 * (o : Rat)).num, (p.2 * (o : Rat)).num)).map prD) :: e) (by
    unfold seqOf
    simp only [get_2]) hQ (by simpa using hl) hM
  have oz : o ≠ 0 := by omega
  have mk : ∀ (w : Int) st, mkD T (run (n + 4)) 0 [.int w, .int o] st = .ok (rD ((w : Rat) / o)) st := fun w st => by
    rw [← Rat.divInt_eq_div]
    exact s_mk (n + 2) w o st oz (ob.mono (by decide))
  have L := La.of_stt o0 oi S a0 t0 b0 bt
  refine ⟨(a : Rat) / o, (b : Rat) / o, (t : Rat) / o, ?_, L, ?_⟩
  · refine mkD_new (f := 76) (fs := [(44, rD ((a : Rat) / o)), (45, rD ((b : Rat) / o)), (46, rD ((t : Rat) / o))]) rfl ?_ rfl (by simp [noRef_rD])
    rw [cl_76_2, run_76]
    unfold ovB at l1
    refine fnD_initg (ρ := [some (.ref st.length), some pts, some (.int o), some (.ref (st.length + 1)), o4, some (.tup [.int a, .int b, .int t])]) (e := .lst (ps.map pDp) :: .lst ((ps.map fun p => ((p.1 * (o : Rat)).num, (p.2 * (o : Rat)).num)).map prD) :: e) ?_ (by simp [noRef_rD])
    generalize (ps.map fun p => ((p.1 * (o : Rat)).num, (p.2 * (o : Rat)).num)).map prD = QQ at *
    simp only [List.append_assoc, List.cons_append, List.nil_append, List.length_append, List.length_cons, List.length_nil] at hlc
    simp [B_76, startE, e1, i1, l1, hlc, e2, mk, fk_la, fk_lb, fk_ld]
  · refine Lz.of_la hD L ?_ hp hm
    obtain ⟨α, h1⟩ := over_D (w := a) od o0 hD
    obtain ⟨β, h2⟩ := over_D (w := b) od o0 hD
    obtain ⟨δ, h3⟩ := over_D (w := t) od o0 hD
    exact ⟨α, β, δ, h1, h2, h3⟩
end G13
namespace G13
open PySem PySem.Spec PyProof.Rows L2 Gm
theorem fld_prop {T : Ls} {c : Fn} {i g f : Nat} {ds : List D} {d : D} {st : Store} (h : (!(T.atn i).contains g) = true) (hp : T.prop i g = some f) (hc : callD T c f [.obj i ds] st = .ok d st) : fldD T c g (.obj i ds) st = .ok d st := by
  have h2 : ¬ (T.isC i = true ∧ g ∈ T.atn i) := fun z => by
    have := List.contains_iff_mem.mpr z.2
    rw [this] at h
    cases h
  unfold fldD
  simp only []
  rw [if_neg h2]
  simp only [hp, hc]
/-- a lattice over a number of u bits, made of points of s bits -/
def LZ (u s : Nat) (a b d : Rat) : Prop := ∃ D : Int, 0 < D ∧ D.natAbs ≤ 2 ^ u ∧ Lz D s a b d
theorem sz_n {n D : Int} {s u t : Nat} (h1 : n.natAbs ≤ 2 ^ s) (h2 : D.natAbs ≤ 2 ^ u) (h0 : 0 < D) (hs : s < t) (hu : u < t) : Sz t ((n : Rat) / D) := by
  rw [← Rat.divInt_eq_div]
  exact Sz.of (Nat.lt_of_le_of_lt h1 (Nat.pow_lt_pow_right (by decide) hs)) (Nat.lt_of_le_of_lt h2 (Nat.pow_lt_pow_right (by decide) hu)) (by omega)
theorem Lz.bd {D : Int} {s : Nat} {a b d : Rat} (h : Lz D s a b d) : ∃ α β δ : Int, a = (α : Rat) / D ∧ b = (β : Rat) / D ∧ d = (δ : Rat) / D ∧ 0 < α ∧ 0 < δ ∧ α.natAbs ≤ 2 ^ s ∧ β.natAbs ≤ 2 ^ (2 * s + 1) ∧ δ.natAbs ≤ 2 ^ (2 * s + 1) ∧ (α * δ).natAbs ≤ 2 ^ (2 * s + 1) ∧ 0 < α * δ := by
  obtain ⟨α, β, δ, e1, e2, e3, h1, h2, h3, h4, h5⟩ := h.ex
  have d1 : δ.natAbs ≤ (α * δ).natAbs := by
    rw [Int.natAbs_mul]
    exact Nat.le_mul_of_pos_left _ (by omega)
  exact ⟨α, β, δ, e1, e2, e3, h1, by omega, h4, by omega, by omega, h5, Int.mul_pos h1 (by omega)⟩
theorem LZ.sz {u s t : Nat} {a b d : Rat} (h : LZ u s a b d) (hs : 2 * s + 1 < t) (hu : u < t) : Sz t a ∧ Sz t b ∧ Sz t d := by
  obtain ⟨D, h0, h1, hz⟩ := h
  obtain ⟨α, β, δ, e1, e2, e3, _, _, b1, b2, b3, _, _⟩ := hz.bd
  rw [e1, e2, e3]
  exact ⟨sz_n b1 h1 h0 (by omega) hu, sz_n b2 h1 h0 hs hu, sz_n b3 h1 h0 hs hu⟩
section
variable (n : Nat) (a b d : Rat) (st : Store)
theorem s_lrows : run (n + 5) 78 [latD a b d] st = .ok (.tup [pD a b, pD 0 d]) st := by
  rw [run_78]
  refine fnD_rt0 ?_ (by simp [noRef_pD])
  have e2 := s_mkP n st (.int 0) (.rD d)
  simp at e2
  simp [B_78, startE, fd_la, fd_lb, fd_ld, s_mkP_r, e2]
theorem hm_rows (c : Fn) (r : Fa) (ρ : Ev) : methK T c 51 r ρ (latD a b d) st = (r ρ st).bind (kMe T c 78 (latD a b d)) := methK_obj ρ st T c r rfl
theorem hm_steps (c : Fn) (r : Fa) (ρ : Ev) : methK T c 52 r ρ (latD a b d) st = (r ρ st).bind (kMe T c 79 (latD a b d)) := methK_obj ρ st T c r rfl
theorem hm_tests (c : Fn) (r : Fa) (ρ : Ev) : methK T c 53 r ρ (latD a b d) st = (r ρ st).bind (kMe T c 80 (latD a b d)) := methK_obj ρ st T c r rfl
theorem hm_dual (c : Fn) (r : Fa) (ρ : Ev) : methK T c 48 r ρ (latD a b d) st = (r ρ st).bind (kMe T c 81 (latD a b d)) := methK_obj ρ st T c r rfl
theorem hm_whole (c : Fn) (r : Fa) (ρ : Ev) (q : Rat) : methK T c 54 r ρ (rD q) st = (r ρ st).bind (kMe T c 59 (rD q)) := methK_obj ρ st T c r rfl
theorem s_whole (q : Rat) : run (n + 1) 59 [rD q] st = .ok (.bl (decide (q.den = 1))) st := by
  rw [run_59]
  refine fnD_rt0 ?_ (by simp)
  by_cases h : q.den = 1
  · simp [B_59, startE, fd_bottom, h]
  · have h2 : ((q.den : Int) == 1) = false := by simp; omega
    simp [B_59, startE, fd_bottom, h, h2]
theorem s_lcell (ha : Sz 4000 a) (hd : Sz 4000 d) : run (n + 4) 77 [latD a b d] st = .ok (rD (a * d)) st := by
  rw [run_77]
  refine fnD_rt0 ?_ (noRef_rD _ _)
  simp [B_77, startE, fd_la, fd_ld, b_mul, ha, hd]
theorem fd_cell (ha : Sz 4000 a) (hd : Sz 4000 d) : fldD T (run (n + 4)) 47 (latD a b d) st = .ok (rD (a * d)) st := by
  have h : callD T (run (n + 4)) 77 [latD a b d] st = .ok (rD (a * d)) st := s_lcell n a b d st ha hd
  exact fld_prop rfl rfl h
theorem s_lsteps (x y : Rat) (ha : Sz 4000 a) (hb : Sz 4000 b) (hd : Sz 4000 d) (a0 : a ≠ 0) (d0 : d ≠ 0) (hx : Sz 4000 x) (hy : Sz 4000 y) (h1 : Sz 4000 (x / a)) (h2 : Sz 4000 (x / a * b)) (h3 : Sz 4000 (y - x / a * b)) :
    run (n + 5) 79 [latD a b d, pD x y] st = .ok (.tup [rD (x / a), rD ((y - x / a * b) / d)]) st := by
  rw [run_79]
  refine fnD_rt0 ?_ (by simp [noRef_rD])
  simp [B_79, startE, fd_la, fd_lb, fd_ld, fd_x, fd_y, hm_over, s_over, b_mul, b_sub, ha, hb, hd, a0, d0, hx, hy, h1, h2, h3]
/-! ### forms -/
def fD (x y : Rat) : D := .obj 2 [rD x, rD y]
theorem noRef_fD (k : Nat) (x y : Rat) : noRef k (fD x y) = true := by simp [fD, noRef_rD]
theorem fk_Form_x (d : D) (ρ : Ev) : fldK T 42 d ρ (.ref st.length) (st ++ [.ins 2 []]) = .nx ρ (st ++ [.ins 2 [(42, d)]]) := fk_new d ρ st rfl
theorem fk_Form_y (d e : D) (ρ : Ev) : fldK T 43 d ρ (.ref st.length) (st ++ [.ins 2 [(42, e)]]) = .nx ρ (st ++ [.ins 2 [(42, e), (43, d)]]) := fk_new d ρ st rfl
theorem fd_fx (c : Fn) (x y : Rat) : fldD T c 42 (fD x y) st = .ok (rD x) st := fld_obj st rfl rfl
theorem fd_fy (c : Fn) (x y : Rat) : fldD T c 43 (fD x y) st = .ok (rD y) st := fld_obj st rfl rfl
theorem s_mkF {p q : D} {x y : Rat} (hp : IsN p x) (hq : IsN q y) : mkD T (run (n + 4)) 2 [p, q] st = .ok (fD x y) st := by
  refine mkD_new (f := 68) (fs := [(42, rD x), (43, rD y)]) rfl ?_ rfl (by simp [noRef_rD])
  rw [cl_68_3, run_68]
  refine fnD_init (ρ := [some (.ref st.length), some p, some q]) ?_ (by simp [noRef_rD])
  simp [B_68, startE, s_rof n _ hp, s_rof n _ hq, fk_Form_x, fk_Form_y]
theorem s_tests (ha : Sz 1990 a) (hb : Sz 4000 b) (hd : Sz 1990 d) (a0 : a ≠ 0) (d0 : d ≠ 0) (h1 : Sz 4000 (b / (a * d))) :
    run (n + 5) 80 [latD a b d] st = .ok (.tup [fD (1 / a) 0, fD (-(b / (a * d))) (1 / d)]) st := by
  rw [run_80]
  refine fnD_rt0 ?_ (by simp [noRef_fD])
  have c4 : Sz 4000 (a * d) := (ha.mul hd).mono (by decide)
  have ha4 := ha.mono (b' := 4000) (by decide)
  have hd4 := hd.mono (b' := 4000) (by decide)
  have ad : a * d ≠ 0 := fun z => (Rat.mul_eq_zero.mp z).elim a0 d0
  have fc : ∀ st, fldD T (run (n + 4)) 47 (latD a b d) st = .ok (rD (a * d)) st := fun st => fd_cell n a b d st ha4 hd4
  have ov : ∀ (p q : Rat) st, Sz 4000 p → Sz 4000 q → q ≠ 0 → run (n + 4) 57 [rD p, rD q] st = .ok (rD (p / q)) st := fun p q st hp hq h0 => s_over (n + 1) p q st hp hq h0
  have m1 : ∀ st, mkD T (run (n + 4)) 0 [.int 1] st = .ok (rD 1) st := fun st => s_mk1 (n + 2) 1 st
  have k1 : Sz 4000 1 := Sz.one 4000 (by decide)
  have f1 : ∀ st, mkD T (run (n + 4)) 2 [rD (1 / a), .int 0] st = .ok (fD (1 / a) 0) st := fun st => s_mkF n st (.rD _) (.int 0)
  have f2 : ∀ st, mkD T (run (n + 4)) 2 [rD (-(b / (a * d))), rD (1 / d)] st = .ok (fD (-(b / (a * d))) (1 / d)) st := fun st => s_mkF n st (.rD _) (.rD _)
  have ng : ∀ st, negD T (run (n + 4)) (rD (b / (a * d))) st = .ok (rD (-(b / (a * d)))) st := fun st => b_neg (n + 1) _ st h1
  simp [B_80, startE, fd_la, fd_lb, fd_ld, fc, hm_over, m1, ov, k1, ha4, hd4, hb, c4, a0, d0, ad, f1, f2, ng]
end
end G13
namespace G13
open PySem PySem.Spec PyProof.Rows L2 Gm
theorem ne_of_pos {q : Rat} (h : 0 < q) : q ≠ 0 := fun z => by rw [z] at h; exact absurd h (by decide)
theorem cast_ne {D : Int} (h : 0 < D) : (D : Rat) ≠ 0 := fun e => by
  have := Rat.intCast_eq_zero_iff.mp e
  omega
theorem s_dual {u s : Nat} {a b d : Rat} (n : Nat) (st : Store) (h : LZ u s a b d) (hs : 2 * s + 1 < 1990) (hu : u < 1990) :
    ∃ a' b' d', run (n + 7) 81 [latD a b d] st = .ok (latD a' b' d') st ∧ La [(1 / a, 0), (-(b / (a * d)), 1 / d)] a' b' d' ∧ LZ (2 * s + 1) (u + (2 * s + 1)) a' b' d' := by
  have hz := h.sz (t := 1990) hs hu
  obtain ⟨D, D0, D1, hL⟩ := h
  obtain ⟨α, β, δ, e1, e2, e3, α0, δ0, b1, b2, b3, b4, p0⟩ := hL.bd
  have Dq := cast_ne D0
  have αq := cast_ne α0
  have δq := cast_ne δ0
  have a0 : a ≠ 0 := by rw [e1]; grind
  have d0 : d ≠ 0 := by rw [e3]; grind
  have q1 : (1 : Rat) / a = ((D * δ : Int) : Rat) / ((α * δ : Int) : Rat) := by rw [e1, Rat.intCast_mul, Rat.intCast_mul]; grind
  have q2 : -(b / (a * d)) = ((-(D * β) : Int) : Rat) / ((α * δ : Int) : Rat) := by rw [e1, e2, e3, Rat.intCast_neg, Rat.intCast_mul, Rat.intCast_mul]; grind
  have q3 : (1 : Rat) / d = ((D * α : Int) : Rat) / ((α * δ : Int) : Rat) := by rw [e3, Rat.intCast_mul, Rat.intCast_mul]; grind
  have q4 : b / (a * d) = ((D * β : Int) : Rat) / ((α * δ : Int) : Rat) := by rw [e1, e2, e3, Rat.intCast_mul, Rat.intCast_mul]; grind
  have q0 : (0 : Rat) = ((0 : Int) : Rat) / ((α * δ : Int) : Rat) := by rw [show ((0 : Int) : Rat) = 0 from rfl]; grind
  have b5 : α.natAbs ≤ 2 ^ (2 * s + 1) := le_abs b1 (by omega)
  have z1 : Sz 4000 (b / (a * d)) := by
    rw [q4]
    exact sz_n (mul_abs D1 b2) b4 p0 (by omega) (by omega)
  have tt : ∀ st, run (n + 6) 80 [latD a b d] st = .ok (.tup [fD (1 / a) 0, fD (-(b / (a * d))) (1 / d)]) st := fun st => s_tests (n + 1) a b d st hz.1 (hz.2.1.mono (by decide)) hz.2.2 a0 d0 z1
  obtain ⟨a', b', d', e4, L', Z'⟩ := s_mkL (n + 1) (u + (2 * s + 1)) (by omega) (.ref st.length) [(1 / a, 0), (-(b / (a * d)), 1 / d)] (st ++ [.lst [pD (1 / a) 0, pD (-(b / (a * d))) (1 / d)]]) (by unfold seqOf; simp only [at_end]; rfl) (by simp) (α * δ) p0 (Nat.lt_of_le_of_lt b4 (Nat.pow_lt_pow_right (by decide) (by omega))) (fun p hp => by
      simp only [List.mem_cons, List.not_mem_nil, or_false] at hp
      rcases hp with rfl | rfl
      · exact ⟨D * δ, 0, q1, q0, mul_abs D1 b3, Nat.zero_le _⟩
      · exact ⟨-(D * β), D * α, q2, q3, by rw [Int.natAbs_neg]; exact mul_abs D1 b2, mul_abs D1 b5⟩) ⟨(1 / a, 0), by simp, (-(b / (a * d)), 1 / d), by simp, by dsimp only; grind⟩
  refine ⟨a', b', d', ?_, L', α * δ, p0, b4, Z'⟩
  rw [run_81]
  have mk : ∀ x y st, mkD T (run (n + 6)) 1 [rD x, rD y] st = .ok (pD x y) st := fun x y st => s_mkP_r (n + 2) x y st
  refine fnD_rtg (e := [.lst [pD (1 / a) 0, pD (-(b / (a * d))) (1 / d)]]) ?_ (noRef_latD _ _ _ _)
  simp [B_81, startE, hm_tests, tt, fd_fx, fd_fy, mk, newLst_, e4]
end G13
namespace G13
open PySem PySem.Spec PyProof.Rows L2 Gm
theorem ord_own {T : Ls} {c : Fn} {op : CmpOp} {i f : Nat} {ds es : List D} (st : Store) (hm : T.meth i (cmn op) = some f) (ho : isOrd op = true) (hc : T.isC i = true) : ordD T c op (.obj i ds) (.obj i es) st = callD T c f [.obj i ds, .obj i es] st := by
  unfold ordD
  simp only [hm]
  exact if_pos ⟨ho, hc⟩
theorem s_contains (n : Nat) {a b d x y : Rat} (i j : Int) (st : Store) (ex : x = i * a) (ey : y = i * b + j * d) (a0 : a ≠ 0) (d0 : d ≠ 0) (ha : Sz 4000 a) (hb : Sz 4000 b) (hd : Sz 4000 d) (hx : Sz 4000 x) (hy : Sz 4000 y) (h1 : Sz 4000 (i : Rat)) (h2 : Sz 4000 ((i : Rat) * b)) (h3 : Sz 4000 ((j : Rat) * d)) :
    run (n + 6) 82 [latD a b d, pD x y] st = .ok (.bl true) st := by
  have q1 : x / a = (i : Rat) := by rw [ex]; grind
  have q2 : y - x / a * b = (j : Rat) * d := by rw [q1, ey]; grind
  have q3 : (y - x / a * b) / d = (j : Rat) := by rw [q2]; grind
  have e1 : ∀ st, run (n + 5) 79 [latD a b d, pD x y] st = .ok (.tup [rD (i : Rat), rD (j : Rat)]) st := fun st => by
    rw [s_lsteps n a b d st x y ha hb hd a0 d0 hx hy (by rw [q1]; exact h1) (by rw [q1]; exact h2) (by rw [q2]; exact h3), q3, q1]
  have w1 : ∀ (k : Int) st, run (n + 5) 59 [rD (k : Rat)] st = .ok (.bl true) st := fun k st => by
    rw [s_whole (n + 4) st (k : Rat), Rat.den_intCast]
    rfl
  rw [run_82]
  refine fnD_rt0 ?_ (by simp)
  simp [B_82, startE, hm_steps, e1, hm_whole, w1]
theorem s_le (n : Nat) {a b d a' b' d' : Rat} (i j k : Int) (st : Store) (ex : a' = i * a) (ey : b' = i * b + j * d) (ez : d' = k * d) (a0 : a ≠ 0) (d0 : d ≠ 0) (ha : Sz 4000 a) (hb : Sz 4000 b) (hd : Sz 4000 d) (hx : Sz 4000 a') (hy : Sz 4000 b') (hz : Sz 4000 d') (h1 : Sz 4000 (i : Rat)) (h2 : Sz 4000 ((i : Rat) * b)) (h3 : Sz 4000 ((j : Rat) * d)) :
    run (n + 7) 84 [latD a' b' d', latD a b d] st = .ok (.bl true) st := by
  have c1 : ∀ st, inO T (run (n + 6)) false (pD a' b') (latD a b d) st = .ok (.bl true) st := fun st => by
    have h := s_contains n i j st ex ey a0 d0 ha hb hd hx hy h1 h2 h3
    unfold latD at h ⊢
    exact inO_own (T := T) (c := run (n + 6)) (i := 3) (f := 82) (ds := [rD a, rD b, rD d]) st rfl h
  have z0 : Sz 4000 0 := Sz.zero 4000 (by decide)
  have c2 : ∀ st, inO T (run (n + 6)) false (pD 0 d') (latD a b d) st = .ok (.bl true) st := fun st => by
    have h := s_contains n 0 k st (x := 0) (y := d') (a := a) (b := b) (d := d) (by rw [show ((0 : Int) : Rat) = 0 from rfl]; grind) (by rw [show ((0 : Int) : Rat) = 0 from rfl, ez]; grind) a0 d0 ha hb hd z0 hz z0 (by rw [show ((0 : Int) : Rat) * b = 0 by rw [show ((0 : Int) : Rat) = 0 from rfl]; grind]; exact z0) (by rw [← ez]; exact hz)
    unfold latD at h ⊢
    exact inO_own (T := T) (c := run (n + 6)) (i := 3) (f := 82) (ds := [rD a, rD b, rD d]) st rfl h
  have rr : ∀ st, run (n + 6) 78 [latD a' b' d'] st = .ok (.tup [pD a' b', pD 0 d']) st := fun st => s_lrows (n + 1) a' b' d' st
  rw [run_84]
  refine fnD_rt0 ?_ (by simp)
  simp [B_84, startE, iso_latD, hm_rows, rr, c1, c2]
theorem s_ladd {u s u' s' : Nat} {a b d a' b' d' : Rat} (n : Nat) (st : Store) (h : LZ u s a b d) (h' : LZ u' s' a' b' d') (S : Nat) (hS : 2 * s + 1 + u' ≤ S ∧ 2 * s' + 1 + u ≤ S) (hS2 : S ≤ 3990) (hu : u + u' < 3990) :
    ∃ a'' b'' d'', run (n + 7) 85 [latD a b d, latD a' b' d'] st = .ok (latD a'' b'' d'') st ∧ La [(a, b), (0, d), (a', b'), (0, d')] a'' b'' d'' ∧ LZ (u + u') S a'' b'' d'' := by
  obtain ⟨D, D0, D1, hL⟩ := h
  obtain ⟨α, β, δ, e1, e2, e3, α0, δ0, b1, b2, b3, b4, p0⟩ := hL.bd
  obtain ⟨E, E0, E1, hM⟩ := h'
  obtain ⟨α', β', δ', e4, e5, e6, α1, δ1, b5, b6, b7, b8, p1⟩ := hM.bd
  have Dq := cast_ne D0
  have Eq := cast_ne E0
  have αq := cast_ne α0
  have δq := cast_ne δ0
  have DE : (D * E).natAbs ≤ 2 ^ (u + u') := mul_abs D1 E1
  have c1 : ∀ {x : Rat} {i : Int}, x = (i : Rat) / D → x = ((i * E : Int) : Rat) / ((D * E : Int) : Rat) := fun h => by rw [h, Rat.intCast_mul, Rat.intCast_mul]; grind
  have c2 : ∀ {x : Rat} {i : Int}, x = (i : Rat) / E → x = ((i * D : Int) : Rat) / ((D * E : Int) : Rat) := fun h => by rw [h, Rat.intCast_mul, Rat.intCast_mul]; grind
  have z : (0 : Rat) = ((0 : Int) : Rat) / ((D * E : Int) : Rat) := by rw [show ((0 : Int) : Rat) = 0 from rfl]; grind
  have n1 : ∀ {i : Int}, i.natAbs ≤ 2 ^ (2 * s + 1) → (i * E).natAbs ≤ 2 ^ S := fun h => le_abs (mul_abs h E1) hS.1
  have n2 : ∀ {i : Int}, i.natAbs ≤ 2 ^ (2 * s' + 1) → (i * D).natAbs ≤ 2 ^ S := fun h => le_abs (mul_abs h D1) hS.2
  have b1' : α.natAbs ≤ 2 ^ (2 * s + 1) := le_abs b1 (by omega)
  have b5' : α'.natAbs ≤ 2 ^ (2 * s' + 1) := le_abs b5 (by omega)
  obtain ⟨a'', b'', d'', e7, L', Z'⟩ := s_mkL (n + 1) S hS2 (.ref (st.length + 2)) [(a, b), (0, d), (a', b'), (0, d')] (st ++ [.lst [pD a b, pD 0 d], .lst [pD a' b', pD 0 d'], .lst [pD a b, pD 0 d, pD a' b', pD 0 d']]) (by unfold seqOf; simp only [get_2]; rfl) (by simp) (D * E) (Int.mul_pos D0 E0) (Nat.lt_of_le_of_lt DE (Nat.pow_lt_pow_right (by decide) hu)) (fun p hp => by
      simp only [List.mem_cons, List.not_mem_nil, or_false] at hp
      rcases hp with rfl | rfl | rfl | rfl
      · exact ⟨_, _, c1 e1, c1 e2, n1 b1', n1 b2⟩
      · exact ⟨_, _, z, c1 e3, Nat.zero_le _, n1 b3⟩
      · exact ⟨_, _, c2 e4, c2 e5, n2 b5', n2 b6⟩
      · exact ⟨_, _, z, c2 e6, Nat.zero_le _, n2 b7⟩) ⟨(a, b), by simp, (0, d), by simp, by
        dsimp only
        rw [e1, e3]
        grind⟩
  refine ⟨a'', b'', d'', ?_, L', D * E, Int.mul_pos D0 E0, DE, Z'⟩
  have r1 : ∀ st, run (n + 6) 78 [latD a b d] st = .ok (.tup [pD a b, pD 0 d]) st := fun st => s_lrows (n + 1) a b d st
  have r2 : ∀ st, run (n + 6) 78 [latD a' b' d'] st = .ok (.tup [pD a' b', pD 0 d']) st := fun st => s_lrows (n + 1) a' b' d' st
  have bl : ∀ (l : List Gm.D) st, bList [.tup l] st = .ok (.ref st.length) (st ++ [.lst l]) := fun l st => rfl
  have add : binD T (run (n + 6)) .Add (.ref st.length) (.ref (st.length + 1)) (st ++ [.lst [pD a b, pD 0 d], .lst [pD a' b', pD 0 d']]) = .ok (.ref (st.length + 2)) (st ++ [.lst [pD a b, pD 0 d], .lst [pD a' b', pD 0 d'], .lst [pD a b, pD 0 d, pD a' b', pD 0 d']]) := by
    have := bin_ll (c := run (n + 6)) (st := st ++ [.lst [pD a b, pD 0 d], .lst [pD a' b', pD 0 d']]) (m := st.length) (p := st.length + 1) (get_0 _ _ _) (get_1 _ _ _ _) (by simp)
    rw [this]
    simp
  rw [run_85]
  refine fnD_rtg (e := [.lst [pD a b, pD 0 d], .lst [pD a' b', pD 0 d'], .lst [pD a b, pD 0 d, pD a' b', pD 0 d']]) ?_ (noRef_latD _ _ _ _)
  simp [B_85, startE, iso_latD, hm_rows, r1, r2, bl, add, e7]
end G13
namespace G13
open PySem PySem.Spec PyProof.Rows L2 Gm
/-- a whole product -/
def Zp (v w : Rat × Rat) : Prop := ∃ k : Int, v.1 * w.1 + v.2 * w.2 = k
theorem Zp.spR {v : Rat × Rat} {R : List (Rat × Rat)} {x y : Rat} (h : ∀ w ∈ R, Zp v w) (hs : SpR R x y) : Zp v (x, y) := by
  induction hs with
  | zero => exact ⟨0, by dsimp only; rw [show ((0 : Int) : Rat) = 0 from rfl]; grind⟩
  | @add x y p k hm _ ih =>
    obtain ⟨i, hi⟩ := ih
    obtain ⟨j, hj⟩ := h p hm
    refine ⟨i + k * j, ?_⟩
    rw [Rat.intCast_add, Rat.intCast_mul, ← hi, ← hj]
    dsimp only
    grind
theorem Zp.symm {v w : Rat × Rat} (h : Zp v w) : Zp w v := by
  obtain ⟨k, hk⟩ := h
  exact ⟨k, by rw [← hk]; grind⟩
/-- the dual rows of a table -/
def du (a b d : Rat) : List (Rat × Rat) := [(1 / a, 0), (-(b / (a * d)), 1 / d)]
/-- what has whole products with the dual rows lies in the lattice -/
theorem in_of {a b d : Rat} (a0 : a ≠ 0) (d0 : d ≠ 0) {v : Rat × Rat} (h : ∀ w ∈ du a b d, Zp v w) : ∃ i j : Int, v.1 = i * a ∧ v.2 = i * b + j * d := by
  obtain ⟨i, hi⟩ := h (1 / a, 0) (by simp [du])
  obtain ⟨j, hj⟩ := h (-(b / (a * d)), 1 / d) (by simp [du])
  dsimp only at hi hj
  have e1 : v.1 = i * a := by rw [← hi]; grind
  refine ⟨i, j, e1, ?_⟩
  rw [← hj, e1]
  grind
theorem z_row {a b d : Rat} (a0 : a ≠ 0) (d0 : d ≠ 0) : ∀ w ∈ du a b d, Zp (a, b) w ∧ Zp (0, d) w := by
  intro w hw
  simp only [du, List.mem_cons, List.not_mem_nil, or_false] at hw
  rcases hw with rfl | rfl
  · exact ⟨⟨1, by dsimp only; rw [show ((1 : Int) : Rat) = 1 from rfl]; grind⟩, ⟨0, by dsimp only; rw [show ((0 : Int) : Rat) = 0 from rfl]; grind⟩⟩
  · exact ⟨⟨0, by dsimp only; rw [show ((0 : Int) : Rat) = 0 from rfl]; grind⟩, ⟨1, by dsimp only; rw [show ((1 : Int) : Rat) = 1 from rfl]; grind⟩⟩
/-- what the dual rows make has whole products with what the lattice is made of -/
theorem La.zp {ps : List (Rat × Rat)} {a b d x y : Rat} (L : La ps a b d) (h : SpR (du a b d) x y) : ∀ p ∈ ps, Zp (x, y) p := by
  intro p hp
  obtain ⟨i, j, e1, e2⟩ := L.of p hp
  have a0 := ne_of_pos L.a0
  have d0 := ne_of_pos L.d0
  have k1 : Zp (a, b) (x, y) := Zp.spR (fun w hw => (z_row a0 d0 w hw).1) h
  have k2 : Zp (0, d) (x, y) := Zp.spR (fun w hw => (z_row a0 d0 w hw).2) h
  obtain ⟨m, hm⟩ := k1
  obtain ⟨n, hn⟩ := k2
  refine ⟨i * m + j * n, ?_⟩
  rw [Rat.intCast_add, Rat.intCast_mul, Rat.intCast_mul, ← hm, ← hn, e1, e2]
  dsimp only
  grind
/-- the common part lies within both -/
theorem sub_of {a b d a1 b1 d1 a3 b3 d3 a4 b4 d4 : Rat} {R : List (Rat × Rat)} (a0 : a ≠ 0) (d0 : d ≠ 0) (L1 : La (du a b d) a1 b1 d1) (h1 : (a1, b1) ∈ R) (h2 : (0, d1) ∈ R) (L3 : La R a3 b3 d3) (L4 : La (du a3 b3 d3) a4 b4 d4) :
    ∃ i j k : Int, a4 = i * a ∧ b4 = i * b + j * d ∧ d4 = k * d := by
  have go : ∀ x y, SpR (du a3 b3 d3) x y → ∃ i j : Int, x = i * a ∧ y = i * b + j * d := by
    intro x y h
    have z := L3.zp h
    refine in_of (v := (x, y)) a0 d0 fun w hw => ?_
    obtain ⟨i, j, e1, e2⟩ := L1.of w hw
    obtain ⟨m, hm⟩ := z _ h1
    obtain ⟨n, hn⟩ := z _ h2
    refine ⟨i * m + j * n, ?_⟩
    rw [Rat.intCast_add, Rat.intCast_mul, Rat.intCast_mul, ← hm, ← hn, e1, e2]
    dsimp only
    grind
  obtain ⟨i, j, e1, e2⟩ := go _ _ L4.s1
  obtain ⟨i', k, e3, e4⟩ := go _ _ L4.s2
  have i0 : (i' : Rat) = 0 := by
    rcases Rat.mul_eq_zero.mp e3.symm with h | h
    · exact h
    · exact absurd h a0
  exact ⟨i, j, k, e1, e2, by rw [e4, i0]; grind⟩
theorem mul_one_cases {i j : Int} (h : i * j = 1) : (i = 1 ∧ j = 1) ∨ (i = -1 ∧ j = -1) := by
  have h2 : i.natAbs * j.natAbs = 1 := by rw [← Int.natAbs_mul, h]; rfl
  have h3 := Nat.eq_one_of_mul_eq_one_right h2
  have h4 := Nat.eq_one_of_mul_eq_one_left h2
  rcases Int.natAbs_eq i with e | e <;> rcases Int.natAbs_eq j with f | f
  · left; omega
  · rw [e, f, h3, h4] at h; exact absurd h (by decide)
  · rw [e, f, h3, h4] at h; exact absurd h (by decide)
  · right; omega
theorem unit_of {x y : Rat} {i j : Int} (hx : 0 < x) (hy : 0 < y) (h1 : x = i * y) (h2 : y = j * x) : x = y := by
  have h3 : ((i * j : Int) : Rat) = ((1 : Int) : Rat) := by
    rw [Rat.intCast_mul, show ((1 : Int) : Rat) = 1 from rfl]
    have x0 := ne_of_pos hx
    have : x * ((i : Rat) * j - 1) = 0 := by
      have e : x = i * (j * x) := by rw [← h2]; exact h1
      grind
    rcases Rat.mul_eq_zero.mp this with h | h
    · exact absurd h x0
    · grind
  have h4 : i * j = 1 := Rat.intCast_inj.mp h3
  rcases mul_one_cases h4 with ⟨rfl, rfl⟩ | ⟨rfl, rfl⟩
  · rw [h1, show ((1 : Int) : Rat) = 1 from rfl]
    grind
  · rw [show ((-1 : Int) : Rat) = -1 from rfl] at h1
    grind
/-- two whole numbers for a member of what two rows make -/
theorem SpR.two {p q : Rat × Rat} {x y : Rat} (h : SpR [p, q] x y) : ∃ i j : Int, x = i * p.1 + j * q.1 ∧ y = i * p.2 + j * q.2 := by
  induction h with
  | zero => exact ⟨0, 0, by rw [show ((0 : Int) : Rat) = 0 from rfl]; grind, by rw [show ((0 : Int) : Rat) = 0 from rfl]; grind⟩
  | @add x y r k hm _ ih =>
    obtain ⟨i, j, e1, e2⟩ := ih
    simp only [List.mem_cons, List.not_mem_nil, or_false] at hm
    rcases hm with rfl | rfl
    · exact ⟨i + k, j, by rw [e1, Rat.intCast_add]; grind, by rw [e2, Rat.intCast_add]; grind⟩
    · exact ⟨i, j + k, by rw [e1, Rat.intCast_add]; grind, by rw [e2, Rat.intCast_add]; grind⟩
theorem SpR.four {p q r s : Rat × Rat} {x y : Rat} (h : SpR [p, q, r, s] x y) : ∃ i j k l : Int, x = i * p.1 + j * q.1 + k * r.1 + l * s.1 ∧ y = i * p.2 + j * q.2 + k * r.2 + l * s.2 := by
  induction h with
  | zero => exact ⟨0, 0, 0, 0, by rw [show ((0 : Int) : Rat) = 0 from rfl]; grind, by rw [show ((0 : Int) : Rat) = 0 from rfl]; grind⟩
  | @add x y t n hm _ ih =>
    obtain ⟨i, j, k, l, e1, e2⟩ := ih
    simp only [List.mem_cons, List.not_mem_nil, or_false] at hm
    rcases hm with rfl | rfl | rfl | rfl
    · exact ⟨i + n, j, k, l, by rw [e1, Rat.intCast_add]; grind, by rw [e2, Rat.intCast_add]; grind⟩
    · exact ⟨i, j + n, k, l, by rw [e1, Rat.intCast_add]; grind, by rw [e2, Rat.intCast_add]; grind⟩
    · exact ⟨i, j, k + n, l, by rw [e1, Rat.intCast_add]; grind, by rw [e2, Rat.intCast_add]; grind⟩
    · exact ⟨i, j, k, l + n, by rw [e1, Rat.intCast_add]; grind, by rw [e2, Rat.intCast_add]; grind⟩
/-- the cell of a lattice of two points -/
theorem La.cell2 {p q : Rat × Rat} {a b d : Rat} (L : La [p, q] a b d) : ∃ e : Int, (e = 1 ∨ e = -1) ∧ p.1 * q.2 - p.2 * q.1 = e * (a * d) := by
  obtain ⟨i, j, e1, e2⟩ := L.of p (by simp)
  obtain ⟨i', j', e3, e4⟩ := L.of q (by simp)
  obtain ⟨k, l, f1, f2⟩ := L.s1.two
  obtain ⟨k', l', f3, f4⟩ := L.s2.two
  have h1 : p.1 * q.2 - p.2 * q.1 = ((i * j' - j * i' : Int) : Rat) * (a * d) := by
    rw [Rat.intCast_sub, Rat.intCast_mul, Rat.intCast_mul, e1, e2, e3, e4]; grind
  have h2 : a * d = ((k * l' - l * k' : Int) : Rat) * (p.1 * q.2 - p.2 * q.1) := by
    rw [Rat.intCast_sub, Rat.intCast_mul, Rat.intCast_mul]
    have : a * d = a * d - b * 0 := by grind
    rw [this, f1, f4]
    conv => lhs; rhs; rhs; rw [f3]
    conv => lhs; rhs; lhs; rw [f2]
    grind
  have c0 : 0 < a * d := Rat.mul_pos L.a0 L.d0
  generalize i * j' - j * i' = u at *
  generalize k * l' - l * k' = v at *
  have h3 : ((v * u : Int) : Rat) = ((1 : Int) : Rat) := by
    rw [Rat.intCast_mul, show ((1 : Int) : Rat) = 1 from rfl]
    have c := ne_of_pos c0
    have : a * d * ((v : Rat) * u - 1) = 0 := by
      rw [h1] at h2
      grind
    rcases Rat.mul_eq_zero.mp this with h | h
    · exact absurd h c
    · grind
  refine ⟨u, ?_, h1⟩
  rcases mul_one_cases (Rat.intCast_inj.mp h3) with ⟨_, h⟩ | ⟨_, h⟩
  · exact .inl h
  · exact .inr h
end G13
namespace G13
open PySem PySem.Spec PyProof.Rows L2 Gm
/-- a whole combination of two rows -/
def Wc (p q v : Rat × Rat) : Prop := ∃ i j : Int, v.1 = i * p.1 + j * q.1 ∧ v.2 = i * p.2 + j * q.2
theorem Wc.comb {p q u w : Rat × Rat} (hu : Wc p q u) (hw : Wc p q w) (i j : Int) : Wc p q (i * u.1 + j * w.1, i * u.2 + j * w.2) := by
  obtain ⟨a, b, e1, e2⟩ := hu
  obtain ⟨c, d, e3, e4⟩ := hw
  refine ⟨i * a + j * c, i * b + j * d, ?_, ?_⟩
  · dsimp only
    rw [e1, e3, Rat.intCast_add, Rat.intCast_add, Rat.intCast_mul, Rat.intCast_mul, Rat.intCast_mul, Rat.intCast_mul]
    grind
  · dsimp only
    rw [e2, e4, Rat.intCast_add, Rat.intCast_add, Rat.intCast_mul, Rat.intCast_mul, Rat.intCast_mul, Rat.intCast_mul]
    grind
theorem La.wc {ps : List (Rat × Rat)} {a b d : Rat} (L : La ps a b d) : ∀ p ∈ ps, Wc (a, b) (0, d) p := by
  intro p hp
  obtain ⟨i, j, e1, e2⟩ := L.of p hp
  exact ⟨i, j, by dsimp only; rw [e1]; grind, e2⟩
/-- two combinations: their area is a whole multiple of the rows' one -/
theorem Wc.det {p q u w : Rat × Rat} (hu : Wc p q u) (hw : Wc p q w) : ∃ k : Int, u.1 * w.2 - u.2 * w.1 = k * (p.1 * q.2 - p.2 * q.1) := by
  obtain ⟨a, b, e1, e2⟩ := hu
  obtain ⟨c, d, e3, e4⟩ := hw
  refine ⟨a * d - b * c, ?_⟩
  rw [e1, e2, e3, e4, Rat.intCast_sub, Rat.intCast_mul, Rat.intCast_mul]
  grind
theorem Wc.trans {p q u P Q : Rat × Rat} (h : Wc p q u) (hp : Wc P Q p) (hq : Wc P Q q) : Wc P Q u := by
  obtain ⟨i, j, e1, e2⟩ := h
  have := hp.comb hq i j
  rw [← e1, ← e2] at this
  exact this
theorem dual_wc {p q r : Rat} (pz : p ≠ 0) (rz : r ≠ 0) {v : Rat × Rat} (h1 : Zp v (p, q)) (h2 : Zp v (0, r)) : Wc (1 / p, 0) (-(q / (p * r)), 1 / r) v := by
  obtain ⟨i, hi⟩ := h1
  obtain ⟨j, hj⟩ := h2
  dsimp only at hi hj
  refine ⟨i, j, ?_, ?_⟩
  · dsimp only
    rw [← hi, ← hj]
    grind
  · dsimp only
    rw [← hj]
    grind
/-- the areas of what two lattices make: whole over l -/
theorem part_two {t00 t01 t10 t11 g1 g2 G1 G2 : Rat} {h k00 k01 k10 k11 l I1 I2 J1 J2 N1 N2 M1 M2 : Int} (P00 : (h : Rat) * t00 = k00) (P01 : (h : Rat) * t01 = k01) (P10 : (h : Rat) * t10 = k10) (P11 : (h : Rat) * t11 = k11) (Pl : (h : Rat) * (t00 * t11 - t01 * t10) = l)
    (e1 : t00 * g1 + t01 * g2 = N1) (e2 : t10 * g1 + t11 * g2 = N2) (e3 : t00 * G1 + t01 * G2 = M1) (e4 : t10 * G1 + t11 * G2 = M2) :
    ∃ N : Int, (l : Rat) * ((I1 + g1) * (J2 + G2) - (I2 + g2) * (J1 + G1)) = N := by
  have q1 : (l : Rat) * g1 = k11 * N1 - k01 * N2 := by rw [← Pl, ← P11, ← P01, ← e1, ← e2]; grind
  have q2 : (l : Rat) * g2 = k00 * N2 - k10 * N1 := by rw [← Pl, ← P00, ← P10, ← e1, ← e2]; grind
  have q3 : (l : Rat) * G1 = k11 * M1 - k01 * M2 := by rw [← Pl, ← P11, ← P01, ← e3, ← e4]; grind
  have q4 : (l : Rat) * G2 = k00 * M2 - k10 * M1 := by rw [← Pl, ← P00, ← P10, ← e3, ← e4]; grind
  have q5 : (l : Rat) * (g1 * G2 - g2 * G1) = h * (N1 * M2 - N2 * M1) := by rw [← Pl, ← e1, ← e2, ← e3, ← e4]; grind
  refine ⟨l * (I1 * J2 - I2 * J1) + I1 * (k00 * M2 - k10 * M1) + J2 * (k11 * N1 - k01 * N2) - I2 * (k11 * M1 - k01 * M2) - J1 * (k00 * N2 - k10 * N1) + h * (N1 * M2 - N2 * M1), ?_⟩
  simp only [Rat.intCast_add, Rat.intCast_sub, Rat.intCast_mul]
  rw [← q1, ← q2, ← q3, ← q4, ← q5]
  grind
/-- a primitive row of whole numbers (h, k, l) in the direction of (1, T, det T) -/
structure Pv (t00 t01 t10 t11 : Rat) (h k00 k01 k10 k11 l : Int) : Prop where
  h0 : 0 < h
  e00 : (h : Rat) * t00 = k00
  e01 : (h : Rat) * t01 = k01
  e10 : (h : Rat) * t10 = k10
  e11 : (h : Rat) * t11 = k11
  el : (h : Rat) * (t00 * t11 - t01 * t10) = l
  pr : ∃ u0 u1 u2 u3 u4 u5 : Int, u0 * h + u1 * k00 + u2 * k01 + u3 * k10 + u4 * k11 + u5 * l = 1
theorem inv_p {l c : Rat} (hc : 0 < c) (h : l * c = 1) : 1 / c = l := by
  have := ne_of_pos hc
  grind
theorem inv_m {l c : Rat} (hc : 0 < c) (h : l * c = -1) : 1 / c = -l := by
  have := ne_of_pos hc
  grind
theorem inv_0 {c : Rat} (hc : 0 < c) : 0 < 1 / c := by
  rw [Rat.div_def, Rat.one_mul]
  exact Rat.inv_pos.mpr hc
theorem nk {l c i v N : Rat} (hN : l * c = N) (g : i * c = v) : N * i = l * v := by
  rw [← hN, ← g]
  grind
theorem lvx {h dt x : Rat} (hd : dt ≠ 0) : h * dt * (x / dt) = h * x := by grind
theorem q_e1 {x y z : Rat} (hx : x ≠ 0) (hy : y ≠ 0) : 1 / x * (1 / y) - 0 * z = 1 / (x * y) := by grind
theorem q_lc {u v w : Rat} (hv : v ≠ 0) (hw : w ≠ 0) : 1 / w / v = 1 / (v * w) := by grind
theorem q_dd (A B C D a b d : Rat) : (A * D - B * C) * (a * d) = (A * a + B * b) * (D * d) - (C * a + D * b) * (B * d) := by grind
theorem q_iz {k v x y z : Rat} (hx : x ≠ 0) (h : v * (1 / x) = k * (y - z * 0)) : k * (x * y) = v := by
  have : k * (x * y) = x * (k * (y - z * 0)) := by grind
  rw [this, ← h]
  grind
theorem lin_no {x : Rat} (h1 : 0 < x) (h2 : 0 < -1 * x) : False := by grind
theorem q_div {x y z : Rat} (hy : y ≠ 0) (h : x = z * y) : x / y = z := by grind
theorem q_mul {x y z : Rat} (hy : y ≠ 0) (h : x / y = z) : x = z * y := by grind
theorem q_pos {x y : Rat} (hy : 0 < y) (h : 0 < x * y) : 0 < x := by
  have := Rat.mul_pos h (Rat.inv_pos.mpr hy)
  have hz := ne_of_pos hy
  rwa [show x * y * y⁻¹ = x by grind] at this
theorem index_law {a b d A B C D p q r a1 b1 d1 a2 b2 d2 a3 b3 d3 a4 b4 d4 t00 t01 t10 t11 : Rat} {h k00 k01 k10 k11 l : Int} (a0 : 0 < a) (d0 : 0 < d)
    (hm : A * D - B * C ≠ 0) (M : La [(A * a + B * b, C * a + D * b), (B * d, D * d)] p q r) (L1 : La (du a b d) a1 b1 d1) (L2 : La (du p q r) a2 b2 d2) (L3 : La [(a1, b1), (0, d1), (a2, b2), (0, d2)] a3 b3 d3) (L4 : La (du a3 b3 d3) a4 b4 d4)
    (x1 : A * a + B * b = t00 * a) (x2 : C * a + D * b = t00 * b + t01 * d) (x3 : B * d = t10 * a) (x4 : D * d = t10 * b + t11 * d) (P : Pv t00 t01 t10 t11 h k00 k01 k10 k11 l) :
    a4 * d4 / (a * d) = ((l.natAbs : Int) : Rat) ∧ a4 * d4 / (p * r) = (h : Rat) ∧ p * r = (t00 * t11 - t01 * t10) * (a * d) ∨ a4 * d4 / (a * d) = ((l.natAbs : Int) : Rat) ∧ a4 * d4 / (p * r) = (h : Rat) ∧ p * r = -((t00 * t11 - t01 * t10) * (a * d)) := by
  have az := ne_of_pos a0
  have dz := ne_of_pos d0
  have pz := ne_of_pos M.a0
  have rz := ne_of_pos M.d0
  have a3z := ne_of_pos L3.a0
  have d3z := ne_of_pos L3.d0
  have tdet : (t00 * t11 - t01 * t10) * (a * d) = (A * D - B * C) * (a * d) := by
    have : (A * a + B * b) * (D * d) - (C * a + D * b) * (B * d) = (A * D - B * C) * (a * d) := by grind
    rw [← this, x1, x2, x3, x4]
    grind
  have adz : a * d ≠ 0 := ne_of_pos (Rat.mul_pos a0 d0)
  have Tz : t00 * t11 - t01 * t10 ≠ 0 := fun z => by
    rw [z, Rat.zero_mul] at tdet
    rcases Rat.mul_eq_zero.mp tdet.symm with z | z
    · exact hm z
    · exact adz z
  have w3 := L3.wc
  have r1 := w3 (a1, b1) (by simp)
  have r2 := w3 (0, d1) (by simp)
  have r3 := w3 (a2, b2) (by simp)
  have r4 := w3 (0, d2) (by simp)
  have X1 := (L1.wc (1 / a, 0) (by simp [du])).trans r1 r2
  have X2 := (L1.wc (-(b / (a * d)), 1 / d) (by simp [du])).trans r1 r2
  have Y1 := (L2.wc (1 / p, 0) (by simp [du])).trans r3 r4
  have Y2 := (L2.wc (-(q / (p * r)), 1 / r) (by simp [du])).trans r3 r4
  -- whatever has whole products with the led rows is made by the sum
  have zin : ∀ v : Rat × Rat, Zp v (A * a + B * b, C * a + D * b) → Zp v (B * d, D * d) → Wc (a3, b3) (0, d3) v := by
    intro v h1 h2
    have hw : ∀ w ∈ [(A * a + B * b, C * a + D * b), (B * d, D * d)], Zp v w := fun w hw => by
      simp only [List.mem_cons, List.not_mem_nil, or_false] at hw
      rcases hw with rfl | rfl
      · exact h1
      · exact h2
    exact (dual_wc pz rz (Zp.spR hw M.s1) (Zp.spR hw M.s2)).trans Y1 Y2
  have Z1 := zin (t11 / (t00 * t11 - t01 * t10) * (1 / a) + -t10 / (t00 * t11 - t01 * t10) * -(b / (a * d)), -t10 / (t00 * t11 - t01 * t10) * (1 / d))
    ⟨1, by
      dsimp only
      rw [x1, x2, show ((1 : Int) : Rat) = 1 from rfl]
      generalize hD : t00 * t11 - t01 * t10 = dt at *
      grind⟩ ⟨0, by
      dsimp only
      rw [x3, x4, show ((0 : Int) : Rat) = 0 from rfl]
      generalize hD : t00 * t11 - t01 * t10 = dt at *
      grind⟩
  have Z2 := zin (-t01 / (t00 * t11 - t01 * t10) * (1 / a) + t00 / (t00 * t11 - t01 * t10) * -(b / (a * d)), t00 / (t00 * t11 - t01 * t10) * (1 / d))
    ⟨0, by
      dsimp only
      rw [x1, x2, show ((0 : Int) : Rat) = 0 from rfl]
      generalize hD : t00 * t11 - t01 * t10 = dt at *
      grind⟩ ⟨1, by
      dsimp only
      rw [x3, x4, show ((1 : Int) : Rat) = 1 from rfl]
      generalize hD : t00 * t11 - t01 * t10 = dt at *
      grind⟩
  obtain ⟨i0, m0⟩ := X1.det X2
  obtain ⟨i1, m1⟩ := X1.det Z1
  obtain ⟨i2, m2⟩ := X2.det Z1
  obtain ⟨i3, m3⟩ := X1.det Z2
  obtain ⟨i4, m4⟩ := X2.det Z2
  obtain ⟨i5, m5⟩ := Z1.det Z2
  dsimp only at m0 m1 m2 m3 m4 m5
  have ll : (l : Rat) = h * (t00 * t11 - t01 * t10) := P.el.symm
  have hz : (h : Rat) ≠ 0 := cast_ne P.h0
  -- the other way about
  obtain ⟨N, hN⟩ : ∃ N : Int, (l : Rat) * (a * d * (a3 * d3)) = N := by
    obtain ⟨p1, p2, p3, p4, y1, y2⟩ := L3.s1.four
    obtain ⟨q1, q2, q3, q4, y3, y4⟩ := L3.s2.four
    obtain ⟨m11, z11⟩ := Zp.spR (fun w hw => (z_row az dz w hw).1) L1.s1
    obtain ⟨m12, z12⟩ := Zp.spR (fun w hw => (z_row az dz w hw).2) L1.s1
    obtain ⟨m21, z21⟩ := Zp.spR (fun w hw => (z_row az dz w hw).1) L1.s2
    obtain ⟨m22, z22⟩ := Zp.spR (fun w hw => (z_row az dz w hw).2) L1.s2
    obtain ⟨n11, v11⟩ := M.zp L2.s1 (A * a + B * b, C * a + D * b) (by simp)
    obtain ⟨n12, v12⟩ := M.zp L2.s1 (B * d, D * d) (by simp)
    obtain ⟨n21, v21⟩ := M.zp L2.s2 (A * a + B * b, C * a + D * b) (by simp)
    obtain ⟨n22, v22⟩ := M.zp L2.s2 (B * d, D * d) (by simp)
    dsimp only at y1 y2 y3 y4 z11 z12 z21 z22 v11 v12 v21 v22
    rw [x1, x2] at v11 v21
    rw [x3, x4] at v12 v22
    have s := fun (i j : Int) => part_two (g1 := p3 * (a2 * a + b2 * b) + p4 * (d2 * b)) (g2 := p3 * (b2 * d) + p4 * (d2 * d)) (G1 := q3 * (a2 * a + b2 * b) + q4 * (d2 * b)) (G2 := q3 * (b2 * d) + q4 * (d2 * d)) (I1 := p1 * m11 + p2 * m21) (I2 := p1 * m12 + p2 * m22) (J1 := q1 * m11 + q2 * m21) (J2 := q1 * m12 + q2 * m22) (N1 := p3 * n11 + p4 * n21) (N2 := p3 * n12 + p4 * n22) (M1 := q3 * n11 + q4 * n21) (M2 := q3 * n12 + q4 * n22) P.e00 P.e01 P.e10 P.e11 P.el
      (by rw [Rat.intCast_add, Rat.intCast_mul, Rat.intCast_mul, ← v11, ← v21]; grind) (by rw [Rat.intCast_add, Rat.intCast_mul, Rat.intCast_mul, ← v12, ← v22]; grind)
      (by rw [Rat.intCast_add, Rat.intCast_mul, Rat.intCast_mul, ← v11, ← v21]; grind) (by rw [Rat.intCast_add, Rat.intCast_mul, Rat.intCast_mul, ← v12, ← v22]; grind)
    obtain ⟨N, hN⟩ := s 0 0
    refine ⟨N, ?_⟩
    rw [← hN]
    simp only [Rat.intCast_add, Rat.intCast_mul]
    rw [← z11, ← z12, ← z21, ← z22]
    have k1 : p1 * (a * a1 + b * b1) + p2 * (a * 0 + b * d1) + (p3 * (a2 * a + b2 * b) + p4 * (d2 * b)) = a3 * a + b3 * b := by rw [y1, y2]; grind
    have k2 : p1 * (0 * a1 + d * b1) + p2 * (0 * 0 + d * d1) + (p3 * (b2 * d) + p4 * (d2 * d)) = b3 * d := by rw [y2]; grind
    have k3 : q1 * (a * a1 + b * b1) + q2 * (a * 0 + b * d1) + (q3 * (a2 * a + b2 * b) + q4 * (d2 * b)) = 0 * a + d3 * b := by rw [y4]; grind
    have k4 : q1 * (0 * a1 + d * b1) + q2 * (0 * 0 + d * d1) + (q3 * (b2 * d) + q4 * (d2 * d)) = d3 * d := by rw [y4]; grind
    rw [k1, k2, k3, k4]
    have : (a3 * a + b3 * b) * (d3 * d) - b3 * d * (0 * a + d3 * b) = a * d * (a3 * d3) := by grind
    rw [this]
  have iz : ∀ {k : Int} {v : Rat}, v * (1 / (a * d)) = k * (a3 * d3 - b3 * 0) → (k : Rat) * (a * d * (a3 * d3)) = v := fun h => q_iz adz h
  have g0 := iz (v := 1) (k := i0) (by rw [← m0]; grind)
  have g1 := iz (v := -t10 / (t00 * t11 - t01 * t10)) (k := i1) (by rw [← m1]; grind)
  have g2 := iz (v := -t11 / (t00 * t11 - t01 * t10)) (k := i2) (by rw [← m2]; grind)
  have g3 := iz (v := t00 / (t00 * t11 - t01 * t10)) (k := i3) (by rw [← m3]; grind)
  have g4 := iz (v := t01 / (t00 * t11 - t01 * t10)) (k := i4) (by rw [← m4]; grind)
  have g5 := iz (v := 1 / (t00 * t11 - t01 * t10)) (k := i5) (by
    rw [← m5]
    generalize hD : t00 * t11 - t01 * t10 = dt at *
    grind)
  have c0 : 0 < a * d * (a3 * d3) := Rat.mul_pos (Rat.mul_pos a0 d0) (Rat.mul_pos L3.a0 L3.d0)
  have inj : ∀ {u v : Int}, (u : Rat) = v → u = v := fun h => Rat.intCast_inj.mp h
  have n0 : l = N * i0 := inj (by rw [Rat.intCast_mul, nk hN g0, Rat.mul_one])
  have n1 : -k10 = N * i1 := inj (by rw [Rat.intCast_mul, nk hN g1, ll, lvx Tz, Rat.intCast_neg, ← P.e10, Rat.mul_neg])
  have n2 : -k11 = N * i2 := inj (by rw [Rat.intCast_mul, nk hN g2, ll, lvx Tz, Rat.intCast_neg, ← P.e11, Rat.mul_neg])
  have n3 : k00 = N * i3 := inj (by rw [Rat.intCast_mul, nk hN g3, ll, lvx Tz, P.e00])
  have n4 : k01 = N * i4 := inj (by rw [Rat.intCast_mul, nk hN g4, ll, lvx Tz, P.e01])
  have n5 : h = N * i5 := inj (by rw [Rat.intCast_mul, nk hN g5, ll, lvx Tz, Rat.mul_one])
  have N1 : N = 1 ∨ N = -1 := by
    obtain ⟨u0, u1, u2, u3, u4, u5, hu⟩ := P.pr
    have : N * (u0 * i5 + u1 * i3 + u2 * i4 - u3 * i1 - u4 * i2 + u5 * i0) = 1 := by
      rw [← hu]
      have k10' : k10 = -(N * i1) := by omega
      have k11' : k11 = -(N * i2) := by omega
      rw [n0, k10', k11', n3, n4, n5]
      grind
    rcases mul_one_cases this with ⟨h, _⟩ | ⟨h, _⟩
    · exact .inl h
    · exact .inr h
  obtain ⟨e, he, c4⟩ := L4.cell2
  obtain ⟨f, hf, c5⟩ := M.cell2
  dsimp only at c4 c5
  have q0 : 0 < a4 * d4 := Rat.mul_pos L4.a0 L4.d0
  have e1 : a4 * d4 = 1 / (a3 * d3) := by
    have q1 : 0 < 1 / (a3 * d3) := by
      rw [Rat.div_def, Rat.one_mul]
      exact Rat.inv_pos.mpr (Rat.mul_pos L3.a0 L3.d0)
    have q2 : 1 / a3 * (1 / d3) - 0 * -(b3 / (a3 * d3)) = 1 / (a3 * d3) := q_e1 a3z d3z
    rcases he with rfl | rfl
    · rw [show ((1 : Int) : Rat) = 1 from rfl, q2, Rat.one_mul] at c4
      exact c4.symm
    · rw [show ((-1 : Int) : Rat) = -1 from rfl, q2] at c4
      rw [c4] at q1
      exact (lin_no q0 q1).elim
  have lc : a4 * d4 / (a * d) = 1 / (a * d * (a3 * d3)) := by rw [e1]; exact q_lc (u := 0) adz (ne_of_pos (Rat.mul_pos L3.a0 L3.d0))
  have pr0 : 0 < p * r := Rat.mul_pos M.a0 M.d0
  have ad0 : 0 < a * d := Rat.mul_pos a0 d0
  have lz : (l : Rat) ≠ 0 := fun z => by
    rw [ll] at z
    rcases Rat.mul_eq_zero.mp z with z | z
    · exact hz z
    · exact Tz z
  have lv : a4 * d4 / (a * d) = ((l.natAbs : Int) : Rat) ∧ ((l.natAbs : Int) : Rat) = l ∨ a4 * d4 / (a * d) = ((l.natAbs : Int) : Rat) ∧ ((l.natAbs : Int) : Rat) = -l := by
    rw [lc]
    rcases N1 with rfl | rfl
    · have q := inv_p c0 hN
      have lp : (0 : Rat) < l := by rw [← q]; exact inv_0 c0
      have : 0 < l := Rat.intCast_pos.mp lp
      rw [show (l.natAbs : Int) = l by omega]
      exact .inl ⟨q, rfl⟩
    · have q := inv_m c0 hN
      have lp : (0 : Rat) < ((-l : Int) : Rat) := by
        rw [Rat.intCast_neg, ← q]
        exact inv_0 c0
      have : 0 < -l := Rat.intCast_pos.mp lp
      rw [show (l.natAbs : Int) = -l by omega, Rat.intCast_neg]
      exact .inr ⟨q, rfl⟩
  have hp : (0 : Rat) < h := Rat.intCast_pos.mpr P.h0
  have dd : (t00 * t11 - t01 * t10) * (a * d) = f * (p * r) := by
    rw [← c5, tdet]
    exact q_dd A B C D a b d
  have prz := ne_of_pos pr0
  have hpr : (0 : Rat) < h * (p * r) := Rat.mul_pos hp pr0
  rcases hf with rfl | rfl
  · left
    rw [show ((1 : Int) : Rat) = 1 from rfl, Rat.one_mul] at dd
    have e5 : (l : Rat) * (a * d) = h * (p * r) := by rw [ll, Rat.mul_assoc, dd]
    have lp : (0 : Rat) < l := q_pos ad0 (by rw [e5]; exact hpr)
    have lp' : 0 < l := Rat.intCast_pos.mp lp
    have el : (l.natAbs : Int) = l := by omega
    have l1 : a4 * d4 / (a * d) = ((l.natAbs : Int) : Rat) := lv.elim (fun h => h.1) (fun h => h.1)
    refine ⟨l1, q_div prz ?_, dd.symm⟩
    rw [q_mul adz l1, el, e5]
  · right
    rw [show ((-1 : Int) : Rat) = -1 from rfl] at dd
    have e5 : -(l : Rat) * (a * d) = h * (p * r) := by
      rw [ll, Rat.neg_mul, Rat.mul_assoc, dd]
      generalize p * r = w
      grind
    have lp : (0 : Rat) < ((-l : Int) : Rat) := q_pos ad0 (by rw [Rat.intCast_neg, e5]; exact hpr)
    have lp' : 0 < -l := Rat.intCast_pos.mp lp
    have el : (l.natAbs : Int) = -l := by omega
    have l1 : a4 * d4 / (a * d) = ((l.natAbs : Int) : Rat) := lv.elim (fun h => h.1) (fun h => h.1)
    refine ⟨l1, q_div prz ?_, ?_⟩
    · rw [q_mul adz l1, el, Rat.intCast_neg, e5]
    · rw [dd]
      generalize p * r = w
      grind
end G13
namespace G13
open PySem PySem.Spec PyProof.Rows L2 Gm
/-! ### the pen -/
def kCells : Key := .inr "cells"
def kAt : Key := .inr "at"
def kRest : Key := .inr "rest"
def pc (k l : Int) : List (Key × D) := [(kCells, .ref 6), (kAt, .int k), (kRest, .int l)]
theorem nd_pc (k l : Int) : ndK (pc k l) := by
  show ([kCells, kAt, kRest] : List Key).Nodup
  decide
theorem g_rest {st : Store} {k l : Int} (h : st[1]? = some (.dic (pc k l))) : subD (.ref 1) (.str "rest") st = .ok (.int l) st := by
  unfold subD
  simp only [h]
  rfl
theorem g_at {st : Store} {k l : Int} (h : st[1]? = some (.dic (pc k l))) : subD (.ref 1) (.str "at") st = .ok (.int k) st := by
  unfold subD
  simp only [h]
  rfl
theorem g_cells {st : Store} {k l : Int} (h : st[1]? = some (.dic (pc k l))) : subD (.ref 1) (.str "cells") st = .ok (.ref 6) st := by
  unfold subD
  simp only [h]
  rfl
theorem p_rest {st : Store} {k l : Int} (l' : Int) (h : st[1]? = some (.dic (pc k l))) : putD (.ref 1) (.str "rest") (.int l') st = .ok (st.set 1 (.dic (pc k l'))) st := by
  unfold putD
  simp only [h]
  exact if_pos ⟨show 3 < sizeLine by decide, nd_pc k l⟩
theorem p_at {st : Store} {k l : Int} (k' : Int) (h : st[1]? = some (.dic (pc k l))) : putD (.ref 1) (.str "at") (.int k') st = .ok (st.set 1 (.dic (pc k' l))) st := by
  unfold putD
  simp only [h]
  exact if_pos ⟨show 3 < sizeLine by decide, nd_pc k l⟩

noncomputable def kPu3 (ρ : Ev) (d o i : D) (st : Store) : SR := match putD o i d st with
  | .ok st' _ => .nx ρ st'
  | _ => .stuck
noncomputable def kPu2 (fi : Fe) (ρ : Ev) (d o : D) (st : Store) : SR := (fi ρ st).toS ρ (kPu3 ρ d o)
noncomputable def kPu1 (fo fi : Fe) (ρ : Ev) (d : D) (st : Store) : SR := (fo ρ st).toS ρ (kPu2 fi ρ d)
theorem ap_sPut (fo fi fv : Fe) (ρ : Ev) (st : Store) : sPut fo fi fv ρ st = (fv ρ st).toS ρ (kPu1 fo fi ρ) := rfl
theorem kPu1_ (fo fi : Fe) (ρ : Ev) (d : D) (st : Store) : kPu1 fo fi ρ d st = (fo ρ st).toS ρ (kPu2 fi ρ d) := rfl
theorem kPu2_ (fi : Fe) (ρ : Ev) (d o : D) (st : Store) : kPu2 fi ρ d o st = (fi ρ st).toS ρ (kPu3 ρ d o) := rfl
theorem kPu_rest {ρ : Ev} {st : Store} {k l : Int} (l' : Int) (h : st[1]? = some (.dic (pc k l))) : kPu3 ρ (.int l') (.ref 1) (.str "rest") st = .nx ρ (st.set 1 (.dic (pc k l'))) := by
  unfold kPu3
  rw [p_rest l' h]
theorem kPu_at {ρ : Ev} {st : Store} {k l : Int} (k' : Int) (h : st[1]? = some (.dic (pc k l))) : kPu3 ρ (.int k') (.ref 1) (.str "at") st = .nx ρ (st.set 1 (.dic (pc k' l))) := by
  unfold kPu3
  rw [p_at k' h]
structure PenAt (ns : List Int) (k : Nat) (l : Int) (st : Store) : Prop where
  dic : st[1]? = some (.dic (pc k l))
  lst : st[6]? = some (.lst (ns.map D.int))
  rest : 0 ≤ l
  len : ns.length ≤ 64
  len0 : 0 < ns.length
theorem kGp_rest {ρ : Ev} {st : Store} {k l : Int} (l' : Int) (h : st[1]? = some (.dic (pc k l))) : kGp2 (.int l') (.ref 1) ρ (.str "rest") st = .ok ρ (st.set 1 (.dic (pc k l'))) := kGp2_ok ρ _ (p_rest l' h)
theorem kGp_at {ρ : Ev} {st : Store} {k l : Int} (k' : Int) (h : st[1]? = some (.dic (pc k l))) : kGp2 (.int k') (.ref 1) ρ (.str "at") st = .ok ρ (st.set 1 (.dic (pc k' l))) := kGp2_ok ρ _ (p_at k' h)
theorem PenAt.ext {ns : List Int} {k : Nat} {l : Int} {st : Store} (h : PenAt ns k l st) (e : Store) : PenAt ns k l (st ++ e) := ⟨get_ext h.dic, get_ext h.lst, h.rest, h.len, h.len0⟩
theorem PenAt.set {ns : List Int} {k k' : Nat} {l l' : Int} {st : Store} (h : PenAt ns k l st) (hl : 0 ≤ l') : PenAt ns k' l' (st.set 1 (.dic (pc k' l'))) := by
  refine ⟨?_, ?_, hl, h.len, h.len0⟩
  · have := (List.getElem?_eq_some_iff.mp h.dic).1
    rw [List.getElem?_set_self this]
  · rw [List.getElem?_set_ne (by decide)]
    exact h.lst
theorem PenAt.long {ns : List Int} {k : Nat} {l : Int} {st : Store} (h : PenAt ns k l st) : 6 < st.length := (List.getElem?_eq_some_iff.mp h.lst).1
theorem tidy_pen {ns : List Int} {k : Nat} {l : Int} {st : Store} (h : PenAt ns k l st) (k' l' : Int) (e : Store) {d : D} (hd : noRef st.length d = true) : tidy st (.ok d (st.set 1 (.dic (pc k' l')) ++ e)) = .ok d (st.set 1 (.dic (pc k' l'))) := by
  refine tidy_set ?_ hd
  show noRefs st.length [.ref 6, .int k', .int l'] = true
  have := h.long
  simp [this]
theorem len_lst {ns : List Int} {st : Store} {m : Nat} (h : st[m]? = some (.lst (ns.map D.int))) : bLen [.ref m] st = .ok (.int ns.length) st := by
  unfold bLen seqOf
  simp only [h]
  simp
theorem nth_lst {ns : List Int} {st : Store} {m : Nat} (h : st[m]? = some (.lst (ns.map D.int))) (j : Nat) (hj : j < ns.length) : subD (.ref m) (.int j) st = .ok (.int ns[j]) st := by
  rw [subR h, atI_nat (v := .int ns[j]) (by simp [hj])]
  rfl
end G13
namespace G13
open PySem PySem.Spec PyProof.Rows L2 Gm
theorem ib_pow {i j : Int} {st : Store} (h : 0 ≤ j ∧ j ≤ 1000000 ∧ i.natAbs < 2 ^ 64) : intBin .Pow i j st = .ok (.int (i ^ j.toNat)) st := if_pos h
theorem pow10_18 (st : Store) : intBin .Pow 10 18 st = .ok (.int 1000000000000000000) st := rfl
theorem pow10_47 (st : Store) : intBin .Pow 10 47 st = .ok (.int 100000000000000000000000000000000000000000000000) st := rfl
def tM : Int := 2305843009213693907
def tR : Int := 100000000000000000000000000000000000000000000009
def mX (c k : Int) : Int := (c * 982451653 + 32452843 * k * k + 961748941).fmod 2305843009213693907
def rX (m k : Int) : Int := (m ^ 11 + 15485863 * k * m * m).fmod 100000000000000000000000000000000000000000000009
theorem mX_nb (c k : Int) : Nb 61 (mX c k) := Nb.of (fmod_nn _ (by decide)) (by have := fmod_lt (c * 982451653 + 32452843 * k * k + 961748941) (b := 2305843009213693907) (by decide); unfold mX; omega)
theorem fm_nat {k n : Nat} : ((k : Int).fmod (n : Int)) = ((k % n : Nat) : Int) := by
  rw [Int.fmod_eq_emod_of_nonneg _ (by omega)]; rfl
noncomputable def drB (c : Fn) : Fs := (sSeq (sAsg (xTup (aCons (xBin (binD T c .Mod) (xBi bInt (aCons (xBin subD (xVar 0) (xK (.str "rest"))) aNil)) (xVar 1)) (aCons (xBin (binD T c .FloorDiv) (xBin subD (xVar 0) (xK (.str "rest"))) (xVar 1)) aNil))) (gTp (gsCons (gNm 6) (gsCons (gPut (xVar 0) (xK (.str "rest"))) gsNil)))) (sRet (xVar 6)))
noncomputable def dqB (c : Fn) : Fs := (sSeq (sPar 2 3 (aCons (xBin subD (xVar 0) (xK (.str "at"))) (aCons (xBi bLen (aCons (xBin subD (xVar 0) (xK (.str "cells"))) aNil)) aNil))) (sSeq (sAsg (xTup (aCons (xBin subD (xBin subD (xVar 0) (xK (.str "cells"))) (xBin (binD T c .Mod) (xBi bInt (aCons (xVar 2) aNil)) (xVar 3))) (aCons (xBin (binD T c .Add) (xVar 2) (xK (.int 1))) aNil))) (gTp (gsCons (gNm 4) (gsCons (gPut (xVar 0) (xK (.str "at"))) gsNil)))) (sSeq (sAsg (xBin (binD T c .Add) (xBin (binD T c .Add) (xBin (binD T c .Mult) (xBi bInt (aCons (xVar 4) aNil)) (xK (.int 982451653))) (xBin (binD T c .Mult) (xBin (binD T c .Mult) (xK (.int 32452843)) (xVar 2)) (xVar 2))) (xK (.int 961748941))) (gNm 5)) (sSeq (sAsg (xBin (binD T c .Mod) (xBi bInt (aCons (xVar 5) aNil)) (xK (.int 2305843009213693907))) (gNm 5)) (sSeq (sPut (xVar 0) (xK (.str "rest")) (xBin (binD T c .Mod) (xBi bInt (aCons (xBin (binD T c .Add) (xBin (binD T c .Pow) (xVar 5) (xK (.int 11))) (xBin (binD T c .Mult) (xBin (binD T c .Mult) (xBin (binD T c .Mult) (xK (.int 15485863)) (xVar 2)) (xVar 5)) (xVar 5))) aNil)) (xBin (binD T c .Add) (xBin (binD T c .Pow) (xK (.int 10)) (xK (.int 47))) (xK (.int 9))))) (sIf (tAnd (tOf (truD T c) (xBin (ordD T c .GtE) (xVar 4) (xBin (binD T c .Pow) (xK (.int 10)) (xK (.int 18))))) (tOf (truD T c) (xBin (ordD T c .Lt) (xVar 2) (xVar 3)))) (sPut (xVar 0) (xK (.str "rest")) (xBin (binD T c .Sub) (xVar 4) (xBin (binD T c .Pow) (xK (.int 10)) (xK (.int 18))))) sNx))))))
theorem drB_eq (c : Fn) : B_10 c = sSeq (sIf (tOf (truD T c) (xBin (ordD T c .Lt) (xBin subD (xVar 0) (xK (.str "rest"))) (xVar 1))) (dqB c) sNx) (drB c) := rfl
/-- what is left of the great one is parted -/
theorem dr_run (c : Fn) {st : Store} {k l span : Int} {o2 o3 o4 o5 o6 : Option D} (h : st[1]? = some (.dic (pc k l))) (hd : span ≠ 0 ∧ span.natAbs.log2 < 9000) :
    drB c [some (.ref 1), some (.int span), o2, o3, o4, o5, o6] st = .rt (.int (l.fmod span)) (st.set 1 (.dic (pc k (l.fdiv span)))) := by
  simp [drB, g_rest h, ib_mod _ hd.1, ib_fdiv _ hd, kGp_rest (l.fdiv span) h]
theorem dq_run (c : Fn) {ns : List Int} {st : Store} {k : Nat} {l span : Int} {o2 o3 o4 o5 o6 : Option D} (h : PenAt ns k l st) (hk : k < 1000000) :
    ∃ l' o2' o3' o4' o5', 0 ≤ l' ∧ dqB c [some (.ref 1), some (.int span), o2, o3, o4, o5, o6] st = .nx [some (.ref 1), some (.int span), o2', o3', o4', o5', o6] (st.set 1 (.dic (pc ((k + 1 : Nat) : Int) l'))) := by
  have hlen := h.len0
  have hj : k % ns.length < ns.length := Nat.mod_lt _ hlen
  have h1 := h.set (k' := k + 1) h.rest
  have kb : Nb 20 (k : Int) := Nb.of (by omega) (by omega)
  have nl : (ns.length : Int) ≠ 0 := by omega
  generalize hc : ns[k % ns.length] = cl
  have q1 : subD (.ref 6) (.int ((k : Int).fmod (ns.length : Int))) st = .ok (.int cl) st := by
    rw [fm_nat, nth_lst h.lst _ hj, hc]
  have m1 : IntMulOk cl 982451653 := .of_right (by decide)
  have m2 : IntMulOk 32452843 (k : Int) := (Nb.of (i := 32452843) (b := 30) (by decide) (by decide)).ok kb (by decide)
  have m3 : IntMulOk (32452843 * (k : Int)) (k : Int) := ((Nb.of (i := 32452843) (b := 30) (by decide) (by decide)).mul kb).ok kb (by decide)
  have n1 : Nb 30 (15485863 : Int) := Nb.of (by decide) (by decide)
  have n2 : Nb 50 (15485863 * (k : Int)) := (n1.mul kb).mono (by decide)
  have m4 : IntMulOk 15485863 (k : Int) := n1.ok kb (by decide)
  have hm := mX_nb cl k
  have m5 : IntMulOk (15485863 * (k : Int)) (mX cl k) := n2.ok hm (by decide)
  have m6 : IntMulOk (15485863 * (k : Int) * mX cl k) (mX cl k) := (n2.mul hm).ok hm (by decide)
  have p1 : (0 : Int) ≤ 11 ∧ (11 : Int) ≤ 1000000 ∧ (mX cl k).natAbs < 2 ^ 64 := ⟨by decide, by decide, hm.mono (b' := 64) (by decide)⟩
  have hp : intBin .Pow (mX cl k) 11 (st.set 1 (.dic (pc ((k + 1 : Nat) : Int) l))) = .ok (.int (mX cl k ^ 11)) _ := ib_pow p1
  have ef : (cl * 982451653 + 32452843 * (k : Int) * (k : Int) + 961748941).fmod 2305843009213693907 = mX cl k := rfl
  have er : (mX cl k ^ 11 + 15485863 * (k : Int) * mX cl k * mX cl k).fmod 100000000000000000000000000000000000000000000009 = rX (mX cl k) k := rfl
  have ss : ∀ a b : Cell, (st.set 1 a).set 1 b = st.set 1 b := fun a b => List.set_set _
  have hr : 0 ≤ rX (mX cl k) k := fmod_nn _ (by decide)
  have h2 := h1.set (k' := k + 1) hr
  rw [ss] at h2
  have ha : ((k : Int) + 1) = ((k + 1 : Nat) : Int) := by omega
  by_cases hg : 1000000000000000000 ≤ cl ∧ (k : Int) < (ns.length : Int)
  · refine ⟨cl - 1000000000000000000, some (.int k), some (.int ns.length), some (.int cl), some (.int (mX cl k)), by omega, ?_⟩
    simp [-Int.natCast_add, dqB, ap_sPut, kPu1_, kPu2_, g_rest h1.dic, g_at h.dic, g_cells h.dic, len_lst h.lst, ib_mod _ nl, q1, kGp_at _ h.dic, ha, ib_mul _ m1, ib_mul _ m2, ib_mul _ m3, ib_mul _ m4, ib_mul _ m5, ib_mul _ m6, ib_mod, ef, hp, pow10_47, pow10_18, er, kPu_rest _ h1.dic, kPu_rest _ h2.dic, ss, hg.1, hg.2]
  · refine ⟨rX (mX cl k) k, some (.int k), some (.int ns.length), some (.int cl), some (.int (mX cl k)), hr, ?_⟩
    by_cases hg1 : 1000000000000000000 ≤ cl
    · have hg2 : ¬ (k : Int) < (ns.length : Int) := fun z => hg ⟨hg1, z⟩
      have hg2' : ¬ k < ns.length := by omega
      simp [-Int.natCast_add, dqB, ap_sPut, kPu1_, kPu2_, g_rest h1.dic, g_at h.dic, g_cells h.dic, len_lst h.lst, ib_mod _ nl, q1, kGp_at _ h.dic, ha, ib_mul _ m1, ib_mul _ m2, ib_mul _ m3, ib_mul _ m4, ib_mul _ m5, ib_mul _ m6, ib_mod, ef, hp, pow10_47, pow10_18, er, kPu_rest _ h1.dic, ss, hg1, hg2']
    · simp [-Int.natCast_add, dqB, ap_sPut, kPu1_, kPu2_, g_rest h1.dic, g_at h.dic, g_cells h.dic, len_lst h.lst, ib_mod _ nl, q1, kGp_at _ h.dic, ha, ib_mul _ m1, ib_mul _ m2, ib_mul _ m3, ib_mul _ m4, ib_mul _ m5, ib_mul _ m6, ib_mod, ef, hp, pow10_47, pow10_18, er, kPu_rest _ h1.dic, ss, hg1]
theorem s_draw {ns : List Int} {k : Nat} {l : Int} {st : Store} (n : Nat) (h : PenAt ns k l st) (hk : k < 1000000) (span : Int) (h0 : 0 < span) (hs : Nb 8000 span) :
    ∃ (v : Int) (k' : Nat) (l' : Int), run (n + 1) 10 [.ref 1, .int span] st = .ok (.int v) (st.set 1 (.dic (pc k' l'))) ∧ PenAt ns k' l' (st.set 1 (.dic (pc k' l'))) ∧ k' ≤ k + 1 ∧ 0 ≤ v ∧ v < span := by
  have hn : span ≠ 0 := by omega
  have hd : span ≠ 0 ∧ span.natAbs.log2 < 9000 := ⟨hn, log2_lt (hs.mono (b' := 9000) (by decide)) (by decide)⟩
  rw [run_10, drB_eq]
  have fin : ∀ (v : Int) (k' : Nat) (l' : Int), (sSeq (sIf (tOf (truD T (run n)) (xBin (ordD T (run n) .Lt) (xBin subD (xVar 0) (xK (.str "rest"))) (xVar 1))) (dqB (run n)) sNx) (drB (run n))) (startE 7 [.ref 1, .int span]) st = .rt (.int v) (st.set 1 (.dic (pc k' l'))) → fnD 7 (sSeq (sIf (tOf (truD T (run n)) (xBin (ordD T (run n) .Lt) (xBin subD (xVar 0) (xK (.str "rest"))) (xVar 1))) (dqB (run n)) sNx) (drB (run n))) [.ref 1, .int span] st = .ok (.int v) (st.set 1 (.dic (pc k' l'))) := fun v k' l' e => by
    rw [fnD_rt e]
    have := tidy_pen h k' l' [] (d := .int v) (by simp)
    rwa [List.append_nil] at this
  by_cases hl : l < span
  · obtain ⟨l', o2, o3, o4, o5, hl', e⟩ := dq_run (run n) (span := span) (o2 := none) (o3 := none) (o4 := none) (o5 := none) (o6 := none) h hk
    have h1 := h.set (k' := k + 1) hl'
    refine ⟨l'.fmod span, k + 1, l'.fdiv span, fin _ _ _ ?_, ?_, Nat.le_refl _, fmod_nn _ h0, fmod_lt _ h0⟩
    · have e2 := dr_run (run n) (o2 := o2) (o3 := o3) (o4 := o4) (o5 := o5) (o6 := none) h1.dic hd
      rw [List.set_set] at e2
      simp [-Int.natCast_add, startE, g_rest h.dic, hl, e, e2]
    · have := h1.set (k' := k + 1) (fdiv_nn hl' h0)
      rwa [List.set_set] at this
  · refine ⟨l.fmod span, k, l.fdiv span, fin _ _ _ ?_, h.set (fdiv_nn h.rest h0), Nat.le_succ k, fmod_nn l h0, fmod_lt l h0⟩
    have e2 := dr_run (run n) (o2 := none) (o3 := none) (o4 := none) (o5 := none) (o6 := none) h.dic hd
    simp [startE, g_rest h.dic, hl, e2]
end G13
namespace G13
open PySem PySem.Spec PyProof.Rows L2 Gm
def Pen (b : Nat) (st : Store) : Prop := ∃ ns k l, PenAt ns k l st ∧ k + b ≤ 1000000
def Nx (st st' : Store) : Prop := ∃ k l : Int, st' = st.set 1 (.dic (pc k l))
theorem Pen.mono {b b' : Nat} {st : Store} (h : Pen b st) (hb : b' ≤ b) : Pen b' st := by
  obtain ⟨ns, k, l, p, q⟩ := h
  exact ⟨ns, k, l, p, by omega⟩
theorem Pen.ext {b : Nat} {st : Store} (h : Pen b st) (e : Store) : Pen b (st ++ e) := by
  obtain ⟨ns, k, l, p, q⟩ := h
  exact ⟨ns, k, l, p.ext e, q⟩
theorem Pen.long {b : Nat} {st : Store} (h : Pen b st) : 6 < st.length := by
  obtain ⟨ns, k, l, p, q⟩ := h
  exact p.long
theorem Nx.len {st st' : Store} (h : Nx st st') : st'.length = st.length := by
  obtain ⟨k, l, rfl⟩ := h
  simp
theorem Nx.trans {s1 s2 s3 : Store} (h : Nx s1 s2) (g : Nx s2 s3) : Nx s1 s3 := by
  obtain ⟨k, l, rfl⟩ := h
  obtain ⟨k', l', rfl⟩ := g
  exact ⟨k', l', by rw [List.set_set]⟩
theorem Pen.self {b : Nat} {st : Store} (h : Pen b st) : Nx st st := by
  obtain ⟨ns, k, l, p, q⟩ := h
  refine ⟨k, l, ?_⟩
  have hl := (List.getElem?_eq_some_iff.mp p.dic)
  obtain ⟨h1, h2⟩ := hl
  rw [← h2, List.set_getElem_self]
theorem Nx.split {b : Nat} {st e s : Store} (h : Nx (st ++ e) s) (hl : 6 < st.length) (hp : Pen b s) : ∃ s', s = s' ++ e ∧ Nx st s' ∧ Pen b s' := by
  obtain ⟨k, l, rfl⟩ := h
  rw [List.set_append_left _ _ (by omega)] at hp ⊢
  refine ⟨_, rfl, ⟨k, l, rfl⟩, ?_⟩
  obtain ⟨ns, k', l', p, q⟩ := hp
  refine ⟨ns, k', l', ⟨?_, ?_, p.rest, p.len, p.len0⟩, q⟩
  · have := p.dic
    rwa [List.getElem?_append_left (by simp; omega)] at this
  · have := p.lst
    rwa [List.getElem?_append_left (by simp; omega)] at this
theorem tidy_nx {b : Nat} {st st' e : Store} {d : D} (hn : Nx st st') (hp : Pen b st') (hd : noRef st.length d = true) : tidy st (.ok d (st' ++ e)) = .ok d st' := by
  obtain ⟨k, l, rfl⟩ := hn
  refine tidy_set ?_ hd
  show noRefs st.length [.ref 6, .int k, .int l] = true
  have := hp.long
  simp at this
  simp [this]
theorem fnD_pen {n b : Nat} {f : Fs} {ds : List D} {st st' e : Store} {d : D} (h : f (startE n ds) st = .rt d (st' ++ e)) (hn : Nx st st') (hp : Pen b st') (hd : noRef st.length d = true) : fnD n f ds st = .ok d st' := by
  rw [fnD_rt h]
  exact tidy_nx hn hp hd
theorem fnD_pen0 {n b : Nat} {f : Fs} {ds : List D} {st st' : Store} {d : D} (h : f (startE n ds) st = .rt d st') (hn : Nx st st') (hp : Pen b st') (hd : noRef st.length d = true) : fnD n f ds st = .ok d st' :=
  fnD_pen (e := []) (by rw [List.append_nil]; exact h) hn hp hd
theorem d_draw {b : Nat} {st : Store} (n : Nat) (h : Pen (b + 1) st) (span : Int) (h0 : 0 < span) (hs : Nb 8000 span) : ∃ v st', run (n + 1) 10 [.ref 1, .int span] st = .ok (.int v) st' ∧ Nx st st' ∧ Pen b st' ∧ 0 ≤ v ∧ v < span := by
  obtain ⟨ns, k, l, p, q⟩ := h
  obtain ⟨v, k', l', h1, h2, h3, h4, h5⟩ := s_draw n p (by omega) span h0 hs
  exact ⟨v, _, h1, ⟨k', l', rfl⟩, ⟨ns, k', l', h2, by omega⟩, h4, h5⟩
theorem seqOf_nx {b : Nat} {st st' : Store} {d : D} {ds : List D} (hp : Pen b st) (hn : Nx st st') (h : seqOf d st = some ds) : seqOf d st' = some ds := by
  cases d with
  | tup l => exact h
  | ref m =>
    obtain ⟨k, l, rfl⟩ := hn
    have hm : m ≠ 1 := by
      intro e
      subst e
      obtain ⟨ns, k, l, p, q⟩ := hp
      unfold seqOf at h
      simp only [p.dic] at h
      cases h
    unfold seqOf at h ⊢
    dsimp only at h ⊢
    rw [List.getElem?_set_ne (fun e => hm e.symm)]
    exact h
  | _ => cases h
theorem sub_seq {st : Store} {d : D} {ds : List D} (h : seqOf d st = some ds) (v : Int) (h0 : 0 ≤ v) (h1 : v < ds.length) : ∃ x, x ∈ ds ∧ subD d (.int v) st = .ok x st := by
  have hv : v.toNat < ds.length := by omega
  have ha : atI ds v = some ds[v.toNat] := by
    have := atI_nat (xs := ds) (j := v.toNat) (v := ds[v.toNat]) (by simp [hv])
    rwa [Int.toNat_of_nonneg h0] at this
  refine ⟨ds[v.toNat], List.getElem_mem hv, ?_⟩
  cases d with
  | tup l =>
    cases h
    unfold subD
    simp only [ha]
    rfl
  | ref m =>
    unfold seqOf at h
    dsimp only at h
    unfold subD
    cases hm : st[m]? with
    | none => rw [hm] at h; cases h
    | some x =>
      rw [hm] at h
      simp only [hm]
      cases x <;> cases h <;> (show optR (atI _ _) st = _; rw [ha]; rfl)
  | _ => cases h
theorem bLen_seq {st : Store} {d : D} {ds : List D} (h : seqOf d st = some ds) : bLen [d] st = .ok (.int ds.length) st := by
  cases d with
  | tup l => cases h; rfl
  | ref m =>
    unfold bLen
    simp only [h]
  | _ => cases h
theorem d_pick {b : Nat} {st : Store} (n : Nat) (h : Pen (b + 1) st) (items : D) (ds : List D) (hi : seqOf items st = some ds) (h0 : 0 < ds.length) (h1 : ds.length < 1000) (hd : ∀ d ∈ ds, noRef st.length d = true) :
    ∃ d st', run (n + 2) 11 [.ref 1, items] st = .ok d st' ∧ Nx st st' ∧ Pen b st' ∧ d ∈ ds := by
  obtain ⟨v, st', e1, e2, e3, e4, e5⟩ := d_draw n h ds.length (by omega) ((Nb.of (b := 10) (by omega) (by omega)).mono (by decide))
  obtain ⟨x, hx, hs⟩ := sub_seq (seqOf_nx h e2 hi) v e4 e5
  refine ⟨x, st', ?_, e2, e3, hx⟩
  rw [run_11]
  refine fnD_pen0 ?_ e2 e3 (hd x hx)
  simp [B_11, startE, bLen_seq hi, e1, hs]
def Bd (x : Int) (v : Int) : Prop := 0 ≤ v ∧ v < x
theorem nb_lt {v : Int} {b : Nat} (h0 : 0 ≤ v) (h : v < ((2 ^ b : Nat) : Int)) : Nb b v := Nb.of h0 h
end G13
namespace G13
open PySem PySem.Spec PyProof.Rows L2 Gm
/-- a def that returns a new list -/
theorem fnD_lst {n b : Nat} {f : Fs} {ds : List D} {st st' e : Store} {m : Nat} {l : List D} (h : f (startE n ds) st = .rt (.ref m) (st' ++ e)) (hn : Nx st st') (hp : Pen b st') (hm : st.length ≤ m) (hg : (st' ++ e)[m]? = some (.lst l)) (hl : noRefs st.length l = true) :
    fnD n f ds st = .ok (.ref st.length) (st' ++ [.lst l]) := by
  have hl' := hn.len
  obtain ⟨k, j, rfl⟩ := hn
  have ht : noRefC st.length (.dic (pc k j)) = true := by
    show noRefs st.length [.ref 6, .int k, .int j] = true
    have := hp.long
    simp at this
    simp [this]
  unfold fnD runB
  rw [h]
  dsimp only
  rw [tidy_list (Kept.set st 1 _ e ht) hm hg hl, List.take_append_of_le_length (by omega), List.take_of_length_le (by omega)]
theorem fnD_lst0 {n : Nat} {f : Fs} {ds : List D} {st e : Store} {m : Nat} {l : List D} (h : f (startE n ds) st = .rt (.ref m) (st ++ e)) (hm : st.length ≤ m) (hg : (st ++ e)[m]? = some (.lst l)) (hl : noRefs st.length l = true) :
    fnD n f ds st = .ok (.ref st.length) (st ++ [.lst l]) := by
  unfold fnD runB
  rw [h]
  dsimp only
  rw [tidy_list (Kept.rfl' st e) hm hg hl, List.take_left]
theorem rngN {f : Fe} {ρ : Ev} {st : Store} {b : Nat} (h : f ρ st = .ok (.int b) st) (hb : b < 1000) : iRng (aCons f aNil) ρ st = .ok ((List.range b).map fun (i : Nat) => D.int (0 + (i : Int)), fun _ => True) st := by
  have e : (aCons f aNil) ρ st = .ok [.int (b : Int)] st := by
    rw [ap_aCons, h]
    rfl
  unfold iRng
  rw [e, Res.bind_ok]
  show (if _ then _ else _) = _
  rw [if_pos ⟨by omega, by omega⟩]
  rfl
theorem for_of {fi : Fi} {g : Fg} {b : Fs} {ρ : Ev} {st : Store} {ds : List D} {chk : Store → Prop} (h : fi ρ st = .ok (ds, chk) st) : sFor fi g b ρ st = forI chk g b ds ρ st := by
  rw [ap_sFor, h, Res.toS_ok, kFor_]
theorem forI_step {chk : Store → Prop} {g : Fg} {b : Fs} {d : D} {ds : List D} {ρ ρ1 ρ2 : Ev} {st st1 st2 : Store} (hc : chk st) (hg : g d ρ st = .ok ρ1 st1) (hb : b ρ1 st1 = .nx ρ2 st2) : forI chk g b (d :: ds) ρ st = forI chk g b ds ρ2 st2 := by
  conv => lhs; unfold forI
  rw [if_pos hc, hg]
  simp only [hb]
theorem forI_end {chk : Store → Prop} {g : Fg} {b : Fs} {ρ : Ev} {st : Store} (hc : chk st) : forI chk g b [] ρ st = .nx ρ st := by
  unfold forI
  exact if_pos hc
theorem seq_step {a b : Fs} {ρ ρ' : Ev} {st st' : Store} {r : SR} (h : a ρ st = .nx ρ' st') (g : b ρ' st' = r) : sSeq a b ρ st = r := by
  rw [ap_sSeq, h]
  exact g
theorem forI_brk {chk : Store → Prop} {g : Fg} {b : Fs} {d : D} {ds : List D} {ρ ρ1 ρ2 : Ev} {st st1 st2 : Store} (hc : chk st) (hg : g d ρ st = .ok ρ1 st1) (hb : b ρ1 st1 = .bk ρ2 st2) : forI chk g b (d :: ds) ρ st = .nx ρ2 st2 := by
  conv => lhs; unfold forI
  rw [if_pos hc, hg]
  simp only [hb]
theorem rngI {f : Fe} {ρ : Ev} {st st' : Store} {b : Int} (h : f ρ st = .ok (.int b) st') (h0 : 0 ≤ b) (hb : b < 2 ^ 62) : iRng (aCons f aNil) ρ st = .ok (intsFrom 0 b.toNat, fun _ => True) st' := by
  have e : (aCons f aNil) ρ st = .ok [.int b] st' := by
    rw [ap_aCons, h]
    rfl
  unfold iRng
  rw [e, Res.bind_ok]
  show (if _ then _ else _) = _
  rw [if_pos ⟨by omega, by omega⟩]
theorem ints_len (i : Int) (n : Nat) : (intsFrom i n).length = n := by
  unfold Gm.intsFrom
  simp
theorem for_of' {fi : Fi} {g : Fg} {b : Fs} {ρ : Ev} {st st' : Store} {ds : List D} {chk : Store → Prop} (h : fi ρ st = .ok (ds, chk) st') : sFor fi g b ρ st = forI chk g b ds ρ st' := by
  rw [ap_sFor, h, Res.toS_ok, kFor_]
/-! ### numbers -/
theorem bin_si (k : Fn) (op : Operator) (x : Str) (i : Int) (st : Store) (h : op = .Mult ∧ MulOk x i) : binD T k op (.str x) (.int i) st = .ok (.str (Txt.mul x i)) st := if_pos h
theorem bin_ss (k : Fn) (x y : Str) (st : Store) (h : x.length + y.length ≤ sizeLine) : binD T k .Add (.str x) (.str y) st = .ok (.str (x ++ y)) st := if_pos ⟨rfl, h⟩
theorem b_ints {a : Str} {i : Int} (st : Store) (h : PySem.intText? a = some i) (hl : a.length ≤ 640) : bInt [.str a] st = .ok (.int i) st := by
  unfold bInt
  dsimp only
  rw [h]
  exact if_pos hl
theorem ten_all : ∀ f : Fin 27, ((((decide ((f.val : Int) < -(2 ^ 63 : Int)) || decide ((f.val : Int) ≥ 2 ^ 63)) = false ∧ (¬ (f.val : Int) < 1 → ((f.val : Int) == 1 || ("0" : Str).length == 0) = false → ¬ ((("0" : Str).length : Int) > (2 ^ 63 - 1) / (f.val : Int))) ∧
  (¬ (f.val : Int) < 1 → ((f.val : Int) == 1 || ("0" : Str).length == 0) = false → Builtin.Str.tooLong (("0" : Str).length * (f.val : Int).toNat) = false))) ∧ ("1" : Str).length + (Txt.mul "0" (f.val : Int)).length ≤ sizeLine ∧ PySem.intText? (("1" : Str) ++ Txt.mul "0" (f.val : Int)) = some ((10 ^ f.val : Nat) : Int)) ∧ (("1" : Str) ++ Txt.mul "0" (f.val : Int)).length ≤ 640 := by
  decide +kernel
theorem s_ten (n f : Nat) (hf : f ≤ 26) (st : Store) : run (n + 1) 12 [.int f] st = .ok (.int ((10 ^ f : Nat) : Int)) st := by
  obtain ⟨⟨h1, h2, h3⟩, h4⟩ := ten_all ⟨f, by omega⟩
  have h1' : MulOk "0" (f : Int) := h1
  rw [run_12]
  refine fnD_rt0 ?_ (by simp)
  simp [B_12, startE, bin_si _ _ _ _ _ ⟨rfl, h1'⟩, bin_ss _ _ _ _ h2, b_ints _ h3 h4]
end G13
namespace G13
open PySem PySem.Spec PyProof.Rows L2 Gm
theorem pow10_15 (st : Store) : intBin .Pow 10 15 st = .ok (.int 1000000000000000) st := rfl
noncomputable def loB (c : Fn) : Fs := (sAsg (xBin (binD T c .Add) (xBin (binD T c .Mult) (xVar 2) (xBin (binD T c .Pow) (xK (.int 10)) (xK (.int 15)))) (xCall T c 10 (aCons (xVar 0) (aCons (xBin (binD T c .Pow) (xK (.int 10)) (xK (.int 15))) aNil)))) (gNm 2))
theorem long_loop (n : Nat) : ∀ (ds : List D) (st : Store) (o1 o3 : Option D) (b : Nat) (f : Int), Pen (b + ds.length) st → 0 ≤ f → ∃ st' f' o3', Nx st st' ∧ Pen b st' ∧ 0 ≤ f' ∧
    forI (fun _ => True) (gNm 3) (loB (run (n + 1))) ds [some (.ref 1), o1, some (.int f), o3] st = .nx [some (.ref 1), o1, some (.int f'), o3'] st' := by
  intro ds
  induction ds with
  | nil =>
    intro st o1 o3 b f h f0
    exact ⟨st, f, o3, h.self, h, f0, forI_end trivial⟩
  | cons x ds ih =>
    intro st o1 o3 b f h f0
    rw [List.length_cons] at h
    obtain ⟨v, s1, e1, n1, p1, v0, v1⟩ := d_draw (b := b + ds.length) n (h.mono (by omega)) 1000000000000000 (by decide) ((Nb.of (b := 50) (by decide) (by decide)).mono (by decide))
    have m : IntMulOk f 1000000000000000 := .of_right (by decide)
    have f3 : 0 ≤ f * 1000000000000000 + v := by
      have := Int.mul_nonneg f0 (show (0 : Int) ≤ 1000000000000000 by decide)
      omega
    obtain ⟨s2, f', o3', n2, p2, g0, e⟩ := ih s1 o1 (some x) b (f * 1000000000000000 + v) p1 f3
    refine ⟨s2, f', o3', n1.trans n2, p2, g0, ?_⟩
    rw [← e]
    refine forI_step trivial rfl ?_
    unfold loB
    simp [pow10_15, ib_mul, m, e1]
theorem d_long {b : Nat} {st : Store} (n f : Nat) (hf : f ≤ 26) (h : Pen (b + 3) st) : ∃ v st', run (n + 2) 13 [.ref 1, .int f] st = .ok (.int v) st' ∧ Nx st st' ∧ Pen b st' ∧ 0 ≤ v ∧ v < ((10 ^ f : Nat) : Int) := by
  have e15 : intBin .FloorDiv ((f : Int) + 14) 15 st = .ok (.int (((f + 14) / 15 : Nat) : Int)) st := by
    rw [ib_fdiv _ ⟨by decide, by decide⟩, show (f : Int) + 14 = ((f + 14 : Nat) : Int) by omega]
    congr 2
  have hl : (f + 14) / 15 ≤ 2 := by omega
  have hr : iRng (aCons (xBin (binD T (run (n + 1)) .FloorDiv) (xBin (binD T (run (n + 1)) .Add) (xVar 1) (xK (.int 14))) (xK (.int 15))) aNil) [some (.ref 1), some (.int (f : Int)), some (.int 0), none] st = .ok (Gm.intsFrom 0 ((((f + 14) / 15 : Nat) : Int)).toNat, fun _ => True) st :=
    rngI (by simp [e15]) (by omega) (by omega)
  obtain ⟨s1, f', o3, n1, p1, f0, e1⟩ := long_loop n (Gm.intsFrom 0 ((((f + 14) / 15 : Nat) : Int)).toNat) st (some (.int (f : Int))) none b 0 (h.mono (by rw [ints_len]; omega)) (by decide)
  have ht := s_ten n f hf s1
  have hp : (0 : Int) < ((10 ^ f : Nat) : Int) := by
    have := Nat.pow_pos (n := f) (show 0 < 10 by decide)
    omega
  have hne : ((10 ^ f : Nat) : Int) ≠ 0 := by omega
  refine ⟨f'.fmod ((10 ^ f : Nat) : Int), s1, ?_, n1, p1, fmod_nn _ hp, fmod_lt _ hp⟩
  rw [run_13]
  refine fnD_pen0 ?_ n1 p1 (by simp)
  have hB : B_13 (run (n + 1)) = sSeq (sAsg (xK (.int 0)) (gNm 2)) (sSeq (sFor (iRng (aCons (xBin (binD T (run (n + 1)) .FloorDiv) (xBin (binD T (run (n + 1)) .Add) (xVar 1) (xK (.int 14))) (xK (.int 15))) aNil)) (gNm 3) (loB (run (n + 1)))) (sRet (xBin (binD T (run (n + 1)) .Mod) (xBi bInt (aCons (xVar 2) aNil)) (xCall T (run (n + 1)) 12 (aCons (xVar 1) aNil))))) := rfl
  rw [hB]
  refine seq_step rfl (seq_step ((for_of' hr).trans e1) ?_)
  simp [-Int.natCast_pow, ht, ib_mod _ hne]
theorem ten_le {i j : Nat} (h : i ≤ j) : ((10 ^ i : Nat) : Int) ≤ ((10 ^ j : Nat) : Int) := by
  have := Nat.pow_le_pow_right (show 0 < 10 by decide) h
  omega
theorem b_max (i j : Int) (st : Store) : bMax [.int i, .int j] st = .ok (.int (if j > i then j else i)) st := rfl
noncomputable def sz1 (c : Fn) : Fs := (sIf (tOf (truD T c) (xBin (ordD T c .Lt) (xVar 2) (xK (.int 3)))) (sRet (xCall T c 10 (aCons (xVar 0) (aCons (xBin subD (xLst (aCons (xK (.int 5)) (aCons (xK (.int 13)) (aCons (xK (.int 90)) aNil)))) (xVar 2)) aNil)))) sNx)
noncomputable def sz2 (c : Fn) : Fs := (sSeq (sIf (tOf (truD T c) (xBin (eqB T c false) (xVar 2) (xK (.int 3)))) (sRet (xCall T c 13 (aCons (xVar 0) (aCons (xBin (binD T c .Add) (xK (.int 1)) (xCall T c 10 (aCons (xVar 0) (aCons (xVar 1) aNil)))) aNil)))) sNx) (sSeq (sIf (tOf (truD T c) (xBin (eqB T c false) (xVar 2) (xK (.int 4)))) (sRet (xCall T c 13 (aCons (xVar 0) (aCons (xVar 1) aNil)))) sNx) (sRet (xBi bMax (aCons (xK (.int 0)) (aCons (xBin (binD T c .Sub) (xBin (binD T c .Sub) (xCall T c 12 (aCons (xBin (binD T c .Add) (xK (.int 1)) (xCall T c 10 (aCons (xVar 0) (aCons (xVar 1) aNil)))) aNil)) (xCall T c 10 (aCons (xVar 0) (aCons (xK (.int 4)) aNil)))) (xK (.int 1))) aNil))))))
theorem size_eq (c : Fn) : B_14 c = sSeq (sAsg (xCall T c 10 (aCons (xVar 0) (aCons (xK (.int 6)) aNil))) (gNm 2)) (sSeq (sz1 c) (sz2 c)) := rfl
theorem nb_small {v : Int} (h0 : 0 ≤ v) (h : v < 1000) : Nb 8000 v := (Nb.of (b := 10) h0 (by omega)).mono (by decide)
theorem sz_lo {b : Nat} {s1 : Store} (n f : Nat) (so : Int) (v0 : 0 ≤ so) (c3 : so < 3) (p1 : Pen (b + 1) s1) : ∃ v s2, sz1 (run (n + 1)) [some (.ref 1), some (.int (f : Int)), some (.int so)] s1 = .rt (.int v) (s2 ++ [.lst [.int 5, .int 13, .int 90]]) ∧ Nx s1 s2 ∧ Pen b s2 ∧ 0 ≤ v ∧ v < 100 := by
  obtain ⟨lim, hl, l0, l1⟩ : ∃ lim : Int, atI [D.int 5, D.int 13, D.int 90] so = some (D.int lim) ∧ 0 < lim ∧ lim ≤ 90 := by
    have : so = 0 ∨ so = 1 ∨ so = 2 := by omega
    rcases this with rfl | rfl | rfl
    · exact ⟨5, rfl, by decide, by decide⟩
    · exact ⟨13, rfl, by decide, by decide⟩
    · exact ⟨90, rfl, by decide, by decide⟩
  obtain ⟨v, s2, e2, n2, p2, w0, w1⟩ := d_draw (b := b) n (p1.ext [.lst [.int 5, .int 13, .int 90]]) lim l0 (nb_small (by omega) (by omega))
  obtain ⟨s2, rfl, n2, p2⟩ := n2.split p1.long p2
  refine ⟨v, s2, ?_, n2, p2, w0, by omega⟩
  have hs : subD (.ref s1.length) (.int so) (s1 ++ [.lst [.int 5, .int 13, .int 90]]) = .ok (.int lim) (s1 ++ [.lst [.int 5, .int 13, .int 90]]) := by
    rw [subR (l := [.int 5, .int 13, .int 90]) (by simp), hl]
    rfl
  simp [sz1, c3, newLst, hs, e2]
theorem sz_hi {s1 : Store} (c : Fn) (f : Nat) (so : Int) (c3 : ¬ so < 3) : sz1 c [some (.ref 1), some (.int (f : Int)), some (.int so)] s1 = .nx [some (.ref 1), some (.int (f : Int)), some (.int so)] s1 := by
  simp [sz1, c3]
theorem sz_3a {s1 s2 s3 : Store} (v g : Int) (c : Fn) (f : Nat) (so : Int) (c3 : (so == 3) = true) (e2 : c 10 [.ref 1, .int (f : Int)] s1 = .ok (.int g) s2) (e3 : c 13 [.ref 1, .int (1 + g)] s2 = .ok (.int v) s3) : sz2 c [some (.ref 1), some (.int (f : Int)), some (.int so)] s1 = .rt (.int v) s3 := by
  simp [sz2, e2, e3, c3]
theorem sz_4a {s1 s3 : Store} (v : Int) (c : Fn) (f : Nat) (so : Int) (c3 : (so == 3) = false) (c4 : (so == 4) = true) (e3 : c 13 [.ref 1, .int (f : Int)] s1 = .ok (.int v) s3) : sz2 c [some (.ref 1), some (.int (f : Int)), some (.int so)] s1 = .rt (.int v) s3 := by
  simp [sz2, e3, c3, c4]
theorem sz_3 {b : Nat} {s1 : Store} (n f : Nat) (so : Int) (c3 : (so == 3) = true) (h2 : 2 ≤ f) (hf : f ≤ 25) (p1 : Pen (b + 4) s1) : ∃ v s3, sz2 (run (n + 2)) [some (.ref 1), some (.int (f : Int)), some (.int so)] s1 = .rt (.int v) s3 ∧ Nx s1 s3 ∧ Pen b s3 ∧ 0 ≤ v ∧ v < ((10 ^ f : Nat) : Int) := by
  obtain ⟨g, s2, e2, n2, p2, g0, g1⟩ := d_draw (b := b + 3) (n + 1) p1 (f : Int) (by omega) (nb_small (by omega) (by omega))
  obtain ⟨gn, rfl⟩ : ∃ gn : Nat, g = gn := ⟨g.toNat, by omega⟩
  obtain ⟨v, s3, e3, n3, p3, w0, w1⟩ := d_long (b := b) n (1 + gn) (by omega) p2
  rw [show (((1 + gn : Nat)) : Int) = 1 + (gn : Int) by omega] at e3
  refine ⟨v, s3, ?_, n2.trans n3, p3, w0, Int.lt_of_lt_of_le w1 (ten_le (by omega))⟩
  exact sz_3a v gn _ f so c3 e2 e3
theorem sz_4 {b : Nat} {s1 : Store} (n f : Nat) (so : Int) (c3 : (so == 3) = false) (c4 : (so == 4) = true) (hf : f ≤ 25) (p1 : Pen (b + 3) s1) : ∃ v s3, sz2 (run (n + 2)) [some (.ref 1), some (.int (f : Int)), some (.int so)] s1 = .rt (.int v) s3 ∧ Nx s1 s3 ∧ Pen b s3 ∧ 0 ≤ v ∧ v < ((10 ^ f : Nat) : Int) := by
  obtain ⟨v, s3, e3, n3, p3, w0, w1⟩ := d_long (b := b) n f (by omega) p1
  refine ⟨v, s3, ?_, n3, p3, w0, w1⟩
  exact sz_4a v _ f so c3 c4 e3
theorem sz_5 {b : Nat} {s1 : Store} (n f : Nat) (so : Int) (c3 : (so == 3) = false) (c4 : (so == 4) = false) (h2 : 2 ≤ f) (hf : f ≤ 25) (p1 : Pen (b + 2) s1) : ∃ v s3, sz2 (run (n + 1)) [some (.ref 1), some (.int (f : Int)), some (.int so)] s1 = .rt (.int v) s3 ∧ Nx s1 s3 ∧ Pen b s3 ∧ 0 ≤ v ∧ v < ((10 ^ f : Nat) : Int) := by
  obtain ⟨g, s2, e2, n2, p2, g0, g1⟩ := d_draw (b := b + 1) n p1 (f : Int) (by omega) (nb_small (by omega) (by omega))
  obtain ⟨gn, rfl⟩ : ∃ gn : Nat, g = gn := ⟨g.toNat, by omega⟩
  obtain ⟨u, s3, e3, n3, p3, u0, u1⟩ := d_draw (b := b) n p2 4 (by decide) (nb_small (by decide) (by decide))
  have ht := s_ten n (1 + gn) (by omega) s2
  rw [show (((1 + gn : Nat)) : Int) = 1 + (gn : Int) by omega] at ht
  have hle := ten_le (show 1 + gn ≤ f by omega)
  have hp : (0 : Int) < ((10 ^ f : Nat) : Int) := by
    have := Nat.pow_pos (n := f) (show 0 < 10 by decide)
    omega
  generalize ((10 ^ (1 + gn) : Nat) : Int) = t at ht hle
  refine ⟨if t - u - 1 > 0 then t - u - 1 else 0, s3, ?_, n2.trans n3, p3, ?_, ?_⟩
  · simp [sz2, e2, e3, ht, c3, c4, b_max]
  · split <;> omega
  · split <;> omega
theorem d_size {b : Nat} {st : Store} (n f : Nat) (h2 : 2 ≤ f) (hf : f ≤ 25) (h : Pen (b + 8) st) : ∃ v st', run (n + 3) 14 [.ref 1, .int f] st = .ok (.int v) st' ∧ Nx st st' ∧ Pen b st' ∧ 0 ≤ v ∧ v < ((10 ^ f : Nat) : Int) := by
  obtain ⟨so, s1, e1, n1, p1, v0, v1⟩ := d_draw (b := b + 7) (n + 1) h 6 (by decide) (nb_small (by decide) (by decide))
  have hA : sAsg (xCall T (run (n + 2)) 10 (aCons (xVar 0) (aCons (xK (.int 6)) aNil))) (gNm 2) (startE 3 [.ref 1, .int f]) st = .nx [some (.ref 1), some (.int (f : Int)), some (.int so)] s1 := by
    simp [startE, e1]
  rw [run_14, size_eq]
  have fin : ∀ {v : Int} {s e : Store}, sSeq (sz1 (run (n + 2))) (sz2 (run (n + 2))) [some (.ref 1), some (.int (f : Int)), some (.int so)] s1 = .rt (.int v) (s ++ e) → Nx s1 s → Pen b s → fnD 3 (sSeq (sAsg (xCall T (run (n + 2)) 10 (aCons (xVar 0) (aCons (xK (.int 6)) aNil))) (gNm 2)) (sSeq (sz1 (run (n + 2))) (sz2 (run (n + 2))))) [.ref 1, .int f] st = .ok (.int v) s := fun {v s e} g hn hp =>
    fnD_pen (seq_step hA g) (n1.trans hn) hp (by simp)
  by_cases c3 : so < 3
  · obtain ⟨v, s2, e2, n2, p2, w0, w1⟩ := sz_lo (b := b) (n + 1) f so v0 c3 (p1.mono (by omega))
    refine ⟨v, s2, fin (e := [.lst [.int 5, .int 13, .int 90]]) ?_ n2 p2, n1.trans n2, p2, w0, ?_⟩
    · rw [ap_sSeq, e2]
      rfl
    · have := ten_le h2
      have : ((10 ^ 2 : Nat) : Int) = 100 := rfl
      omega
  · have fin2 : ∀ {v : Int} {s : Store}, sz2 (run (n + 2)) [some (.ref 1), some (.int (f : Int)), some (.int so)] s1 = .rt (.int v) s → Nx s1 s → Pen b s → 0 ≤ v → v < ((10 ^ f : Nat) : Int) → ∃ v st', fnD 3 (sSeq (sAsg (xCall T (run (n + 2)) 10 (aCons (xVar 0) (aCons (xK (.int 6)) aNil))) (gNm 2)) (sSeq (sz1 (run (n + 2))) (sz2 (run (n + 2))))) [.ref 1, .int f] st = .ok (.int v) st' ∧ Nx st st' ∧ Pen b st' ∧ 0 ≤ v ∧ v < ((10 ^ f : Nat) : Int) := fun {v s} g hn hp w0 w1 =>
      ⟨v, s, fin (e := []) (seq_step (sz_hi _ f so c3) (by rw [List.append_nil]; exact g)) hn hp, n1.trans hn, hp, w0, w1⟩
    by_cases c4 : so = 3
    · obtain ⟨v, s3, e3, n3, p3, w0, w1⟩ := sz_3 (b := b) n f so (by simpa using c4) h2 hf (p1.mono (by omega))
      exact fin2 e3 n3 p3 w0 w1
    · by_cases c5 : so = 4
      · obtain ⟨v, s3, e3, n3, p3, w0, w1⟩ := sz_4 (b := b) n f so (by simpa using c4) (by simpa using c5) hf (p1.mono (by omega))
        exact fin2 e3 n3 p3 w0 w1
      · obtain ⟨v, s3, e3, n3, p3, w0, w1⟩ := sz_5 (b := b) (n + 1) f so (by simpa using c4) (by simpa using c5) h2 hf (p1.mono (by omega))
        exact fin2 e3 n3 p3 w0 w1
theorem d_number {b : Nat} {st : Store} (n f : Nat) (h2 : 2 ≤ f) (hf : f ≤ 25) (h : Pen (b + 9) st) : ∃ v st', run (n + 4) 15 [.ref 1, .int f] st = .ok (.int v) st' ∧ Nx st st' ∧ Pen b st' ∧ v.natAbs < 10 ^ f := by
  obtain ⟨v, s1, e1, n1, p1, v0, v1⟩ := d_size (b := b + 1) n f h2 hf h
  obtain ⟨u, s2, e2, n2, p2, u0, u1⟩ := d_draw (b := b) (n + 2) p1 2 (by decide) (nb_small (by decide) (by decide))
  have hu : u = 0 ∨ u = 1 := by omega
  rcases hu with rfl | rfl
  · refine ⟨v, s2, ?_, n1.trans n2, p2, by omega⟩
    rw [run_15]
    refine fnD_pen0 ?_ (n1.trans n2) p2 (by simp)
    simp [B_15, startE, e1, e2]
  · refine ⟨-v, s2, ?_, n1.trans n2, p2, by omega⟩
    rw [run_15]
    refine fnD_pen0 ?_ (n1.trans n2) p2 (by simp)
    simp [B_15, startE, e1, e2]
end G13
namespace G13
open PySem PySem.Spec PyProof.Rows L2 Gm
theorem d_middle {b : Nat} {st : Store} (n : Nat) (h : Pen (b + 9) st) : ∃ v st', callD T (run (n + 4)) 31 [.ref 1] st = .ok (.int v) st' ∧ Nx st st' ∧ Pen b st' ∧ 0 ≤ v ∧ v < ((10 ^ 25 : Nat) : Int) := by
  obtain ⟨v, s1, e1, n1, p1, v0, v1⟩ := d_size (b := b) n 25 (by decide) (by decide) (h.mono (by omega))
  refine ⟨v, s1, ?_, n1, p1, v0, v1⟩
  show run (n + 4) 31 [.ref 1] st = _
  rw [run_31]
  have q : ∀ c : Fn, c 14 [.ref 1, .int ((25 : Nat) : Int)] st = .ok (.int v) s1 → B_31 c (startE 1 [.ref 1]) st = .rt (.int v) s1 := fun c e => by
    have e' : c 14 [.ref 1, .int 25] st = .ok (.int v) s1 := e
    simp [B_31, startE, e']
  exact fnD_pen0 (q _ e1) n1 p1 (by simp)
theorem d_small {b : Nat} {st : Store} (n : Nat) (h : Pen (b + 9) st) : ∃ v st', callD T (run (n + 4)) 25 [.ref 1] st = .ok (.int v) st' ∧ Nx st st' ∧ Pen b st' ∧ 0 ≤ v ∧ v < ((10 ^ 25 : Nat) : Int) := by
  obtain ⟨u, s1, e1, n1, p1, u0, u1⟩ := d_draw (b := b + 1) (n + 2) (h.mono (by omega)) 12 (by decide) (nb_small (by decide) (by decide))
  have hs : seqOf (.ref s1.length) (s1 ++ [.lst [.int 0, .int 1, .int 2, .int 3, .int 5, .int u]]) = some [.int 0, .int 1, .int 2, .int 3, .int 5, .int u] := by
    unfold seqOf
    simp
  obtain ⟨d, s2, e2, n2, p2, hd⟩ := d_pick (b := b) (n + 1) (p1.ext [.lst [.int 0, .int 1, .int 2, .int 3, .int 5, .int u]]) (.ref s1.length) [.int 0, .int 1, .int 2, .int 3, .int 5, .int u] hs (by simp) (by simp) (by simp)
  obtain ⟨v, rfl, v0, v1⟩ : ∃ v : Int, d = .int v ∧ 0 ≤ v ∧ v < 12 := by
    simp at hd
    rcases hd with rfl | rfl | rfl | rfl | rfl | rfl
    · exact ⟨0, rfl, by decide, by decide⟩
    · exact ⟨1, rfl, by decide, by decide⟩
    · exact ⟨2, rfl, by decide, by decide⟩
    · exact ⟨3, rfl, by decide, by decide⟩
    · exact ⟨5, rfl, by decide, by decide⟩
    · exact ⟨u, rfl, u0, u1⟩
  obtain ⟨s2, rfl, n2, p2⟩ := n2.split p1.long p2
  refine ⟨v, s2, ?_, n1.trans n2, p2, v0, by omega⟩
  show run (n + 4) 25 [.ref 1] st = _
  rw [run_25]
  have q : ∀ c : Fn, c 10 [.ref 1, .int 12] st = .ok (.int u) s1 → c 11 [.ref 1, .ref s1.length] (s1 ++ [.lst [.int 0, .int 1, .int 2, .int 3, .int 5, .int u]]) = .ok (.int v) (s2 ++ [.lst [.int 0, .int 1, .int 2, .int 3, .int 5, .int u]]) → B_25 c (startE 1 [.ref 1]) st = .rt (.int v) (s2 ++ [.lst [.int 0, .int 1, .int 2, .int 3, .int 5, .int u]]) := fun c e e2 => by
    simp [B_25, startE, e, newLst, e2]
  exact fnD_pen (q _ e1 e2) (n1.trans n2) p2 (by simp)
/-- a def that draws a size -/
def SzF (g : Nat) : Prop := ∀ (n b : Nat) (st : Store), Pen (b + 9) st → ∃ v st', callD T (run (n + 4)) g [.ref 1] st = .ok (.int v) st' ∧ Nx st st' ∧ Pen b st' ∧ 0 ≤ v ∧ v < ((10 ^ 25 : Nat) : Int)
theorem szf_middle : SzF 31 := fun n b st h => d_middle n h
theorem szf_small : SzF 25 := fun n b st h => d_small n h
/-- two independent pairs of s bits -/
structure Rs (s : Nat) (p q : Int × Int) : Prop where
  p1 : p.1.natAbs ≤ 2 ^ s
  p2 : p.2.natAbs ≤ 2 ^ s
  q1 : q.1.natAbs ≤ 2 ^ s
  q2 : q.2.natAbs ≤ 2 ^ s
  det : p.1 * q.2 - p.2 * q.1 ≠ 0
theorem Rs.mono {s t : Nat} {p q : Int × Int} (h : Rs s p q) (ht : s ≤ t) : Rs t p q := ⟨le_abs h.p1 ht, le_abs h.p2 ht, le_abs h.q1 ht, le_abs h.q2 ht, h.det⟩
theorem pr_0 (p : Int × Int) (st : Store) : subD (prD p) (.int 0) st = .ok (.int p.1) st := by
  unfold prD
  simp
theorem pr_1 (p : Int × Int) (st : Store) : subD (prD p) (.int 1) st = .ok (.int p.2) st := by
  unfold prD
  simp
theorem noRef_prD (n : Nat) (p : Int × Int) : noRef n (prD p) = true := by
  unfold prD
  simp
theorem mul3_abs {t x : Int} {s : Nat} (ht : t.natAbs ≤ 3) (hx : x.natAbs ≤ 2 ^ s) : (t * x).natAbs ≤ 3 * 2 ^ s := by
  rw [Int.natAbs_mul]
  exact Nat.mul_le_mul ht hx
theorem mix_abs {t x y : Int} {s : Nat} (ht : t.natAbs ≤ 3) (hx : x.natAbs ≤ 2 ^ s) (hy : y.natAbs ≤ 2 ^ s) : (y + t * x).natAbs ≤ 2 ^ (s + 2) := by
  have h1 := mul3_abs ht hx
  have h2 := Int.natAbs_add_le y (t * x)
  rw [Nat.pow_add]
  omega
def mixP (t : Int) (p q : Int × Int) : Int × Int := (q.1 + t * p.1, q.2 + t * p.2)
theorem Rs.mix {s : Nat} {p q : Int × Int} (h : Rs s p q) (t : Int) (ht : t.natAbs ≤ 3) : Rs (s + 2) (mixP t p q) p := by
  refine ⟨mix_abs ht h.p1 h.q1, mix_abs ht h.p2 h.q2, le_abs h.p1 (by omega), le_abs h.p2 (by omega), fun e => h.det ?_⟩
  have : p.1 * q.2 - p.2 * q.1 = -((q.1 + t * p.1) * p.2 - (q.2 + t * p.2) * p.1) := by grind
  have e' : (q.1 + t * p.1) * p.2 - (q.2 + t * p.2) * p.1 = 0 := e
  rw [this, e']
  rfl
noncomputable def rwB (c : Fn) : Fs := (sSeq (sAsg (xBin (binD T c .Sub) (xCall T c 10 (aCons (xVar 0) (aCons (xK (.int 7)) aNil))) (xK (.int 3))) (gNm 7)) (sPar 4 5 (aCons (xTup (aCons (xBin (binD T c .Add) (xBin subD (xVar 5) (xK (.int 0))) (xBin (binD T c .Mult) (xVar 7) (xBin subD (xVar 4) (xK (.int 0))))) (aCons (xBin (binD T c .Add) (xBin subD (xVar 5) (xK (.int 1))) (xBin (binD T c .Mult) (xVar 7) (xBin subD (xVar 4) (xK (.int 1))))) aNil))) (aCons (xVar 4) aNil))))
theorem rw_step (c : Fn) (p q : Int × Int) (t : Int) (st s1 : Store) (o1 o2 o3 o6 o7 : Option D) (e : c 10 [.ref 1, .int 7] st = .ok (.int t) s1) (m1 : IntMulOk (t - 3) p.1) (m2 : IntMulOk (t - 3) p.2) :
    rwB c [some (.ref 1), o1, o2, o3, some (prD p), some (prD q), o6, o7] st = .nx [some (.ref 1), o1, o2, o3, some (prD (mixP (t - 3) p q)), some (prD p), o6, some (.int (t - 3))] s1 := by
  simp [rwB, e, pr_0, pr_1, ib_mul _ m1, ib_mul _ m2]
  rfl
theorem rows_loop (n : Nat) : ∀ (ds : List D) (st : Store) (o1 o2 o3 o6 o7 : Option D) (b s : Nat) (p q : Int × Int), Pen (b + ds.length) st → Rs s p q → ∃ st' p' q' o6' o7', Nx st st' ∧ Pen b st' ∧ Rs (s + 2 * ds.length) p' q' ∧
    forI (fun _ => True) (gNm 6) (rwB (run (n + 1))) ds [some (.ref 1), o1, o2, o3, some (prD p), some (prD q), o6, o7] st = .nx [some (.ref 1), o1, o2, o3, some (prD p'), some (prD q'), o6', o7'] st' := by
  intro ds
  induction ds with
  | nil =>
    intro st o1 o2 o3 o6 o7 b s p q h r
    exact ⟨st, p, q, o6, o7, h.self, h, r, forI_end trivial⟩
  | cons x ds ih =>
    intro st o1 o2 o3 o6 o7 b s p q h r
    rw [List.length_cons] at h
    obtain ⟨t, s1, e1, n1, p1, t0, t1⟩ := d_draw (b := b + ds.length) n (h.mono (by omega)) 7 (by decide) (nb_small (by decide) (by decide))
    have ht : (t - 3).natAbs ≤ 3 := by omega
    have hok : ∀ x : Int, IntMulOk (t - 3) x := fun x => .of_left (by
      have : t = 0 ∨ t = 1 ∨ t = 2 ∨ t = 3 ∨ t = 4 ∨ t = 5 ∨ t = 6 := by omega
      rcases this with rfl | rfl | rfl | rfl | rfl | rfl | rfl <;> decide)
    obtain ⟨s2, p', q', o6', o7', n2, p2, r2, e⟩ := ih s1 o1 o2 o3 (some x) (some (.int (t - 3))) b (s + 2) _ _ p1 (r.mix (t - 3) ht)
    refine ⟨s2, p', q', o6', o7', n1.trans n2, p2, r2.mono (by rw [List.length_cons]; omega), ?_⟩
    rw [← e]
    exact forI_step trivial rfl (rw_step _ p q t st s1 o1 o2 o3 (some x) o7 e1 (hok _) (hok _))
noncomputable def ra1 (c : Fn) : Fs := (sPar 2 3 (aCons (xBin (binD T c .Add) (xK (.int 1)) (xCallI T c (xVar 1) (aCons (xVar 0) aNil))) (aCons (xBin (binD T c .Add) (xK (.int 1)) (xCallI T c (xVar 1) (aCons (xVar 0) aNil))) aNil)))
noncomputable def ra2 (c : Fn) : Fs := (sPar 4 5 (aCons (xTup (aCons (xVar 2) (aCons (xBin (binD T c .Sub) (xCall T c 10 (aCons (xVar 0) (aCons (xBin (binD T c .Mult) (xK (.int 2)) (xVar 3)) aNil))) (xVar 3)) aNil))) (aCons (xTup (aCons (xK (.int 0)) (aCons (xVar 3) aNil))) aNil)))
noncomputable def ra3 (c : Fn) : Fi := (iRng (aCons (xCall T c 10 (aCons (xVar 0) (aCons (xK (.int 4)) aNil))) aNil))
theorem rows_eq (c : Fn) : B_24 c = sSeq (ra1 c) (sSeq (ra2 c) (sSeq (sFor (ra3 c) (gNm 6) (rwB c)) (sRet (xLst (aCons (xVar 4) (aCons (xVar 5) aNil)))))) := rfl
theorem ra1_run (c : Fn) (g : Nat) (v w : Int) (st s1 s2 : Store) (h1 : callD T c g [.ref 1] st = .ok (.int v) s1) (h2 : callD T c g [.ref 1] s1 = .ok (.int w) s2) :
    ra1 c (startE 8 [.ref 1, .fn g]) st = .nx [some (.ref 1), some (.fn g), some (.int (1 + v)), some (.int (1 + w)), none, none, none, none] s2 := by
  simp [ra1, startE, h1, h2]
theorem ra2_run (c : Fn) (a t u : Int) (o1 o6 o7 : Option D) (st s1 : Store) (h : c 10 [.ref 1, .int (2 * t)] st = .ok (.int u) s1) :
    ra2 c [some (.ref 1), o1, some (.int a), some (.int t), none, none, o6, o7] st = .nx [some (.ref 1), o1, some (.int a), some (.int t), some (prD (a, u - t)), some (prD (0, t)), o6, o7] s1 := by
  have m : IntMulOk 2 t := .of_left (by decide)
  simp [ra2, ib_mul _ m, h]
  exact ⟨rfl, rfl⟩
theorem p25 : ((10 ^ 25 : Nat) : Int) < ((2 ^ 84 : Nat) : Int) := by decide
theorem d_rows {b : Nat} {st : Store} (n g : Nat) (hg : SzF g) (h : Pen (b + 23) st) : ∃ p q st', run (n + 5) 24 [.ref 1, .fn g] st = .ok (.ref st.length) (st' ++ [.lst [prD p, prD q]]) ∧ Nx st st' ∧ Pen b st' ∧ Rs 90 p q := by
  obtain ⟨v, s1, e1, n1, p1, v0, v1⟩ := hg n (b + 14) st h
  obtain ⟨w, s2, e2, n2, p2, w0, w1⟩ := hg n (b + 5) s1 p1
  have hp := p25
  generalize ((10 ^ 25 : Nat) : Int) = X at *
  obtain ⟨u, s3, e3, n3, p3, u0, u1⟩ := d_draw (b := b + 4) (n + 3) p2 (2 * (1 + w)) (by omega) ((Nb.of (b := 90) (by omega) (by
    have : ((2 ^ 90 : Nat) : Int) = 64 * ((2 ^ 84 : Nat) : Int) := by decide
    omega)).mono (by decide))
  obtain ⟨k, s4, e4, n4, p4, k0, k1⟩ := d_draw (b := b + 3) (n + 3) p3 4 (by decide) (nb_small (by decide) (by decide))
  have r : Rs 84 (1 + v, u - (1 + w)) (0, 1 + w) := by
    refine ⟨?_, ?_, Nat.zero_le _, ?_, ?_⟩
    · show (1 + v).natAbs ≤ _; omega
    · show (u - (1 + w)).natAbs ≤ _; omega
    · show (1 + w).natAbs ≤ _; omega
    · show (1 + v) * (1 + w) - (u - (1 + w)) * 0 ≠ 0
      rw [Int.mul_zero, Int.sub_zero]
      exact Int.mul_ne_zero (by omega) (by omega)
  have hr : ra3 (run (n + 4)) [some (.ref 1), some (.fn g), some (.int (1 + v)), some (.int (1 + w)), some (prD (1 + v, u - (1 + w))), some (prD (0, 1 + w)), none, none] s3 = .ok (Gm.intsFrom 0 k.toNat, fun _ => True) s4 := by
    have q : ∀ c : Fn, c 10 [.ref 1, .int 4] s3 = .ok (.int k) s4 → xCall T c 10 (aCons (xVar 0) (aCons (xK (.int 4)) aNil)) [some (.ref 1), some (.fn g), some (.int (1 + v)), some (.int (1 + w)), some (prD (1 + v, u - (1 + w))), some (prD (0, 1 + w)), none, none] s3 = .ok (.int k) s4 := fun c e => by simp [e]
    exact rngI (q _ e4) k0 (by omega)
  obtain ⟨s5, p', q', o6, o7, n5, p5, r5, e5⟩ := rows_loop (n + 3) (Gm.intsFrom 0 k.toNat) s4 (some (.fn g)) (some (.int (1 + v))) (some (.int (1 + w))) none none b 84 _ _ (p4.mono (by rw [ints_len]; omega)) r
  refine ⟨p', q', s5, ?_, (((n1.trans n2).trans n3).trans n4).trans n5, p5, r5.mono (by rw [ints_len]; omega)⟩
  rw [run_24, rows_eq]
  have hn := (((n1.trans n2).trans n3).trans n4).trans n5
  refine fnD_lst (m := s5.length) (e := [.lst [prD p', prD q']]) (seq_step (ra1_run _ g v w st s1 s2 e1 e2) (seq_step (ra2_run _ _ _ u _ _ _ _ s3 e3) (seq_step ((for_of' hr).trans e5) ?_))) hn p5 (by rw [hn.len]; omega) (by simp) (by simp [noRef_prD])
  rfl
end G13
namespace G13
open PySem PySem.Spec PyProof.Rows L2 Gm
/-! ### lattices by what lies in them -/
def Mm (a b d : Rat) (v : Rat × Rat) : Prop := ∃ i j : Int, v.1 = i * a ∧ v.2 = i * b + j * d
structure Cn (a b d : Rat) : Prop where
  a0 : 0 < a
  d0 : 0 < d
  b0 : 0 ≤ b
  bd : b < d
theorem La.cn {ps : List (Rat × Rat)} {a b d : Rat} (L : La ps a b d) : Cn a b d := ⟨L.a0, L.d0, L.b0, L.bd⟩
theorem cast0 : ((0 : Int) : Rat) = 0 := rfl
theorem cast1 : ((1 : Int) : Rat) = 1 := rfl
theorem Mm.r1 (a b d : Rat) : Mm a b d (a, b) := ⟨1, 0, by rw [cast1]; grind, by rw [cast0, cast1]; grind⟩
theorem Mm.r2 (a b d : Rat) : Mm a b d (0, d) := ⟨0, 1, by rw [cast0]; grind, by rw [cast0, cast1]; grind⟩
theorem Mm.lin {a b d : Rat} {u w : Rat × Rat} (hu : Mm a b d u) (hw : Mm a b d w) (m n : Int) : Mm a b d (m * u.1 + n * w.1, m * u.2 + n * w.2) := by
  obtain ⟨i, j, e1, e2⟩ := hu
  obtain ⟨k, l, e3, e4⟩ := hw
  refine ⟨m * i + n * k, m * j + n * l, ?_, ?_⟩
  · show _ = _
    dsimp only
    rw [e1, e3, Rat.intCast_add, Rat.intCast_mul, Rat.intCast_mul]
    grind
  · dsimp only
    rw [e2, e4, Rat.intCast_add, Rat.intCast_mul, Rat.intCast_mul, Rat.intCast_add, Rat.intCast_mul, Rat.intCast_mul]
    grind
theorem Mm.spR {a b d x y : Rat} {R : List (Rat × Rat)} (h : ∀ w ∈ R, Mm a b d w) (hs : SpR R x y) : Mm a b d (x, y) := by
  induction hs with
  | zero => exact ⟨0, 0, by rw [cast0]; grind, by rw [cast0]; grind⟩
  | @add x y p k hm _ ih =>
    have := Mm.lin ih (h p hm) 1 k
    rw [cast1] at this
    have e1 : 1 * x + k * p.1 = x + k * p.1 := by grind
    have e2 : 1 * y + k * p.2 = y + k * p.2 := by grind
    dsimp only at this
    rw [e1, e2] at this
    exact this
theorem Zp.mm {a b d : Rat} {v w : Rat × Rat} (h1 : Zp v (a, b)) (h2 : Zp v (0, d)) (h : Mm a b d w) : Zp v w := by
  obtain ⟨i, j, e1, e2⟩ := h
  obtain ⟨m, hm⟩ := h1
  obtain ⟨n, hn⟩ := h2
  refine ⟨i * m + j * n, ?_⟩
  rw [Rat.intCast_add, Rat.intCast_mul, Rat.intCast_mul, ← hm, ← hn, e1, e2]
  dsimp only
  grind
theorem La.z_iff {ps : List (Rat × Rat)} {a b d : Rat} (L : La ps a b d) {v : Rat × Rat} : (∀ p ∈ ps, Zp v p) ↔ (Zp v (a, b) ∧ Zp v (0, d)) :=
  ⟨fun h => ⟨Zp.spR h L.s1, Zp.spR h L.s2⟩, fun h p hp => Zp.mm h.1 h.2 (L.of p hp)⟩
theorem mm_du {a b d : Rat} (a0 : a ≠ 0) (d0 : d ≠ 0) {v : Rat × Rat} : Mm a b d v ↔ ∀ w ∈ du a b d, Zp v w := by
  refine ⟨fun h w hw => ?_, fun h => in_of a0 d0 h⟩
  have := z_row a0 d0 w hw (b := b)
  exact (Zp.mm this.1.symm this.2.symm h).symm
theorem dual_mm {a b d a1 b1 d1 : Rat} (a0 : a ≠ 0) (d0 : d ≠ 0) (L1 : La (du a b d) a1 b1 d1) {v : Rat × Rat} : Mm a1 b1 d1 v ↔ (Zp v (a, b) ∧ Zp v (0, d)) := by
  constructor
  · intro h
    have go : ∀ {x y : Rat}, SpR (du a b d) x y → Zp (a, b) (x, y) ∧ Zp (0, d) (x, y) := fun hs => ⟨Zp.spR (fun w hw => (z_row a0 d0 w hw).1) hs, Zp.spR (fun w hw => (z_row a0 d0 w hw).2) hs⟩
    have g1 := go L1.s1
    have g2 := go L1.s2
    exact ⟨(Zp.mm g1.1 g2.1 h).symm, (Zp.mm g1.2 g2.2 h).symm⟩
  · rintro ⟨h1, h2⟩
    obtain ⟨i, j, e1, e2⟩ := dual_wc a0 d0 h1 h2
    have m1 := L1.of (1 / a, 0) (by simp [du])
    have m2 := L1.of (-(b / (a * d)), 1 / d) (by simp [du])
    have := Mm.lin m1 m2 i j
    dsimp only at this e1 e2
    rw [← e1, ← e2] at this
    exact this
theorem abs_lt_unit {x d : Rat} {j : Int} (hd : 0 < d) (h1 : x = j * d) (h2 : -d < x) (h3 : x < d) : j = 0 := by
  have hj : -1 < (j : Rat) ∧ (j : Rat) < 1 := by
    rw [h1] at h2 h3
    constructor
    · have : (-1 : Rat) * d < j * d := by
        have e : (-1 : Rat) * d = -d := by grind
        rw [e]; exact h2
      exact Rat.lt_of_mul_lt_mul_right this (Rat.le_of_lt hd)
    · have : (j : Rat) * d < 1 * d := by rw [Rat.one_mul]; exact h3
      exact Rat.lt_of_mul_lt_mul_right this (Rat.le_of_lt hd)
  have e1 : ((-1 : Int) : Rat) < (j : Rat) := hj.1
  have e2 : (j : Rat) < ((1 : Int) : Rat) := hj.2
  rw [Rat.intCast_lt_intCast] at e1 e2
  omega
theorem Mm.a_mul {a b d x y : Rat} (h : Mm a b d (x, y)) : ∃ i : Int, x = i * a := by
  obtain ⟨i, j, e, _⟩ := h
  exact ⟨i, e⟩
theorem Mm.d_mul {a b d y : Rat} (a0 : a ≠ 0) (h : Mm a b d (0, y)) : ∃ j : Int, y = j * d := by
  obtain ⟨i, j, e1, e2⟩ := h
  dsimp only at e1 e2
  have : (i : Rat) = 0 := by
    rcases Rat.mul_eq_zero.mp e1.symm with h | h
    · exact h
    · exact absurd h a0
  exact ⟨j, by rw [e2, this]; grind⟩
/-- the table of a lattice is its only one -/
theorem uniq {a b d a' b' d' : Rat} (C : Cn a b d) (C' : Cn a' b' d') (h1 : Mm a' b' d' (a, b)) (h2 : Mm a' b' d' (0, d)) (g1 : Mm a b d (a', b')) (g2 : Mm a b d (0, d')) : a = a' ∧ b = b' ∧ d = d' := by
  obtain ⟨i, hi⟩ := h1.a_mul
  obtain ⟨k, hk⟩ := g1.a_mul
  have ea : a = a' := unit_of C.a0 C'.a0 hi hk
  obtain ⟨j, hj⟩ := h2.d_mul (ne_of_pos C'.a0)
  obtain ⟨l, hl⟩ := g2.d_mul (ne_of_pos C.a0)
  have ed : d = d' := unit_of C.d0 C'.d0 hj hl
  subst ea
  subst ed
  obtain ⟨m, n, e1, e2⟩ := g1
  dsimp only at e1 e2
  have hm : (m : Rat) = 1 := by
    have : a * ((m : Rat) - 1) = 0 := by
      have : a * ((m : Rat) - 1) = m * a - a := by grind
      rw [this, ← e1]; grind
    rcases Rat.mul_eq_zero.mp this with h | h
    · exact absurd h (ne_of_pos C.a0)
    · grind
  have hx : b' - b = n * d := by rw [e2, hm]; grind
  have hn := abs_lt_unit C.d0 hx (by have := C.bd; have := C'.b0; grind) (by have := C'.bd; have := C.b0; grind)
  rw [hn, cast0] at hx
  exact ⟨rfl, by grind, rfl⟩
theorem uniq' {a b d a' b' d' : Rat} (C : Cn a b d) (C' : Cn a' b' d') (h : ∀ v, Mm a b d v ↔ Mm a' b' d' v) : a = a' ∧ b = b' ∧ d = d' :=
  uniq C C' ((h _).mp (Mm.r1 a b d)) ((h _).mp (Mm.r2 a b d)) ((h _).mpr (Mm.r1 a' b' d')) ((h _).mpr (Mm.r2 a' b' d'))
theorem La.eq_of {ps qs : List (Rat × Rat)} {a b d a' b' d' : Rat} (L : La ps a b d) (L' : La qs a' b' d') (h : ∀ p ∈ ps, Mm a' b' d' p) (h' : ∀ q ∈ qs, Mm a b d q) : a = a' ∧ b = b' ∧ d = d' :=
  uniq L.cn L'.cn (Mm.spR h L.s1) (Mm.spR h L.s2) (Mm.spR h' L'.s1) (Mm.spR h' L'.s2)
/-- the dual of the dual -/
theorem dual_dual {a b d a1 b1 d1 a2 b2 d2 : Rat} (C : Cn a b d) (L1 : La (du a b d) a1 b1 d1) (L2 : La (du a1 b1 d1) a2 b2 d2) : a2 = a ∧ b2 = b ∧ d2 = d := by
  refine uniq' L2.cn C fun v => ?_
  rw [dual_mm (ne_of_pos L1.a0) (ne_of_pos L1.d0) L2, mm_du (ne_of_pos C.a0) (ne_of_pos C.d0)]
  exact L1.z_iff.symm
/-- the dual of the one lies within that of the other just the other way round -/
theorem le_dual {a b d a1 b1 d1 a' b' d' a1' b1' d1' : Rat} (C : Cn a b d) (C' : Cn a' b' d') (L : La (du a b d) a1 b1 d1) (L' : La (du a' b' d') a1' b1' d1') :
    (Mm a' b' d' (a, b) ∧ Mm a' b' d' (0, d)) ↔ (Mm a1 b1 d1 (a1', b1') ∧ Mm a1 b1 d1 (0, d1')) := by
  have k : ∀ {v : Rat × Rat}, Mm a1 b1 d1 v ↔ (Zp v (a, b) ∧ Zp v (0, d)) := dual_mm (ne_of_pos C.a0) (ne_of_pos C.d0) L
  have k' : ∀ {v : Rat × Rat}, Mm a1' b1' d1' v ↔ (Zp v (a', b') ∧ Zp v (0, d')) := dual_mm (ne_of_pos C'.a0) (ne_of_pos C'.d0) L'
  rw [k, k]
  constructor
  · rintro ⟨h1, h2⟩
    have f : ∀ {v : Rat × Rat}, Mm a1' b1' d1' v → Zp v (a, b) ∧ Zp v (0, d) := fun hv => by
      obtain ⟨z1, z2⟩ := k'.mp hv
      exact ⟨Zp.mm z1 z2 h1, Zp.mm z1 z2 h2⟩
    exact ⟨f (Mm.r1 _ _ _), f (Mm.r2 _ _ _)⟩
  · rintro ⟨⟨z1, z2⟩, z3, z4⟩
    have f : ∀ {w : Rat × Rat}, Zp (a1', b1') w → Zp (0, d1') w → Mm a' b' d' w := fun y1 y2 => by
      rw [mm_du (ne_of_pos C'.a0) (ne_of_pos C'.d0)]
      exact L'.z_iff.mpr ⟨y1.symm, y2.symm⟩
    exact ⟨f z1 z3, f z2 z4⟩
/-- the dual of a multiple -/
theorem dual_times {a b d a1 b1 d1 A B D A1 B1 D1 x y z f g : Rat} (hf : f ≠ 0) (hg : g * f = 1) (C : Cn a b d) (L1 : La (du a b d) a1 b1 d1) (S : La [(f * a, f * b), (f * 0, f * d)] A B D) (S1 : La (du A B D) A1 B1 D1)
    (T1 : La [(g * a1, g * b1), (g * 0, g * d1)] x y z) : A1 = x ∧ B1 = y ∧ D1 = z := by
  refine uniq' S1.cn T1.cn fun v => ?_
  rw [dual_mm (ne_of_pos S.a0) (ne_of_pos S.d0) S1, ← S.z_iff]
  have sc : ∀ w : Rat × Rat, Zp v (f * w.1, f * w.2) ↔ Zp (f * v.1, f * v.2) w := fun w => by
    have e : v.1 * (f * w.1) + v.2 * (f * w.2) = f * v.1 * w.1 + f * v.2 * w.2 := by grind
    unfold Zp
    dsimp only
    rw [e]
  have e1 : (∀ p ∈ [(f * a, f * b), (f * 0, f * d)], Zp v p) ↔ Mm a1 b1 d1 (f * v.1, f * v.2) := by
    rw [dual_mm (ne_of_pos C.a0) (ne_of_pos C.d0) L1, ← sc (a, b), ← sc (0, d)]
    simp
  rw [e1]
  constructor
  · rintro ⟨i, j, h1, h2⟩
    have m1 := T1.of (g * a1, g * b1) (by simp)
    have m2 := T1.of (g * 0, g * d1) (by simp)
    have := Mm.lin m1 m2 i j
    dsimp only at this h1 h2
    have v1 : (i : Rat) * (g * a1) + j * (g * 0) = v.1 := by
      have : v.1 = g * (f * v.1) := by grind
      rw [this, h1]; grind
    have v2 : (i : Rat) * (g * b1) + j * (g * d1) = v.2 := by
      have : v.2 = g * (f * v.2) := by grind
      rw [this, h2]; grind
    rw [v1, v2] at this
    exact this
  · intro h
    have go : ∀ {u w : Rat}, SpR [(g * a1, g * b1), (g * 0, g * d1)] u w → Mm a1 b1 d1 (f * u, f * w) := fun hs => by
      obtain ⟨i, j, h1, h2⟩ := hs.two
      dsimp only at h1 h2
      exact ⟨i, j, by show f * _ = _; rw [h1]; grind, by show f * _ = _; rw [h2]; grind⟩
    obtain ⟨i, j, h1, h2⟩ := h
    have := Mm.lin (go T1.s1) (go T1.s2) i j
    dsimp only at this
    have v1 : (i : Rat) * (f * x) + j * (f * 0) = f * v.1 := by rw [h1]; grind
    have v2 : (i : Rat) * (f * y) + j * (f * z) = f * v.2 := by rw [h2]; grind
    rw [v1, v2] at this
    exact this
theorem dual_cell {a b d a1 b1 d1 : Rat} (C : Cn a b d) (L1 : La (du a b d) a1 b1 d1) : a1 * d1 = 1 / (a * d) := by
  obtain ⟨e, he, h⟩ := La.cell2 L1
  dsimp only at h
  have ha := C.a0
  have hd := C.d0
  have h1 := Rat.mul_pos L1.a0 L1.d0
  have h2 := Rat.mul_pos ha hd
  have h3 : 1 / a * (1 / d) - 0 * -(b / (a * d)) = 1 / (a * d) := by
    have := ne_of_pos ha
    have := ne_of_pos hd
    grind
  rw [h3] at h
  have h4 : 0 < 1 / (a * d) := inv_0 h2
  rcases he with rfl | rfl
  · rw [h, cast1, Rat.one_mul]
  · rw [h, show ((-1 : Int) : Rat) = -1 from rfl] at h4
    exact (lin_no h1 h4).elim
end G13
namespace G13
open PySem PySem.Spec PyProof.Rows L2 Gm
theorem Sz_inv {p : Rat} {b : Nat} (h : Sz b p) (h0 : p ≠ 0) : Sz b p⁻¹ := by
  rw [Rat.inv_def]
  exact Sz.of h.den h.num (fun z => h0 (Rat.num_eq_zero.mp z))
theorem Sz_div {p q : Rat} {b b' : Nat} (h : Sz b p) (h' : Sz b' q) (h0 : q ≠ 0) : Sz (b + b') (p / q) := by
  rw [Rat.div_def]
  exact h.mul (Sz_inv h' h0)
theorem s_isnumP (n : Nat) (x y : Rat) (st : Store) : run (n + 1) 0 [pD x y] st = .ok (.bl false) st := by
  rw [run_0]
  refine fnD_rt0 ?_ (by simp)
  simp [B_0, startE, pD, isC_Point]
section
variable (n : Nat) (x y r : Rat) (st : Store)
theorem s_pmulR (hx : Sz 4000 x) (hy : Sz 4000 y) (hr : Sz 4000 r) : run (n + 5) 64 [pD x y, rD r] st = .ok (pD (x * r) (y * r)) st := by
  rw [run_64]
  refine fnD_rt0 ?_ (noRef_pD _ _ _)
  simp [B_64, startE, s_isnum, fd_x, fd_y, b_mul, hx, hy, hr, s_mkP_r]
theorem s_prmulR (hx : Sz 4000 x) (hy : Sz 4000 y) (hr : Sz 4000 r) : run (n + 5) 65 [pD x y, rD r] st = .ok (pD (x * r) (y * r)) st := by
  rw [run_65]
  refine fnD_rt0 ?_ (noRef_pD _ _ _)
  simp [B_65, startE, s_isnum, fd_x, fd_y, b_mul, hx, hy, hr, s_mkP_r]
theorem s_prmulI (i : Int) (hx : Sz 4000 x) (hy : Sz 4000 y) (hi : Nb 4000 i) : run (n + 5) 65 [pD x y, .int i] st = .ok (pD (x * (i : Rat)) (y * (i : Rat))) st := by
  rw [run_65]
  refine fnD_rt0 ?_ (noRef_pD _ _ _)
  simp [B_65, startE, s_isnum_int, fd_x, fd_y, b_mul_i, hx, hy, hi, s_mkP_r]
theorem p_mulR (hx : Sz 4000 x) (hy : Sz 4000 y) (hr : Sz 4000 r) : binD T (run (n + 5)) .Mult (pD x y) (rD r) st = .ok (pD (x * r) (y * r)) st :=
  (bin_uu (f := 64) st rfl (by decide) rfl rfl rfl).trans (s_pmulR n x y r st hx hy hr)
theorem p_imul (i : Int) (hx : Sz 4000 x) (hy : Sz 4000 y) (hi : Nb 4000 i) : binD T (run (n + 5)) .Mult (.int i) (pD x y) st = .ok (pD (x * (i : Rat)) (y * (i : Rat))) st :=
  (bin_io (f := 65) (g := 64) st rfl rfl rfl).trans (s_prmulI n x y st i hx hy hi)
theorem no_rp : run (n + 5) (47 + niB) [rD r, pD x y] st = .ok (.bl true) st := by
  rw [run_no_47 (n + 4)]
  simp [nt_47, startE, s_isnumP]
theorem p_rmulR (hx : Sz 4000 x) (hy : Sz 4000 y) (hr : Sz 4000 r) : binD T (run (n + 5)) .Mult (rD r) (pD x y) st = .ok (pD (x * r) (y * r)) st :=
  (bin_ni (i := 0) (j := 1) (f := 47) (g := 65) st rfl rfl (by decide) rfl rfl rfl (by decide) rfl rfl (no_rp n x y r st)).trans (s_prmulR n x y r st hx hy hr)
end
/-! ### equality, members, one within the other -/
theorem s_leq (n : Nat) (a b d a' b' d' : Rat) (st : Store) : run (n + 3) 83 [latD a b d, latD a' b' d'] st = .ok (.bl (decide (a = a' ∧ b = b' ∧ d = d'))) st := by
  rw [run_83]
  refine fnD_rt0 ?_ (by simp)
  by_cases h1 : a = a'
  · by_cases h2 : b = b'
    · by_cases h3 : d = d' <;> simp [B_83, startE, iso_latD, fd_la, fd_lb, fd_ld, b_eq, h1, h2, h3]
    · simp [B_83, startE, iso_latD, fd_la, fd_lb, fd_ld, b_eq, h1, h2]
  · simp [B_83, startE, iso_latD, fd_la, fd_lb, fd_ld, b_eq, h1]
theorem l_eq (n : Nat) (a b d a' b' d' : Rat) (neg : Bool) (st : Store) : eqB T (run (n + 3)) neg (latD a b d) (latD a' b' d') st = .ok (.bl (decide (a = a' ∧ b = b' ∧ d = d') != neg)) st := eqB_own st rfl rfl (s_leq n a b d a' b' d' st)
def mmB (a b d x y : Rat) : Bool := decide ((x / a).den = 1) && decide (((y - x / a * b) / d).den = 1)
theorem den1 {q : Rat} (h : q.den = 1) : q = (q.num : Rat) := by
  have e : q = (q.num : Rat) / ((q.den : Int) : Rat) := by rw [← Rat.divInt_eq_div, Rat.num_divInt_den]
  rw [h] at e
  conv => lhs; rw [e]
  rw [show (((1 : Nat) : Int) : Rat) = 1 from rfl]
  grind
theorem mmB_iff {a b d x y : Rat} (a0 : a ≠ 0) (d0 : d ≠ 0) : mmB a b d x y = true ↔ Mm a b d (x, y) := by
  unfold mmB
  rw [Bool.and_eq_true, decide_eq_true_eq, decide_eq_true_eq]
  constructor
  · rintro ⟨h1, h2⟩
    have e1 := den1 h1
    have e2 := den1 h2
    generalize (x / a).num = i at e1
    generalize ((y - x / a * b) / d).num = j at e2
    refine ⟨i, j, ?_, ?_⟩
    · show x = _
      rw [← e1]; grind
    · show y = _
      rw [← e2, ← e1]; grind
  · rintro ⟨i, j, h1, h2⟩
    dsimp only at h1 h2
    have e1 : x / a = (i : Rat) := by rw [h1]; grind
    have e2 : (y - x / a * b) / d = (j : Rat) := by rw [e1, h2]; grind
    rw [e2, e1, Rat.den_intCast, Rat.den_intCast]
    exact ⟨rfl, rfl⟩
theorem s_cont (n : Nat) {a b d x y : Rat} {s t : Nat} (st : Store) (a0 : a ≠ 0) (d0 : d ≠ 0) (ha : Sz s a) (hb : Sz s b) (hd : Sz s d) (hx : Sz t x) (hy : Sz t y) (hst : 2 * s + 2 * t + 1 ≤ 4000) :
    run (n + 6) 82 [latD a b d, pD x y] st = .ok (.bl (mmB a b d x y)) st := by
  have q1 := Sz_div hx ha a0
  have q2 := q1.mul hb
  have q3 := hy.sub q2
  have e1 : ∀ st, run (n + 5) 79 [latD a b d, pD x y] st = .ok (.tup [rD (x / a), rD ((y - x / a * b) / d)]) st := fun st =>
    s_lsteps n a b d st x y (ha.mono (by omega)) (hb.mono (by omega)) (hd.mono (by omega)) a0 d0 (hx.mono (by omega)) (hy.mono (by omega)) (q1.mono (by omega)) (q2.mono (by omega)) (q3.mono (by omega))
  have w1 : ∀ (q : Rat) st, run (n + 5) 59 [rD q] st = .ok (.bl (decide (q.den = 1))) st := fun q st => s_whole (n + 4) st q
  rw [run_82]
  refine fnD_rt0 ?_ (by simp)
  unfold mmB
  by_cases h1 : (x / a).den = 1
  · simp [B_82, startE, hm_steps, e1, hm_whole, w1, h1]
  · simp [B_82, startE, hm_steps, e1, hm_whole, w1, h1]
theorem in_cont (n : Nat) {a b d x y : Rat} {s t : Nat} (st : Store) (a0 : a ≠ 0) (d0 : d ≠ 0) (ha : Sz s a) (hb : Sz s b) (hd : Sz s d) (hx : Sz t x) (hy : Sz t y) (hst : 2 * s + 2 * t + 1 ≤ 4000) :
    inO T (run (n + 6)) false (pD x y) (latD a b d) st = .ok (.bl (mmB a b d x y)) st := by
  have h := s_cont n st a0 d0 ha hb hd hx hy hst
  unfold latD at h ⊢
  have := inO_own (T := T) (c := run (n + 6)) (neg := false) (i := 3) (f := 82) (ds := [rD a, rD b, rD d]) st rfl h
  rw [this]
  cases mmB a b d x y <;> rfl
theorem s_leG (n : Nat) {a b d a' b' d' : Rat} {s t : Nat} (st : Store) (a0 : a ≠ 0) (d0 : d ≠ 0) (ha : Sz s a) (hb : Sz s b) (hd : Sz s d) (hx : Sz t a') (hy : Sz t b') (hz : Sz t d') (ht : 0 < t) (hst : 2 * s + 2 * t + 1 ≤ 4000) :
    run (n + 7) 84 [latD a' b' d', latD a b d] st = .ok (.bl (mmB a b d a' b' && mmB a b d 0 d')) st := by
  have c1 : ∀ st, inO T (run (n + 6)) false (pD a' b') (latD a b d) st = .ok (.bl (mmB a b d a' b')) st := fun st => in_cont n st a0 d0 ha hb hd hx hy hst
  have c2 : ∀ st, inO T (run (n + 6)) false (pD 0 d') (latD a b d) st = .ok (.bl (mmB a b d 0 d')) st := fun st => in_cont n st a0 d0 ha hb hd (Sz.zero t ht) hz hst
  have rr : ∀ st, run (n + 6) 78 [latD a' b' d'] st = .ok (.tup [pD a' b', pD 0 d']) st := fun st => s_lrows (n + 1) a' b' d' st
  rw [run_84]
  refine fnD_rt0 ?_ (by simp)
  cases h : mmB a b d a' b' <;> simp [B_84, startE, iso_latD, hm_rows, rr, c1, c2, h]
theorem s_value (n : Nat) (x y z w : Rat) (st : Store) (hx : Sz 1900 x) (hy : Sz 1900 y) (hz : Sz 1900 z) (hw : Sz 1900 w) : run (n + 4) 6 [fD x y, pD z w] st = .ok (rD (x * z + y * w)) st := by
  have k : ∀ {q : Rat}, Sz 1900 q → Sz 4000 q := fun h => h.mono (by decide)
  have m1 := (hx.mul hz).mono (b' := 4000) (by decide)
  have m2 := (hy.mul hw).mono (b' := 4000) (by decide)
  rw [run_6]
  refine fnD_rt0 ?_ (noRef_rD _ _)
  simp [B_6, startE, fd_fx, fd_fy, fd_x, fd_y, b_mul, b_add, k, hx, hy, hz, hw, m1, m2]
theorem s_fcall (n : Nat) (x y z w : Rat) (st : Store) (hx : Sz 1900 x) (hy : Sz 1900 y) (hz : Sz 1900 z) (hw : Sz 1900 w) : run (n + 5) 69 [fD x y, pD z w] st = .ok (rD (x * z + y * w)) st := by
  rw [run_69]
  refine fnD_rt0 ?_ (noRef_rD _ _)
  simp [B_69, startE, s_value, hx, hy, hz, hw]
theorem hm_form (k : Fn) (r : Fa) (ρ : Ev) (x y : Rat) (st : Store) : ciK T k r ρ (fD x y) st = (r ρ st).bind (kMe T k 69 (fD x y)) := ciK_obj ρ st T k r rfl
theorem s_prodP (n : Nat) (x y z w : Rat) (st : Store) (hx : Sz 1900 x) (hy : Sz 1900 y) (hz : Sz 1900 z) (hw : Sz 1900 w) : run (n + 4) 32 [pD x y, pD z w] st = .ok (rD (x * z + y * w)) st := by
  have k : ∀ {q : Rat}, Sz 1900 q → Sz 4000 q := fun h => h.mono (by decide)
  have m1 := (hx.mul hz).mono (b' := 4000) (by decide)
  have m2 := (hy.mul hw).mono (b' := 4000) (by decide)
  rw [run_32]
  refine fnD_rt0 ?_ (noRef_rD _ _)
  simp [B_32, startE, fd_x, fd_y, b_mul, b_add, k, hx, hy, hz, hw, m1, m2]
end G13
namespace G13
open PySem PySem.Spec PyProof.Rows L2 Gm
/-! ### the law's greatest common divisor -/
noncomputable def glB (c : Fn) : Fs := (sSeq (sIf (tOf (truD T c) (xBin (eqB T c false) (xVar 1) (xK (.int 0)))) sBk sNx) (sPar 0 1 (aCons (xVar 1) (aCons (xBin (binD T c .Mod) (xBi bInt (aCons (xVar 0) aNil)) (xVar 1)) aNil))))
theorem gl_brk (c : Fn) (a : Int) (o : Option D) (st : Store) : glB c [some (.int a), some (.int 0), o] st = .bk [some (.int a), some (.int 0), o] st := by
  simp [glB]
theorem gl_step (c : Fn) (a b : Nat) (hb : b ≠ 0) (o : Option D) (st : Store) : glB c [some (.int a), some (.int b), o] st = .nx [some (.int b), some (.int ((a % b : Nat) : Int)), o] st := by
  have h1 : ((b : Int) == 0) = false := by simpa using hb
  have h2 : (b : Int) ≠ 0 := by omega
  have h3 := fm_nat (k := a) (n := b)
  simp [-Int.natCast_emod, glB, h1, ib_mod _ h2, h3]
theorem two_mod {r b : Nat} (h0 : 0 < r) (h : r < b) : 2 * (b % r) < b := by
  have h1 := Nat.mod_lt b h0
  have h2 := Nat.div_add_mod b r
  have h3 : 1 ≤ b / r := Nat.div_pos (Nat.le_of_lt h) h0
  have h4 : r * 1 ≤ r * (b / r) := Nat.mul_le_mul_left r h3
  omega
theorem gl_loop (c : Fn) : ∀ (k a b : Nat) (ds : List D) (o2 : Option D) (st : Store), b < 2 ^ k → 2 * k + 1 ≤ ds.length → ∃ o2', forI (fun _ => True) (gNm 2) (glB c) ds [some (.int a), some (.int b), o2] st = .nx [some (.int ((Nat.gcd a b : Nat) : Int)), some (.int 0), o2'] st := by
  have zero : ∀ (a : Nat) (ds : List D) (o2 : Option D) (st : Store), 1 ≤ ds.length → ∃ o2', forI (fun _ => True) (gNm 2) (glB c) ds [some (.int a), some (.int ((0 : Nat) : Int)), o2] st = .nx [some (.int ((Nat.gcd a 0 : Nat) : Int)), some (.int 0), o2'] st := by
    intro a ds o2 st hl
    match ds, hl with
    | d :: ds, _ =>
      refine ⟨some d, ?_⟩
      rw [Nat.gcd_zero_right]
      exact forI_brk trivial rfl (gl_brk c a (some d) st)
  intro k
  induction k with
  | zero =>
    intro a b ds o2 st hb hl
    have : b = 0 := by simpa using hb
    subst this
    exact zero a ds o2 st (by omega)
  | succ k ih =>
    intro a b ds o2 st hb hl
    by_cases h0 : b = 0
    · subst h0
      exact zero a ds o2 st (by omega)
    · match ds, hl with
      | d :: d2 :: ds, hl =>
        by_cases h1 : a % b = 0
        · obtain ⟨o2', e⟩ := zero b (d2 :: ds) (some d) st (by simp)
          refine ⟨o2', ?_⟩
          rw [forI_step (ρ1 := [some (.int a), some (.int b), some d]) (st1 := st) trivial rfl (gl_step c a b h0 (some d) st), h1, e, Nat.gcd_comm a b, Nat.gcd_rec b a, h1, Nat.gcd_zero_right, Nat.gcd_zero_left]
        · have h2 := two_mod (Nat.pos_of_ne_zero h1) (Nat.mod_lt a (Nat.pos_of_ne_zero h0))
          rw [Nat.pow_succ] at hb
          obtain ⟨o2', e⟩ := ih (a % b) (b % (a % b)) ds (some d2) st (by omega) (by simp only [List.length_cons] at hl; omega)
          refine ⟨o2', ?_⟩
          rw [forI_step (ρ1 := [some (.int a), some (.int b), some d]) (st1 := st) trivial rfl (gl_step c a b h0 (some d) st), forI_step (ρ1 := [some (.int b), some (.int ((a % b : Nat) : Int)), some d2]) (st1 := st) trivial rfl (gl_step c b (a % b) h1 (some d2) st), e]
          have e1 : Nat.gcd (a % b) (b % (a % b)) = Nat.gcd a b := by
            rw [Nat.gcd_comm (a % b) (b % (a % b)), ← Nat.gcd_rec (a % b) b, ← Nat.gcd_rec b a, Nat.gcd_comm]
          rw [e1]
      | [d], hl => simp at hl
      | [], hl => simp at hl
theorem pow10_6 (st : Store) : intBin .Pow 10 6 st = .ok (.int 1000000) st := rfl
theorem abs_if (i : Int) : (if i < 0 then -i else i) = ((i.natAbs : Nat) : Int) := by
  split <;> omega
theorem rng6 (c : Fn) (ρ : Ev) (st : Store) : iRng (aCons (xBin (binD T c .Pow) (xK (.int 10)) (xK (.int 6))) aNil) ρ st = .ok (Gm.intsFrom 0 (1000000 : Int).toNat, fun _ => True) st :=
  rngI (by simp [pow10_6]) (by decide) (by decide)
theorem ga_run (i j : Int) (st : Store) : (sPar 0 1 (aCons (xBi bAbs (aCons (xVar 0) aNil)) (aCons (xBi bAbs (aCons (xVar 1) aNil)) aNil))) (startE 3 [.int i, .int j]) st = .nx [some (.int ((i.natAbs : Nat) : Int)), some (.int ((j.natAbs : Nat) : Int)), none] st := by
  simp [startE, abs_if]
theorem gl_eq (c : Fn) : B_16 c = sSeq (sPar 0 1 (aCons (xBi bAbs (aCons (xVar 0) aNil)) (aCons (xBi bAbs (aCons (xVar 1) aNil)) aNil))) (sSeq (sFor (iRng (aCons (xBin (binD T c .Pow) (xK (.int 10)) (xK (.int 6))) aNil)) (gNm 2) (glB c)) (sRet (xVar 0))) := rfl
theorem s_gcdL (n : Nat) (i j : Int) (st : Store) (hj : Nb 8000 j) : run (n + 1) 16 [.int i, .int j] st = .ok (.int (Int.gcd i j)) st := by
  obtain ⟨o2, e⟩ := gl_loop (run n) 8000 i.natAbs j.natAbs (Gm.intsFrom 0 (1000000 : Int).toNat) none st hj (by rw [ints_len]; decide)
  rw [run_16, gl_eq]
  refine fnD_rt0 (seq_step (ga_run i j st) (seq_step ((for_of (rng6 _ _ st)).trans e) rfl)) (by simp)
/-! ### the law's judges -/
theorem s_whole_is (n : Nat) (i : Int) (st : Store) : run (n + 1) 18 [.int i, .int i] st = .ok (.bl true) st := by
  rw [run_18]
  refine fnD_rt0 ?_ (by simp)
  simp [B_18, startE]
theorem ri_run (c : Fn) (q : Rat) (t b : Int) (st : Store) (h1 : c 18 [.int q.den, .int q.den] st = .ok (.bl true) st) (h2 : c 18 [.int q.num, .int q.num] st = .ok (.bl true) st)
    (h3 : c 16 [.int q.num, .int q.den] st = .ok (.int 1) st) (m1 : IntMulOk q.num b) (m2 : IntMulOk t q.den) (he : q.num * b = t * q.den) :
    B_19 c (startE 3 [rD q, .int t, .int b]) st = .rt (.bl true) st := by
  have hp : ¬ ((q.den : Int) < 1) := by have := q.den_pos; omega
  have he' : (q.num * b == t * (q.den : Int)) = true := by simpa using he
  simp [B_19, startE, iso_rD, fd_top, fd_bottom, h1, h2, h3, hp, ib_mul _ m1, ib_mul _ m2, he']
theorem s_ratio_is (n : Nat) (q : Rat) (t b : Int) (st : Store) (hb : b ≠ 0) (hq : Sz 8000 q) (nt : Nb 100000 t) (nb : Nb 100000 b) (h : q = (t : Rat) / b) : run (n + 2) 19 [rD q, .int t, .int b] st = .ok (.bl true) st := by
  have hg : Int.gcd q.num (q.den : Int) = 1 := q.reduced
  have h3 := s_gcdL n q.num (q.den : Int) st (by unfold Nb; exact hq.2)
  rw [hg] at h3
  have he : q.num * b = t * (q.den : Int) := by
    have e : q = (q.num : Rat) / ((q.den : Int) : Rat) := by rw [← Rat.divInt_eq_div, Rat.num_divInt_den]
    have d0 : ((q.den : Int) : Rat) ≠ 0 := fun z => Rat.den_ne' q (Rat.intCast_eq_zero_iff.mp z)
    have b0 : (b : Rat) ≠ 0 := fun z => hb (Rat.intCast_eq_zero_iff.mp z)
    rw [h] at e
    have h2 : (q.num : Rat) * b = t * ((q.den : Int) : Rat) := by
      rw [← h] at e
      have e2 := h
      rw [e] at e2
      generalize ((q.den : Int) : Rat) = u at *
      grind
    rw [← Rat.intCast_mul, ← Rat.intCast_mul] at h2
    exact Rat.intCast_inj.mp h2
  rw [run_19]
  exact fnD_rt0 (ri_run _ q t b st (s_whole_is n _ st) (s_whole_is n _ st) h3 (Nb.ok (b := 8000) hq.1 nb (by decide)) (nt.ok (b' := 8000) hq.2 (by decide)) he) (by simp)
/-! ### points and lattices that the law tells -/
theorem s_told (n : Nat) (i o : Int) (st : Store) (ho : 0 < o) (hb : Nb 4000 o) : ∃ d, run (n + 3) 20 [.int i, .int o] st = .ok d st ∧ IsN d ((i : Rat) / o) := by
  have m : IntMulOk 2 o := .of_left (by decide)
  have h2 : 2 * o ≠ 0 := by omega
  have hd : o ≠ 0 ∧ o.natAbs.log2 < 9000 := ⟨by omega, log2_lt (hb.mono (b' := 9000) (by decide)) (by decide)⟩
  have oq : (o : Rat) ≠ 0 := fun z => by
    have := Rat.intCast_eq_zero_iff.mp z
    omega
  by_cases hz : i.fmod (2 * o) = 0
  · refine ⟨.int (i.fdiv o), ?_, ?_⟩
    · rw [run_20]
      refine fnD_rt0 ?_ (by simp)
      have hz' : (i.fmod (2 * o) == 0) = true := by simpa using hz
      simp [B_20, startE, ib_mul _ m, ib_mod _ h2, hz', ib_fdiv _ hd]
    · have hdv : o ∣ i := Int.dvd_trans (Int.dvd_mul_left 2 o) (Int.dvd_of_fmod_eq_zero hz)
      obtain ⟨k, rfl⟩ := hdv
      rw [Int.mul_fdiv_cancel_left _ (by omega)]
      have : ((o * k : Int) : Rat) / o = (k : Rat) := by
        rw [Rat.intCast_mul]
        grind
      rw [this]
      exact IsN.int k
  · refine ⟨rD (Rat.divInt i o), ?_, ?_⟩
    · rw [run_20]
      refine fnD_rt0 ?_ (noRef_rD _ _)
      have hz' : (i.fmod (2 * o) == 0) = false := by simpa using hz
      have mk := s_mk n i o st (by omega) (hb.mono (by decide))
      have q : ∀ c : Fn, mkD T c 0 [.int i, .int o] st = .ok (rD (Rat.divInt i o)) st → B_20 c (startE 2 [.int i, .int o]) st = .rt (rD (Rat.divInt i o)) st := fun c e => by
        simp [B_20, startE, ib_mul _ m, ib_mod _ h2, hz', e]
      exact q _ mk
    · rw [Rat.divInt_eq_div]
      exact IsN.rD _
theorem s_lpoint (n : Nat) (p : Int × Int) (o : Int) (st : Store) (ho : 0 < o) (hb : Nb 4000 o) : run (n + 5) 21 [prD p, .int o] st = .ok (pD ((p.1 : Rat) / o) ((p.2 : Rat) / o)) st := by
  obtain ⟨d1, e1, i1⟩ := s_told (n + 1) p.1 o st ho hb
  obtain ⟨d2, e2, i2⟩ := s_told (n + 1) p.2 o st ho hb
  have mk := s_mkP n st i1 i2
  rw [run_21]
  have q : ∀ c : Fn, c 20 [.int p.1, .int o] st = .ok d1 st → c 20 [.int p.2, .int o] st = .ok d2 st → mkD T c 1 [d1, d2] st = .ok (pD ((p.1 : Rat) / o) ((p.2 : Rat) / o)) st → B_21 c (startE 2 [prD p, .int o]) st = .rt (pD ((p.1 : Rat) / o) ((p.2 : Rat) / o)) st := fun c e1 e2 e3 => by
    simp [B_21, startE, pr_0, pr_1, e1, e2, e3]
  exact fnD_rt0 (q _ e1 e2 mk) (noRef_pD _ _ _)
def ovp (o : Int) (p : Int × Int) : Rat × Rat := ((p.1 : Rat) / o, (p.2 : Rat) / o)
theorem det_over {o : Int} (ho : 0 < o) (p q : Int × Int) : (ovp o p).1 * (ovp o q).2 - (ovp o p).2 * (ovp o q).1 = ((p.1 * q.2 - p.2 * q.1 : Int) : Rat) / ((o : Rat) * o) := by
  have oq := cast_ne ho
  unfold ovp
  dsimp only
  rw [Rat.intCast_sub, Rat.intCast_mul, Rat.intCast_mul]
  grind
theorem s_llattice (n : Nat) (m : Nat) (p q : Int × Int) (o : Int) (s u : Nat) (st : Store) (hm : st[m]? = some (.lst [prD p, prD q])) (r : Rs s p q) (ho : 0 < o) (hb : o.natAbs ≤ 2 ^ u) (hs : s ≤ 3990) (hu : u < 3990) :
    ∃ a b d, run (n + 6) 26 [.ref m, .int o] st = .ok (latD a b d) st ∧ La [ovp o p, ovp o q] a b d ∧ LZ u s a b d := by
  have nb : Nb 3990 o := Nat.lt_of_le_of_lt hb (Nat.pow_lt_pow_right (by decide) hu)
  obtain ⟨a, b, d, e, L, Z⟩ := s_mkL n s hs (.ref st.length) [ovp o p, ovp o q] (st ++ [.lst [pDp (ovp o p), pDp (ovp o q)]]) (by unfold seqOf; simp only [at_end]; rfl) (by simp) o ho nb (fun w hw => by
      simp only [List.mem_cons, List.not_mem_nil, or_false] at hw
      rcases hw with rfl | rfl
      · exact ⟨p.1, p.2, rfl, rfl, r.p1, r.p2⟩
      · exact ⟨q.1, q.2, rfl, rfl, r.q1, r.q2⟩) ⟨ovp o p, by simp, ovp o q, by simp, by
        rw [det_over ho]
        intro z
        have oq := cast_ne ho
        have hdq : ((p.1 * q.2 - p.2 * q.1 : Int) : Rat) ≠ 0 := fun z => r.det (Rat.intCast_eq_zero_iff.mp z)
        generalize ((p.1 * q.2 - p.2 * q.1 : Int) : Rat) = w at *
        have : w = 0 := by
          have : w = w / ((o : Rat) * o) * (o * o) := by grind
          rw [this, z]; grind
        exact hdq this⟩
  refine ⟨a, b, d, ?_, L, o, ho, hb, Z⟩
  have pt : ∀ (p : Int × Int) st, run (n + 5) 21 [prD p, .int o] st = .ok (pDp (ovp o p)) st := fun p st => s_lpoint n p o st ho (nb.mono (by decide))
  rw [run_26]
  have lc : ∀ c : Fn, (∀ (p : Int × Int) st, c 21 [prD p, .int o] st = .ok (pDp (ovp o p)) st) → xLc (iSeq (xVar 0)) (gNm 2) tTrue (xCall T c 21 (aCons (xVar 2) (aCons (xVar 1) aNil))) [2] (startE 3 [.ref m, .int o]) st = .ok (.ref st.length) (st ++ [.lst [pDp (ovp o p), pDp (ovp o q)]]) := fun c pt => by
    obtain ⟨chk, hi, hc⟩ := iSeq_of (f := xVar 0) (ρ := startE 3 [.ref m, .int o]) (st := st) (d := .ref m) (ds := [prD p, prD q]) rfl (by unfold seqOf; simp [hm])
    exact lc2g (s1 := st) (s2 := st) (e1 := []) (e2 := []) hi (hc _) (by simp [startE, wipeE, pt]) rfl (hc _) (by simp [startE, wipeE, pt]) rfl (hc _)
  have q : ∀ c : Fn, (∀ (p : Int × Int) st, c 21 [prD p, .int o] st = .ok (pDp (ovp o p)) st) → mkD T c 3 [.ref st.length] (st ++ [.lst [pDp (ovp o p), pDp (ovp o q)]]) = .ok (latD a b d) (st ++ [.lst [pDp (ovp o p), pDp (ovp o q)]]) → B_26 c (startE 3 [.ref m, .int o]) st = .rt (latD a b d) (st ++ [.lst [pDp (ovp o p), pDp (ovp o q)]]) := fun c pt e => by
    have := lc c pt
    simp only [B_26, ap_sRet, ap_xMk, ap_aCons, this, Res.bind_ok, ap_aNil, kC1_, kC2_, e, Res.toS_ok, kRt_]
  exact fnD_rtg (q _ pt e) (noRef_latD _ _ _ _)
end G13
namespace G13
open PySem PySem.Spec PyProof.Rows L2 Gm
/-! ### going down the rows -/
noncomputable def euB (c : Fn) : Fs := (sSeq (sIf (tOf (truD T c) (xBin (eqB T c false) (xBin subD (xVar 10) (xK (.int 0))) (xK (.int 0)))) sBk sNx) (sSeq (sAsg (xBin (binD T c .FloorDiv) (xBin subD (xVar 9) (xK (.int 0))) (xBin subD (xVar 10) (xK (.int 0)))) (gNm 11)) (sPar 9 10 (aCons (xVar 10) (aCons (xTup (aCons (xBin (binD T c .Sub) (xBin subD (xVar 9) (xK (.int 0))) (xBin (binD T c .Mult) (xVar 11) (xBin subD (xVar 10) (xK (.int 0))))) (aCons (xBin (binD T c .Sub) (xBin subD (xVar 9) (xK (.int 1))) (xBin (binD T c .Mult) (xVar 11) (xBin subD (xVar 10) (xK (.int 1))))) aNil))) aNil)))))
section
variable (c : Fn) (o0 o1 o2 o3 o4 o5 o6 o7 o8 o11 : Option D) (st : Store)
theorem eu_brk (u v : Int × Int) (h : v.1 = 0) : euB c [o0, o1, o2, o3, o4, o5, o6, o7, o8, some (prD u), some (prD v), o11] st = .bk [o0, o1, o2, o3, o4, o5, o6, o7, o8, some (prD u), some (prD v), o11] st := by
  have h' : (v.1 == 0) = true := by simpa using h
  simp [euB, pr_0, h']
theorem eu_step (u v : Int × Int) (t : Int) (h : v.1 ≠ 0) (hl : v.1.natAbs.log2 < 9000) (ht : u.1.fdiv v.1 = t) (m1 : IntMulOk t v.1) (m2 : IntMulOk t v.2) : euB c [o0, o1, o2, o3, o4, o5, o6, o7, o8, some (prD u), some (prD v), o11] st = .nx [o0, o1, o2, o3, o4, o5, o6, o7, o8, some (prD v), some (prD (u.1 - t * v.1, u.2 - t * v.2)), some (.int t)] st := by
  have h' : (v.1 == 0) = false := by simpa using h
  simp [euB, pr_0, pr_1, h', ib_fdiv _ ⟨h, hl⟩, ht, ib_mul _ m1, ib_mul _ m2]
  rfl
end
/-- w is made of u and v -/
def Mk2 (u v w : Int × Int) : Prop := ∃ m n : Int, w.1 = m * u.1 + n * v.1 ∧ w.2 = m * u.2 + n * v.2
theorem Mk2.left (u v : Int × Int) : Mk2 u v u := ⟨1, 0, by omega, by omega⟩
theorem Mk2.right (u v : Int × Int) : Mk2 u v v := ⟨0, 1, by omega, by omega⟩
theorem Mk2.lin {u v w z : Int × Int} (h : Mk2 u v w) (g : Mk2 u v z) (i j : Int) : Mk2 u v (i * w.1 + j * z.1, i * w.2 + j * z.2) := by
  obtain ⟨m, n, e1, e2⟩ := h
  obtain ⟨k, l, e3, e4⟩ := g
  refine ⟨i * m + j * k, i * n + j * l, ?_, ?_⟩
  · dsimp only; rw [e1, e3]; grind
  · dsimp only; rw [e2, e4]; grind
theorem Mk2.trans {u v a b w : Int × Int} (h : Mk2 a b w) (ha : Mk2 u v a) (hb : Mk2 u v b) : Mk2 u v w := by
  obtain ⟨m, n, e1, e2⟩ := h
  have := Mk2.lin ha hb m n
  rw [← e1, ← e2] at this
  exact this
theorem sg_fdiv {σ : Int} (hσ : σ = 1 ∨ σ = -1) (U V : Nat) : (σ * (U : Int)).fdiv (σ * (V : Int)) = ((U / V : Nat) : Int) := by
  rcases hσ with rfl | rfl
  · rw [Int.one_mul, Int.one_mul, fdiv_nat]
  · rw [Int.neg_one_mul, Int.neg_one_mul, fdiv_same]
theorem sg_abs {σ : Int} (hσ : σ = 1 ∨ σ = -1) (U : Nat) : (σ * (U : Int)).natAbs = U := by
  rcases hσ with rfl | rfl <;> omega
theorem log_lt {n k : Nat} (h : n < 2 ^ k) (hk : k ≤ 9000) (k0 : 0 < k) : n.log2 < 9000 := Nat.lt_of_lt_of_le (log2_lt h k0) hk
theorem eu_loopA (c : Fn) (o0 o1 o2 o4 o5 o6 o7 o8 : Option D) (σ : Int) (hσ : σ = 1 ∨ σ = -1) : ∀ (k U V e : Nat) (a b : Int) (ds : List D) (o3 o11 : Option D) (st : Store), V < 2 ^ k → U < 2 ^ 200 → V < 2 ^ 200 → a.natAbs ≤ 2 ^ e → b.natAbs ≤ 2 ^ e → e + 202 * (2 * k + 1) ≤ 400000 → 2 * k + 1 ≤ ds.length →
    ∃ o3' o11' w z, forI (fun _ => True) (gNm 3) (euB c) ds [o0, o1, o2, o3, o4, o5, o6, o7, o8, some (prD (σ * (U : Int), a)), some (prD (σ * (V : Int), b)), o11] st = .nx [o0, o1, o2, o3', o4, o5, o6, o7, o8, some (prD w), some (prD z), o11'] st ∧ w.1 = σ * ((Nat.gcd U V : Nat) : Int) ∧ Mk2 (σ * (U : Int), a) (σ * (V : Int), b) w := by
  have zero : ∀ (U e : Nat) (a b : Int) (ds : List D) (o3 o11 : Option D) (st : Store), 1 ≤ ds.length →
    ∃ o3' o11' w z, forI (fun _ => True) (gNm 3) (euB c) ds [o0, o1, o2, o3, o4, o5, o6, o7, o8, some (prD (σ * (U : Int), a)), some (prD (σ * ((0 : Nat) : Int), b)), o11] st = .nx [o0, o1, o2, o3', o4, o5, o6, o7, o8, some (prD w), some (prD z), o11'] st ∧ w.1 = σ * ((Nat.gcd U 0 : Nat) : Int) ∧ Mk2 (σ * (U : Int), a) (σ * ((0 : Nat) : Int), b) w := by
    intro U e a b ds o3 o11 st hl
    match ds, hl with
    | d :: ds, _ =>
      refine ⟨some d, o11, _, _, forI_brk trivial rfl (eu_brk c o0 o1 o2 (some d) o4 o5 o6 o7 o8 o11 st _ _ (by simp)), ?_, Mk2.left _ _⟩
      rw [Nat.gcd_zero_right]
  -- one step down
  have down : ∀ (U V e : Nat) (a b : Int) (o3 o11 : Option D) (st : Store), V ≠ 0 → U < 2 ^ 200 → V < 2 ^ 200 → a.natAbs ≤ 2 ^ e → b.natAbs ≤ 2 ^ e → e ≤ 400000 →
    euB c [o0, o1, o2, o3, o4, o5, o6, o7, o8, some (prD (σ * (U : Int), a)), some (prD (σ * (V : Int), b)), o11] st = .nx [o0, o1, o2, o3, o4, o5, o6, o7, o8, some (prD (σ * (V : Int), b)), some (prD (σ * ((U % V : Nat) : Int), a - ((U / V : Nat) : Int) * b)), some (.int ((U / V : Nat) : Int))] st ∧ (a - ((U / V : Nat) : Int) * b).natAbs ≤ 2 ^ (e + 201) := by
    intro U V e a b o3 o11 st hV hU hV2 ha hb he
    have ht : (U / V : Nat) < 2 ^ 200 := Nat.lt_of_le_of_lt (Nat.div_le_self U V) hU
    have nt : Nb 200 ((U / V : Nat) : Int) := by unfold Nb; exact ht
    have nv : Nb 200 (σ * (V : Int)) := by unfold Nb; rw [sg_abs hσ]; exact hV2
    have nb : Nb (e + 1) b := Nat.lt_of_le_of_lt hb (Nat.pow_lt_pow_right (by decide) (by omega))
    have hs := eu_step c o0 o1 o2 o3 o4 o5 o6 o7 o8 o11 st (σ * (U : Int), a) (σ * (V : Int), b) ((U / V : Nat) : Int) (fun z => by
        have := sg_abs hσ V
        dsimp only at z
        rw [z] at this
        exact hV this.symm) (by dsimp only; rw [sg_abs hσ]; exact log_lt hV2 (by decide) (by decide)) (sg_fdiv hσ U V) (nt.ok nv (by decide)) (nt.ok nb (by omega))
    refine ⟨?_, ?_⟩
    · rw [hs]
      dsimp only
      have e1 : σ * (U : Int) - ((U / V : Nat) : Int) * (σ * (V : Int)) = σ * ((U % V : Nat) : Int) := by
        have := Nat.div_add_mod U V
        have h2 : (U : Int) = (V : Int) * ((U / V : Nat) : Int) + ((U % V : Nat) : Int) := by exact_mod_cast this.symm
        generalize ((U / V : Nat) : Int) = x at *
        generalize ((U % V : Nat) : Int) = y at *
        rw [h2]
        grind
      rw [e1]
    · have h1 : (((U / V : Nat) : Int) * b).natAbs ≤ 2 ^ (200 + e) := mul_abs (by exact Nat.le_of_lt ht) hb
      have h2 := sub_abs (le_abs ha (show e ≤ 200 + e by omega)) h1
      exact le_abs h2 (by omega)
  intro k
  induction k with
  | zero =>
    intro U V e a b ds o3 o11 st hV _ _ _ _ _ hl
    have : V = 0 := by simpa using hV
    subst this
    exact zero U e a b ds o3 o11 st (by omega)
  | succ k ih =>
    intro U V e a b ds o3 o11 st hV hU hV2 ha hb he hl
    by_cases h0 : V = 0
    · subst h0
      exact zero U e a b ds o3 o11 st (by omega)
    · match ds, hl with
      | [d], hl => simp at hl
      | [], hl => simp at hl
      | d :: d2 :: ds, hl =>
        obtain ⟨s1, n1⟩ := down U V e a b (some d) o11 st h0 hU hV2 ha hb (by omega)
        have hR : U % V < V := Nat.mod_lt U (Nat.pos_of_ne_zero h0)
        have m1 : Mk2 (σ * (U : Int), a) (σ * (V : Int), b) (σ * ((U % V : Nat) : Int), a - ((U / V : Nat) : Int) * b) := by
          have := Mk2.lin (Mk2.left (σ * (U : Int), a) (σ * (V : Int), b)) (Mk2.right (σ * (U : Int), a) (σ * (V : Int), b)) 1 (-((U / V : Nat) : Int))
          dsimp only at this
          have e1 : 1 * (σ * (U : Int)) + -((U / V : Nat) : Int) * (σ * (V : Int)) = σ * ((U % V : Nat) : Int) := by
            have := Nat.div_add_mod U V
            have h2 : (U : Int) = (V : Int) * ((U / V : Nat) : Int) + ((U % V : Nat) : Int) := by exact_mod_cast this.symm
            generalize ((U / V : Nat) : Int) = x at *
            generalize ((U % V : Nat) : Int) = y at *
            rw [h2]
            grind
          have e2 : 1 * a + -((U / V : Nat) : Int) * b = a - ((U / V : Nat) : Int) * b := by grind
          rw [e1, e2] at this
          exact this
        have b1 : b.natAbs ≤ 2 ^ (e + 201) := le_abs hb (by omega)
        by_cases h1 : U % V = 0
        · obtain ⟨o3', o11', w, z, e1, e2, e3⟩ := zero V e b (a - ((U / V : Nat) : Int) * b) (d2 :: ds) (some d) (some (.int ((U / V : Nat) : Int))) st (by simp)
          refine ⟨o3', o11', w, z, ?_, ?_, ?_⟩
          · rw [forI_step (st1 := st) trivial rfl s1, h1]
            exact e1
          · rw [e2, Nat.gcd_zero_right, Nat.gcd_comm U V, Nat.gcd_rec V U, h1, Nat.gcd_zero_left]
          · rw [h1] at m1
            exact e3.trans (Mk2.right _ _) m1
        · obtain ⟨s2, n2⟩ := down V (U % V) (e + 201) b (a - ((U / V : Nat) : Int) * b) (some d2) (some (.int ((U / V : Nat) : Int))) st h1 hV2 (by omega) b1 n1 (by omega)
          have h2 := two_mod (Nat.pos_of_ne_zero h1) hR
          rw [Nat.pow_succ] at hV
          have m2 : Mk2 (σ * (U : Int), a) (σ * (V : Int), b) (σ * ((V % (U % V) : Nat) : Int), b - ((V / (U % V) : Nat) : Int) * (a - ((U / V : Nat) : Int) * b)) := by
            have := Mk2.lin (Mk2.right (σ * (U : Int), a) (σ * (V : Int), b)) m1 1 (-((V / (U % V) : Nat) : Int))
            dsimp only at this
            have e1 : 1 * (σ * (V : Int)) + -((V / (U % V) : Nat) : Int) * (σ * ((U % V : Nat) : Int)) = σ * ((V % (U % V) : Nat) : Int) := by
              have := Nat.div_add_mod V (U % V)
              have h2 : (V : Int) = ((U % V : Nat) : Int) * ((V / (U % V) : Nat) : Int) + ((V % (U % V) : Nat) : Int) := by exact_mod_cast this.symm
              generalize ((V / (U % V) : Nat) : Int) = x at *
              generalize ((V % (U % V) : Nat) : Int) = y at *
              generalize ((U % V : Nat) : Int) = r at *
              rw [h2]
              grind
            have e2 : 1 * b + -((V / (U % V) : Nat) : Int) * (a - ((U / V : Nat) : Int) * b) = b - ((V / (U % V) : Nat) : Int) * (a - ((U / V : Nat) : Int) * b) := by grind
            rw [e1, e2] at this
            exact this
          obtain ⟨o3', o11', w, z, e1, e2, e3⟩ := ih (U % V) (V % (U % V)) (e + 402) (a - ((U / V : Nat) : Int) * b) (b - ((V / (U % V) : Nat) : Int) * (a - ((U / V : Nat) : Int) * b)) ds (some d2) (some (.int ((V / (U % V) : Nat) : Int))) st (by omega) (by omega) (by omega) (le_abs n1 (by omega)) (le_abs n2 (by omega)) (by omega) (by simp only [List.length_cons] at hl; omega)
          refine ⟨o3', o11', w, z, ?_, ?_, e3.trans m1 m2⟩
          · rw [forI_step (st1 := st) trivial rfl s1, forI_step (st1 := st) trivial rfl s2]
            exact e1
          · have e4 : Nat.gcd (U % V) (V % (U % V)) = Nat.gcd U V := by
              rw [Nat.gcd_comm (U % V) (V % (U % V)), ← Nat.gcd_rec (U % V) V, ← Nat.gcd_rec V U, Nat.gcd_comm]
            rw [e2, e4]
end G13
namespace G13
open PySem PySem.Spec PyProof.Rows L2 Gm
theorem fmod_sg {u v : Int} (hv : v ≠ 0) : ∃ σ : Int, (σ = 1 ∨ σ = -1) ∧ v = σ * ((v.natAbs : Nat) : Int) ∧ u.fmod v = σ * (((u.fmod v).natAbs : Nat) : Int) ∧ (u.fmod v).natAbs < v.natAbs := by
  rcases Int.lt_or_gt_of_ne hv with h | h
  · have e := Int.neg_fmod_neg (-u) (-v)
    rw [Int.neg_neg, Int.neg_neg] at e
    have h1 := fmod_nn (-u) (show 0 < -v by omega)
    have h2 := fmod_lt (-u) (show 0 < -v by omega)
    rw [e]
    exact ⟨-1, .inr rfl, by omega, by omega, by omega⟩
  · have h1 := fmod_nn u h
    have h2 := fmod_lt u h
    exact ⟨1, .inl rfl, by omega, by omega, by omega⟩
theorem gcd_fmod (u v : Int) : Nat.gcd v.natAbs (u.fmod v).natAbs = Int.gcd u v := by
  have hd : u.fmod v = u - v * u.fdiv v := Int.fmod_def u v
  apply Nat.dvd_antisymm
  · have h1 : ((Int.gcd v (u.fmod v) : Nat) : Int) ∣ v := Int.gcd_dvd_left _ _
    have h2 : ((Int.gcd v (u.fmod v) : Nat) : Int) ∣ u.fmod v := Int.gcd_dvd_right _ _
    have h3 : ((Int.gcd v (u.fmod v) : Nat) : Int) ∣ u := by
      have h4 := Int.dvd_add h2 (Int.dvd_mul_of_dvd_left (c := u.fdiv v) h1)
      rw [show u.fmod v + v * u.fdiv v = u by omega] at h4
      exact h4
    exact Int.natCast_dvd_natCast.mp (Int.dvd_coe_gcd h3 h1)
  · have h1 : ((Int.gcd u v : Nat) : Int) ∣ v := Int.gcd_dvd_right _ _
    have h2 : ((Int.gcd u v : Nat) : Int) ∣ u := Int.gcd_dvd_left _ _
    have h3 : ((Int.gcd u v : Nat) : Int) ∣ u.fmod v := by
      rw [hd]
      exact Int.dvd_sub h2 (Int.dvd_mul_of_dvd_left h1)
    exact Int.natCast_dvd_natCast.mp (show _ ∣ ((Int.gcd v (u.fmod v) : Nat) : Int) from Int.dvd_coe_gcd h1 h3)
theorem eu_loopB (c : Fn) (o0 o1 o2 o3 o4 o5 o6 o7 o8 o11 : Option D) (u v : Int × Int) (e : Nat) (ds : List D) (st : Store) (hu : u.1.natAbs < 2 ^ 200) (hv : v.1.natAbs < 2 ^ 200) (ha : u.2.natAbs ≤ 2 ^ e) (hb : v.2.natAbs ≤ 2 ^ e) (he : e ≤ 250) (hl : 402 ≤ ds.length) :
    ∃ o3' o11' w z, forI (fun _ => True) (gNm 3) (euB c) ds [o0, o1, o2, o3, o4, o5, o6, o7, o8, some (prD u), some (prD v), o11] st = .nx [o0, o1, o2, o3', o4, o5, o6, o7, o8, some (prD w), some (prD z), o11'] st ∧ w.1.natAbs = Int.gcd u.1 v.1 ∧ Mk2 u v w := by
  match ds, hl with
  | [], hl => simp at hl
  | d :: ds, hl =>
    by_cases h0 : v.1 = 0
    · refine ⟨some d, o11, _, _, forI_brk trivial rfl (eu_brk c o0 o1 o2 (some d) o4 o5 o6 o7 o8 o11 st u v h0), ?_, Mk2.left _ _⟩
      rw [h0, Int.gcd_zero_right]
    · obtain ⟨σ, hσ, ev, er, hr⟩ := fmod_sg (u := u.1) h0
      have ht : (u.1.fdiv v.1).natAbs ≤ 2 ^ 200 + 1 := by
        have := Int.fmod_add_mul_fdiv u.1 v.1
        have h1 : (v.1 * u.1.fdiv v.1).natAbs ≤ u.1.natAbs + v.1.natAbs := by omega
        rw [Int.natAbs_mul] at h1
        have h2 : 1 ≤ v.1.natAbs := by omega
        generalize (u.1.fdiv v.1).natAbs = T at *
        generalize v.1.natAbs = V at *
        rcases Nat.lt_or_ge T (2 ^ 200 + 2) with h3 | h3
        · omega
        · exfalso
          have h4 : V * (2 ^ 200 + 2) ≤ V * T := Nat.mul_le_mul_left V h3
          have h5 : V * (2 ^ 200 + 2) = V * 2 ^ 200 + V * 2 := by rw [Nat.mul_add]
          have h6 : 1 * 2 ^ 200 ≤ V * 2 ^ 200 := Nat.mul_le_mul_right _ h2
          omega
      have ht' : (u.1.fdiv v.1).natAbs ≤ 2 ^ 201 := Nat.le_trans ht (by decide)
      have nt : Nb 202 (u.1.fdiv v.1) := Nat.lt_of_le_of_lt ht' (by decide)
      have nb : Nb 251 v.2 := Nat.lt_of_le_of_lt hb (Nat.pow_lt_pow_right (by decide) (by omega))
      have hs := eu_step c o0 o1 o2 (some d) o4 o5 o6 o7 o8 o11 st u v (u.1.fdiv v.1) h0 (log_lt hv (by decide) (by decide)) rfl (nt.ok (b' := 200) hv (by decide)) (nt.ok nb (by decide))
      have e1 : u.1 - u.1.fdiv v.1 * v.1 = u.1.fmod v.1 := by
        have := Int.fmod_def u.1 v.1
        rw [Int.mul_comm] at this
        omega
      rw [e1] at hs
      have hn : (u.2 - u.1.fdiv v.1 * v.2).natAbs ≤ 2 ^ (e + 202) := by
        have h1 := mul_abs ht' hb
        exact le_abs (sub_abs (le_abs ha (show e ≤ 201 + e by omega)) h1) (by omega)
      obtain ⟨o3', o11', w, z, e2, e3, e4⟩ := eu_loopA c o0 o1 o2 o4 o5 o6 o7 o8 σ hσ 200 v.1.natAbs (u.1.fmod v.1).natAbs (e + 202) v.2 (u.2 - u.1.fdiv v.1 * v.2) ds (some d) (some (.int (u.1.fdiv v.1))) st (Nat.lt_trans hr hv) hv (Nat.lt_trans hr hv) (le_abs hb (by omega)) hn (by omega) (by simp only [List.length_cons] at hl; omega)
      rw [← ev, ← er] at e2 e4
      refine ⟨o3', o11', w, z, ?_, ?_, ?_⟩
      · rw [forI_step (st1 := st) trivial rfl hs]
        exact e2
      · rw [e3, sg_abs hσ, gcd_fmod]
      · refine e4.trans (Mk2.right _ _) ?_
        have := Mk2.lin (Mk2.left u v) (Mk2.right u v) 1 (-(u.1.fdiv v.1))
        have q1 : 1 * u.1 + -(u.1.fdiv v.1) * v.1 = u.1.fmod v.1 := by rw [← e1]; grind
        have q2 : 1 * u.2 + -(u.1.fdiv v.1) * v.2 = u.2 - u.1.fdiv v.1 * v.2 := by grind
        rw [q1, q2] at this
        exact this
/-! ### one row more -/
noncomputable def pqB (c : Fn) : Fs := (sSeq (sPar 9 10 (aCons (xTup (aCons (xVar 6) (aCons (xVar 7) aNil))) (aCons (xVar 8) aNil))) (sSeq (sFor (iRng (aCons (xBin (binD T c .Pow) (xK (.int 10)) (xK (.int 6))) aNil)) (gNm 3) (euB c)) (sPar 6 7 (aCons (xBin subD (xVar 9) (xK (.int 0))) (aCons (xBin (binD T c .Mod) (xBi bInt (aCons (xBin subD (xVar 9) (xK (.int 1))) aNil)) (xVar 5)) aNil)))))
theorem pq_a (o0 o1 o2 o3 o4 o5 o9 o10 o11 : Option D) (x y : Int) (p : Int × Int) (st : Store) : (sPar 9 10 (aCons (xTup (aCons (xVar 6) (aCons (xVar 7) aNil))) (aCons (xVar 8) aNil))) [o0, o1, o2, o3, o4, o5, some (.int x), some (.int y), some (prD p), o9, o10, o11] st = .nx [o0, o1, o2, o3, o4, o5, some (.int x), some (.int y), some (prD p), some (prD (x, y)), some (prD p), o11] st := by
  simp
  rfl
theorem pq_c (c : Fn) (o0 o1 o2 o3 o4 o6 o7 o8 o10 o11 : Option D) (t : Int) (w : Int × Int) (ht : t ≠ 0) (st : Store) : (sPar 6 7 (aCons (xBin subD (xVar 9) (xK (.int 0))) (aCons (xBin (binD T c .Mod) (xBi bInt (aCons (xBin subD (xVar 9) (xK (.int 1))) aNil)) (xVar 5)) aNil))) [o0, o1, o2, o3, o4, some (.int t), o6, o7, o8, some (prD w), o10, o11] st = .nx [o0, o1, o2, o3, o4, some (.int t), some (.int w.1), some (.int (w.2.fmod t)), o8, some (prD w), o10, o11] st := by
  simp [pr_0, pr_1, ib_mod _ ht]
theorem pq_run (c : Fn) (o0 o1 o2 o3 o4 o9 o10 o11 : Option D) (t x y : Int) (p : Int × Int) (e : Nat) (st : Store) (ht : t ≠ 0) (hu : x.natAbs < 2 ^ 200) (hv : p.1.natAbs < 2 ^ 200) (ha : y.natAbs ≤ 2 ^ e) (hb : p.2.natAbs ≤ 2 ^ e) (he : e ≤ 250) :
    ∃ o3' o10' o11' w, pqB c [o0, o1, o2, o3, o4, some (.int t), some (.int x), some (.int y), some (prD p), o9, o10, o11] st = .nx [o0, o1, o2, o3', o4, some (.int t), some (.int w.1), some (.int (w.2.fmod t)), some (prD p), some (prD w), o10', o11'] st ∧ w.1.natAbs = Int.gcd x p.1 ∧ Mk2 (x, y) p w := by
  obtain ⟨o3', o11', w, z, e1, e2, e3⟩ := eu_loopB c o0 o1 o2 o3 o4 (some (.int t)) (some (.int x)) (some (.int y)) (some (prD p)) o11 (x, y) p e (Gm.intsFrom 0 (1000000 : Int).toNat) st hu hv ha hb he (by rw [ints_len]; decide)
  exact ⟨o3', some (prD z), o11', w, seq_step (pq_a ..) (seq_step ((for_of (rng6 c _ st)).trans e1) (pq_c c _ _ _ _ _ _ _ _ _ _ t w ht st)), e2, e3⟩
/-! ### the two greatest divisors -/
theorem s_areaL (n : Nat) (p q : Int × Int) (st : Store) (m1 : IntMulOk p.1 q.2) (m2 : IntMulOk p.2 q.1) : run (n + 1) 22 [prD p, prD q] st = .ok (.int (p.1 * q.2 - p.2 * q.1)) st := by
  rw [run_22]
  refine fnD_rt0 ?_ (by simp)
  simp [B_22, startE, pr_0, pr_1, ib_mul _ m1, ib_mul _ m2]
noncomputable def gwB (c : Fn) : Fs := (sSeq (sAsg (xCall T c 16 (aCons (xVar 1) (aCons (xBin subD (xBin subD (xVar 0) (xVar 3)) (xK (.int 0))) aNil))) (gNm 1)) (sFor (iRng (aCons (xVar 3) aNil)) (gNm 4) (sAsg (xCall T c 16 (aCons (xVar 2) (aCons (xCall T c 22 (aCons (xBin subD (xVar 0) (xVar 3)) (aCons (xBin subD (xVar 0) (xVar 4)) aNil))) aNil))) (gNm 2))))
theorem gw_run (c : Fn) (m : Nat) (p q : Int × Int) (st : Store) (g1 g2 ar W : Int) (hm : st[m]? = some (.lst [prD p, prD q])) (o4 o5 o6 o7 o8 o9 o10 o11 : Option D)
    (h1 : c 16 [.int 0, .int p.1] st = .ok (.int g1) st) (h2 : c 16 [.int g1, .int q.1] st = .ok (.int g2) st) (h3 : c 22 [prD q, prD p] st = .ok (.int ar) st) (h4 : c 16 [.int 0, .int ar] st = .ok (.int W) st) :
    forI (fun _ => True) (gNm 3) (gwB c) [.int 0, .int 1] [some (.ref m), some (.int 0), some (.int 0), none, o4, o5, o6, o7, o8, o9, o10, o11] st = .nx [some (.ref m), some (.int g2), some (.int W), some (.int 1), some (.int 0), o5, o6, o7, o8, o9, o10, o11] st := by
  have s0 : subD (.ref m) (.int 0) st = .ok (prD p) st := by rw [subR hm]; rfl
  have s1 : subD (.ref m) (.int 1) st = .ok (prD q) st := by rw [subR hm]; rfl
  have r0 : ∀ ρ : Ev, ρ[3]? = some (some (.int 0)) → iRng (aCons (xVar 3) aNil) ρ st = .ok ([], fun _ => True) st := fun ρ h => rngI (b := 0) (by simp [h]) (by decide) (by decide)
  have r1 : ∀ ρ : Ev, ρ[3]? = some (some (.int 1)) → iRng (aCons (xVar 3) aNil) ρ st = .ok ([.int 0], fun _ => True) st := fun ρ h => rngI (b := 1) (by simp [h]) (by decide) (by decide)
  have b0 : gwB c [some (.ref m), some (.int 0), some (.int 0), some (.int 0), o4, o5, o6, o7, o8, o9, o10, o11] st = .nx [some (.ref m), some (.int g1), some (.int 0), some (.int 0), o4, o5, o6, o7, o8, o9, o10, o11] st := by
    refine seq_step (ρ' := [some (.ref m), some (.int g1), some (.int 0), some (.int 0), o4, o5, o6, o7, o8, o9, o10, o11]) (st' := st) ?_ ((for_of (r0 _ rfl)).trans (forI_end trivial))
    simp [s0, pr_0, h1]
  have b1 : gwB c [some (.ref m), some (.int g1), some (.int 0), some (.int 1), o4, o5, o6, o7, o8, o9, o10, o11] st = .nx [some (.ref m), some (.int g2), some (.int W), some (.int 1), some (.int 0), o5, o6, o7, o8, o9, o10, o11] st := by
    refine seq_step (ρ' := [some (.ref m), some (.int g2), some (.int 0), some (.int 1), o4, o5, o6, o7, o8, o9, o10, o11]) (st' := st) ?_ ?_
    · simp [s1, pr_0, h2]
    · refine (for_of (r1 _ rfl)).trans ?_
      refine (forI_step (ρ1 := [some (.ref m), some (.int g2), some (.int 0), some (.int 1), some (.int 0), o5, o6, o7, o8, o9, o10, o11]) (st1 := st) (ρ2 := [some (.ref m), some (.int g2), some (.int W), some (.int 1), some (.int 0), o5, o6, o7, o8, o9, o10, o11]) (st2 := st) trivial rfl ?_).trans (forI_end trivial)
      simp [s0, s1, h3, h4]
  exact (forI_step trivial rfl b0).trans ((forI_step trivial rfl b1).trans (forI_end trivial))
end G13
namespace G13
open PySem PySem.Spec PyProof.Rows L2 Gm
/-- the law's own table of two rows is the lattice's -/
theorem stair_la {p q : Int × Int} {o A B t : Int} (ho : 0 < o) (A0 : 0 < A) (t0 : 0 < t) (B0 : 0 ≤ B) (Bt : B < t) (hg : A = ((Int.gcd p.1 q.1 : Nat) : Int)) (hd : A * t = p.1 * q.2 - p.2 * q.1 ∨ A * t = -(p.1 * q.2 - p.2 * q.1)) (hm : Mk2 p q (A, B)) :
    La [ovp o p, ovp o q] ((A : Rat) / o) ((B : Rat) / o) ((t : Rat) / o) := by
  have oq := cast_ne ho
  have op : (0 : Rat) < (o : Rat) := by
    have : ((0 : Int) : Rat) < (o : Rat) := Rat.intCast_lt_intCast.mpr ho
    exact this
  have pos : ∀ {x : Int}, 0 < x → (0 : Rat) < (x : Rat) / o := fun {x} h => by
    have h1 : ((0 : Int) : Rat) < (x : Rat) := Rat.intCast_lt_intCast.mpr h
    rw [Rat.div_def]
    exact Rat.mul_pos h1 (Rat.inv_pos.mpr op)
  obtain ⟨i, hi⟩ : A ∣ p.1 := by rw [hg]; exact Int.gcd_dvd_left _ _
  obtain ⟨j, hj⟩ : A ∣ q.1 := by rw [hg]; exact Int.gcd_dvd_right _ _
  -- (0, t) is made of p and q
  have hdet : p.1 * q.2 - p.2 * q.1 = A * (i * q.2 - j * p.2) := by rw [hi, hj]; grind
  have ht : t = i * q.2 - j * p.2 ∨ t = -(i * q.2 - j * p.2) := by
    have hA : A ≠ 0 := by omega
    rcases hd with h | h
    · left
      rw [hdet] at h
      exact Int.eq_of_mul_eq_mul_left hA h
    · right
      rw [hdet, ← Int.mul_neg] at h
      exact Int.eq_of_mul_eq_mul_left hA h
  have mt : Mk2 p q (0, t) := by
    rcases ht with h | h
    · exact ⟨-j, i, by dsimp only; rw [hi, hj]; grind, by dsimp only; rw [h]; grind⟩
    · exact ⟨j, -i, by dsimp only; rw [hi, hj]; grind, by dsimp only; rw [h]; grind⟩
  have sp : ∀ {v : Int × Int}, Mk2 p q v → SpR [ovp o p, ovp o q] ((v.1 : Rat) / o) ((v.2 : Rat) / o) := by
    rintro v ⟨m, n, e1, e2⟩
    have h1 := SpR.add (R := [ovp o p, ovp o q]) m (show ovp o p ∈ [ovp o p, ovp o q] by simp) .zero
    have h2 := SpR.add n (show ovp o q ∈ [ovp o p, ovp o q] by simp) h1
    have k1 : (0 : Rat) + m * (ovp o p).1 + n * (ovp o q).1 = (v.1 : Rat) / o := by
      rw [e1, Rat.intCast_add, Rat.intCast_mul, Rat.intCast_mul]
      unfold ovp
      dsimp only
      grind
    have k2 : (0 : Rat) + m * (ovp o p).2 + n * (ovp o q).2 = (v.2 : Rat) / o := by
      rw [e2, Rat.intCast_add, Rat.intCast_mul, Rat.intCast_mul]
      unfold ovp
      dsimp only
      grind
    rw [k1, k2] at h2
    exact h2
  -- what is made and lies above 0 is a multiple of (0, t)
  have dv : ∀ {z : Int}, Mk2 p q (0, z) → ∃ k : Int, z = k * t := by
    rintro z ⟨m, n, e1, e2⟩
    dsimp only at e1 e2
    have hA : A ≠ 0 := by omega
    have e3 : m * i + n * j = 0 := by
      have : A * (m * i + n * j) = A * 0 := by
        rw [hi, hj] at e1
        rw [Int.mul_zero]
        grind
      exact Int.eq_of_mul_eq_mul_left hA this
    -- i and j are made into one
    obtain ⟨f, g, hfg⟩ := bez p.1 q.1
    have e4 : f * i + g * j = 1 := by
      have : A * (f * i + g * j) = A * 1 := by
        rw [← hg, hi, hj] at hfg
        rw [Int.mul_one]
        grind
      exact Int.eq_of_mul_eq_mul_left hA this
    -- m = k' * j, n = -k' * i with k' = m * g - n * f
    have em : m = (m * g - n * f) * j := by grind
    have en : n = -((m * g - n * f) * i) := by grind
    have ez : z = -((m * g - n * f) * (i * q.2 - j * p.2)) := by
      rw [e2]
      generalize m * g - n * f = k at *
      rw [em, en]
      grind
    rcases ht with h | h
    · exact ⟨-(m * g - n * f), by rw [ez, h]; grind⟩
    · exact ⟨m * g - n * f, by rw [ez, h]; grind⟩
  have inn : ∀ {v : Int × Int} (k : Int), v.1 = A * k → Mk2 p q v → ∃ a b : Int, (ovp o v).1 = a * ((A : Rat) / o) ∧ (ovp o v).2 = a * ((B : Rat) / o) + b * ((t : Rat) / o) := by
    intro v k hv hm2
    have h1 := Mk2.lin hm2 hm 1 (-k)
    have e1 : 1 * v.1 + -k * A = 0 := by rw [hv]; grind
    dsimp only at h1
    rw [e1] at h1
    obtain ⟨l, hl⟩ := dv h1
    have e2 : v.2 = k * B + l * t := by rw [← hl]; grind
    refine ⟨k, l, ?_, ?_⟩
    · unfold ovp
      dsimp only
      rw [hv, Rat.intCast_mul]
      grind
    · unfold ovp
      dsimp only
      rw [e2, Rat.intCast_add, Rat.intCast_mul, Rat.intCast_mul]
      grind
  refine ⟨pos A0, pos t0, ?_, ?_, ?_, sp hm, ?_⟩
  · have h1 : ((0 : Int) : Rat) ≤ (B : Rat) := Rat.intCast_le_intCast.mpr B0
    rw [Rat.div_def]
    exact Rat.mul_nonneg h1 (Rat.le_of_lt (Rat.inv_pos.mpr op))
  · have h1 : (B : Rat) < (t : Rat) := Rat.intCast_lt_intCast.mpr Bt
    rw [Rat.div_def, Rat.div_def]
    exact Rat.mul_lt_mul_of_pos_right h1 (Rat.inv_pos.mpr op)
  · intro w hw
    simp only [List.mem_cons, List.not_mem_nil, or_false] at hw
    rcases hw with rfl | rfl
    · exact inn i hi (Mk2.left p q)
    · exact inn j hj (Mk2.right p q)
  · have := sp mt
    dsimp only at this
    rw [show ((0 : Int) : Rat) / (o : Rat) = 0 by rw [show ((0 : Int) : Rat) = 0 from rfl]; grind] at this
    exact this
end G13
namespace G13
open PySem PySem.Spec PyProof.Rows L2 Gm
noncomputable def rtB (c : Fn) : Fs := (sRet (xTup (aCons (xVar 1) (aCons (xBin (binD T c .Mod) (xBi bInt (aCons (xIf (tOf (truD T c) (xBin (ordD T c .Gt) (xVar 6) (xK (.int 0)))) (xVar 7) (xUn (negD T c) (xVar 7))) aNil)) (xVar 5)) (aCons (xVar 5) aNil)))))
theorem stair_eq (c : Fn) : B_23 c = sSeq (sAsg (xTup (aCons (xK (.int 0)) (aCons (xK (.int 0)) aNil))) (gTp (gsCons (gNm 1) (gsCons (gNm 2) gsNil)))) (sSeq (sFor (iRng (aCons (xBi bLen (aCons (xVar 0) aNil)) aNil)) (gNm 3) (gwB c)) (sSeq (sPar3 5 6 7 (aCons (xBin (binD T c .FloorDiv) (xVar 2) (xVar 1)) (aCons (xK (.int 0)) (aCons (xK (.int 0)) aNil)))) (sSeq (sFor (iSeq (xVar 0)) (gNm 8) (pqB c)) (rtB c)))) := rfl
theorem rt_run (c : Fn) (o0 o2 o3 o4 o8 o9 o10 o11 : Option D) (A t x y : Int) (st : Store) (ht : t ≠ 0) : rtB c [o0, some (.int A), o2, o3, o4, some (.int t), some (.int x), some (.int y), o8, o9, o10, o11] st = .rt (.tup [.int A, .int ((if x > 0 then y else -y).fmod t), .int t]) st := by
  by_cases hx : 0 < x
  · simp [rtB, hx, ib_mod _ ht]
  · simp [rtB, hx, ib_mod _ ht]
theorem nb_of {i : Int} {s t : Nat} (h : i.natAbs ≤ 2 ^ s) (ht : s < t) : Nb t i := Nat.lt_of_le_of_lt h (Nat.pow_lt_pow_right (by decide) ht)
theorem s_lstair (n m : Nat) (p q : Int × Int) (s : Nat) (hs : s ≤ 95) (r : Rs s p q) (st : Store) (hm : st[m]? = some (.lst [prD p, prD q])) : ∃ A B t : Int, run (n + 2) 23 [.ref m] st = .ok (.tup [.int A, .int B, .int t]) st ∧ 0 < A ∧ 0 < t ∧ 0 ≤ B ∧ B < t ∧ A = ((Int.gcd p.1 q.1 : Nat) : Int) ∧
    (A * t = p.1 * q.2 - p.2 * q.1 ∨ A * t = -(p.1 * q.2 - p.2 * q.1)) ∧ Mk2 p q (A, B) ∧ A.natAbs ≤ 2 ^ (2 * s + 1) ∧ t.natAbs ≤ 2 ^ (2 * s + 1) := by
  -- the two divisors
  have b1 := mul_abs r.p1 r.q2
  have b2 := mul_abs r.p2 r.q1
  have bd := sub_abs b1 b2
  have e1 := s_gcdL n 0 p.1 st (nb_of r.p1 (show s < 8000 by omega))
  have e2 := s_gcdL n ((Int.gcd 0 p.1 : Nat) : Int) q.1 st (nb_of r.q1 (show s < 8000 by omega))
  have e3 := s_areaL n q p st ((nb_of r.q1 (show s < 100 by omega)).ok (nb_of r.p2 (show s < 100 by omega)) (by decide)) ((nb_of r.q2 (show s < 100 by omega)).ok (nb_of r.p1 (show s < 100 by omega)) (by decide))
  have ar_eq : q.1 * p.2 - q.2 * p.1 = -(p.1 * q.2 - p.2 * q.1) := by grind
  have bar : (q.1 * p.2 - q.2 * p.1).natAbs ≤ 2 ^ (s + s + 1) := by rw [ar_eq, Int.natAbs_neg]; exact bd
  have e4 := s_gcdL n 0 (q.1 * p.2 - q.2 * p.1) st (nb_of bar (show s + s + 1 < 8000 by omega))
  have hW : ((Int.gcd 0 (q.1 * p.2 - q.2 * p.1) : Nat) : Int) = p.1 * q.2 - p.2 * q.1 ∨ ((Int.gcd 0 (q.1 * p.2 - q.2 * p.1) : Nat) : Int) = -(p.1 * q.2 - p.2 * q.1) := by
    rw [Int.gcd_zero_left, ar_eq, Int.natAbs_neg]
    omega
  have hg : ((Int.gcd ((Int.gcd 0 p.1 : Nat) : Int) q.1 : Nat) : Int) = ((Int.gcd p.1 q.1 : Nat) : Int) := by
    rw [Int.gcd_zero_left]
    unfold Int.gcd
    rw [Int.natAbs_natCast]
  rw [hg] at e2
  have hbW : (((Int.gcd 0 (q.1 * p.2 - q.2 * p.1) : Nat) : Int)).natAbs ≤ 2 ^ (2 * s + 1) := by
    have e : 2 * s + 1 = s + s + 1 := by omega
    rw [e]
    rcases hW with h | h
    · rw [h]; exact bd
    · rw [h, Int.natAbs_neg]; exact bd
  obtain ⟨g0, hgd⟩ : 0 < ((Int.gcd p.1 q.1 : Nat) : Int) ∧ ((Int.gcd p.1 q.1 : Nat) : Int) ∣ p.1 * q.2 - p.2 * q.1 := by
    constructor
    · rcases Nat.eq_zero_or_pos (Int.gcd p.1 q.1) with h | h
      · exfalso
        rw [Int.gcd_eq_zero_iff] at h
        exact r.det (by rw [h.1, h.2]; omega)
      · omega
    · exact Int.dvd_sub (Int.dvd_mul_of_dvd_left (Int.gcd_dvd_left _ _)) (Int.dvd_mul_of_dvd_right (Int.gcd_dvd_right _ _))
  have hWd : ((Int.gcd p.1 q.1 : Nat) : Int) ∣ ((Int.gcd 0 (q.1 * p.2 - q.2 * p.1) : Nat) : Int) := by
    rcases hW with h | h
    · rw [h]; exact hgd
    · rw [h]; exact Int.dvd_neg.mpr hgd
  have W0 : 0 < ((Int.gcd 0 (q.1 * p.2 - q.2 * p.1) : Nat) : Int) := by
    have := r.det
    rcases hW with h | h <;> omega
  generalize ((Int.gcd 0 (q.1 * p.2 - q.2 * p.1) : Nat) : Int) = W at *
  obtain ⟨i, hi⟩ : ((Int.gcd p.1 q.1 : Nat) : Int) ∣ p.1 := Int.gcd_dvd_left _ _
  obtain ⟨j, hj⟩ : ((Int.gcd p.1 q.1 : Nat) : Int) ∣ q.1 := Int.gcd_dvd_right _ _
  have gdef : Int.gcd p.1 q.1 = Int.gcd p.1 q.1 := rfl
  have gx : ∀ x : Int, x.natAbs = Int.gcd 0 p.1 → Int.gcd x q.1 = Int.gcd p.1 q.1 := fun x hx => by
    rw [Int.gcd_zero_left] at hx
    unfold Int.gcd
    rw [hx]
  obtain ⟨t, rfl⟩ := hWd
  generalize hG : Int.gcd p.1 q.1 = G at *
  have t0 : 0 < t := by
    rcases Int.lt_or_le 0 t with h | h
    · exact h
    · exfalso
      have := Int.mul_nonneg (Int.le_of_lt g0) (show 0 ≤ -t by omega)
      rw [Int.mul_neg] at this
      omega
  have hfd : ((G : Int) * t).fdiv (G : Int) = t := Int.mul_fdiv_cancel_left _ (by omega)
  have bG : ((G : Nat) : Int).natAbs ≤ 2 ^ (2 * s + 1) := by
    rw [Int.natAbs_mul] at hbW
    exact Nat.le_trans (Nat.le_mul_of_pos_right _ (by omega)) hbW
  have bt : t.natAbs ≤ 2 ^ (2 * s + 1) := by
    rw [Int.natAbs_mul] at hbW
    exact Nat.le_trans (Nat.le_mul_of_pos_left _ (by omega)) hbW
  -- (0, t) is made of the rows
  have ht : t = i * q.2 - j * p.2 ∨ t = -(i * q.2 - j * p.2) := by
    have hA : (G : Int) ≠ 0 := by omega
    have hdet : p.1 * q.2 - p.2 * q.1 = (G : Int) * (i * q.2 - j * p.2) := by rw [hi, hj]; grind
    rcases hW with h | h
    · left
      rw [hdet] at h
      exact Int.eq_of_mul_eq_mul_left hA h
    · right
      rw [hdet, ← Int.mul_neg] at h
      exact Int.eq_of_mul_eq_mul_left hA h
  have mt : Mk2 p q (0, t) := by
    rcases ht with h | h
    · exact ⟨-j, i, by dsimp only; rw [hi, hj]; grind, by dsimp only; rw [h]; grind⟩
    · exact ⟨j, -i, by dsimp only; rw [hi, hj]; grind, by dsimp only; rw [h]; grind⟩
  have tz : t ≠ 0 := by omega
  have modm : ∀ {x y : Int}, Mk2 p q (x, y) → Mk2 p q (x, y.fmod t) := fun {x y} h => by
    have h1 := Mk2.lin h mt 1 (-(y.fdiv t))
    have q1 : 1 * x + -(y.fdiv t) * 0 = x := by grind
    have q2 : 1 * y + -(y.fdiv t) * t = y.fmod t := by rw [Int.fmod_def]; grind
    dsimp only at h1
    rw [q1, q2] at h1
    exact h1
  -- down the rows
  have lt200 : ∀ {x : Int}, x.natAbs ≤ 2 ^ s → x.natAbs < 2 ^ 200 := fun h => nb_of h (show s < 200 by omega)
  obtain ⟨o3a, o10a, o11a, w1, f1, f2, f3⟩ := pq_run (run (n + 1)) (some (.ref m)) (some (.int (G : Int))) (some (.int ((G : Int) * t))) (some (.int 1)) (some (.int 0)) none none none t 0 0 p s st tz (by decide) (lt200 r.p1) (Nat.zero_le _) r.p2 (by omega)
  have mw1 : Mk2 p q w1 := f3.trans ⟨0, 0, by omega, by omega⟩ (Mk2.left p q)
  have bw1 : w1.1.natAbs ≤ 2 ^ s := by rw [f2, Int.gcd_zero_left]; exact r.p1
  have y1 := fmod_nn w1.2 t0
  have y2 := fmod_lt w1.2 t0
  obtain ⟨o3b, o10b, o11b, w2, k1, k2, k3⟩ := pq_run (run (n + 1)) (some (.ref m)) (some (.int (G : Int))) (some (.int ((G : Int) * t))) o3a (some (.int 0)) (some (prD w1)) o10a o11a t w1.1 (w1.2.fmod t) q (2 * s + 1) st tz (lt200 bw1) (lt200 r.q1) (by omega) (le_abs r.q2 (by omega)) (by omega)
  have mw2 : Mk2 p q w2 := k3.trans (modm mw1) (Mk2.right p q)
  rw [gx w1.1 f2] at k2
  have z1 := fmod_nn w2.2 t0
  have hB0 := fmod_nn (if w2.1 > 0 then w2.2.fmod t else -(w2.2.fmod t)) t0
  have hB1 := fmod_lt (if w2.1 > 0 then w2.2.fmod t else -(w2.2.fmod t)) t0
  refine ⟨(G : Int), (if w2.1 > 0 then w2.2.fmod t else -(w2.2.fmod t)).fmod t, t, ?_, g0, t0, hB0, hB1, rfl, hW, ?_, bG, bt⟩
  · have c1 := gw_run (run (n + 1)) m p q st _ _ _ _ hm none none none none none none none none e1 e2 e3 e4
    have hsq : seqOf (.ref m) st = some [prD p, prD q] := by
      unfold seqOf
      simp [hm]
    rw [run_23, stair_eq]
    refine fnD_rt0 ?_ (by simp)
    have hA : (sAsg (xTup (aCons (xK (.int 0)) (aCons (xK (.int 0)) aNil))) (gTp (gsCons (gNm 1) (gsCons (gNm 2) gsNil)))) (startE 12 [.ref m]) st = .nx [some (.ref m), some (.int 0), some (.int 0), none, none, none, none, none, none, none, none, none] st := rfl
    refine seq_step hA ?_
    have hr : iRng (aCons (xBi bLen (aCons (xVar 0) aNil)) aNil) [some (.ref m), some (.int 0), some (.int 0), none, none, none, none, none, none, none, none, none] st = .ok ([.int 0, .int 1], fun _ => True) st := rngI (b := 2) (by simp [bLen_seq hsq]) (by decide) (by decide)
    refine seq_step ((for_of hr).trans c1) ?_
    have h3 : (sPar3 5 6 7 (aCons (xBin (binD T (run (n + 1)) .FloorDiv) (xVar 2) (xVar 1)) (aCons (xK (.int 0)) (aCons (xK (.int 0)) aNil)))) [some (.ref m), some (.int (G : Int)), some (.int ((G : Int) * t)), some (.int 1), some (.int 0), none, none, none, none, none, none, none] st = .nx [some (.ref m), some (.int (G : Int)), some (.int ((G : Int) * t)), some (.int 1), some (.int 0), some (.int t), some (.int 0), some (.int 0), none, none, none, none] st := by
      have hl : ((G : Nat) : Int).natAbs.log2 < 9000 := log_lt (nb_of bG (show 2 * s + 1 < 200 by omega)) (by decide) (by decide)
      have hl' : (G : Int) ≠ 0 ∧ (G : Int).natAbs.log2 < 9000 := ⟨by omega, hl⟩
      simp only [ap_sPar3, ap_aCons, ap_xBin, ap_xVar, List.getElem?_cons_succ, List.getElem?_cons_zero, vr_, Res.bind_ok, kB1_, kB2_, bin_ii, ib_fdiv _ hl', hfd, kC1_, ap_xK, ap_aNil, kC2_, Res.toS_ok, kPar3_]
      rfl
    refine seq_step h3 ?_
    obtain ⟨chk, hi2, hc⟩ := iSeq_of (f := xVar 0) (ρ := [some (.ref m), some (.int (G : Int)), some (.int ((G : Int) * t)), some (.int 1), some (.int 0), some (.int t), some (.int 0), some (.int 0), none, none, none, none]) (st := st) (d := .ref m) (ds := [prD p, prD q]) rfl hsq
    have hcs : chk st := by simpa using hc []
    refine seq_step ((for_of hi2).trans ((forI_step hcs rfl f1).trans ((forI_step hcs rfl k1).trans (forI_end hcs)))) ?_
    exact rt_run _ _ _ _ _ _ _ _ _ _ _ _ _ _ tz
  · apply modm
    have hw : w2.1 = (G : Int) ∨ w2.1 = -(G : Int) := by omega
    have hw2 := modm mw2
    rcases hw with h | h
    · rw [if_pos (by omega), ← h]
      exact hw2
    · rw [if_neg (by omega)]
      have h1 := Mk2.lin hw2 hw2 (-1) 0
      dsimp only at h1
      have q1 : -1 * w2.1 + 0 * w2.1 = (G : Int) := by omega
      have q2 : -1 * (w2.2.fmod t) + 0 * (w2.2.fmod t) = -(w2.2.fmod t) := by omega
      rw [q1, q2] at h1
      exact h1
end G13
namespace G13
open PySem PySem.Spec PyProof.Rows L2 Gm
/-! ### one lattice, told at any store -/
theorem s_dualU {u s : Nat} {a b d a1 b1 d1 : Rat} (n : Nat) (h : LZ u s a b d) (hs : 2 * s + 1 < 1990) (hu : u < 1990) (L1 : La (du a b d) a1 b1 d1) (st : Store) : run (n + 7) 81 [latD a b d] st = .ok (latD a1 b1 d1) st := by
  obtain ⟨x, y, z, e, L', _⟩ := s_dual n st h hs hu
  obtain ⟨e1, e2, e3⟩ := La.eq_of L1 (show La (du a b d) x y z from L') (fun p hp => L'.of p hp) (fun p hp => L1.of p hp)
  rw [e, ← e1, ← e2, ← e3]
theorem dual_ex {u s : Nat} {a b d : Rat} (h : LZ u s a b d) (hs : 2 * s + 1 < 1990) (hu : u < 1990) : ∃ a1 b1 d1, La (du a b d) a1 b1 d1 ∧ LZ (2 * s + 1) (u + (2 * s + 1)) a1 b1 d1 := by
  obtain ⟨x, y, z, _, L', Z⟩ := s_dual 0 [] h hs hu
  exact ⟨x, y, z, L', Z⟩
theorem s_laddU {u s u' s' : Nat} {a b d a' b' d' A B D : Rat} (n : Nat) (h : LZ u s a b d) (h' : LZ u' s' a' b' d') (S : Nat) (hS : 2 * s + 1 + u' ≤ S ∧ 2 * s' + 1 + u ≤ S) (hS2 : S ≤ 3990) (hu : u + u' < 3990) (L1 : La [(a, b), (0, d), (a', b'), (0, d')] A B D) (st : Store) :
    run (n + 7) 85 [latD a b d, latD a' b' d'] st = .ok (latD A B D) st := by
  obtain ⟨x, y, z, e, L', _⟩ := s_ladd n st h h' S hS hS2 hu
  obtain ⟨e1, e2, e3⟩ := La.eq_of L1 L' (fun p hp => L'.of p hp) (fun p hp => L1.of p hp)
  rw [e, ← e1, ← e2, ← e3]
theorem LZ.cn {u s : Nat} {a b d : Rat} (h : LZ u s a b d) : 0 < a ∧ 0 < d := by
  obtain ⟨D, D0, _, hL⟩ := h
  obtain ⟨α, β, δ, e1, e2, e3, α0, δ0, _⟩ := hL.bd
  have op : (0 : Rat) < (D : Rat) := Rat.intCast_lt_intCast.mpr D0
  have pos : ∀ {x : Int}, 0 < x → (0 : Rat) < (x : Rat) / D := fun {x} h => by
    have h1 : ((0 : Int) : Rat) < (x : Rat) := Rat.intCast_lt_intCast.mpr h
    rw [Rat.div_def]
    exact Rat.mul_pos h1 (Rat.inv_pos.mpr op)
  exact ⟨by rw [e1]; exact pos α0, by rw [e3]; exact pos δ0⟩
/-! ### the law's judge of a lattice -/
theorem il_run (c : Fn) (m : Nat) (o A B t : Int) (a b d : Rat) (st : Store) (h1 : c 23 [.ref m] st = .ok (.tup [.int A, .int B, .int t]) st) (h2 : c 19 [rD a, .int A, .int o] st = .ok (.bl true) st)
    (h3 : c 19 [rD b, .int B, .int o] st = .ok (.bl true) st) (h4 : c 19 [rD d, .int t, .int o] st = .ok (.bl true) st) :
    B_27 c (startE 4 [latD a b d, .ref m, .int o]) st = .rt (.bl true) st := by
  simp [B_27, startE, iso_latD, h1, fd_la, fd_lb, fd_ld, h2, h3, h4]
theorem s_is_lattice (n m : Nat) (p q : Int × Int) (o : Int) (a b d : Rat) (st : Store) (hm : st[m]? = some (.lst [prD p, prD q])) (r : Rs 93 p q) (ho : 0 < o) (hb : o.natAbs ≤ 2 ^ 80) (L : La [ovp o p, ovp o q] a b d) (Z : LZ 80 93 a b d) :
    run (n + 3) 27 [latD a b d, .ref m, .int o] st = .ok (.bl true) st := by
  obtain ⟨A, B, t, e1, A0, t0, B0, Bt, hg, hd, hm2, bA, bt⟩ := s_lstair n m p q 93 (by decide) r st hm
  have L' := stair_la ho A0 t0 B0 Bt hg hd hm2
  obtain ⟨q1, q2, q3⟩ := La.eq_of L L' (fun p hp => L'.of p hp) (fun p hp => L.of p hp)
  obtain ⟨za, zb, zd⟩ := Z.sz (t := 8000) (by decide) (by decide)
  have no : Nb 100000 o := nb_of hb (by decide)
  have nB : Nb 100000 B := by
    have : B.natAbs ≤ 2 ^ (2 * 93 + 1) := by omega
    exact nb_of this (by decide)
  have h2 := s_ratio_is n a A o st (by omega) za (nb_of bA (by decide)) no q1
  have h3 := s_ratio_is n b B o st (by omega) zb nB no q2
  have h4 := s_ratio_is n d t o st (by omega) zd (nb_of bt (by decide)) no q3
  rw [run_27]
  exact fnD_rt0 (il_run _ m o A B t a b d st e1 h2 h3 h4) (by simp)
/-! ### members -/
theorem nx_lst {b m : Nat} {st st' : Store} {l : List D} (hp : Pen b st) (hn : Nx st st') (h : st[m]? = some (.lst l)) : st'[m]? = some (.lst l) := by
  obtain ⟨k, j, rfl⟩ := hn
  have hm : m ≠ 1 := by
    intro e
    subst e
    obtain ⟨ns, k', l', p, q⟩ := hp
    rw [p.dic] at h
    cases h
  rw [List.getElem?_set_ne (fun e => hm e.symm)]
  exact h
theorem me_run (c : Fn) (m : Nat) (p q : Int × Int) (f g : Int) (st s1 s2 : Store) (h1 : c 15 [.ref 1, .int 20] st = .ok (.int f) s1) (h2 : c 15 [.ref 1, .int 20] s1 = .ok (.int g) s2) (hm : s2[m]? = some (.lst [prD p, prD q]))
    (m1 : IntMulOk f p.1) (m2 : IntMulOk g q.1) (m3 : IntMulOk f p.2) (m4 : IntMulOk g q.2) :
    B_28 c (startE 5 [.ref 1, .ref m, .int 20]) st = .rt (prD (f * p.1 + g * q.1, f * p.2 + g * q.2)) s2 := by
  have s0 : subD (.ref m) (.int 0) s2 = .ok (prD p) s2 := by rw [subR hm]; rfl
  have s1 : subD (.ref m) (.int 1) s2 = .ok (prD q) s2 := by rw [subR hm]; rfl
  simp [B_28, startE, h1, h2, s0, s1, pr_0, pr_1, ib_mul _ m1, ib_mul _ m2, ib_mul _ m3, ib_mul _ m4]
  rfl
theorem nb20 {v : Int} (h : v.natAbs < 10 ^ 20) : v.natAbs ≤ 2 ^ 67 := by
  have : (10 : Nat) ^ 20 ≤ 2 ^ 67 := by decide
  omega
theorem d_member {b : Nat} {st : Store} (n m : Nat) (p q : Int × Int) (h : Pen (b + 18) st) (hm : st[m]? = some (.lst [prD p, prD q])) (r : Rs 93 p q) : ∃ f g st', run (n + 5) 28 [.ref 1, .ref m, .int 20] st = .ok (prD (f * p.1 + g * q.1, f * p.2 + g * q.2)) st' ∧ Nx st st' ∧ Pen b st' ∧ f.natAbs ≤ 2 ^ 67 ∧ g.natAbs ≤ 2 ^ 67 := by
  obtain ⟨f, s1, e1, n1, p1, f1⟩ := d_number (b := b + 9) n 20 (by decide) (by decide) h
  obtain ⟨g, s2, e2, n2, p2, g1⟩ := d_number (b := b) n 20 (by decide) (by decide) p1
  have nf := nb_of (nb20 f1) (show 67 < 100 by decide)
  have ng := nb_of (nb20 g1) (show 67 < 100 by decide)
  refine ⟨f, g, s2, ?_, n1.trans n2, p2, nb20 f1, nb20 g1⟩
  rw [run_28]
  refine fnD_pen0 (me_run _ m p q f g st s1 s2 e1 e2 (nx_lst h (n1.trans n2) hm) ?_ ?_ ?_ ?_) (n1.trans n2) p2 (noRef_prD _ _)
  · exact nf.ok (nb_of r.p1 (show 93 < 100 by decide)) (by decide)
  · exact ng.ok (nb_of r.q1 (show 93 < 100 by decide)) (by decide)
  · exact nf.ok (nb_of r.p2 (show 93 < 100 by decide)) (by decide)
  · exact ng.ok (nb_of r.q2 (show 93 < 100 by decide)) (by decide)
/-! ### all products are whole -/
noncomputable def inB (c : Fn) : Fs := (sIf (tOf (truD T c) (xBin (eqB T c true) (xFld T c 41 (xCall T c 32 (aCons (xVar 10) (aCons (xVar 11) aNil)))) (xK (.int 1)))) (sRet (xK (.bl false))) sNx)
theorem in_run (c : Fn) (o0 o1 o2 o3 o4 o5 o6 o7 o8 o9 : Option D) (x y : D) (v : Rat) (st : Store) (h : c 32 [x, y] st = .ok (rD v) st) (hv : v.den = 1) :
    inB c [o0, o1, o2, o3, o4, o5, o6, o7, o8, o9, some x, some y] st = .nx [o0, o1, o2, o3, o4, o5, o6, o7, o8, o9, some x, some y] st := by
  simp [inB, h, fd_bottom, hv]
theorem inner_run (c : Fn) (o0 o1 o2 o3 o4 o5 o6 o7 o8 o9 : Option D) (x : D) (st : Store) : ∀ (ys : List D) (o11 : Option D), (∀ y ∈ ys, ∃ v : Rat, c 32 [x, y] st = .ok (rD v) st ∧ v.den = 1) →
    ∃ o11', forI (fun _ => True) (gNm 11) (inB c) ys [o0, o1, o2, o3, o4, o5, o6, o7, o8, o9, some x, o11] st = .nx [o0, o1, o2, o3, o4, o5, o6, o7, o8, o9, some x, o11'] st
  | [], o11, _ => ⟨o11, forI_end trivial⟩
  | y :: ys, o11, h => by
    obtain ⟨v, h1, h2⟩ := h y (List.mem_cons_self ..)
    obtain ⟨o, e⟩ := inner_run c o0 o1 o2 o3 o4 o5 o6 o7 o8 o9 x st ys (some y) fun z hz => h z (List.mem_cons_of_mem _ hz)
    exact ⟨o, (forI_step trivial rfl (in_run c o0 o1 o2 o3 o4 o5 o6 o7 o8 o9 x y v st h1 h2)).trans e⟩
theorem outer_run (c : Fn) (fi : Fi) (o0 o1 o2 o3 o4 o5 o6 o7 o8 o9 : Option D) (ys : List D) (st : Store) (hfi : ∀ o10 o11, fi [o0, o1, o2, o3, o4, o5, o6, o7, o8, o9, o10, o11] st = .ok (ys, fun _ => True) st) : ∀ (xs : List D) (o10 o11 : Option D), (∀ x ∈ xs, ∀ y ∈ ys, ∃ v : Rat, c 32 [x, y] st = .ok (rD v) st ∧ v.den = 1) →
    ∃ o10' o11', forI (fun _ => True) (gNm 10) (sFor fi (gNm 11) (inB c)) xs [o0, o1, o2, o3, o4, o5, o6, o7, o8, o9, o10, o11] st = .nx [o0, o1, o2, o3, o4, o5, o6, o7, o8, o9, o10', o11'] st
  | [], o10, o11, _ => ⟨o10, o11, forI_end trivial⟩
  | x :: xs, o10, o11, h => by
    obtain ⟨o, e⟩ := inner_run c o0 o1 o2 o3 o4 o5 o6 o7 o8 o9 x st ys o11 (h x (List.mem_cons_self ..))
    obtain ⟨o', o'', e2⟩ := outer_run c fi o0 o1 o2 o3 o4 o5 o6 o7 o8 o9 ys st hfi xs (some x) o fun z hz => h z (List.mem_cons_of_mem _ hz)
    exact ⟨o', o'', (forI_step trivial rfl ((for_of (hfi _ _)).trans e)).trans e2⟩
theorem Zp.den {v w : Rat × Rat} (h : Zp v w) : (v.1 * w.1 + v.2 * w.2).den = 1 := by
  obtain ⟨k, hk⟩ := h
  rw [hk, Rat.den_intCast]
end G13
namespace G13
open PySem PySem.Spec PyProof.Rows L2 Gm
noncomputable def dr1 (c : Fn) : Fs := (sAsg (xMethW T c 48 (xVar 3) aNil) (gNm 4))
noncomputable def dr2 (c : Fn) : Fs := (sIf (tNot (tOf (truD T c) (xIso T 3 (xVar 4)))) (sRet (xK (.bl false))) sNx)
noncomputable def dr3 (c : Fn) : Fs := (sAsg (xBi bAbs (aCons (xCall T c 22 (aCons (xBin subD (xVar 1) (xK (.int 0))) (aCons (xBin subD (xVar 1) (xK (.int 1))) aNil))) aNil)) (gNm 5))
noncomputable def dr4 (c : Fn) : Fs := (sIf (tNot (tOf (truD T c) (xCall T c 19 (aCons (xFld T c 47 (xVar 4)) (aCons (xBin (binD T c .Mult) (xVar 2) (xVar 2)) (aCons (xVar 5) aNil)))))) (sRet (xK (.bl false))) sNx)
noncomputable def dr5 (c : Fn) : Fs := (sPar 6 7 (aCons (xCall T c 15 (aCons (xVar 0) (aCons (xK (.int 20)) aNil))) (aCons (xCall T c 15 (aCons (xVar 0) (aCons (xK (.int 20)) aNil))) aNil)))
noncomputable def dr6 (c : Fn) : Fs := (sAsg (xBin (binD T c .Add) (xBin (binD T c .Mult) (xVar 6) (xBin subD (xMethW T c 51 (xVar 4) aNil) (xK (.int 0)))) (xBin (binD T c .Mult) (xVar 7) (xBin subD (xMethW T c 51 (xVar 4) aNil) (xK (.int 1))))) (gNm 8))
noncomputable def dr7 (c : Fn) : Fs := (sAsg (xCall T c 21 (aCons (xCall T c 28 (aCons (xVar 0) (aCons (xVar 1) (aCons (xK (.int 20)) aNil)))) (aCons (xVar 2) aNil))) (gNm 9))
noncomputable def dr8 (c : Fn) : Fi := (iSeq (xBin (binD T c .Add) (xMethW T c 51 (xVar 3) aNil) (xTup (aCons (xVar 9) aNil))))
noncomputable def dr9 (c : Fn) : Fi := (iSeq (xBin (binD T c .Add) (xMethW T c 51 (xVar 4) aNil) (xTup (aCons (xVar 8) aNil))))
noncomputable def dr10 (c : Fn) : Fs := (sRet (xAnd (truD T c) (xBin (eqB T c false) (xMethW T c 48 (xVar 4) aNil) (xVar 3)) (xAnd (truD T c) (xBin (inO T c false) (xVar 8) (xVar 4)) (xCall T c 27 (aCons (xVar 3) (aCons (xVar 1) (aCons (xVar 2) aNil)))))))
theorem dr_eq (c : Fn) : B_33 c = sSeq (dr1 c) (sSeq (dr2 c) (sSeq (dr3 c) (sSeq (dr4 c) (sSeq (dr5 c) (sSeq (dr6 c) (sSeq (dr7 c) (sSeq (sFor (dr8 c) (gNm 10) (sFor (dr9 c) (gNm 11) (inB c))) (dr10 c)))))))) := rfl
theorem bin_tt (c : Fn) (xs ys : List D) (st : Store) (h : xs ≠ [] ∧ xs.length + ys.length ≤ sizeLine) : binD T c .Add (.tup xs) (.tup ys) st = .ok (.tup (xs ++ ys)) st := if_pos ⟨rfl, h⟩
theorem rows_run (c : Fn) (i j : Nat) (a b d : Rat) (z : D) (ρ : Ev) (st : Store) (hr : c 78 [latD a b d] st = .ok (.tup [pD a b, pD 0 d]) st) (hi : ρ[i]? = some (some (latD a b d))) (hj : ρ[j]? = some (some z)) :
    iSeq (xBin (binD T c .Add) (xMethW T c 51 (xVar i) aNil) (xTup (aCons (xVar j) aNil))) ρ st = .ok ([pD a b, pD 0 d, z], fun _ => True) st := by
  refine iSeq_tup ?_
  have h1 : ([pD a b, pD 0 d] : List D) ≠ [] ∧ ([pD a b, pD 0 d] : List D).length + ([z] : List D).length ≤ sizeLine := ⟨by simp, show 3 ≤ sizeLine by decide⟩
  simp [hi, hj, hm_rows, hr, bin_tt _ _ _ _ h1]
theorem du_run (c : Fn) (m : Nat) (p q v : Int × Int) (o ar f g : Int) (a b d a1 b1 d1 cell u1 u2 w1 w2 ox oy mx my : Rat) (st s1 s2 s3 : Store) (hm : st[m]? = some (.lst [prD p, prD q]))
    (hd : ∀ st, c 81 [latD a b d] st = .ok (latD a1 b1 d1) st) (hd2 : ∀ st, c 81 [latD a1 b1 d1] st = .ok (latD a b d) st)
    (har : c 22 [prD p, prD q] st = .ok (.int ar) st) (hcell : fldD T c 47 (latD a1 b1 d1) st = .ok (rD cell) st) (mo : IntMulOk o o) (hri : c 19 [rD cell, .int (o * o), .int ((ar.natAbs : Nat) : Int)] st = .ok (.bl true) st)
    (hn1 : c 15 [.ref 1, .int 20] st = .ok (.int f) s1) (hn2 : c 15 [.ref 1, .int 20] s1 = .ok (.int g) s2)
    (hrow : ∀ a b d st, c 78 [latD a b d] st = .ok (.tup [pD a b, pD 0 d]) st)
    (hp1 : binD T c .Mult (.int f) (pD a1 b1) s2 = .ok (pD u1 u2) s2) (hp2 : binD T c .Mult (.int g) (pD 0 d1) s2 = .ok (pD w1 w2) s2) (hp3 : binD T c .Add (pD u1 u2) (pD w1 w2) s2 = .ok (pD ox oy) s2)
    (hmem : c 28 [.ref 1, .ref m, .int 20] s2 = .ok (prD v) s3) (hpt : c 21 [prD v, .int o] s3 = .ok (pD mx my) s3)
    (hprod : ∀ x ∈ [pD a b, pD 0 d, pD mx my], ∀ y ∈ [pD a1 b1, pD 0 d1, pD ox oy], ∃ v : Rat, c 32 [x, y] s3 = .ok (rD v) s3 ∧ v.den = 1)
    (heq : eqB T c false (latD a b d) (latD a b d) s3 = .ok (.bl true) s3) (hin : inO T c false (pD ox oy) (latD a1 b1 d1) s3 = .ok (.bl true) s3) (hil : c 27 [latD a b d, .ref m, .int o] s3 = .ok (.bl true) s3) :
    B_33 c (startE 12 [.ref 1, .ref m, .int o, latD a b d]) st = .rt (.bl true) s3 := by
  have t0 : subD (.ref m) (.int 0) st = .ok (prD p) st := by rw [subR hm]; rfl
  have t1 : subD (.ref m) (.int 1) st = .ok (prD q) st := by rw [subR hm]; rfl
  rw [dr_eq]
  refine seq_step (ρ' := [some (.ref 1), some (.ref m), some (.int o), some (latD a b d), some (latD a1 b1 d1), none, none, none, none, none, none, none]) (st' := st) (by simp [dr1, startE, hm_dual, hd]) ?_
  refine seq_step (ρ' := [some (.ref 1), some (.ref m), some (.int o), some (latD a b d), some (latD a1 b1 d1), none, none, none, none, none, none, none]) (st' := st) (by simp [dr2, iso_latD]) ?_
  refine seq_step (ρ' := [some (.ref 1), some (.ref m), some (.int o), some (latD a b d), some (latD a1 b1 d1), some (.int ((ar.natAbs : Nat) : Int)), none, none, none, none, none, none]) (st' := st) (by simp [dr3, t0, t1, har, abs_if]) ?_
  refine seq_step (ρ' := [some (.ref 1), some (.ref m), some (.int o), some (latD a b d), some (latD a1 b1 d1), some (.int ((ar.natAbs : Nat) : Int)), none, none, none, none, none, none]) (st' := st) (by simp [dr4, hcell, ib_mul _ mo, hri]) ?_
  refine seq_step (ρ' := [some (.ref 1), some (.ref m), some (.int o), some (latD a b d), some (latD a1 b1 d1), some (.int ((ar.natAbs : Nat) : Int)), some (.int f), some (.int g), none, none, none, none]) (st' := s2) (by simp [dr5, hn1, hn2]) ?_
  refine seq_step (ρ' := [some (.ref 1), some (.ref m), some (.int o), some (latD a b d), some (latD a1 b1 d1), some (.int ((ar.natAbs : Nat) : Int)), some (.int f), some (.int g), some (pD ox oy), none, none, none]) (st' := s2) (by simp [dr6, hm_rows, hrow, hp1, hp2, hp3]) ?_
  refine seq_step (ρ' := [some (.ref 1), some (.ref m), some (.int o), some (latD a b d), some (latD a1 b1 d1), some (.int ((ar.natAbs : Nat) : Int)), some (.int f), some (.int g), some (pD ox oy), some (pD mx my), none, none]) (st' := s3) (by simp [dr7, hmem, hpt]) ?_
  obtain ⟨o10, o11, e⟩ := outer_run c (dr9 c) (some (.ref 1)) (some (.ref m)) (some (.int o)) (some (latD a b d)) (some (latD a1 b1 d1)) (some (.int ((ar.natAbs : Nat) : Int))) (some (.int f)) (some (.int g)) (some (pD ox oy)) (some (pD mx my)) [pD a1 b1, pD 0 d1, pD ox oy] s3 (fun o10 o11 => rows_run c 4 8 a1 b1 d1 (pD ox oy) _ s3 (hrow _ _ _ _) rfl rfl) [pD a b, pD 0 d, pD mx my] none none hprod
  refine seq_step ((for_of (rows_run c 3 9 a b d (pD mx my) _ s3 (hrow _ _ _ _) rfl rfl)).trans e) ?_
  simp [dr10, hm_dual, hd2, heq, hin, hil]
theorem q_neg (x : Rat) (o : Rat) (h : o ≠ 0) (dt y : Rat) (e : Rat) (hd : dt / (o * o) = e * y) : dt = e * y * (o * o) := by rw [← hd]; grind
theorem q_inv (x o : Rat) (hx : x ≠ 0) (ho : o ≠ 0) : 1 / x = o * o / (x * (o * o)) := by grind
theorem cell_of {o : Int} {p q : Int × Int} {a b d a1 b1 d1 : Rat} (ho : 0 < o) (L : La [ovp o p, ovp o q] a b d) (L1 : La (du a b d) a1 b1 d1) : a1 * d1 = ((o * o : Int) : Rat) / ((((p.1 * q.2 - p.2 * q.1).natAbs : Nat) : Int) : Rat) := by
  have hc := dual_cell L.cn L1
  have oq := cast_ne ho
  obtain ⟨e, he, hdet⟩ := La.cell2 L
  rw [det_over ho] at hdet
  have h1 := Rat.mul_pos L.a0 L.d0
  have op : (0 : Rat) < (o : Rat) := Rat.intCast_lt_intCast.mpr ho
  have hpos := Rat.mul_pos h1 (Rat.mul_pos op op)
  have hdt := q_neg 0 o oq _ _ _ hdet
  generalize p.1 * q.2 - p.2 * q.1 = dt at *
  rw [hc, Rat.intCast_mul]
  have habs : (((dt.natAbs : Nat) : Int) : Rat) = a * d * (o * o) := by
    clear hc hdet L L1
    rcases he with rfl | rfl
    · have e1 : (dt : Rat) = a * d * (o * o) := by rw [hdt, cast1, Rat.one_mul]
      rw [← e1] at hpos
      have h0 : 0 < dt := Rat.intCast_lt_intCast.mp (show ((0 : Int) : Rat) < (dt : Rat) from hpos)
      rw [← e1, show ((dt.natAbs : Nat) : Int) = dt by omega]
    · have e1 : ((-dt : Int) : Rat) = a * d * (o * o) := by rw [Rat.intCast_neg, hdt, show ((-1 : Int) : Rat) = -1 from rfl]; grind
      rw [← e1] at hpos
      have h0 : 0 < -dt := Rat.intCast_lt_intCast.mp (show ((0 : Int) : Rat) < ((-dt : Int) : Rat) from hpos)
      rw [← e1, show ((dt.natAbs : Nat) : Int) = -dt by omega]
  rw [habs]
  exact q_inv _ _ (ne_of_pos h1) oq
theorem mem_over {o : Int} {p q : Int × Int} {a b d : Rat} (ho : 0 < o) (L : La [ovp o p, ovp o q] a b d) (f g : Int) : Mm a b d (((f * p.1 + g * q.1 : Int) : Rat) / o, ((f * p.2 + g * q.2 : Int) : Rat) / o) := by
  have := Mm.lin (L.of (ovp o p) (by simp)) (L.of (ovp o q) (by simp)) f g
  have oq := cast_ne ho
  unfold ovp at this
  dsimp only at this
  have t1 : (f : Rat) * ((p.1 : Rat) / o) + g * ((q.1 : Rat) / o) = ((f * p.1 + g * q.1 : Int) : Rat) / o := by rw [Rat.intCast_add, Rat.intCast_mul, Rat.intCast_mul]; grind
  have t2 : (f : Rat) * ((p.2 : Rat) / o) + g * ((q.2 : Rat) / o) = ((f * p.2 + g * q.2 : Int) : Rat) / o := by rw [Rat.intCast_add, Rat.intCast_mul, Rat.intCast_mul]; grind
  rw [t1, t2] at this
  exact this
theorem mem_rows (a b d : Rat) (f g : Int) : Mm a b d (a * (f : Rat) + 0 * (g : Rat), b * (f : Rat) + d * (g : Rat)) := ⟨f, g, by dsimp only; grind, by dsimp only; grind⟩
theorem d_dual_right {b' : Nat} {st : Store} (n m : Nat) (p q : Int × Int) (o : Int) (a b d : Rat) (h : Pen (b' + 36) st) (hm : st[m]? = some (.lst [prD p, prD q])) (r : Rs 93 p q) (ho : 0 < o) (hb : o.natAbs ≤ 2 ^ 80) (L : La [ovp o p, ovp o q] a b d) (Z : LZ 80 93 a b d) :
    ∃ st', run (n + 10) 33 [.ref 1, .ref m, .int o, latD a b d] st = .ok (.bl true) st' ∧ Nx st st' ∧ Pen b' st' := by
  obtain ⟨a1, b1, d1, L1, Z1⟩ := dual_ex Z (by decide) (by decide)
  obtain ⟨a2, b2, d2, L2, Z2⟩ := dual_ex Z1 (by decide) (by decide)
  obtain ⟨q1, q2, q3⟩ := dual_dual L.cn L1 L2
  subst q1; subst q2; subst q3
  obtain ⟨f, s1, e1, n1, p1, f1⟩ := d_number (b := b' + 27) (n + 5) 20 (by decide) (by decide) h
  obtain ⟨g, s2, e2, n2, p2, g1⟩ := d_number (b := b' + 18) (n + 5) 20 (by decide) (by decide) p1
  obtain ⟨f', g', s3, e3, n3, p3, f2, g2⟩ := d_member (b := b') (n + 4) m p q p2 (nx_lst h (n1.trans n2) hm) r
  have hm3 := nx_lst h ((n1.trans n2).trans n3) hm
  obtain ⟨za, zb, zd⟩ := Z.sz (t := 188) (by decide) (by decide)
  obtain ⟨ya, yb, yd⟩ := Z1.sz (t := 536) (by decide) (by decide)
  have k4 : ∀ {x : Rat}, Sz 188 x → Sz 4000 x := fun h => h.mono (by decide)
  have k5 : ∀ {x : Rat}, Sz 536 x → Sz 4000 x := fun h => h.mono (by decide)
  have a0 := ne_of_pos L.a0
  have d0 := ne_of_pos L.d0
  have a10 := ne_of_pos L1.a0
  have d10 := ne_of_pos L1.d0
  have nf := nb_of (nb20 f1) (show 67 < 68 by decide)
  have ng := nb_of (nb20 g1) (show 67 < 68 by decide)
  have zf : Sz 68 (f : Rat) := Sz.int nf (by decide)
  have zg : Sz 68 (g : Rat) := Sz.int ng (by decide)
  have z0 : Sz 1 (0 : Rat) := Sz.zero 1 (by decide)
  -- the member of the dual
  have m1 := mem_rows a1 b1 d1 f g
  have y1 := ya.mul zf
  have y2 := yb.mul zf
  have y3 := yd.mul zg
  have y4 := z0.mul zg
  have sx := (y1.add y4).mono (b' := 1300) (by decide)
  have sy := (y2.add y3).mono (b' := 1300) (by decide)
  -- the member of the lattice
  have bv : ∀ {x y : Int}, x.natAbs ≤ 2 ^ 93 → y.natAbs ≤ 2 ^ 93 → (f' * x + g' * y).natAbs ≤ 2 ^ 161 := fun hx hy => le_abs (add_abs (mul_abs f2 hx) (mul_abs g2 hy)) (by decide)
  have vx := bv r.p1 r.q1
  have vy := bv r.p2 r.q2
  have sv : ∀ {x : Int}, x.natAbs ≤ 2 ^ 161 → Sz 165 ((x : Rat) / o) := fun h => sz_n h hb ho (by decide) (by decide)
  have m2 := mem_over ho L f' g'
  -- whole products
  have zz : ∀ {x y : Rat × Rat}, Mm a2 b2 d2 x → Mm a1 b1 d1 y → (x.1 * y.1 + x.2 * y.2).den = 1 := fun {x y} hx hy => by
    obtain ⟨k1, k2⟩ := (dual_mm a0 d0 L1).mp hy
    exact (Zp.mm k1 k2 hx).symm.den
  have pr : ∀ (x y z w : Rat) (st : Store), Sz 1900 x → Sz 1900 y → Sz 1900 z → Sz 1900 w → run (n + 9) 32 [pD x y, pD z w] st = .ok (rD (x * z + y * w)) st := fun x y z w st h1 h2 h3 h4 => s_prodP (n + 5) x y z w st h1 h2 h3 h4
  have w4 : ∀ {x : Rat}, Sz 188 x → Sz 1900 x := fun h => h.mono (by decide)
  have w5 : ∀ {x : Rat}, Sz 536 x → Sz 1900 x := fun h => h.mono (by decide)
  have w0 : Sz 1900 (0 : Rat) := z0.mono (by decide)
  have hprod : ∀ x ∈ [pD a2 b2, pD 0 d2, pD (((f' * p.1 + g' * q.1 : Int) : Rat) / o) (((f' * p.2 + g' * q.2 : Int) : Rat) / o)], ∀ y ∈ [pD a1 b1, pD 0 d1, pD (a1 * (f : Rat) + 0 * (g : Rat)) (b1 * (f : Rat) + d1 * (g : Rat))], ∃ v : Rat, run (n + 9) 32 [x, y] s3 = .ok (rD v) s3 ∧ v.den = 1 := by
    intro x hx y hy
    obtain ⟨x1, x2, rfl, hx1, hx2, hx3⟩ : ∃ x1 x2 : Rat, x = pD x1 x2 ∧ Mm a2 b2 d2 (x1, x2) ∧ Sz 1900 x1 ∧ Sz 1900 x2 := by
      simp only [List.mem_cons, List.not_mem_nil, or_false] at hx
      rcases hx with rfl | rfl | rfl
      · exact ⟨_, _, rfl, Mm.r1 _ _ _, w4 za, w4 zb⟩
      · exact ⟨_, _, rfl, Mm.r2 _ _ _, w0, w4 zd⟩
      · exact ⟨_, _, rfl, m2, (sv vx).mono (by decide), (sv vy).mono (by decide)⟩
    obtain ⟨y1, y2, rfl, hy1, hy2, hy3⟩ : ∃ y1 y2 : Rat, y = pD y1 y2 ∧ Mm a1 b1 d1 (y1, y2) ∧ Sz 1900 y1 ∧ Sz 1900 y2 := by
      simp only [List.mem_cons, List.not_mem_nil, or_false] at hy
      rcases hy with rfl | rfl | rfl
      · exact ⟨_, _, rfl, Mm.r1 _ _ _, w5 ya, w5 yb⟩
      · exact ⟨_, _, rfl, Mm.r2 _ _ _, w0, w5 yd⟩
      · exact ⟨_, _, rfl, m1, sx.mono (by decide), sy.mono (by decide)⟩
    exact ⟨_, pr x1 x2 y1 y2 s3 hx2 hx3 hy2 hy3, zz hx1 hy1⟩
  -- the cell
  have b1' := mul_abs r.p1 r.q2
  have b2' := mul_abs r.p2 r.q1
  have bd' : (p.1 * q.2 - p.2 * q.1).natAbs ≤ 2 ^ 187 := sub_abs b1' b2'
  have hr1 := r.det
  obtain ⟨dt, hD⟩ : ∃ dt, p.1 * q.2 - p.2 * q.1 = dt := ⟨_, rfl⟩
  rw [hD] at hr1 bd'
  have cellq := cell_of ho L L1
  rw [hD] at cellq
  have no : Nb 100 o := nb_of hb (by decide)
  have hri : run (n + 9) 19 [rD (a1 * d1), .int (o * o), .int ((dt.natAbs : Nat) : Int)] st = .ok (.bl true) st := by
    refine s_ratio_is (n + 7) (a1 * d1) (o * o) ((dt.natAbs : Nat) : Int) st (by omega) ((ya.mul yd).mono (by decide)) ((no.mul no).mono (by decide)) ?_ cellq
    have : (((dt.natAbs : Nat) : Int)).natAbs ≤ 2 ^ 187 := by rw [Int.natAbs_natCast]; exact bd'
    exact nb_of this (by decide)
  have har := s_areaL (n + 8) p q st ((nb_of r.p1 (show 93 < 100 by decide)).ok (nb_of r.q2 (show 93 < 100 by decide)) (by decide)) ((nb_of r.p2 (show 93 < 100 by decide)).ok (nb_of r.q1 (show 93 < 100 by decide)) (by decide))
  rw [hD] at har
  refine ⟨s3, ?_, (n1.trans n2).trans n3, p3⟩
  rw [run_33]
  refine fnD_pen0 ?_ ((n1.trans n2).trans n3) p3 (by simp)
  refine du_run (run (n + 9)) m p q _ o dt f g a2 b2 d2 a1 b1 d1 (a1 * d1) _ _ _ _ _ _ _ _ st s1 s2 s3 hm (fun st => s_dualU (n + 2) Z (by decide) (by decide) L1 st) (fun st => s_dualU (n + 2) Z1 (by decide) (by decide) L2 st) har (fd_cell (n + 5) a1 b1 d1 st (k5 ya) (k5 yd)) (no.ok no (by decide)) hri e1 e2 (fun a b d st => s_lrows (n + 4) a b d st)
    (p_imul (n + 4) a1 b1 s2 f (k5 ya) (k5 yb) (nf.mono (by decide))) (p_imul (n + 4) 0 d1 s2 g (z0.mono (by decide)) (k5 yd) (ng.mono (by decide))) (p_add (n + 4) _ _ _ _ s2 (y1.mono (by decide)) (y2.mono (by decide)) (y4.mono (by decide)) (y3.mono (by decide))) e3 (s_lpoint (n + 4) _ o s3 ho (no.mono (by decide))) hprod ?_ ?_ ?_
  · have := l_eq (n + 6) a2 b2 d2 a2 b2 d2 false s3
    simpa using this
  · have := in_cont (n + 3) s3 a10 d10 ya yb yd sx sy (by decide)
    rw [(mmB_iff a10 d10).mpr m1] at this
    exact this
  · exact s_is_lattice (n + 6) m p q o a2 b2 d2 s3 hm3 r ho hb L Z
end G13
namespace G13
open PySem PySem.Spec PyProof.Rows L2 Gm
/-! ### the tests tell the dual -/
theorem mk_du {u s : Nat} {a b d a1 b1 d1 : Rat} (n i : Nat) (st : Store) (h : LZ u s a b d) (hs : 2 * s + 1 < 1990) (hu : u < 1990) (L1 : La (du a b d) a1 b1 d1) (hi : st[i]? = some (.lst [pD (1 / a) 0, pD (-(b / (a * d))) (1 / d)])) :
    mkD T (run (n + 5)) 3 [.ref i] st = .ok (latD a1 b1 d1) st := by
  obtain ⟨D, D0, D1, hL⟩ := h
  obtain ⟨α, β, δ, e1, e2, e3, α0, δ0, b1', b2, b3, b4, p0⟩ := hL.bd
  have Dq := cast_ne D0
  have αq := cast_ne α0
  have δq := cast_ne δ0
  have a0 : a ≠ 0 := by rw [e1]; grind
  have d0 : d ≠ 0 := by rw [e3]; grind
  have q1 : (1 : Rat) / a = ((D * δ : Int) : Rat) / ((α * δ : Int) : Rat) := by rw [e1, Rat.intCast_mul, Rat.intCast_mul]; grind
  have q2 : -(b / (a * d)) = ((-(D * β) : Int) : Rat) / ((α * δ : Int) : Rat) := by rw [e1, e2, e3, Rat.intCast_neg, Rat.intCast_mul, Rat.intCast_mul]; grind
  have q3 : (1 : Rat) / d = ((D * α : Int) : Rat) / ((α * δ : Int) : Rat) := by rw [e3, Rat.intCast_mul, Rat.intCast_mul]; grind
  have q0 : (0 : Rat) = ((0 : Int) : Rat) / ((α * δ : Int) : Rat) := by rw [show ((0 : Int) : Rat) = 0 from rfl]; grind
  have b5 : α.natAbs ≤ 2 ^ (2 * s + 1) := le_abs b1' (by omega)
  obtain ⟨a', b', d', e4, L', Z'⟩ := s_mkL n (u + (2 * s + 1)) (by omega) (.ref i) [(1 / a, 0), (-(b / (a * d)), 1 / d)] st (by unfold seqOf; simp only [hi]; rfl) (by simp) (α * δ) p0 (Nat.lt_of_le_of_lt b4 (Nat.pow_lt_pow_right (by decide) (by omega))) (fun p hp => by
      simp only [List.mem_cons, List.not_mem_nil, or_false] at hp
      rcases hp with rfl | rfl
      · exact ⟨D * δ, 0, q1, q0, mul_abs D1 b3, Nat.zero_le _⟩
      · exact ⟨-(D * β), D * α, q2, q3, by rw [Int.natAbs_neg]; exact mul_abs D1 b2, mul_abs D1 b5⟩) ⟨(1 / a, 0), by simp, (-(b / (a * d)), 1 / d), by simp, by dsimp only; grind⟩
  obtain ⟨f1, f2, f3⟩ := La.eq_of L1 (show La (du a b d) a' b' d' from L') (fun p hp => L'.of p hp) (fun p hp => L1.of p hp)
  rw [e4, ← f1, ← f2, ← f3]
/-! ### a form that is whole just at the dual's members -/
theorem s_truth (n : Nat) (w : Bool) (st : Store) : run (n + 1) 17 [.bl w, .bl w] st = .ok (.bl true) st := by
  rw [run_17]
  refine fnD_rt0 ?_ (by simp)
  cases w <;> simp [B_17, startE]
noncomputable def fo1 (c : Fn) : Fs := (sAsg (xMethW T c 48 (xVar 3) aNil) (gNm 4))
noncomputable def fo2 (c : Fn) : Fs := (sAsg (xMethW T c 51 (xVar 4) aNil) (gTp (gsCons (gNm 5) (gsCons (gNm 6) gsNil))))
noncomputable def fo3 (c : Fn) : Fs := (sAsg (xCall T c 11 (aCons (xVar 0) (aCons (xLst (aCons (xK (.int 1)) (aCons (xK (.int 1)) (aCons (xK (.int 2)) (aCons (xK (.int 3)) (aCons (xBin (binD T c .Add) (xK (.int 1)) (xCall T c 14 (aCons (xVar 0) (aCons (xK (.int 9)) aNil)))) aNil)))))) aNil))) (gNm 7))
noncomputable def fo4 (c : Fn) : Fs := (sAsg (xBin (binD T c .Mult) (xBin (binD T c .Add) (xBin (binD T c .Mult) (xCall T c 15 (aCons (xVar 0) (aCons (xK (.int 20)) aNil))) (xVar 5)) (xBin (binD T c .Mult) (xCall T c 15 (aCons (xVar 0) (aCons (xK (.int 20)) aNil))) (xVar 6))) (xMk T c 0 (aCons (xK (.int 1)) (aCons (xVar 7) aNil)))) (gNm 8))
noncomputable def fo5 (c : Fn) : Fs := (sAsg (xMk T c 2 (aCons (xFld T c 42 (xVar 8)) (aCons (xFld T c 43 (xVar 8)) aNil))) (gNm 9))
noncomputable def fo6 (c : Fn) : Fs := (sPar 10 11 (aCons (xCall T c 21 (aCons (xBin subD (xVar 1) (xK (.int 0))) (aCons (xVar 2) aNil))) (aCons (xCall T c 21 (aCons (xBin subD (xVar 1) (xK (.int 1))) (aCons (xVar 2) aNil))) aNil)))
noncomputable def fo7 (c : Fn) : Fs := (sAsg (xAnd (truD T c) (xBin (eqB T c false) (xFld T c 41 (xCallI T c (xVar 9) (aCons (xVar 10) aNil))) (xK (.int 1))) (xBin (eqB T c false) (xFld T c 41 (xCallI T c (xVar 9) (aCons (xVar 11) aNil))) (xK (.int 1)))) (gNm 12))
noncomputable def fo8 (c : Fn) : Fs := (sIf (tOr (tNot (tOf (truD T c) (xCall T c 17 (aCons (xBin (inO T c false) (xVar 8) (xVar 4)) (aCons (xVar 12) aNil))))) (tNot (tOf (truD T c) (xBin (eqB T c false) (xCall T c 6 (aCons (xVar 9) (aCons (xVar 10) aNil))) (xCallI T c (xVar 9) (aCons (xVar 10) aNil)))))) (sRet (xK (.bl false))) sNx)
noncomputable def fo9 (c : Fn) : Fs := (sAsg (xMethW T c 53 (xVar 3) aNil) (gNm 13))
noncomputable def fo10 (c : Fn) : Fs := (sAsg (xLc (iSeq (xVar 13)) (gNm 5) tTrue (xMk T c 1 (aCons (xFld T c 42 (xVar 5)) (aCons (xFld T c 43 (xVar 5)) aNil))) [5]) (gNm 14))
noncomputable def fo11 (c : Fn) : Fs := (sRet (xBin (eqB T c false) (xMk T c 3 (aCons (xVar 14) aNil)) (xVar 4)))
theorem fo_eq (c : Fn) : B_34 c = sSeq (fo1 c) (sSeq (fo2 c) (sSeq (fo3 c) (sSeq (fo4 c) (sSeq (fo5 c) (sSeq (fo6 c) (sSeq (fo7 c) (sSeq (fo8 c) (sSeq (fo9 c) (sSeq (fo10 c) (fo11 c)))))))))) := rfl
theorem fo7_run (c : Fn) (o0 o1 o2 o3 o4 o5 o6 o7 o8 o12 o13 o14 : Option D) (x y z1 z2 w1 w2 v1 v2 : Rat) (st : Store) (h1 : c 69 [fD x y, pD z1 z2] st = .ok (rD v1) st) (h2 : c 69 [fD x y, pD w1 w2] st = .ok (rD v2) st) :
    fo7 c [o0, o1, o2, o3, o4, o5, o6, o7, o8, some (fD x y), some (pD z1 z2), some (pD w1 w2), o12, o13, o14] st = .nx [o0, o1, o2, o3, o4, o5, o6, o7, o8, some (fD x y), some (pD z1 z2), some (pD w1 w2), some (.bl (decide (v1.den = 1) && decide (v2.den = 1))), o13, o14] st := by
  by_cases k1 : v1.den = 1
  · have k1' : ((v1.den : Int) == 1) = true := by rw [k1]; rfl
    by_cases k2 : v2.den = 1
    · have k2' : ((v2.den : Int) == 1) = true := by rw [k2]; rfl
      simp [fo7, hm_form, h1, h2, fd_bottom, k1, k2]
    · have k2' : ((v2.den : Int) == 1) = false := by simpa using fun e => k2 (by omega)
      simp [fo7, hm_form, h1, h2, fd_bottom, k1, k2, k2']
  · have k1' : ((v1.den : Int) == 1) = false := by simpa using fun e => k1 (by omega)
    simp [fo7, hm_form, h1, h2, fd_bottom, k1, k1']
end G13
namespace G13
open PySem PySem.Spec PyProof.Rows L2 Gm
theorem zp_den {v w : Rat × Rat} : Zp v w ↔ (v.1 * w.1 + v.2 * w.2).den = 1 :=
  ⟨Zp.den, fun h => ⟨_, den1 h⟩⟩
theorem whole_iff {o : Int} {p q : Int × Int} {a b d a1 b1 d1 x y : Rat} (L : La [ovp o p, ovp o q] a b d) (L1 : La (du a b d) a1 b1 d1) :
    mmB a1 b1 d1 x y = (decide ((x * (ovp o p).1 + y * (ovp o p).2).den = 1) && decide ((x * (ovp o q).1 + y * (ovp o q).2).den = 1)) := by
  rw [Bool.eq_iff_iff, mmB_iff (ne_of_pos L1.a0) (ne_of_pos L1.d0), dual_mm (ne_of_pos L.a0) (ne_of_pos L.d0) L1, ← L.z_iff, Bool.and_eq_true, decide_eq_true_eq, decide_eq_true_eq]
  have e1 := zp_den (v := (x, y)) (w := ovp o p)
  have e2 := zp_den (v := (x, y)) (w := ovp o q)
  dsimp only at e1 e2
  rw [← e1, ← e2]
  simp
theorem fo_run (c : Fn) (m : Nat) (p q : Int × Int) (o f g k v0 : Int) (a b d a1 b1 d1 u1 u2 w1 w2 x1 y1 r x y z1 z2 t1 t2 v1 v2 : Rat) (st s1 s2 s3 s4 : Store) (G : Cell) (hG : G = .lst [.int 1, .int 1, .int 2, .int 3, .int (1 + v0)])
    (hm4 : (s4 ++ [G])[m]? = some (.lst [prD p, prD q]))
    (hd : ∀ st, c 81 [latD a b d] st = .ok (latD a1 b1 d1) st) (hrow : ∀ a b d st, c 78 [latD a b d] st = .ok (.tup [pD a b, pD 0 d]) st)
    (hsz : c 14 [.ref 1, .int 9] st = .ok (.int v0) s1) (hpk : c 11 [.ref 1, .ref s1.length] (s1 ++ [G]) = .ok (.int k) (s2 ++ [G]))
    (hn1 : c 15 [.ref 1, .int 20] (s2 ++ [G]) = .ok (.int f) (s3 ++ [G])) (hn2 : c 15 [.ref 1, .int 20] (s3 ++ [G]) = .ok (.int g) (s4 ++ [G]))
    (hp1 : binD T c .Mult (.int f) (pD a1 b1) (s3 ++ [G]) = .ok (pD u1 u2) (s3 ++ [G])) (hp2 : binD T c .Mult (.int g) (pD 0 d1) (s4 ++ [G]) = .ok (pD w1 w2) (s4 ++ [G])) (hp3 : binD T c .Add (pD u1 u2) (pD w1 w2) (s4 ++ [G]) = .ok (pD x1 y1) (s4 ++ [G]))
    (hmk : mkD T c 0 [.int 1, .int k] (s4 ++ [G]) = .ok (rD r) (s4 ++ [G])) (hp4 : binD T c .Mult (pD x1 y1) (rD r) (s4 ++ [G]) = .ok (pD x y) (s4 ++ [G]))
    (hF : mkD T c 2 [rD x, rD y] (s4 ++ [G]) = .ok (fD x y) (s4 ++ [G]))
    (hpt1 : c 21 [prD p, .int o] (s4 ++ [G]) = .ok (pD z1 z2) (s4 ++ [G])) (hpt2 : c 21 [prD q, .int o] (s4 ++ [G]) = .ok (pD t1 t2) (s4 ++ [G]))
    (h1 : c 69 [fD x y, pD z1 z2] (s4 ++ [G]) = .ok (rD v1) (s4 ++ [G])) (h2 : c 69 [fD x y, pD t1 t2] (s4 ++ [G]) = .ok (rD v2) (s4 ++ [G]))
    (hin : inO T c false (pD x y) (latD a1 b1 d1) (s4 ++ [G]) = .ok (.bl (decide (v1.den = 1) && decide (v2.den = 1))) (s4 ++ [G]))
    (htr : ∀ w, c 17 [.bl w, .bl w] (s4 ++ [G]) = .ok (.bl true) (s4 ++ [G]))
    (hval : c 6 [fD x y, pD z1 z2] (s4 ++ [G]) = .ok (rD v1) (s4 ++ [G])) (heq : eqB T c false (rD v1) (rD v1) (s4 ++ [G]) = .ok (.bl true) (s4 ++ [G]))
    (hte : c 80 [latD a b d] (s4 ++ [G]) = .ok (.tup [fD (1 / a) 0, fD (-(b / (a * d))) (1 / d)]) (s4 ++ [G]))
    (hmkP : ∀ x y st, mkD T c 1 [rD x, rD y] st = .ok (pD x y) st)
    (hL : mkD T c 3 [.ref (s4 ++ [G]).length] (s4 ++ [G] ++ [.lst [pD (1 / a) 0, pD (-(b / (a * d))) (1 / d)]]) = .ok (latD a1 b1 d1) (s4 ++ [G] ++ [.lst [pD (1 / a) 0, pD (-(b / (a * d))) (1 / d)]]))
    (hle : ∀ st, eqB T c false (latD a1 b1 d1) (latD a1 b1 d1) st = .ok (.bl true) st) :
    B_34 c (startE 15 [.ref 1, .ref m, .int o, latD a b d]) st = .rt (.bl true) (s4 ++ [G] ++ [.lst [pD (1 / a) 0, pD (-(b / (a * d))) (1 / d)]]) := by
  have q0 : subD (.ref m) (.int 0) (s4 ++ [G]) = .ok (prD p) (s4 ++ [G]) := by rw [subR hm4]; rfl
  have q1 : subD (.ref m) (.int 1) (s4 ++ [G]) = .ok (prD q) (s4 ++ [G]) := by rw [subR hm4]; rfl
  rw [fo_eq]
  refine seq_step (ρ' := [some (.ref 1), some (.ref m), some (.int o), some (latD a b d), some (latD a1 b1 d1), none, none, none, none, none, none, none, none, none, none]) (st' := st) (by simp [fo1, startE, hm_dual, hd]) ?_
  refine seq_step (ρ' := [some (.ref 1), some (.ref m), some (.int o), some (latD a b d), some (latD a1 b1 d1), some (pD a1 b1), some (pD 0 d1), none, none, none, none, none, none, none, none]) (st' := st) (by simp [fo2, hm_rows, hrow]) ?_
  refine seq_step (ρ' := [some (.ref 1), some (.ref m), some (.int o), some (latD a b d), some (latD a1 b1 d1), some (pD a1 b1), some (pD 0 d1), some (.int k), none, none, none, none, none, none, none]) (st' := s2 ++ [G]) (by
    rw [hG] at hpk ⊢
    simp [fo3, hsz, newLst, hpk]) ?_
  refine seq_step (ρ' := [some (.ref 1), some (.ref m), some (.int o), some (latD a b d), some (latD a1 b1 d1), some (pD a1 b1), some (pD 0 d1), some (.int k), some (pD x y), none, none, none, none, none, none]) (st' := s4 ++ [G]) (by simp [fo4, hn1, hp1, hn2, hp2, hp3, hmk, hp4]) ?_
  refine seq_step (ρ' := [some (.ref 1), some (.ref m), some (.int o), some (latD a b d), some (latD a1 b1 d1), some (pD a1 b1), some (pD 0 d1), some (.int k), some (pD x y), some (fD x y), none, none, none, none, none]) (st' := s4 ++ [G]) (by simp [fo5, fd_x, fd_y, hF]) ?_
  refine seq_step (ρ' := [some (.ref 1), some (.ref m), some (.int o), some (latD a b d), some (latD a1 b1 d1), some (pD a1 b1), some (pD 0 d1), some (.int k), some (pD x y), some (fD x y), some (pD z1 z2), some (pD t1 t2), none, none, none]) (st' := s4 ++ [G]) (by simp [fo6, q0, q1, hpt1, hpt2]) ?_
  refine seq_step (fo7_run c _ _ _ _ _ _ _ _ _ _ _ _ x y z1 z2 t1 t2 v1 v2 (s4 ++ [G]) h1 h2) ?_
  generalize (decide (v1.den = 1) && decide (v2.den = 1)) = w at *
  refine seq_step (ρ' := [some (.ref 1), some (.ref m), some (.int o), some (latD a b d), some (latD a1 b1 d1), some (pD a1 b1), some (pD 0 d1), some (.int k), some (pD x y), some (fD x y), some (pD z1 z2), some (pD t1 t2), some (.bl w), none, none]) (st' := s4 ++ [G]) (by simp [fo8, hin, htr, hval, hm_form, h1, heq]) ?_
  refine seq_step (ρ' := [some (.ref 1), some (.ref m), some (.int o), some (latD a b d), some (latD a1 b1 d1), some (pD a1 b1), some (pD 0 d1), some (.int k), some (pD x y), some (fD x y), some (pD z1 z2), some (pD t1 t2), some (.bl w), some (.tup [fD (1 / a) 0, fD (-(b / (a * d))) (1 / d)]), none]) (st' := s4 ++ [G]) (by simp [fo9, hm_tests, hte]) ?_
  have hlc := lc2d (f := xVar 13) (h := xMk T c 1 (aCons (xFld T c 42 (xVar 5)) (aCons (xFld T c 43 (xVar 5)) aNil))) (i := 5) (vs := [5]) (ρ := [some (.ref 1), some (.ref m), some (.int o), some (latD a b d), some (latD a1 b1 d1), some (pD a1 b1), some (pD 0 d1), some (.int k), some (pD x y), some (fD x y), some (pD z1 z2), some (pD t1 t2), some (.bl w), some (.tup [fD (1 / a) 0, fD (-(b / (a * d))) (1 / d)]), none]) (st := s4 ++ [G]) (s1 := s4 ++ [G]) (s2 := s4 ++ [G]) (e1 := []) (e2 := []) (y1 := pD (1 / a) 0) (y2 := pD (-(b / (a * d))) (1 / d)) rfl (by simp [wipeE, fd_fx, fd_fy, hmkP]) rfl (by simp [wipeE, fd_fx, fd_fy, hmkP]) rfl
  refine seq_step (ρ' := [some (.ref 1), some (.ref m), some (.int o), some (latD a b d), some (latD a1 b1 d1), some (pD a1 b1), some (pD 0 d1), some (.int k), some (pD x y), some (fD x y), some (pD z1 z2), some (pD t1 t2), some (.bl w), some (.tup [fD (1 / a) 0, fD (-(b / (a * d))) (1 / d)]), some (.ref (s4 ++ [G]).length)]) (st' := s4 ++ [G] ++ [.lst [pD (1 / a) 0, pD (-(b / (a * d))) (1 / d)]]) (by
    unfold fo10
    rw [ap_sAsg, hlc]
    rfl) ?_
  have hL' : xMk T c 3 (aCons (xVar 14) aNil) [some (.ref 1), some (.ref m), some (.int o), some (latD a b d), some (latD a1 b1 d1), some (pD a1 b1), some (pD 0 d1), some (.int k), some (pD x y), some (fD x y), some (pD z1 z2), some (pD t1 t2), some (.bl w), some (.tup [fD (1 / a) 0, fD (-(b / (a * d))) (1 / d)]), some (.ref (s4 ++ [G]).length)] (s4 ++ [G] ++ [.lst [pD (1 / a) 0, pD (-(b / (a * d))) (1 / d)]]) = .ok (latD a1 b1 d1) (s4 ++ [G] ++ [.lst [pD (1 / a) 0, pD (-(b / (a * d))) (1 / d)]]) := hL
  unfold fo11
  simp only [ap_sRet, ap_xBin, hL', Res.bind_ok, kB1_, ap_xVar, List.getElem?_cons_succ, List.getElem?_cons_zero, vr_, kB2_, hle, Res.toS_ok, kRt_]
end G13
namespace G13
open PySem PySem.Spec PyProof.Rows L2 Gm
theorem one_over {k : Int} : Rat.divInt 1 k = 1 / (k : Rat) := by
  rw [Rat.divInt_eq_div]
  rfl
theorem pick_k {b : Nat} {st : Store} (n : Nat) (h : Pen (b + 9) st) : ∃ v k s1 s2, run (n + 9) 14 [.ref 1, .int 9] st = .ok (.int v) s1 ∧ run (n + 9) 11 [.ref 1, .ref s1.length] (s1 ++ [.lst [.int 1, .int 1, .int 2, .int 3, .int (1 + v)]]) = .ok (.int k) (s2 ++ [.lst [.int 1, .int 1, .int 2, .int 3, .int (1 + v)]]) ∧ Nx st s2 ∧ Pen b s2 ∧ 0 < k ∧ k.natAbs ≤ 2 ^ 30 := by
  obtain ⟨v, s1, e1, n1, p1, v0, v1⟩ := d_size (b := b + 1) (n + 6) 9 (by decide) (by decide) h
  have hs : seqOf (.ref s1.length) (s1 ++ [.lst [.int 1, .int 1, .int 2, .int 3, .int (1 + v)]]) = some [.int 1, .int 1, .int 2, .int 3, .int (1 + v)] := by
    unfold seqOf
    simp
  obtain ⟨d, s2, e2, n2, p2, hd⟩ := d_pick (b := b) (n + 7) (p1.ext [.lst [.int 1, .int 1, .int 2, .int 3, .int (1 + v)]]) (.ref s1.length) [.int 1, .int 1, .int 2, .int 3, .int (1 + v)] hs (by simp) (by simp) (by simp)
  have hv : ((10 ^ 9 : Nat) : Int) = 1000000000 := by decide
  rw [hv] at v1
  obtain ⟨k, rfl, k0, k1⟩ : ∃ k : Int, d = .int k ∧ 0 < k ∧ k.natAbs ≤ 2 ^ 30 := by
    simp at hd
    rcases hd with rfl | rfl | rfl | rfl
    · exact ⟨1, rfl, by decide, by decide⟩
    · exact ⟨2, rfl, by decide, by decide⟩
    · exact ⟨3, rfl, by decide, by decide⟩
    · exact ⟨1 + v, rfl, by omega, by omega⟩
  obtain ⟨s2, rfl, n2, p2⟩ := n2.split p1.long p2
  exact ⟨v, k, s1, s2, e1, e2, n1.trans n2, p2, k0, k1⟩
theorem d_forms_right {b' : Nat} {st : Store} (n m : Nat) (p q : Int × Int) (o : Int) (a b d : Rat) (h : Pen (b' + 27) st) (hm : st[m]? = some (.lst [prD p, prD q])) (r : Rs 93 p q) (ho : 0 < o) (hb : o.natAbs ≤ 2 ^ 80) (L : La [ovp o p, ovp o q] a b d) (Z : LZ 80 93 a b d) :
    ∃ st', run (n + 10) 34 [.ref 1, .ref m, .int o, latD a b d] st = .ok (.bl true) st' ∧ Nx st st' ∧ Pen b' st' := by
  obtain ⟨a1, b1, d1, L1, Z1⟩ := dual_ex Z (by decide) (by decide)
  obtain ⟨v, k, s1, s2, hsz, hpk, n2, p2, k0, k1⟩ := pick_k (b := b' + 18) n h
  obtain ⟨G, hG⟩ : ∃ G : Cell, G = .lst [.int 1, .int 1, .int 2, .int 3, .int (1 + v)] := ⟨_, rfl⟩
  rw [← hG] at hpk
  obtain ⟨f, s3, e3, n3, p3, f1⟩ := d_number (b := b' + 9) (n + 5) 20 (by decide) (by decide) (p2.ext [G])
  obtain ⟨s3, rfl, n3, p3⟩ := n3.split p2.long p3
  obtain ⟨g, s4, e4, n4, p4, g1⟩ := d_number (b := b') (n + 5) 20 (by decide) (by decide) (p3.ext [G])
  obtain ⟨s4, rfl, n4, p4⟩ := n4.split p3.long p4
  have hn := (n2.trans n3).trans n4
  have hm4 : (s4 ++ [G])[m]? = some (.lst [prD p, prD q]) := get_ext (nx_lst h hn hm)
  obtain ⟨za, zb, zd⟩ := Z.sz (t := 188) (by decide) (by decide)
  obtain ⟨ya, yb, yd⟩ := Z1.sz (t := 536) (by decide) (by decide)
  have k5 : ∀ {x : Rat}, Sz 536 x → Sz 4000 x := fun h => h.mono (by decide)
  have a0 := ne_of_pos L.a0
  have d0 := ne_of_pos L.d0
  have a10 := ne_of_pos L1.a0
  have d10 := ne_of_pos L1.d0
  have nf := nb_of (nb20 f1) (show 67 < 68 by decide)
  have ng := nb_of (nb20 g1) (show 67 < 68 by decide)
  have zf : Sz 68 (f : Rat) := Sz.int nf (by decide)
  have zg : Sz 68 (g : Rat) := Sz.int ng (by decide)
  have z0 : Sz 1 (0 : Rat) := Sz.zero 1 (by decide)
  have y1 := ya.mul zf
  have y2 := yb.mul zf
  have y3 := yd.mul zg
  have y4 := z0.mul zg
  have sx := y1.add y4
  have sy := y2.add y3
  have nk := nb_of k1 (show 30 < 31 by decide)
  have kr : (k : Rat) ≠ 0 := cast_ne k0
  have sr : Sz 32 (1 / (k : Rat)) := (Sz_div (Sz.one 1 (by decide)) (Sz.int nk (by decide)) kr).mono (by decide)
  have tx := (sx.mul sr).mono (b' := 1242) (by decide)
  have ty := (sy.mul sr).mono (b' := 1242) (by decide)
  have sv : ∀ {x : Int}, x.natAbs ≤ 2 ^ 93 → Sz 1900 ((x : Rat) / o) := fun h => sz_n h hb ho (by decide) (by decide)
  have no : Nb 4000 o := nb_of hb (by decide)
  have t9 : ∀ {x : Rat}, Sz 1242 x → Sz 1900 x := fun h => h.mono (by decide)
  have zi := (Sz_div zb (za.mul zd) (fun z => (Rat.mul_eq_zero.mp z).elim a0 d0)).mono (b' := 4000) (by decide)
  refine ⟨s4, ?_, hn, p4⟩
  rw [run_34]
  have hin := in_cont (n + 3) (s4 ++ [G]) a10 d10 ya yb yd tx ty (by decide)
  rw [whole_iff L L1] at hin
  have hmk := s_mk (n + 7) 1 k (s4 ++ [G]) (by omega) (nk.mono (by decide))
  rw [one_over] at hmk
  have hev := b_eq (n + 7)
  have run_it := fo_run (run (n + 9)) m p q o f g k v a b d a1 b1 d1 _ _ _ _ _ _ (1 / (k : Rat)) _ _ ((p.1 : Rat) / o) ((p.2 : Rat) / o) ((q.1 : Rat) / o) ((q.2 : Rat) / o) _ _ st s1 s2 s3 s4 G hG hm4 (fun st => s_dualU (n + 2) Z (by decide) (by decide) L1 st) (fun a b d st => s_lrows (n + 4) a b d st) hsz hpk e3 e4
    (p_imul (n + 4) a1 b1 _ f (k5 ya) (k5 yb) (nf.mono (by decide))) (p_imul (n + 4) 0 d1 _ g (z0.mono (by decide)) (k5 yd) (ng.mono (by decide))) (p_add (n + 4) _ _ _ _ _ (y1.mono (by decide)) (y2.mono (by decide)) (y4.mono (by decide)) (y3.mono (by decide)))
    hmk (p_mulR (n + 4) _ _ (1 / (k : Rat)) _ (sx.mono (by decide)) (sy.mono (by decide)) (sr.mono (by decide))) (s_mkF (n + 5) _ (IsN.rD _) (IsN.rD _))
    (s_lpoint (n + 4) p o _ ho no) (s_lpoint (n + 4) q o _ ho no) (s_fcall (n + 4) _ _ _ _ _ (t9 tx) (t9 ty) (sv r.p1) (sv r.p2)) (s_fcall (n + 4) _ _ _ _ _ (t9 tx) (t9 ty) (sv r.q1) (sv r.q2))
    hin (fun w => s_truth (n + 8) w _) (s_value (n + 5) _ _ _ _ _ (t9 tx) (t9 ty) (sv r.p1) (sv r.p2)) (by
      have := b_eq (n + 7) ((a1 * (f : Rat) + 0 * (g : Rat)) * (1 / (k : Rat)) * ((p.1 : Rat) / o) + (b1 * (f : Rat) + d1 * (g : Rat)) * (1 / (k : Rat)) * ((p.2 : Rat) / o)) ((a1 * (f : Rat) + 0 * (g : Rat)) * (1 / (k : Rat)) * ((p.1 : Rat) / o) + (b1 * (f : Rat) + d1 * (g : Rat)) * (1 / (k : Rat)) * ((p.2 : Rat) / o)) (s4 ++ [G]) false
      rw [this, decide_eq_true rfl]
      rfl)
    (s_tests (n + 4) a b d _ (za.mono (by decide)) (zb.mono (by decide)) (zd.mono (by decide)) a0 d0 zi) (fun x y st => s_mkP_r (n + 5) x y st) (mk_du (n + 4) _ _ Z (by decide) (by decide) L1 (by rw [List.getElem?_append_right (Nat.le_refl _)]; simp)) (fun st => by
      have := l_eq (n + 6) a1 b1 d1 a1 b1 d1 false st
      rw [this, decide_eq_true ⟨rfl, rfl, rfl⟩]
      rfl)
  rw [List.append_assoc] at run_it
  exact fnD_pen run_it hn p4 (by simp)
end G13
namespace G13
open PySem PySem.Spec PyProof.Rows L2 Gm
theorem abs_le_of_mul {x y z : Int} (hx : 0 < x) (hy : 0 < y) (h : x * y = z) : x.natAbs ≤ z.natAbs := by
  rw [← h, Int.natAbs_mul]
  exact Nat.le_mul_of_pos_right _ (by omega)
theorem part_q (x y A B E D : Rat) (hE : E ≠ 0) (hD : D ≠ 0) (hA : A ≠ 0) (hB : B ≠ 0) (h : x / D * (y / D) = 1 / (A / E * (B / E))) : x * y * (A * B) = D * D * (E * E) := by
  have h1 : x * y = x / D * (y / D) * (D * D) := by grind
  rw [h1, h]
  grind
/-- a common part is told over the bottom of the one -/
theorem LZ.part {u s u' s' : Nat} {a b d A2 B2 D2 a4 b4 d4 : Rat} (h : LZ u s a b d) (hS : LZ u' s' A2 B2 D2) (C4 : Cn a4 b4 d4) (i j k : Int) (e1 : a4 = i * a) (e2 : b4 = i * b + j * d) (e3 : d4 = k * d) (hc : a4 * d4 = 1 / (A2 * D2)) : LZ u (2 * u + 2 * u') a4 b4 d4 := by
  obtain ⟨D, D0, D1, hL⟩ := h
  obtain ⟨α, β, δ, f1, f2, f3, α0, δ0, _⟩ := hL.bd
  obtain ⟨E, E0, E1, hM⟩ := hS
  obtain ⟨α', β', δ', g1, g2, g3, α1, δ1, _⟩ := hM.bd
  have Dq := cast_ne D0
  have Eq := cast_ne E0
  have Dp : (0 : Rat) < (D : Rat) := Rat.intCast_lt_intCast.mpr D0
  have r1 : a4 = ((i * α : Int) : Rat) / D := by rw [e1, f1, Rat.intCast_mul]; grind
  have r2 : b4 = ((i * β + j * δ : Int) : Rat) / D := by rw [e2, f2, f3, Rat.intCast_add, Rat.intCast_mul, Rat.intCast_mul]; grind
  have r3 : d4 = ((k * δ : Int) : Rat) / D := by rw [e3, f3, Rat.intCast_mul]; grind
  have pos : ∀ {x : Int}, (0 : Rat) < (x : Rat) / D → 0 < x := fun {x} h => by
    have : (0 : Rat) < (x : Rat) := by
      have h2 := Rat.mul_pos h Dp
      have e : (x : Rat) / D * D = x := by grind
      rwa [e] at h2
    exact Rat.intCast_lt_intCast.mp (show ((0 : Int) : Rat) < (x : Rat) from this)
  have a0 := C4.a0
  have d0 := C4.d0
  rw [r1] at a0
  rw [r3] at d0
  have p1 := pos a0
  have p2 := pos d0
  have mulD : ∀ {x : Int}, (x : Rat) / D * D = x := fun {x} => by grind
  have b0 : 0 ≤ i * β + j * δ := by
    have h1 := C4.b0
    rw [r2] at h1
    have h2 := Rat.mul_nonneg h1 (Rat.le_of_lt Dp)
    rw [mulD] at h2
    exact Rat.intCast_le_intCast.mp (show ((0 : Int) : Rat) ≤ _ from h2)
  have bd : i * β + j * δ < k * δ := by
    have h1 := C4.bd
    rw [r2, r3] at h1
    have h2 := Rat.mul_lt_mul_of_pos_right h1 Dp
    rw [mulD, mulD] at h2
    exact Rat.intCast_lt_intCast.mp h2
  have hc' := hc
  rw [r1, r3, g1, g3] at hc'
  have h4 := part_q _ _ _ _ _ _ Eq Dq (cast_ne α1) (cast_ne δ1) hc'
  have h5 : (i * α) * (k * δ) * (α' * δ') = D * D * (E * E) := by
    rw [← Rat.intCast_mul, ← Rat.intCast_mul, ← Rat.intCast_mul, ← Rat.intCast_mul, ← Rat.intCast_mul, ← Rat.intCast_mul] at h4
    exact Rat.intCast_inj.mp h4
  have h6 := abs_le_of_mul (Int.mul_pos p1 p2) (Int.mul_pos α1 δ1) h5
  have h7 : (D * D * (E * E)).natAbs ≤ 2 ^ (2 * u + 2 * u') := le_abs (mul_abs (mul_abs D1 D1) (mul_abs E1 E1)) (by omega)
  have h8 : (i * α * (k * δ)).natAbs ≤ 2 ^ (2 * u + 2 * u') := Nat.le_trans h6 h7
  refine ⟨D, D0, D1, ⟨i * α, i * β + j * δ, k * δ, r1, r2, r3, p1, b0, bd, Nat.le_trans (abs_le_of_mul p1 p2 rfl) h8, le_abs h8 (by omega)⟩⟩
/-! ### common parts -/
theorem s_landE (n : Nat) (a b d a' b' d' a1 b1 d1 a2 b2 d2 x y z X Y Z : Rat) (st : Store) (h1 : ∀ st, run (n + 7) 81 [latD a b d] st = .ok (latD a1 b1 d1) st) (h2 : ∀ st, run (n + 7) 81 [latD a' b' d'] st = .ok (latD a2 b2 d2) st)
    (h3 : ∀ st, run (n + 7) 85 [latD a1 b1 d1, latD a2 b2 d2] st = .ok (latD x y z) st) (h4 : ∀ st, run (n + 7) 81 [latD x y z] st = .ok (latD X Y Z) st) : run (n + 8) 86 [latD a b d, latD a' b' d'] st = .ok (latD X Y Z) st := by
  rw [run_86]
  refine fnD_rt0 ?_ (noRef_latD _ _ _ _)
  have q : ∀ c : Fn, (∀ st, c 81 [latD a b d] st = .ok (latD a1 b1 d1) st) → (∀ st, c 81 [latD a' b' d'] st = .ok (latD a2 b2 d2) st) → (∀ st, c 85 [latD a1 b1 d1, latD a2 b2 d2] st = .ok (latD x y z) st) → (∀ st, c 81 [latD x y z] st = .ok (latD X Y Z) st) → B_86 c (startE 2 [latD a b d, latD a' b' d']) st = .rt (latD X Y Z) st := fun c h1 h2 h3 h4 => by
    have ad : binD T c .Add (latD a1 b1 d1) (latD a2 b2 d2) st = .ok (latD x y z) st := (bin_own (i := 3) (f := 85) st rfl (by decide)).trans (h3 st)
    simp [B_86, startE, iso_latD, hm_dual, h1, h2, ad, h4]
  exact q _ h1 h2 h3 h4
/-! ### multiples -/
theorem tru_rD (n : Nat) (q : Rat) (st : Store) : truD T (run (n + 1)) (rD q) st = .ok (decide (q ≠ 0)) st := tru_own st rfl (b_bool n q st)
theorem s_scaled {u s t t' : Nat} {a b d f : Rat} (ν δf : Int) (n : Nat) (h : LZ u s a b d) (hf : f = (ν : Rat) / δf) (ν0 : ν ≠ 0) (δ0 : 0 < δf) (bν : ν.natAbs ≤ 2 ^ t) (bδ : δf.natAbs ≤ 2 ^ t') (hs : 2 * s + 1 + t ≤ 1900) (hu : u + t' < 1900) (ht : t < 1000 ∧ t' < 1000) :
    ∃ A B D, La [(a * f, b * f), (0 * f, d * f)] A B D ∧ LZ (u + t') (2 * s + 1 + t) A B D ∧ ∀ st, run (n + 8) 8 [latD a b d, rD f] st = .ok (latD A B D) st := by
  have hz := h.sz (t := 2000) (by omega) (by omega)
  obtain ⟨D, D0, D1, hL⟩ := h
  obtain ⟨α, β, δ, e1, e2, e3, α0, δ1, b1, b2, b3, b4, p0⟩ := hL.bd
  have Dq := cast_ne D0
  have αq := cast_ne α0
  have δq := cast_ne δ1
  have fq := cast_ne δ0
  have νq : (ν : Rat) ≠ 0 := fun z => ν0 (Rat.intCast_eq_zero_iff.mp z)
  have f0 : f ≠ 0 := by rw [hf]; grind
  have q1 : a * f = ((α * ν : Int) : Rat) / ((D * δf : Int) : Rat) := by rw [e1, hf, Rat.intCast_mul, Rat.intCast_mul]; grind
  have q2 : b * f = ((β * ν : Int) : Rat) / ((D * δf : Int) : Rat) := by rw [e2, hf, Rat.intCast_mul, Rat.intCast_mul]; grind
  have q3 : d * f = ((δ * ν : Int) : Rat) / ((D * δf : Int) : Rat) := by rw [e3, hf, Rat.intCast_mul, Rat.intCast_mul]; grind
  have q0 : 0 * f = ((0 : Int) : Rat) / ((D * δf : Int) : Rat) := by rw [show ((0 : Int) : Rat) = 0 from rfl]; grind
  have b1' : α.natAbs ≤ 2 ^ (2 * s + 1) := le_abs b1 (by omega)
  have DE : (D * δf).natAbs ≤ 2 ^ (u + t') := mul_abs D1 bδ
  have dt : (a * f) * (d * f) - (b * f) * (0 * f) ≠ 0 := by
    have e : (a * f) * (d * f) - (b * f) * (0 * f) = a * d * (f * f) := by grind
    have a0 : a ≠ 0 := by rw [e1]; grind
    have d0 : d ≠ 0 := by rw [e3]; grind
    rw [e]
    intro z
    rcases Rat.mul_eq_zero.mp z with z | z
    · exact (Rat.mul_eq_zero.mp z).elim a0 d0
    · exact (Rat.mul_eq_zero.mp z).elim f0 f0
  have go := fun (st : Store) => s_mkL (n + 2) (2 * s + 1 + t) (by omega) (.ref st.length) [(a * f, b * f), (0 * f, d * f)] (st ++ [.lst [pD (a * f) (b * f), pD (0 * f) (d * f)]]) (by unfold seqOf; simp only [at_end]; rfl) (by simp) (D * δf) (Int.mul_pos D0 δ0) (Nat.lt_of_le_of_lt DE (Nat.pow_lt_pow_right (by decide) (by omega))) (fun p hp => by
      simp only [List.mem_cons, List.not_mem_nil, or_false] at hp
      rcases hp with rfl | rfl
      · exact ⟨α * ν, β * ν, q1, q2, mul_abs b1' bν, mul_abs b2 bν⟩
      · exact ⟨0, δ * ν, q0, q3, Nat.zero_le _, mul_abs b3 bν⟩) ⟨(a * f, b * f), by simp, (0 * f, d * f), by simp, dt⟩
  obtain ⟨A, B, D2, _, LA, ZA⟩ := go []
  refine ⟨A, B, D2, LA, ⟨D * δf, Int.mul_pos D0 δ0, DE, ZA⟩, fun st => ?_⟩
  obtain ⟨A', B', D', e5, LA', _⟩ := go st
  obtain ⟨g1, g2, g3⟩ := La.eq_of LA LA' (fun p hp => LA'.of p hp) (fun p hp => LA.of p hp)
  rw [← g1, ← g2, ← g3] at e5
  have sf : Sz 1001 f := by rw [hf]; exact sz_n (le_abs bν (show t ≤ 1000 by omega)) (le_abs bδ (show t' ≤ 1000 by omega)) δ0 (by decide) (by decide)
  have ro := s_ratio_of (n + 6) f st
  have rr := s_lrows (n + 2) a b d st
  have m1 := p_rmulR (n + 2) a b f st (hz.1.mono (by decide)) (hz.2.1.mono (by decide)) (sf.mono (by decide))
  have m2 := p_rmulR (n + 2) 0 d f st (Sz.zero 4000 (by decide)) (hz.2.2.mono (by decide)) (sf.mono (by decide))
  have tr := tru_rD (n + 6) f st
  have hne : decide (f ≠ 0) = true := decide_eq_true f0
  rw [hne] at tr
  have q : ∀ (c : Fn) (x1 y1 x2 y2 : Rat), c 5 [rD f] st = .ok (rD f) st → truD T c (rD f) st = .ok true st → c 78 [latD a b d] st = .ok (.tup [pD a b, pD 0 d]) st → binD T c .Mult (rD f) (pD a b) st = .ok (pD x1 y1) st → binD T c .Mult (rD f) (pD 0 d) st = .ok (pD x2 y2) st →
      mkD T c 3 [.ref st.length] (st ++ [.lst [pD x1 y1, pD x2 y2]]) = .ok (latD A B D2) (st ++ [.lst [pD x1 y1, pD x2 y2]]) → B_8 c (startE 5 [latD a b d, rD f]) st = .rt (latD A B D2) (st ++ [.lst [pD x1 y1, pD x2 y2]]) := fun c x1 y1 x2 y2 h1 h2 h3 h4 h5 h6 => by
    simp [B_8, startE, h1, h2, hm_rows, h3, h4, h5, newLst_, h6]
  rw [run_8]
  exact fnD_rtg (q _ _ _ _ _ ro tr rr m1 m2 e5) (noRef_latD _ _ _ _)
theorem l_mul (n : Nat) (a b d f A B D : Rat) (st : Store) (h : run (n + 8) 8 [latD a b d, rD f] st = .ok (latD A B D) st) : binD T (run (n + 9)) .Mult (latD a b d) (rD f) st = .ok (latD A B D) st := by
  refine (bin_uu (i := 3) (j := 0) (f := 87) st rfl (by decide) rfl rfl rfl).trans ?_
  show run (n + 9) 87 [latD a b d, rD f] st = _
  rw [run_87]
  refine fnD_rt0 ?_ (noRef_latD _ _ _ _)
  have i1 := s_isnum (n + 7) f st
  have q : ∀ c : Fn, c 0 [rD f] st = .ok (.bl true) st → c 8 [latD a b d, rD f] st = .ok (latD A B D) st → B_87 c (startE 2 [latD a b d, rD f]) st = .rt (latD A B D) st := fun c h1 h2 => by
    simp [B_87, startE, h1, h2]
  exact q _ i1 h
end G13
namespace G13
open PySem PySem.Spec PyProof.Rows L2 Gm
noncomputable def tw1 (c : Fn) : Fs := (sPar 3 4 (aCons (xMethW T c 48 (xVar 0) aNil) (aCons (xMethW T c 48 (xVar 1) aNil) aNil)))
noncomputable def tw2 (c : Fn) : Fs := (sIf (tOr (tNot (tOf (truD T c) (xBin (eqB T c false) (xMethW T c 48 (xBin (binD T c .Add) (xVar 0) (xVar 1)) aNil) (xBin (binD T c .BitAnd) (xVar 3) (xVar 4))))) (tNot (tOf (truD T c) (xBin (eqB T c false) (xMethW T c 48 (xBin (binD T c .BitAnd) (xVar 0) (xVar 1)) aNil) (xBin (binD T c .Add) (xVar 3) (xVar 4)))))) (sRet (xK (.bl false))) sNx)
noncomputable def tw3 (c : Fn) : Fs := (sIf (tOr (tNot (tOf (truD T c) (xCall T c 17 (aCons (xBin (ordD T c .LtE) (xVar 0) (xVar 1)) (aCons (xBin (ordD T c .LtE) (xVar 4) (xVar 3)) aNil))))) (tNot (tOf (truD T c) (xCall T c 17 (aCons (xBin (ordD T c .LtE) (xVar 1) (xVar 0)) (aCons (xBin (ordD T c .LtE) (xVar 3) (xVar 4)) aNil)))))) (sRet (xK (.bl false))) sNx)
noncomputable def tw4 (c : Fn) : Fs := (sRet (xBin (eqB T c false) (xMethW T c 48 (xBin (binD T c .Mult) (xVar 0) (xVar 2)) aNil) (xBin (binD T c .Mult) (xVar 3) (xMethW T c 50 (xVar 2) (aCons (xBin (binD T c .Mult) (xVar 2) (xVar 2)) aNil)))))
theorem tw_eq (c : Fn) : B_35 c = sSeq (tw1 c) (sSeq (tw2 c) (sSeq (tw3 c) (tw4 c))) := rfl
theorem tw_run (c : Fn) (a b d a' b' d' a1 b1 d1 a2 b2 d2 x1 y1 z1 x2 y2 z2 x3 y3 z3 x4 y4 z4 x5 y5 z5 x6 y6 z6 f ff g : Rat) (w1 w2 : Bool) (st : Store)
    (hd : c 81 [latD a b d] st = .ok (latD a1 b1 d1) st) (hd' : c 81 [latD a' b' d'] st = .ok (latD a2 b2 d2) st)
    (hs : binD T c .Add (latD a b d) (latD a' b' d') st = .ok (latD x1 y1 z1) st) (hsd : c 81 [latD x1 y1 z1] st = .ok (latD x2 y2 z2) st) (ha : binD T c .BitAnd (latD a1 b1 d1) (latD a2 b2 d2) st = .ok (latD x2 y2 z2) st)
    (hi : binD T c .BitAnd (latD a b d) (latD a' b' d') st = .ok (latD x3 y3 z3) st) (hid : c 81 [latD x3 y3 z3] st = .ok (latD x4 y4 z4) st) (hs2 : binD T c .Add (latD a1 b1 d1) (latD a2 b2 d2) st = .ok (latD x4 y4 z4) st)
    (heq : ∀ x y z, eqB T c false (latD x y z) (latD x y z) st = .ok (.bl true) st)
    (hl1 : ordD T c .LtE (latD a b d) (latD a' b' d') st = .ok (.bl w1) st) (hl2 : ordD T c .LtE (latD a2 b2 d2) (latD a1 b1 d1) st = .ok (.bl w1) st)
    (hl3 : ordD T c .LtE (latD a' b' d') (latD a b d) st = .ok (.bl w2) st) (hl4 : ordD T c .LtE (latD a1 b1 d1) (latD a2 b2 d2) st = .ok (.bl w2) st)
    (htr : ∀ w, c 17 [.bl w, .bl w] st = .ok (.bl true) st)
    (hm : binD T c .Mult (latD a b d) (rD f) st = .ok (latD x5 y5 z5) st) (hmd : c 81 [latD x5 y5 z5] st = .ok (latD x6 y6 z6) st) (hff : binD T c .Mult (rD f) (rD f) st = .ok (rD ff) st)
    (ho : c 57 [rD f, rD ff] st = .ok (rD g) st) (hm2 : binD T c .Mult (latD a1 b1 d1) (rD g) st = .ok (latD x6 y6 z6) st) :
    B_35 c (startE 5 [latD a b d, latD a' b' d', rD f]) st = .rt (.bl true) st := by
  rw [tw_eq]
  refine seq_step (ρ' := [some (latD a b d), some (latD a' b' d'), some (rD f), some (latD a1 b1 d1), some (latD a2 b2 d2)]) (st' := st) (by simp [tw1, startE, hm_dual, hd, hd']) ?_
  refine seq_step (ρ' := [some (latD a b d), some (latD a' b' d'), some (rD f), some (latD a1 b1 d1), some (latD a2 b2 d2)]) (st' := st) (by simp [tw2, hm_dual, hs, hsd, ha, hi, hid, hs2, heq]) ?_
  refine seq_step (ρ' := [some (latD a b d), some (latD a' b' d'), some (rD f), some (latD a1 b1 d1), some (latD a2 b2 d2)]) (st' := st) (by simp [tw3, hl1, hl2, hl3, hl4, htr]) ?_
  simp [tw4, hm_dual, hm_over, hm, hmd, hff, ho, hm2, heq]
theorem sum_ex {u s u' s' : Nat} {a b d a' b' d' : Rat} (h : LZ u s a b d) (h' : LZ u' s' a' b' d') (S : Nat) (hS : 2 * s + 1 + u' ≤ S ∧ 2 * s' + 1 + u ≤ S) (hS2 : S ≤ 3990) (hu : u + u' < 3990) :
    ∃ a'' b'' d'', La [(a, b), (0, d), (a', b'), (0, d')] a'' b'' d'' ∧ LZ (u + u') S a'' b'' d'' := by
  obtain ⟨x, y, z, _, L, Z⟩ := s_ladd 0 [] h h' S hS hS2 hu
  exact ⟨x, y, z, L, Z⟩
theorem le_eq {a b d a1 b1 d1 a' b' d' a1' b1' d1' : Rat} (C : Cn a b d) (C' : Cn a' b' d') (L : La (du a b d) a1 b1 d1) (L' : La (du a' b' d') a1' b1' d1') :
    (mmB a' b' d' a b && mmB a' b' d' 0 d) = (mmB a1 b1 d1 a1' b1' && mmB a1 b1 d1 0 d1') := by
  rw [Bool.eq_iff_iff, Bool.and_eq_true, Bool.and_eq_true, mmB_iff (ne_of_pos C'.a0) (ne_of_pos C'.d0), mmB_iff (ne_of_pos C'.a0) (ne_of_pos C'.d0), mmB_iff (ne_of_pos L.a0) (ne_of_pos L.d0), mmB_iff (ne_of_pos L.a0) (ne_of_pos L.d0)]
  exact le_dual C C' L L'
theorem l_le (n : Nat) {a b d a' b' d' : Rat} {s : Nat} (st : Store) (a0 : a ≠ 0) (d0 : d ≠ 0) (ha : Sz s a) (hb : Sz s b) (hd : Sz s d) (hx : Sz s a') (hy : Sz s b') (hz : Sz s d') (hs : 0 < s) (hst : 2 * s + 2 * s + 1 ≤ 4000) :
    ordD T (run (n + 7)) .LtE (latD a' b' d') (latD a b d) st = .ok (.bl (mmB a b d a' b' && mmB a b d 0 d')) st :=
  (ord_own (i := 3) (f := 84) st rfl rfl rfl).trans (s_leG n st a0 d0 ha hb hd hx hy hz hs hst)
theorem l_add (c : Fn) (x y z x' y' z' A B D : Rat) (st : Store) (h : c 85 [latD x y z, latD x' y' z'] st = .ok (latD A B D) st) : binD T c .Add (latD x y z) (latD x' y' z') st = .ok (latD A B D) st := (bin_own (i := 3) (f := 85) st rfl (by decide)).trans h
theorem l_and (c : Fn) (x y z x' y' z' A B D : Rat) (st : Store) (h : c 86 [latD x y z, latD x' y' z'] st = .ok (latD A B D) st) : binD T c .BitAnd (latD x y z) (latD x' y' z') st = .ok (latD A B D) st := (bin_own (i := 3) (f := 86) st rfl (by decide)).trans h
theorem over_sq {ν δf : Int} (ν0 : ν ≠ 0) (δ0 : 0 < δf) : ∃ ν' δ' : Int, ((ν : Rat) / δf) / ((ν : Rat) / δf * ((ν : Rat) / δf)) = (ν' : Rat) / δ' ∧ ν' ≠ 0 ∧ 0 < δ' ∧ ν'.natAbs = δf.natAbs ∧ δ'.natAbs = ν.natAbs ∧ ((ν : Rat) / δf) / ((ν : Rat) / δf * ((ν : Rat) / δf)) * ((ν : Rat) / δf) = 1 := by
  have νq : (ν : Rat) ≠ 0 := fun z => ν0 (Rat.intCast_eq_zero_iff.mp z)
  have δq := cast_ne δ0
  have last : ((ν : Rat) / δf) / ((ν : Rat) / δf * ((ν : Rat) / δf)) * ((ν : Rat) / δf) = 1 := by grind
  rcases Int.lt_or_gt_of_ne ν0 with h | h
  · refine ⟨-δf, -ν, ?_, by omega, by omega, by omega, by omega, last⟩
    rw [Rat.intCast_neg, Rat.intCast_neg]
    grind
  · refine ⟨δf, ν, ?_, by omega, by omega, rfl, rfl, last⟩
    grind
theorem s_two_right (n : Nat) {a b d a' b' d' f : Rat} (C : Cn a b d) (C' : Cn a' b' d') (Z : LZ 80 93 a b d) (Z' : LZ 80 93 a' b' d') (ν δf : Int) (hf : f = (ν : Rat) / δf) (ν0 : ν ≠ 0) (δ0 : 0 < δf) (bν : ν.natAbs ≤ 2 ^ 50) (bδ : δf.natAbs ≤ 2 ^ 30) (st : Store) :
    run (n + 10) 35 [latD a b d, latD a' b' d', rD f] st = .ok (.bl true) st := by
  obtain ⟨a1, b1, d1, L1, Z1⟩ := dual_ex Z (by decide) (by decide)
  obtain ⟨a2, b2, d2, L2, Z2⟩ := dual_ex Z' (by decide) (by decide)
  -- back from the duals
  obtain ⟨p1, p2, p3, M1, _⟩ := dual_ex Z1 (by decide) (by decide)
  obtain ⟨e1, e2, e3⟩ := dual_dual C L1 M1
  subst e1; subst e2; subst e3
  obtain ⟨q1, q2, q3, M2, _⟩ := dual_ex Z2 (by decide) (by decide)
  obtain ⟨e1, e2, e3⟩ := dual_dual C' L2 M2
  subst e1; subst e2; subst e3
  -- the sum and its dual
  obtain ⟨x1, y1, z1, S1, ZS⟩ := sum_ex Z Z' 267 (by decide) (by decide) (by decide)
  obtain ⟨x2, y2, z2, S2, _⟩ := dual_ex ZS (by decide) (by decide)
  -- the sum of the duals and its dual
  obtain ⟨x4, y4, z4, S4, ZT⟩ := sum_ex Z1 Z2 722 (by decide) (by decide) (by decide)
  obtain ⟨x3, y3, z3, S3, _⟩ := dual_ex ZT (by decide) (by decide)
  obtain ⟨i, j, k, f1, f2, f3⟩ := sub_of (ne_of_pos C.a0) (ne_of_pos C.d0) L1 (by simp) (by simp) S4 S3
  have ZI := LZ.part Z ZT S3.cn i j k f1 f2 f3 (dual_cell S4.cn S3)
  obtain ⟨r1, r2, r3, M3, _⟩ := dual_ex ZI (by decide) (by decide)
  obtain ⟨e1, e2, e3⟩ := dual_dual S4.cn S3 M3
  subst e1; subst e2; subst e3
  -- multiples
  obtain ⟨x5, y5, z5, T5, ZM, R5⟩ := s_scaled (t := 50) (t' := 30) ν δf n Z hf ν0 δ0 bν bδ (by decide) (by decide) (by decide)
  obtain ⟨x6, y6, z6, S6, _⟩ := dual_ex ZM (by decide) (by decide)
  obtain ⟨ν', δ', g1, g2, g3, g4, g5, g6⟩ := over_sq ν0 δ0
  rw [← hf] at g1 g6
  obtain ⟨x7, y7, z7, T7, ZN, R7⟩ := s_scaled (t := 30) (t' := 50) ν' δ' n Z1 g1 g2 g3 (by rw [g4]; exact bδ) (by rw [g5]; exact bν) (by decide) (by decide) (by decide)
  have f0 : f ≠ 0 := fun z => by
    rw [z, Rat.mul_zero] at g6
    exact absurd g6 (by decide)
  have cm : ∀ x y z : Rat, La [(x * f, y * f), (0 * f, z * f)] = La [(f * x, f * y), (f * 0, f * z)] := fun x y z => by
    rw [Rat.mul_comm x f, Rat.mul_comm y f, Rat.mul_comm 0 f, Rat.mul_comm z f]
  have cg : ∀ x y z : Rat, La [(x * (f / (f * f)), y * (f / (f * f))), (0 * (f / (f * f)), z * (f / (f * f)))] = La [((f / (f * f)) * x, (f / (f * f)) * y), ((f / (f * f)) * 0, (f / (f * f)) * z)] := fun x y z => by
    rw [Rat.mul_comm x (f / (f * f)), Rat.mul_comm y (f / (f * f)), Rat.mul_comm 0 (f / (f * f)), Rat.mul_comm z (f / (f * f))]
  rw [cm] at T5
  rw [cg] at T7
  obtain ⟨e1, e2, e3⟩ := dual_times f0 g6 C L1 T5 S6 T7
  subst e1; subst e2; subst e3
  -- sizes
  obtain ⟨za, zb, zd⟩ := Z.sz (t := 600) (by decide) (by decide)
  obtain ⟨za', zb', zd'⟩ := Z'.sz (t := 600) (by decide) (by decide)
  obtain ⟨ya, yb, yd⟩ := Z1.sz (t := 600) (by decide) (by decide)
  obtain ⟨ya', yb', yd'⟩ := Z2.sz (t := 600) (by decide) (by decide)
  have sf : Sz 100 f := by rw [hf]; exact sz_n bν bδ δ0 (by decide) (by decide)
  have sff : Sz 200 (f * f) := sf.mul sf
  have ff0 : f * f ≠ 0 := fun z => (Rat.mul_eq_zero.mp z).elim f0 f0
  have d1' : ∀ st, run (n + 9) 81 [latD p1 p2 p3] st = .ok (latD a1 b1 d1) st := fun st => s_dualU (n + 2) Z (by decide) (by decide) L1 st
  have d2' : ∀ st, run (n + 9) 81 [latD q1 q2 q3] st = .ok (latD a2 b2 d2) st := fun st => s_dualU (n + 2) Z' (by decide) (by decide) L2 st
  have h8a := s_landE (n + 1) a1 b1 d1 a2 b2 d2 p1 p2 p3 q1 q2 q3 x1 y1 z1 x2 y2 z2 st (fun st => s_dualU (n + 1) Z1 (by decide) (by decide) M1 st) (fun st => s_dualU (n + 1) Z2 (by decide) (by decide) M2 st) (fun st => s_laddU (n + 1) Z Z' 267 (by decide) (by decide) (by decide) S1 st) (fun st => s_dualU (n + 1) ZS (by decide) (by decide) S2 st)
  have h8b := s_landE (n + 1) p1 p2 p3 q1 q2 q3 a1 b1 d1 a2 b2 d2 r1 r2 r3 x3 y3 z3 st (fun st => s_dualU (n + 1) Z (by decide) (by decide) L1 st) (fun st => s_dualU (n + 1) Z' (by decide) (by decide) L2 st) (fun st => s_laddU (n + 1) Z1 Z2 722 (by decide) (by decide) (by decide) S4 st) (fun st => s_dualU (n + 1) ZT (by decide) (by decide) S3 st)
  have l1 := l_le (n + 2) st (ne_of_pos C'.a0) (ne_of_pos C'.d0) za' zb' zd' za zb zd (by decide) (by decide)
  have l2 := l_le (n + 2) st (ne_of_pos L1.a0) (ne_of_pos L1.d0) ya yb yd ya' yb' yd' (by decide) (by decide)
  have l3 := l_le (n + 2) st (ne_of_pos C.a0) (ne_of_pos C.d0) za zb zd za' zb' zd' (by decide) (by decide)
  have l4 := l_le (n + 2) st (ne_of_pos L2.a0) (ne_of_pos L2.d0) ya' yb' yd' ya yb yd (by decide) (by decide)
  rw [← le_eq C C' L1 L2] at l2
  rw [← le_eq C' C L2 L1] at l4
  have heq : ∀ x y z, eqB T (run (n + 9)) false (latD x y z) (latD x y z) st = .ok (.bl true) st := fun x y z => by
    have := l_eq (n + 6) x y z x y z false st
    rw [this, decide_eq_true ⟨rfl, rfl, rfl⟩]
    rfl
  rw [run_35]
  exact fnD_rt0 (tw_run (run (n + 9)) _ _ _ _ _ _ _ _ _ _ _ _ _ _ _ _ _ _ _ _ _ _ _ _ _ _ _ _ _ _ f (f * f) (f / (f * f)) _ _ st (d1' st) (d2' st) (l_add _ _ _ _ _ _ _ _ _ _ st (s_laddU (n + 2) Z Z' 267 (by decide) (by decide) (by decide) S1 st)) (s_dualU (n + 2) ZS (by decide) (by decide) S2 st) (l_and _ _ _ _ _ _ _ _ _ _ st h8a)
    (l_and _ _ _ _ _ _ _ _ _ _ st h8b) (s_dualU (n + 2) ZI (by decide) (by decide) M3 st) (l_add _ _ _ _ _ _ _ _ _ _ st (s_laddU (n + 2) Z1 Z2 722 (by decide) (by decide) (by decide) S4 st)) heq l1 l2 l3 l4 (fun w => s_truth (n + 8) w st)
    (l_mul n _ _ _ _ _ _ _ st (R5 st)) (s_dualU (n + 2) ZM (by decide) (by decide) S6 st) (b_mul (n + 6) f f st (sf.mono (by decide)) (sf.mono (by decide))) (s_over (n + 6) f (f * f) st (sf.mono (by decide)) (sff.mono (by decide)) ff0) (l_mul n _ _ _ _ _ _ _ st (R7 st))) (by simp)
end G13
namespace G13
open PySem PySem.Spec PyProof.Rows L2 Gm
theorem cut63 (l : List D) (h : l.length ≤ 63) : Gm.cutD l none (some 63) = l := by
  unfold Gm.cutD
  rw [show HT.sIx l.length l.length (some 63) = min 63 l.length from HT.sIx_nat _ _ 63, HT.sIx_none, List.drop_zero]
  rw [List.take_of_length_le]
  omega
def cellsOf (ns : List Int) : List Int := if ns = [] then [0] else ns
def st0 (ns : List Int) : Store := [.rol (ns.map D.int), .dic (pc 0 0), .lst (ns.map D.int), .lst (ns.map D.int), .lst [.int 0], .lst (if ns = [] then [.int 0] else []), .lst ((cellsOf ns).map D.int)]
theorem bin_li {T : Ls} {c : Fn} {st : Store} {m : Nat} {xs : List D} {z : Int} (h : st[m]? = some (.lst xs)) (hz : -(2 ^ 63) ≤ z ∧ z < 2 ^ 63 ∧ xs.length * z.toNat ≤ sizeLine) : binD T c .Mult (.ref m) (.int z) st = newLst (List.replicate z.toNat xs).flatten st := by
  unfold binD
  simp only [h]
  exact if_pos ⟨trivial, hz⟩
theorem tidy_dic0 {st st' : Store} {m : Nat} {kvs : List (Key × D)} (h : st'[m]? = some (.dic kvs)) (hn : noRef st.length (.ref m) = false) (hk : noRefs st.length (kvs.map (·.2)) = false) : tidy st (.ok (.ref m) st') = .ok (.ref m) st' := by
  unfold tidy
  simp only [h, hn, hk, Bool.false_eq_true, if_false]
  split <;> rfl
theorem s_begin (n : Nat) (ns : List Int) (h : ns.length ≤ 63) : run (n + 1) 9 [.ref 0] [.rol (ns.map D.int)] = .ok (.ref 1) (st0 ns) := by
  rw [run_9]
  generalize run n = c
  have hc := cut63 (ns.map D.int) (by rw [List.length_map]; exact h)
  have hs : ∀ ρ st, oSo (xK (.int 63)) ρ st = .ok (some 63) st := fun _ _ => rfl
  have hl : xBi bList (aCons (xSl (xVar 0) oNo (oSo (xK (.int 63)))) aNil) [some (.ref 0)] [.rol (ns.map D.int), .dic []] = .ok (.ref 3) [.rol (ns.map D.int), .dic [], .lst (ns.map D.int), .lst (ns.map D.int)] := by
    unfold xSl
    simp [oNo, hs, sliD, hc, newLst, bList, seqOf]
  have hln : ∀ e, bLen [.ref 0] (.rol (ns.map D.int) :: e) = .ok (.int ns.length) (.rol (ns.map D.int) :: e) := fun e => by
    unfold bLen seqOf
    simp
  have hR : xBin (binD T c .Mult) (xLst (aCons (xK (.int 0)) aNil)) (xBi bInt (aCons (xBin (eqB T c false) (xBi bLen (aCons (xVar 0) aNil)) (xK (.int 0))) aNil)) [some (.ref 0)] [.rol (ns.map D.int), .dic [], .lst (ns.map D.int), .lst (ns.map D.int)] = .ok (.ref 5) [.rol (ns.map D.int), .dic [], .lst (ns.map D.int), .lst (ns.map D.int), .lst [.int 0], .lst (if ns = [] then [.int 0] else [])] := by
    by_cases he : ns = []
    · subst he
      have hm := bin_li (T := T) (c := c) (st := [.rol [], .dic [], .lst [], .lst [], .lst [.int 0]]) (m := 4) (xs := [.int 0]) (z := 1) rfl ⟨by decide, by decide, by decide⟩
      have hln' := hln [.dic [], .lst [], .lst [], .lst [.int 0]]
      simp at hln'
      simp [newLst, hln', hm]
    · have hn : ((ns.length : Int) == 0) = false := by
        have : 0 < ns.length := List.length_pos_iff.mpr he
        simpa using he
      have hm := bin_li (T := T) (c := c) (st := [.rol (ns.map D.int), .dic [], .lst (ns.map D.int), .lst (ns.map D.int), .lst [.int 0]]) (m := 4) (xs := [.int 0]) (z := 0) rfl ⟨by decide, by decide, by decide⟩
      simp [newLst, hln, hn, hm, he]
  have hA : xBin (binD T c .Add) (xBi bList (aCons (xSl (xVar 0) oNo (oSo (xK (.int 63)))) aNil)) (xBin (binD T c .Mult) (xLst (aCons (xK (.int 0)) aNil)) (xBi bInt (aCons (xBin (eqB T c false) (xBi bLen (aCons (xVar 0) aNil)) (xK (.int 0))) aNil))) [some (.ref 0)] [.rol (ns.map D.int), .dic []] = .ok (.ref 6) [.rol (ns.map D.int), .dic [], .lst (ns.map D.int), .lst (ns.map D.int), .lst [.int 0], .lst (if ns = [] then [.int 0] else []), .lst ((cellsOf ns).map D.int)] := by
    rw [ap_xBin, hl, Res.bind_ok, kB1_, hR, Res.bind_ok, kB2_]
    have hz : (ns.map D.int).length + (if ns = [] then [D.int 0] else ([] : List D)).length < 100 := by
      rw [List.length_map]
      split <;> simp <;> omega
    have hb := bin_ll (c := c) (st := [.rol (ns.map D.int), .dic [], .lst (ns.map D.int), .lst (ns.map D.int), .lst [.int 0], .lst (if ns = [] then [.int 0] else [])]) (m := 3) (p := 5) (a := ns.map D.int) (b := if ns = [] then [.int 0] else []) rfl rfl hz
    rw [hb]
    by_cases he : ns = []
    · subst he
      rfl
    · simp [he, cellsOf]
  have hx : xDic ["cells", "at", "rest"] (aCons (xBin (binD T c .Add) (xBi bList (aCons (xSl (xVar 0) oNo (oSo (xK (.int 63)))) aNil)) (xBin (binD T c .Mult) (xLst (aCons (xK (.int 0)) aNil)) (xBi bInt (aCons (xBin (eqB T c false) (xBi bLen (aCons (xVar 0) aNil)) (xK (.int 0))) aNil)))) (aCons (xK (.int 0)) (aCons (xK (.int 0)) aNil))) [some (.ref 0)] [.rol (ns.map D.int)] = .ok (.ref 1) (st0 ns) := by
    unfold xDic
    simp only [List.cons_append, List.nil_append, ap_aCons, hA, Res.bind_ok, kC1_, ap_xK, kC2_, ap_aNil]
    rfl
  have e : B_9 c (startE 1 [.ref 0]) [.rol (ns.map D.int)] = .rt (.ref 1) (st0 ns) := by
    have : xDic ["cells", "at", "rest"] (aCons (xBin (binD T c .Add) (xBi bList (aCons (xSl (xVar 0) oNo (oSo (xK (.int 63)))) aNil)) (xBin (binD T c .Mult) (xLst (aCons (xK (.int 0)) aNil)) (xBi bInt (aCons (xBin (eqB T c false) (xBi bLen (aCons (xVar 0) aNil)) (xK (.int 0))) aNil)))) (aCons (xK (.int 0)) (aCons (xK (.int 0)) aNil))) (startE 1 [.ref 0]) [.rol (ns.map D.int)] = .ok (.ref 1) (st0 ns) := hx
    unfold B_9
    rw [ap_sRet, this]
    rfl
  rw [fnD_rt e]
  exact tidy_dic0 (kvs := pc 0 0) rfl (by simp) (by simp [pc])
theorem tidy_bl (st st' : Store) (b : Bool) : ∃ s, tidy st (.ok (.bl b) st') = .ok (.bl b) s := by
  unfold tidy
  simp only []
  split
  · exact ⟨_, if_pos (by simp)⟩
  · exact ⟨_, rfl⟩
theorem st0_pen (ns : List Int) (h : ns.length ≤ 63) : Pen 1000000 (st0 ns) := by
  refine ⟨cellsOf ns, 0, 0, ⟨rfl, rfl, by decide, ?_, ?_⟩, by decide⟩
  · unfold cellsOf
    split
    · decide
    · omega
  · unfold cellsOf
    split
    · decide
    · rename_i he
      exact List.length_pos_iff.mpr he
/-! ### other rows -/
theorem s_timesL (n : Nat) (i : Int) (p : Int × Int) (st : Store) (m1 : IntMulOk i p.1) (m2 : IntMulOk i p.2) : run (n + 1) 30 [.int i, prD p] st = .ok (prD (i * p.1, i * p.2)) st := by
  rw [run_30]
  refine fnD_rt0 ?_ (noRef_prD _ _)
  simp [B_30, startE, pr_0, pr_1, ib_mul _ m1, ib_mul _ m2]
  rfl
theorem s_plusL (n : Nat) (p q : Int × Int) (st : Store) : run (n + 1) 29 [prD p, prD q] st = .ok (prD (p.1 + q.1, p.2 + q.2)) st := by
  rw [run_29]
  refine fnD_rt0 ?_ (noRef_prD _ _)
  simp [B_29, startE, pr_0, pr_1]
  rfl
theorem small_mul {i x : Int} (h0 : 0 ≤ i) (hi : i ≤ 5) (hx : x.natAbs ≤ 2 ^ 90) : (i * x).natAbs ≤ 2 ^ 93 := by
  rw [Int.natAbs_mul]
  have : i.natAbs * x.natAbs ≤ 5 * 2 ^ 90 := Nat.mul_le_mul (by omega) hx
  omega
theorem Rs.sort0 {p q : Int × Int} (h : Rs 90 p q) {k : Int} (k0 : 0 < k) (k1 : k ≤ 5) : Rs 93 (2 * p.1 + q.1, 2 * p.2 + q.2) (k * q.1, k * q.2) := by
  refine ⟨?_, ?_, small_mul (by omega) k1 h.q1, small_mul (by omega) k1 h.q2, ?_⟩
  · have := h.p1; have := h.q1; show (2 * p.1 + q.1).natAbs ≤ _; omega
  · have := h.p2; have := h.q2; show (2 * p.2 + q.2).natAbs ≤ _; omega
  · show (2 * p.1 + q.1) * (k * q.2) - (2 * p.2 + q.2) * (k * q.1) ≠ 0
    have e : (2 * p.1 + q.1) * (k * q.2) - (2 * p.2 + q.2) * (k * q.1) = 2 * k * (p.1 * q.2 - p.2 * q.1) := by grind
    rw [e]
    exact Int.mul_ne_zero (by omega) h.det
theorem Rs.sort1 {p q : Int × Int} (h : Rs 90 p q) {i j : Int} (i0 : 0 < i) (i1 : i ≤ 5) (j0 : 0 < j) (j1 : j ≤ 5) : Rs 93 (i * p.1, i * p.2) (j * q.1, j * q.2) := by
  refine ⟨small_mul (by omega) i1 h.p1, small_mul (by omega) i1 h.p2, small_mul (by omega) j1 h.q1, small_mul (by omega) j1 h.q2, ?_⟩
  show i * p.1 * (j * q.2) - i * p.2 * (j * q.1) ≠ 0
  have e : i * p.1 * (j * q.2) - i * p.2 * (j * q.1) = i * j * (p.1 * q.2 - p.2 * q.1) := by grind
  rw [e]
  exact Int.mul_ne_zero (Int.mul_ne_zero (by omega) (by omega)) h.det
end G13
namespace G13
open PySem PySem.Spec PyProof.Rows L2 Gm
noncomputable def la2 (c : Fn) : Fs := (sPar 2 3 (aCons (xBin (binD T c .Add) (xK (.int 1)) (xCall T c 14 (aCons (xVar 1) (aCons (xK (.int 15)) aNil)))) (aCons (xBin (binD T c .Add) (xK (.int 1)) (xCall T c 14 (aCons (xVar 1) (aCons (xK (.int 9)) aNil)))) aNil)))
noncomputable def la3 (c : Fn) : Fs := (sPar 4 5 (aCons (xCall T c 24 (aCons (xVar 1) (aCons (xK (.fn 31)) aNil))) (aCons (xCall T c 24 (aCons (xVar 1) (aCons (xCall T c 11 (aCons (xVar 1) (aCons (xLst (aCons (xK (.fn 25)) (aCons (xK (.fn 31)) aNil))) aNil))) aNil))) aNil)))
noncomputable def la4 (c : Fn) : Fs := (sAsg (xCall T c 10 (aCons (xVar 1) (aCons (xK (.int 4)) aNil))) (gNm 6))
noncomputable def la5 (c : Fn) : Fs := (sIf (tOf (truD T c) (xBin (eqB T c false) (xVar 6) (xK (.int 0)))) (sAsg (xLst (aCons (xCall T c 29 (aCons (xCall T c 30 (aCons (xK (.int 2)) (aCons (xBin subD (xVar 4) (xK (.int 0))) aNil))) (aCons (xBin subD (xVar 4) (xK (.int 1))) aNil))) (aCons (xCall T c 30 (aCons (xBin (binD T c .Add) (xK (.int 1)) (xCall T c 10 (aCons (xVar 1) (aCons (xK (.int 5)) aNil)))) (aCons (xBin subD (xVar 4) (xK (.int 1))) aNil))) aNil))) (gNm 5)) sNx)
noncomputable def la6 (c : Fn) : Fs := (sIf (tOf (truD T c) (xBin (eqB T c false) (xVar 6) (xK (.int 1)))) (sSeq (sAsg (xLst (aCons (xCall T c 30 (aCons (xBin (binD T c .Add) (xK (.int 1)) (xCall T c 10 (aCons (xVar 1) (aCons (xK (.int 4)) aNil)))) (aCons (xBin subD (xVar 4) (xK (.int 0))) aNil))) (aCons (xCall T c 30 (aCons (xBin (binD T c .Add) (xK (.int 1)) (xCall T c 10 (aCons (xVar 1) (aCons (xK (.int 4)) aNil)))) (aCons (xBin subD (xVar 4) (xK (.int 1))) aNil))) aNil))) (gNm 5)) (sAsg (xK (.int 1)) (gNm 3))) sNx)
noncomputable def la7 (c : Fn) : Fs := (sPar 7 8 (aCons (xCall T c 26 (aCons (xVar 4) (aCons (xVar 2) aNil))) (aCons (xCall T c 26 (aCons (xVar 5) (aCons (xBin (binD T c .Mult) (xVar 2) (xVar 3)) aNil))) aNil)))
noncomputable def la8 (c : Fn) (g : Nat) : Fs := (sIf (tOr (tNot (tOf (truD T c) (xCall T c g (aCons (xVar 1) (aCons (xVar 4) (aCons (xVar 2) (aCons (xVar 7) aNil))))))) (tNot (tOf (truD T c) (xCall T c g (aCons (xVar 1) (aCons (xVar 5) (aCons (xBin (binD T c .Mult) (xVar 2) (xVar 3)) (aCons (xVar 8) aNil)))))))) (sRet (xK (.bl false))) sNx)
noncomputable def la10 (c : Fn) : Fs := (sAsg (xMk T c 0 (aCons (xBin (binD T c .Mult) (xCall T c 11 (aCons (xVar 1) (aCons (xLst (aCons (xK (.int 1)) (aCons (xUn (negD T c) (xK (.int 1))) aNil))) aNil))) (xBin (binD T c .Add) (xK (.int 1)) (xCall T c 14 (aCons (xVar 1) (aCons (xK (.int 15)) aNil))))) (aCons (xBin (binD T c .Add) (xK (.int 1)) (xCall T c 14 (aCons (xVar 1) (aCons (xK (.int 9)) aNil)))) aNil))) (gNm 9))
noncomputable def la11 (c : Fn) : Fs := (sIf (tOr (tNot (tOf (truD T c) (xCall T c 35 (aCons (xVar 7) (aCons (xVar 8) (aCons (xVar 9) aNil)))))) (tNot (tOf (truD T c) (xCall T c 35 (aCons (xVar 8) (aCons (xVar 7) (aCons (xVar 9) aNil))))))) (sRet (xK (.bl false))) sNx)
noncomputable def la12 (c : Fn) : Fs := (sRet (xAnd (truD T c) (xCall T c 27 (aCons (xVar 7) (aCons (xVar 4) (aCons (xVar 2) aNil)))) (xCall T c 27 (aCons (xVar 8) (aCons (xVar 5) (aCons (xBin (binD T c .Mult) (xVar 2) (xVar 3)) aNil))))))
theorem la_eq (c : Fn) : B_36 c = sSeq (sAsg (xCall T c 9 (aCons (xVar 0) aNil)) (gNm 1)) (sSeq (la2 c) (sSeq (la3 c) (sSeq (la4 c) (sSeq (la5 c) (sSeq (la6 c) (sSeq (la7 c) (sSeq (la8 c 33) (sSeq (la8 c 34) (sSeq (la10 c) (sSeq (la11 c) (la12 c))))))))))) := rfl
section
variable (c : Fn) (o0 o2 o3 o4 o5 o6 o7 o8 o9 : Option D)
theorem la2_run (v w : Int) (st s1 s2 : Store) (h1 : c 14 [.ref 1, .int 15] st = .ok (.int v) s1) (h2 : c 14 [.ref 1, .int 9] s1 = .ok (.int w) s2) :
    la2 c [o0, some (.ref 1), o2, o3, o4, o5, o6, o7, o8, o9] st = .nx [o0, some (.ref 1), some (.int (1 + v)), some (.int (1 + w)), o4, o5, o6, o7, o8, o9] s2 := by
  simp [la2, h1, h2]
theorem la3_run (m1 m2 g : Nat) (st s1 s2 s3 : Store) (h1 : c 24 [.ref 1, .fn 31] st = .ok (.ref m1) s1) (h2 : c 11 [.ref 1, .ref s1.length] (s1 ++ [.lst [.fn 25, .fn 31]]) = .ok (.fn g) s2) (h3 : c 24 [.ref 1, .fn g] s2 = .ok (.ref m2) s3) :
    la3 c [o0, some (.ref 1), o2, o3, o4, o5, o6, o7, o8, o9] st = .nx [o0, some (.ref 1), o2, o3, some (.ref m1), some (.ref m2), o6, o7, o8, o9] s3 := by
  simp [la3, h1, newLst, h2, h3]
theorem la4_run (k : Int) (st s1 : Store) (h1 : c 10 [.ref 1, .int 4] st = .ok (.int k) s1) :
    la4 c [o0, some (.ref 1), o2, o3, o4, o5, o6, o7, o8, o9] st = .nx [o0, some (.ref 1), o2, o3, o4, o5, some (.int k), o7, o8, o9] s1 := by
  simp [la4, h1]
theorem la5_no (k : Int) (st : Store) (hk : (k == 0) = false) : la5 c [o0, some (.ref 1), o2, o3, o4, o5, some (.int k), o7, o8, o9] st = .nx [o0, some (.ref 1), o2, o3, o4, o5, some (.int k), o7, o8, o9] st := by
  simp [la5, hk]
theorem la6_no (k : Int) (st : Store) (hk : (k == 1) = false) : la6 c [o0, some (.ref 1), o2, o3, o4, o5, some (.int k), o7, o8, o9] st = .nx [o0, some (.ref 1), o2, o3, o4, o5, some (.int k), o7, o8, o9] st := by
  simp [la6, hk]
theorem la5_yes (k u : Int) (m : Nat) (p q p2 p3 q2 : Int × Int) (st s1 : Store) (hk : (k == 0) = true) (hm : st[m]? = some (.lst [prD p, prD q])) (hm1 : s1[m]? = some (.lst [prD p, prD q])) (h1 : c 30 [.int 2, prD p] st = .ok (prD p2) st) (h2 : c 29 [prD p2, prD q] st = .ok (prD p3) st)
    (h3 : c 10 [.ref 1, .int 5] st = .ok (.int u) s1) (h4 : c 30 [.int (1 + u), prD q] s1 = .ok (prD q2) s1) :
    la5 c [o0, some (.ref 1), o2, o3, some (.ref m), o5, some (.int k), o7, o8, o9] st = .nx [o0, some (.ref 1), o2, o3, some (.ref m), some (.ref s1.length), some (.int k), o7, o8, o9] (s1 ++ [.lst [prD p3, prD q2]]) := by
  have a0 : subD (.ref m) (.int 0) st = .ok (prD p) st := by rw [subR hm]; rfl
  have a1 : subD (.ref m) (.int 1) st = .ok (prD q) st := by rw [subR hm]; rfl
  have b1 : subD (.ref m) (.int 1) s1 = .ok (prD q) s1 := by rw [subR hm1]; rfl
  simp [la5, hk, a0, a1, b1, h1, h2, h3, h4, newLst]
theorem la6_yes (k u v : Int) (m : Nat) (p q p2 q2 : Int × Int) (st s1 s2 : Store) (hk : (k == 1) = true) (hm1 : s1[m]? = some (.lst [prD p, prD q])) (hm2 : s2[m]? = some (.lst [prD p, prD q]))
    (h1 : c 10 [.ref 1, .int 4] st = .ok (.int u) s1) (h2 : c 30 [.int (1 + u), prD p] s1 = .ok (prD p2) s1) (h3 : c 10 [.ref 1, .int 4] s1 = .ok (.int v) s2) (h4 : c 30 [.int (1 + v), prD q] s2 = .ok (prD q2) s2) :
    la6 c [o0, some (.ref 1), o2, o3, some (.ref m), o5, some (.int k), o7, o8, o9] st = .nx [o0, some (.ref 1), o2, some (.int 1), some (.ref m), some (.ref s2.length), some (.int k), o7, o8, o9] (s2 ++ [.lst [prD p2, prD q2]]) := by
  have a0 : subD (.ref m) (.int 0) s1 = .ok (prD p) s1 := by rw [subR hm1]; rfl
  have b1 : subD (.ref m) (.int 1) s2 = .ok (prD q) s2 := by rw [subR hm2]; rfl
  simp [la6, hk, a0, b1, h1, h2, h3, h4, newLst]
theorem la7_run (m1 m2 : Nat) (o ab : Int) (x y : D) (st : Store) (mo : IntMulOk o ab) (h1 : c 26 [.ref m1, .int o] st = .ok x st) (h2 : c 26 [.ref m2, .int (o * ab)] st = .ok y st) :
    la7 c [o0, some (.ref 1), some (.int o), some (.int ab), some (.ref m1), some (.ref m2), o6, o7, o8, o9] st = .nx [o0, some (.ref 1), some (.int o), some (.int ab), some (.ref m1), some (.ref m2), o6, some x, some y, o9] st := by
  simp [la7, h1, ib_mul _ mo, h2]
theorem la8_run (g m1 m2 : Nat) (o ab : Int) (x y : D) (st s1 s2 : Store) (mo : IntMulOk o ab) (h1 : callD T c g [.ref 1, .ref m1, .int o, x] st = .ok (.bl true) s1) (h2 : callD T c g [.ref 1, .ref m2, .int (o * ab), y] s1 = .ok (.bl true) s2) :
    la8 c g [o0, some (.ref 1), some (.int o), some (.int ab), some (.ref m1), some (.ref m2), o6, some x, some y, o9] st = .nx [o0, some (.ref 1), some (.int o), some (.int ab), some (.ref m1), some (.ref m2), o6, some x, some y, o9] s2 := by
  simp [la8, h1, ib_mul _ mo, h2]
theorem la10_run (sg v w : Int) (r : Rat) (st s1 s2 s3 : Store) (h1 : c 11 [.ref 1, .ref st.length] (st ++ [.lst [.int 1, .int (-1)]]) = .ok (.int sg) s1) (h2 : c 14 [.ref 1, .int 15] s1 = .ok (.int v) s2) (ms : IntMulOk sg (1 + v)) (h3 : c 14 [.ref 1, .int 9] s2 = .ok (.int w) s3)
    (h4 : mkD T c 0 [.int (sg * (1 + v)), .int (1 + w)] s3 = .ok (rD r) s3) :
    la10 c [o0, some (.ref 1), o2, o3, o4, o5, o6, o7, o8, o9] st = .nx [o0, some (.ref 1), o2, o3, o4, o5, o6, o7, o8, some (rD r)] s3 := by
  simp [la10, newLst, h1, h2, ib_mul _ ms, h3, h4]
theorem la11_run (x y f : D) (st : Store) (h1 : c 35 [x, y, f] st = .ok (.bl true) st) (h2 : c 35 [y, x, f] st = .ok (.bl true) st) :
    la11 c [o0, some (.ref 1), o2, o3, o4, o5, o6, some x, some y, some f] st = .nx [o0, some (.ref 1), o2, o3, o4, o5, o6, some x, some y, some f] st := by
  simp [la11, h1, h2]
theorem la12_run (m1 m2 : Nat) (o ab : Int) (x y : D) (st : Store) (mo : IntMulOk o ab) (h1 : c 27 [x, .ref m1, .int o] st = .ok (.bl true) st) (h2 : c 27 [y, .ref m2, .int (o * ab)] st = .ok (.bl true) st) :
    la12 c [o0, some (.ref 1), some (.int o), some (.int ab), some (.ref m1), some (.ref m2), o6, some x, some y, o9] st = .rt (.bl true) st := by
  simp [la12, h1, ib_mul _ mo, h2]
end
end G13
namespace G13
open PySem PySem.Spec PyProof.Rows L2 Gm
theorem lst_new (st : Store) (l : List D) : (st ++ [Cell.lst l])[st.length]? = some (.lst l) := by simp
theorem p15 : ((10 ^ 15 : Nat) : Int) ≤ ((2 ^ 50 : Nat) : Int) - 1 := by decide
theorem p9 : ((10 ^ 9 : Nat) : Int) ≤ ((2 ^ 30 : Nat) : Int) - 1 := by decide
theorem one_plus {v : Int} {X : Int} {s : Nat} (h0 : 0 ≤ v) (h1 : v < X) (hX : X ≤ ((2 ^ s : Nat) : Int) - 1) : 0 < 1 + v ∧ (1 + v).natAbs ≤ 2 ^ s := by omega
theorem five {u : Int} (h0 : 0 ≤ u) (h1 : u < 5) : IntMulOk (1 + u) 0 ∧ ∀ x, IntMulOk (1 + u) x := by
  have h : ∀ x, IntMulOk (1 + u) x := fun x => .of_left (by
    have : u = 0 ∨ u = 1 ∨ u = 2 ∨ u = 3 ∨ u = 4 := by omega
    rcases this with rfl | rfl | rfl | rfl | rfl <;> decide)
  exact ⟨h 0, h⟩
structure Stp (m1 m2 : Nat) (p q p' q' : Int × Int) (o ab : Int) (s : Store) : Prop where
  pen : Pen 500 s
  l1 : s[m1]? = some (.lst [prD p, prD q])
  l2 : s[m2]? = some (.lst [prD p', prD q'])
  r1 : Rs 93 p q
  r2 : Rs 93 p' q'
  o0 : 0 < o
  ob : o.natAbs ≤ 2 ^ 50
  a0 : 0 < ab
  ab : ab.natAbs ≤ 2 ^ 30
theorem d_sort (o0 o7 o8 o9 : Option D) (m1 m2 : Nat) (p q p' q' : Int × Int) (o ab k : Int) (s : Store) (hp : Pen 600 s) (l1 : s[m1]? = some (.lst [prD p, prD q])) (l2 : s[m2]? = some (.lst [prD p', prD q'])) (r1 : Rs 90 p q) (r2 : Rs 90 p' q') (h0 : 0 < o) (hb : o.natAbs ≤ 2 ^ 50) (a0 : 0 < ab) (hab : ab.natAbs ≤ 2 ^ 30) :
    ∃ m2' p2 q2 ab' s', (∀ (rest : Fs) (r : SR), rest [o0, some (.ref 1), some (.int o), some (.int ab'), some (.ref m1), some (.ref m2'), some (.int k), o7, o8, o9] s' = r → sSeq (la5 (run 13)) (sSeq (la6 (run 13)) rest) [o0, some (.ref 1), some (.int o), some (.int ab), some (.ref m1), some (.ref m2), some (.int k), o7, o8, o9] s = r) ∧ Stp m1 m2' p q p2 q2 o ab' s' := by
  by_cases k0 : k = 0
  · have hk : (k == 0) = true := by simpa using k0
    have hk1 : (k == 1) = false := by rw [k0]; rfl
    obtain ⟨u, s1, e1, n1, p1, u0, u1⟩ := d_draw (b := 599) 12 hp 5 (by decide) (nb_small (by decide) (by decide))
    obtain ⟨_, h5⟩ := five u0 u1
    have f1 := s_timesL 12 2 p s (.of_left (by decide)) (.of_left (by decide))
    have f2 := s_plusL 12 (2 * p.1, 2 * p.2) q s
    have f4 := s_timesL 12 (1 + u) q s1 (h5 _) (h5 _)
    refine ⟨s1.length, (2 * p.1 + q.1, 2 * p.2 + q.2), ((1 + u) * q.1, (1 + u) * q.2), ab, s1 ++ [Cell.lst [prD (2 * p.1 + q.1, 2 * p.2 + q.2), prD ((1 + u) * q.1, (1 + u) * q.2)]], fun rest r h => seq_step (la5_yes (run 13) o0 _ _ _ o7 o8 o9 k u m1 p q _ _ _ s s1 hk l1 (nx_lst hp n1 l1) f1 f2 e1 f4) (seq_step (la6_no (run 13) o0 _ _ _ _ o7 o8 o9 k _ hk1) h), ?_⟩
    exact ⟨(p1.ext _).mono (by decide), get_ext (nx_lst hp n1 l1), lst_new _ _, r1.mono (by decide), r1.sort0 (k := 1 + u) (by omega) (by omega), h0, hb, a0, hab⟩
  · have hk0 : (k == 0) = false := by simpa using k0
    by_cases k1 : k = 1
    · have hk : (k == 1) = true := by simpa using k1
      obtain ⟨u, s1, e1, n1, p1, u0, u1⟩ := d_draw (b := 599) 12 hp 4 (by decide) (nb_small (by decide) (by decide))
      obtain ⟨v, s2, e2, n2, p2, v0, v1⟩ := d_draw (b := 598) 12 p1 4 (by decide) (nb_small (by decide) (by decide))
      obtain ⟨_, hu⟩ := five u0 (by omega)
      obtain ⟨_, hv⟩ := five v0 (by omega)
      have f2 := s_timesL 12 (1 + u) p s1 (hu _) (hu _)
      have f4 := s_timesL 12 (1 + v) q s2 (hv _) (hv _)
      refine ⟨s2.length, ((1 + u) * p.1, (1 + u) * p.2), ((1 + v) * q.1, (1 + v) * q.2), 1, s2 ++ [Cell.lst [prD ((1 + u) * p.1, (1 + u) * p.2), prD ((1 + v) * q.1, (1 + v) * q.2)]], fun rest r h => seq_step (la5_no (run 13) o0 _ _ _ _ o7 o8 o9 k s hk0) (seq_step (la6_yes (run 13) o0 _ _ _ o7 o8 o9 k u v m1 p q _ _ s s1 s2 hk (nx_lst hp n1 l1) (nx_lst hp (n1.trans n2) l1) e1 f2 e2 f4) h), ?_⟩
      exact ⟨(p2.ext _).mono (by decide), get_ext (nx_lst hp (n1.trans n2) l1), lst_new _ _, r1.mono (by decide), r1.sort1 (by omega) (by omega) (by omega) (by omega), h0, hb, by decide, by decide⟩
    · have hk : (k == 1) = false := by simpa using k1
      refine ⟨m2, p', q', ab, s, fun rest r h => seq_step (la5_no (run 13) o0 _ _ _ _ o7 o8 o9 k s hk0) (seq_step (la6_no (run 13) o0 _ _ _ _ o7 o8 o9 k s hk) h), ?_⟩
      exact ⟨hp.mono (by decide), l1, l2, r1.mono (by decide), r2.mono (by decide), h0, hb, a0, hab⟩
theorem d_setup (o0 o7 o8 o9 : Option D) (st : Store) (hp : Pen 800 st) :
    ∃ m1 m2 p q p' q' o ab k s', (∀ (rest : Fs) (r : SR), rest [o0, some (.ref 1), some (.int o), some (.int ab), some (.ref m1), some (.ref m2), some (.int k), o7, o8, o9] s' = r → sSeq (la2 (run 13)) (sSeq (la3 (run 13)) (sSeq (la4 (run 13)) (sSeq (la5 (run 13)) (sSeq (la6 (run 13)) rest)))) [o0, some (.ref 1), none, none, none, none, none, o7, o8, o9] st = r) ∧ Stp m1 m2 p q p' q' o ab s' := by
  obtain ⟨v, s1, e1, n1, p1, v0, v1⟩ := d_size (b := 792) 10 15 (by decide) (by decide) hp
  obtain ⟨w, s2, e2, n2, p2, w0, w1⟩ := d_size (b := 784) 10 9 (by decide) (by decide) p1
  obtain ⟨c0, c1⟩ := one_plus v0 v1 p15
  obtain ⟨d0, d1⟩ := one_plus w0 w1 p9
  obtain ⟨p, q, s3, e3, n3, p3, r3⟩ := d_rows (b := 761) 8 31 szf_middle p2
  have l3 : (s3 ++ [Cell.lst [prD p, prD q]])[s2.length]? = some (.lst [prD p, prD q]) := by
    rw [← n3.len]
    exact lst_new _ _
  have p3' := p3.ext [Cell.lst [prD p, prD q]]
  generalize s3 ++ [Cell.lst [prD p, prD q]] = S3 at *
  have hs : seqOf (.ref S3.length) (S3 ++ [.lst [.fn 25, .fn 31]]) = some [.fn 25, .fn 31] := by
    unfold seqOf
    simp
  obtain ⟨d, s4, e4, n4, p4, hd⟩ := d_pick (b := 760) 11 (p3'.ext [.lst [.fn 25, .fn 31]]) (.ref S3.length) [.fn 25, .fn 31] hs (by simp) (by simp) (by simp)
  obtain ⟨g, rfl, hg⟩ : ∃ g, d = .fn g ∧ SzF g := by
    simp only [List.mem_cons, List.not_mem_nil, or_false] at hd
    rcases hd with rfl | rfl
    · exact ⟨_, rfl, szf_small⟩
    · exact ⟨_, rfl, szf_middle⟩
  have l4 := nx_lst (p3'.ext [.lst [.fn 25, .fn 31]]) n4 (get_ext l3)
  obtain ⟨p', q', s5, e5, n5, p5, r5⟩ := d_rows (b := 737) 8 g hg p4
  have l5 : (s5 ++ [Cell.lst [prD p', prD q']])[s2.length]? = some (.lst [prD p, prD q]) := get_ext (nx_lst p4 n5 l4)
  have l6 : (s5 ++ [Cell.lst [prD p', prD q']])[s4.length]? = some (.lst [prD p', prD q']) := by
    rw [← n5.len]
    exact lst_new _ _
  have p5' := p5.ext [Cell.lst [prD p', prD q']]
  generalize s5 ++ [Cell.lst [prD p', prD q']] = S5 at *
  obtain ⟨k, s6, e6, n6, p6, k0, k1⟩ := d_draw (b := 736) 12 p5' 4 (by decide) (nb_small (by decide) (by decide))
  obtain ⟨m2', pa, qa, ab', s', hgo, hst⟩ := d_sort o0 o7 o8 o9 s2.length s4.length p q p' q' (1 + v) (1 + w) k s6 (p6.mono (by decide)) (nx_lst p5' n6 l5) (nx_lst p5' n6 l6) r3 r5 c0 c1 d0 d1
  exact ⟨_, _, _, _, _, _, _, _, k, s', fun rest r h => seq_step (la2_run (run 13) o0 _ _ _ _ _ o7 o8 o9 v w st s1 s2 e1 e2) (seq_step (la3_run (run 13) o0 _ _ _ _ _ o7 o8 o9 s2.length s4.length g s2 S3 s4 S5 e3 e4 e5) (seq_step (la4_run (run 13) o0 _ _ _ _ _ o7 o8 o9 k S5 s6 e6) (hgo rest r h))), hst⟩
theorem d_factor {b : Nat} {st : Store} (h : Pen (b + 17) st) (o0 o2 o3 o4 o5 o6 o7 o8 o9 : Option D) : ∃ (ν δ : Int) (s' : Store), la10 (run 13) [o0, some (.ref 1), o2, o3, o4, o5, o6, o7, o8, o9] st = .nx [o0, some (.ref 1), o2, o3, o4, o5, o6, o7, o8, some (rD ((ν : Rat) / (δ : Rat)))] s' ∧ ν ≠ 0 ∧ 0 < δ ∧ ν.natAbs ≤ 2 ^ 50 ∧ δ.natAbs ≤ 2 ^ 30 ∧ ∃ e, Nx (st ++ e) s' := by
  have hs : seqOf (.ref st.length) (st ++ [.lst [.int 1, .int (-1)]]) = some [.int 1, .int (-1)] := by
    unfold seqOf
    simp
  obtain ⟨d, s1, e1, n1, p1, hd⟩ := d_pick (b := b + 16) 11 (h.ext [.lst [.int 1, .int (-1)]]) (.ref st.length) [.int 1, .int (-1)] hs (by simp) (by simp) (by simp)
  obtain ⟨sg, rfl, hsg⟩ : ∃ sg : Int, d = .int sg ∧ (sg = 1 ∨ sg = -1) := by
    simp only [List.mem_cons, List.not_mem_nil, or_false] at hd
    rcases hd with rfl | rfl
    · exact ⟨1, rfl, .inl rfl⟩
    · exact ⟨-1, rfl, .inr rfl⟩
  obtain ⟨v, s2, e2, n2, p2, v0, v1⟩ := d_size (b := b + 8) 10 15 (by decide) (by decide) p1
  obtain ⟨w, s3, e3, n3, p3, w0, w1⟩ := d_size (b := b) 10 9 (by decide) (by decide) p2
  obtain ⟨c0, c1⟩ := one_plus v0 v1 p15
  obtain ⟨d0, d1⟩ := one_plus w0 w1 p9
  have ms : IntMulOk sg (1 + v) := .of_left (by rcases hsg with rfl | rfl <;> decide)
  have mk := s_mk 11 (sg * (1 + v)) (1 + w) s3 (by omega) (nb_of d1 (show 30 < 8000 by decide))
  rw [Rat.divInt_eq_div] at mk
  have ab : (sg * (1 + v)).natAbs = (1 + v).natAbs := by rcases hsg with rfl | rfl <;> omega
  refine ⟨sg * (1 + v), 1 + w, s3, la10_run (run 13) o0 o2 o3 o4 o5 o6 o7 o8 o9 sg v w _ st s1 s2 s3 e1 e2 ms e3 mk, ?_, d0, by rw [ab]; exact c1, d1, _, (n1.trans n2).trans n3⟩
  rcases hsg with rfl | rfl <;> omega
theorem law_ok' (ns : List Int) (hl : ns.length ≤ 63) : ∃ st, run 14 36 [.ref 0] [.rol (ns.map D.int)] = .ok (.bl true) st := by
  have e0 : run 13 9 [.ref 0] [.rol (ns.map D.int)] = .ok (.ref 1) (st0 ns) := s_begin 12 ns hl
  obtain ⟨m1, m2, p, q, p', q', o, ab, k, s, hgo, hs⟩ := d_setup (some (.ref 0)) none none none (st0 ns) ((st0_pen ns hl).mono (by decide))
  have mo : IntMulOk o ab := (nb_of hs.ob (show 50 < 100 by decide)).ok (nb_of hs.ab (show 30 < 100 by decide)) (by decide)
  have oab0 : 0 < o * ab := Int.mul_pos hs.o0 hs.a0
  have oab1 : (o * ab).natAbs ≤ 2 ^ 80 := mul_abs hs.ob hs.ab
  have ob80 : o.natAbs ≤ 2 ^ 80 := le_abs hs.ob (by decide)
  obtain ⟨a, b, d, eL, L, Z⟩ := s_llattice 7 m1 p q o 93 80 s hs.l1 hs.r1 hs.o0 ob80 (by decide) (by decide)
  obtain ⟨a', b', d', eL', L', Z'⟩ := s_llattice 7 m2 p' q' (o * ab) 93 80 s hs.l2 hs.r2 oab0 oab1 (by decide) (by decide)
  obtain ⟨s1, e1, n1, p1⟩ := d_dual_right (b' := 464) 3 m1 p q o a b d hs.pen hs.l1 hs.r1 hs.o0 ob80 L Z
  have l2a := nx_lst hs.pen n1 hs.l2
  obtain ⟨s2, e2, n2, p2⟩ := d_dual_right (b' := 428) 3 m2 p' q' (o * ab) a' b' d' p1 l2a hs.r2 oab0 oab1 L' Z'
  have n12 := n1.trans n2
  obtain ⟨s3, e3, n3, p3⟩ := d_forms_right (b' := 401) 3 m1 p q o a b d p2 (nx_lst hs.pen n12 hs.l1) hs.r1 hs.o0 ob80 L Z
  have n13 := n12.trans n3
  obtain ⟨s4, e4, n4, p4⟩ := d_forms_right (b' := 374) 3 m2 p' q' (o * ab) a' b' d' p3 (nx_lst hs.pen n13 hs.l2) hs.r2 oab0 oab1 L' Z'
  have n14 := n13.trans n4
  have l1c := nx_lst hs.pen n14 hs.l1
  have l2c := nx_lst hs.pen n14 hs.l2
  obtain ⟨ν, δ, s5, e5, ν0, δ0, bν, bδ, e, n5⟩ := d_factor (b := 357) p4 (some (.ref 0)) (some (.int o)) (some (.int ab)) (some (.ref m1)) (some (.ref m2)) (some (.int k)) (some (latD a b d)) (some (latD a' b' d')) none
  have l1d := nx_lst (p4.ext e) n5 (get_ext l1c)
  have l2d := nx_lst (p4.ext e) n5 (get_ext l2c)
  have t1 := s_two_right 3 L.cn L'.cn Z Z' ν δ rfl ν0 δ0 bν bδ s5
  have t2 := s_two_right 3 L'.cn L.cn Z' Z ν δ rfl ν0 δ0 bν bδ s5
  have i1 := s_is_lattice 10 m1 p q o a b d s5 l1d hs.r1 hs.o0 ob80 L Z
  have i2 := s_is_lattice 10 m2 p' q' (o * ab) a' b' d' s5 l2d hs.r2 oab0 oab1 L' Z'
  have main : B_36 (run 13) (startE 10 [.ref 0]) [.rol (ns.map D.int)] = .rt (.bl true) s5 := by
    rw [la_eq]
    have h0 : sAsg (xCall T (run 13) 9 (aCons (xVar 0) aNil)) (gNm 1) (startE 10 [.ref 0]) [.rol (ns.map D.int)] = .nx [some (.ref 0), some (.ref 1), none, none, none, none, none, none, none, none] (st0 ns) := by
      have q : ∀ c : Fn, c 9 [.ref 0] [.rol (ns.map D.int)] = .ok (.ref 1) (st0 ns) → sAsg (xCall T c 9 (aCons (xVar 0) aNil)) (gNm 1) (startE 10 [.ref 0]) [.rol (ns.map D.int)] = .nx [some (.ref 0), some (.ref 1), none, none, none, none, none, none, none, none] (st0 ns) := fun c h => by
        simp [startE, h]
      exact q _ e0
    refine seq_step h0 (hgo _ _ ?_)
    refine seq_step (la7_run (run 13) _ _ _ _ _ m1 m2 o ab _ _ s mo eL eL') ?_
    refine seq_step (la8_run (run 13) _ _ _ 33 m1 m2 o ab _ _ s s1 s2 mo e1 e2) ?_
    refine seq_step (la8_run (run 13) _ _ _ 34 m1 m2 o ab _ _ s2 s3 s4 mo e3 e4) ?_
    refine seq_step e5 ?_
    refine seq_step (la11_run (run 13) _ _ _ _ _ _ _ _ _ s5 t1 t2) ?_
    exact la12_run (run 13) _ _ _ m1 m2 o ab _ _ s5 mo i1 i2
  rw [run_36, fnD_rt main]
  exact tidy_bl _ _ _
end G13
namespace G13
open PySem PySem.Spec PyProof.Rows L2 Gm
section
variable {P : Program} {w : World} {K : PySem.W.Frag} {mg : Str → Option Value} {base h : Heap}
theorem nam_of (X : K.In h) (G : h.Ns mainGlobals mg) (c : Says fa fn ex K) (hex : ex K = true) : Nam K mg where
  g_Ratio := He.glo_ok X G (c.fact 0 (f := .glo "Ratio") rfl)
  g_gcd_of := He.glo_ok X G (c.fact 1 (f := .glo "gcd_of") rfl)
  g_is_number := He.glo_ok X G (c.fact 2 (f := .glo "is_number") rfl)
  g_bezout := He.glo_ok X G (c.fact 3 (f := .glo "bezout") rfl)
  g_ratio_of := He.glo_ok X G (c.fact 4 (f := .glo "ratio_of") rfl)
  g_Lattice := He.glo_ok X G (c.fact 5 (f := .glo "Lattice") rfl)
  g__law_draw := He.glo_ok X G (c.fact 6 (f := .glo "_law_draw") rfl)
  g__law_ten := He.glo_ok X G (c.fact 7 (f := .glo "_law_ten") rfl)
  g__law_long := He.glo_ok X G (c.fact 8 (f := .glo "_law_long") rfl)
  g__law_size := He.glo_ok X G (c.fact 9 (f := .glo "_law_size") rfl)
  g__law_whole_is := He.glo_ok X G (c.fact 10 (f := .glo "_law_whole_is") rfl)
  g__law_gcd := He.glo_ok X G (c.fact 11 (f := .glo "_law_gcd") rfl)
  g__law_told := He.glo_ok X G (c.fact 12 (f := .glo "_law_told") rfl)
  g_Point := He.glo_ok X G (c.fact 13 (f := .glo "Point") rfl)
  g__law_area := He.glo_ok X G (c.fact 14 (f := .glo "_law_area") rfl)
  g__law_pick := He.glo_ok X G (c.fact 15 (f := .glo "_law_pick") rfl)
  g__law_point := He.glo_ok X G (c.fact 16 (f := .glo "_law_point") rfl)
  g__law_stair := He.glo_ok X G (c.fact 17 (f := .glo "_law_stair") rfl)
  g__law_ratio_is := He.glo_ok X G (c.fact 18 (f := .glo "_law_ratio_is") rfl)
  g__law_number := He.glo_ok X G (c.fact 19 (f := .glo "_law_number") rfl)
  g__law_member := He.glo_ok X G (c.fact 20 (f := .glo "_law_member") rfl)
  g__law_product := He.glo_ok X G (c.fact 21 (f := .glo "_law_product") rfl)
  g__law_is_lattice := He.glo_ok X G (c.fact 22 (f := .glo "_law_is_lattice") rfl)
  g_Form := He.glo_ok X G (c.fact 23 (f := .glo "Form") rfl)
  g__law_truth := He.glo_ok X G (c.fact 24 (f := .glo "_law_truth") rfl)
  g_value_at := He.glo_ok X G (c.fact 25 (f := .glo "value_at") rfl)
  g__law_begin := He.glo_ok X G (c.fact 26 (f := .glo "_law_begin") rfl)
  g__law_middle := He.glo_ok X G (c.fact 27 (f := .glo "_law_middle") rfl)
  g__law_small := He.glo_ok X G (c.fact 28 (f := .glo "_law_small") rfl)
  g__law_rows := He.glo_ok X G (c.fact 29 (f := .glo "_law_rows") rfl)
  g__law_times := He.glo_ok X G (c.fact 30 (f := .glo "_law_times") rfl)
  g__law_plus := He.glo_ok X G (c.fact 31 (f := .glo "_law_plus") rfl)
  g__law_lattice := He.glo_ok X G (c.fact 32 (f := .glo "_law_lattice") rfl)
  g__law_dual_right := He.glo_ok X G (c.fact 33 (f := .glo "_law_dual_right") rfl)
  g__law_forms_right := He.glo_ok X G (c.fact 34 (f := .glo "_law_forms_right") rfl)
  g__law_two_right := He.glo_ok X G (c.fact 35 (f := .glo "_law_two_right") rfl)
  g_raised := He.glo_ok X G (c.fact 36 (f := .glo "raised") rfl)
  g_lcm_of := He.glo_ok X G (c.fact 37 (f := .glo "lcm_of") rfl)
  g_stair := He.glo_ok X G (c.fact 38 (f := .glo "stair") rfl)
  g_scaled := He.glo_ok X G (c.fact 39 (f := .glo "scaled") rfl)
  b_isinstance := He.free_ok X G (c.fact 40 (f := .free "isinstance") rfl)
  b_int := He.free_ok X G (c.fact 41 (f := .free "int") rfl)
  b_bool := He.free_ok X G (c.fact 42 (f := .free "bool") rfl)
  b_abs := He.free_ok X G (c.fact 43 (f := .free "abs") rfl)
  b_list := He.free_ok X G (c.fact 44 (f := .free "list") rfl)
  b_len := He.free_ok X G (c.fact 45 (f := .free "len") rfl)
  b_range := He.free_ok X G (c.fact 46 (f := .free "range") rfl)
  b_max := He.free_ok X G (c.fact 47 (f := .free "max") rfl)
  b_NotImplemented := He.free_ok X G (c.fact 48 (f := .free "NotImplemented") rfl)
theorem binds_of (c : Says fa fn ex K) : AllN (BindOk tb K) 0 89 :=
  ⟨(c.def_ 0 (d := d_0) rfl).elim fun fd F => bind0 (f := 0) rfl F rfl rfl fun _ _ _ _ _ _ us hl => (match us, hl with | [_], _ => rfl),
  ⟨(c.def_ 1 (d := d_1) rfl).elim fun fd F => bind0 (f := 1) rfl F rfl rfl fun _ _ _ _ _ _ us hl => (match us, hl with | [_, _], _ => rfl),
  ⟨(c.def_ 2 (d := d_2) rfl).elim fun fd F => bind0 (f := 2) rfl F rfl rfl fun _ _ _ _ _ _ us hl => (match us, hl with | [_, _], _ => rfl),
  ⟨(c.def_ 3 (d := d_3) rfl).elim fun fd F => bind0 (f := 3) rfl F rfl rfl fun _ _ _ _ _ _ us hl => (match us, hl with | [_, _], _ => rfl),
  ⟨(c.def_ 4 (d := d_4) rfl).elim fun fd F => bind0 (f := 4) rfl F rfl rfl fun _ _ _ _ _ _ us hl => (match us, hl with | [_, _], _ => rfl),
  ⟨(c.def_ 5 (d := d_5) rfl).elim fun fd F => bind0 (f := 5) rfl F rfl rfl fun _ _ _ _ _ _ us hl => (match us, hl with | [_], _ => rfl),
  ⟨(c.def_ 6 (d := d_6) rfl).elim fun fd F => bind0 (f := 6) rfl F rfl rfl fun _ _ _ _ _ _ us hl => (match us, hl with | [_, _], _ => rfl),
  ⟨(c.def_ 7 (d := d_7) rfl).elim fun fd F => bind0 (f := 7) rfl F rfl rfl fun _ _ _ _ _ _ us hl => (match us, hl with | [_], _ => rfl),
  ⟨(c.def_ 8 (d := d_8) rfl).elim fun fd F => bind0 (f := 8) rfl F rfl rfl fun _ _ _ _ _ _ us hl => (match us, hl with | [_, _], _ => rfl),
  ⟨(c.def_ 9 (d := d_9) rfl).elim fun fd F => bind0 (f := 9) rfl F rfl rfl fun _ _ _ _ _ _ us hl => (match us, hl with | [_], _ => rfl),
  ⟨(c.def_ 10 (d := d_10) rfl).elim fun fd F => bind0 (f := 10) rfl F rfl rfl fun _ _ _ _ _ _ us hl => (match us, hl with | [_, _], _ => rfl),
  ⟨(c.def_ 11 (d := d_11) rfl).elim fun fd F => bind0 (f := 11) rfl F rfl rfl fun _ _ _ _ _ _ us hl => (match us, hl with | [_, _], _ => rfl),
  ⟨(c.def_ 12 (d := d_12) rfl).elim fun fd F => bind0 (f := 12) rfl F rfl rfl fun _ _ _ _ _ _ us hl => (match us, hl with | [_], _ => rfl),
  ⟨(c.def_ 13 (d := d_13) rfl).elim fun fd F => bind0 (f := 13) rfl F rfl rfl fun _ _ _ _ _ _ us hl => (match us, hl with | [_, _], _ => rfl),
  ⟨(c.def_ 14 (d := d_14) rfl).elim fun fd F => bind0 (f := 14) rfl F rfl rfl fun _ _ _ _ _ _ us hl => (match us, hl with | [_, _], _ => rfl),
  ⟨(c.def_ 15 (d := d_15) rfl).elim fun fd F => bind0 (f := 15) rfl F rfl rfl fun _ _ _ _ _ _ us hl => (match us, hl with | [_, _], _ => rfl),
  ⟨(c.def_ 16 (d := d_16) rfl).elim fun fd F => bind0 (f := 16) rfl F rfl rfl fun _ _ _ _ _ _ us hl => (match us, hl with | [_, _], _ => rfl),
  ⟨(c.def_ 17 (d := d_17) rfl).elim fun fd F => bind0 (f := 17) rfl F rfl rfl fun _ _ _ _ _ _ us hl => (match us, hl with | [_, _], _ => rfl),
  ⟨(c.def_ 18 (d := d_18) rfl).elim fun fd F => bind0 (f := 18) rfl F rfl rfl fun _ _ _ _ _ _ us hl => (match us, hl with | [_, _], _ => rfl),
  ⟨(c.def_ 19 (d := d_19) rfl).elim fun fd F => bind0 (f := 19) rfl F rfl rfl fun _ _ _ _ _ _ us hl => (match us, hl with | [_, _, _], _ => rfl),
  ⟨(c.def_ 20 (d := d_20) rfl).elim fun fd F => bind0 (f := 20) rfl F rfl rfl fun _ _ _ _ _ _ us hl => (match us, hl with | [_, _], _ => rfl),
  ⟨(c.def_ 21 (d := d_21) rfl).elim fun fd F => bind0 (f := 21) rfl F rfl rfl fun _ _ _ _ _ _ us hl => (match us, hl with | [_, _], _ => rfl),
  ⟨(c.def_ 22 (d := d_22) rfl).elim fun fd F => bind0 (f := 22) rfl F rfl rfl fun _ _ _ _ _ _ us hl => (match us, hl with | [_, _], _ => rfl),
  ⟨(c.def_ 23 (d := d_23) rfl).elim fun fd F => bind0 (f := 23) rfl F rfl rfl fun _ _ _ _ _ _ us hl => (match us, hl with | [_], _ => rfl),
  ⟨(c.def_ 24 (d := d_24) rfl).elim fun fd F => bind0 (f := 24) rfl F rfl rfl fun _ _ _ _ _ _ us hl => (match us, hl with | [_, _], _ => rfl),
  ⟨(c.def_ 25 (d := d_25) rfl).elim fun fd F => bind0 (f := 25) rfl F rfl rfl fun _ _ _ _ _ _ us hl => (match us, hl with | [_], _ => rfl),
  ⟨(c.def_ 26 (d := d_26) rfl).elim fun fd F => bind0 (f := 26) rfl F rfl rfl fun _ _ _ _ _ _ us hl => (match us, hl with | [_, _], _ => rfl),
  ⟨(c.def_ 27 (d := d_27) rfl).elim fun fd F => bind0 (f := 27) rfl F rfl rfl fun _ _ _ _ _ _ us hl => (match us, hl with | [_, _, _], _ => rfl),
  ⟨(c.def_ 28 (d := d_28) rfl).elim fun fd F => bind0 (f := 28) rfl F rfl rfl fun _ _ _ _ _ _ us hl => (match us, hl with | [_, _, _], _ => rfl),
  ⟨(c.def_ 29 (d := d_29) rfl).elim fun fd F => bind0 (f := 29) rfl F rfl rfl fun _ _ _ _ _ _ us hl => (match us, hl with | [_, _], _ => rfl),
  ⟨(c.def_ 30 (d := d_30) rfl).elim fun fd F => bind0 (f := 30) rfl F rfl rfl fun _ _ _ _ _ _ us hl => (match us, hl with | [_, _], _ => rfl),
  ⟨(c.def_ 31 (d := d_31) rfl).elim fun fd F => bind0 (f := 31) rfl F rfl rfl fun _ _ _ _ _ _ us hl => (match us, hl with | [_], _ => rfl),
  ⟨(c.def_ 32 (d := d_32) rfl).elim fun fd F => bind0 (f := 32) rfl F rfl rfl fun _ _ _ _ _ _ us hl => (match us, hl with | [_, _], _ => rfl),
  ⟨(c.def_ 33 (d := d_33) rfl).elim fun fd F => bind0 (f := 33) rfl F rfl rfl fun _ _ _ _ _ _ us hl => (match us, hl with | [_, _, _, _], _ => rfl),
  ⟨(c.def_ 34 (d := d_34) rfl).elim fun fd F => bind0 (f := 34) rfl F rfl rfl fun _ _ _ _ _ _ us hl => (match us, hl with | [_, _, _, _], _ => rfl),
  ⟨(c.def_ 35 (d := d_35) rfl).elim fun fd F => bind0 (f := 35) rfl F rfl rfl fun _ _ _ _ _ _ us hl => (match us, hl with | [_, _, _], _ => rfl),
  ⟨(c.def_ 36 (d := d_36) rfl).elim fun fd F => bind0 (f := 36) rfl F rfl rfl fun _ _ _ _ _ _ us hl => (match us, hl with | [_], _ => rfl),
  ⟨(c.def_ 37 (d := d_37) rfl).elim fun fd F => bindJ (f := 37) rfl F (by decide) (by decide) (by decide) fun j hj => match j, hj with | 0, _ => fun _ _ _ _ _ _ _ us its l1 l2 => (match us, its, l1, l2 with | [_, _], [_], _, _ => ⟨_, rfl, rfl⟩) | 1, _ => fun _ _ _ _ _ _ _ us its l1 l2 => (match us, its, l1, l2 with | [_, _, _], [_], _, _ => (by first | exact .inl rfl | exact .inr ⟨_, rfl, rfl⟩)),
  ⟨(c.def_ 38 (d := d_38) rfl).elim fun fd F => bind0 (f := 38) rfl F rfl rfl fun _ _ _ _ _ _ us hl => (match us, hl with | [_, _], _ => rfl),
  ⟨(c.def_ 39 (d := d_39) rfl).elim fun fd F => bind0 (f := 39) rfl F rfl rfl fun _ _ _ _ _ _ us hl => (match us, hl with | [_, _], _ => rfl),
  ⟨(c.def_ 40 (d := d_40) rfl).elim fun fd F => bind0 (f := 40) rfl F rfl rfl fun _ _ _ _ _ _ us hl => (match us, hl with | [_, _], _ => rfl),
  ⟨(c.def_ 41 (d := d_41) rfl).elim fun fd F => bind0 (f := 41) rfl F rfl rfl fun _ _ _ _ _ _ us hl => (match us, hl with | [_, _], _ => rfl),
  ⟨(c.def_ 42 (d := d_42) rfl).elim fun fd F => bind0 (f := 42) rfl F rfl rfl fun _ _ _ _ _ _ us hl => (match us, hl with | [_, _], _ => rfl),
  ⟨(c.def_ 43 (d := d_43) rfl).elim fun fd F => bind0 (f := 43) rfl F rfl rfl fun _ _ _ _ _ _ us hl => (match us, hl with | [_, _], _ => rfl),
  ⟨(c.def_ 44 (d := d_44) rfl).elim fun fd F => bind0 (f := 44) rfl F rfl rfl fun _ _ _ _ _ _ us hl => (match us, hl with | [_, _], _ => rfl),
  ⟨(c.def_ 45 (d := d_45) rfl).elim fun fd F => bind0 (f := 45) rfl F rfl rfl fun _ _ _ _ _ _ us hl => (match us, hl with | [_, _], _ => rfl),
  ⟨(c.def_ 46 (d := d_46) rfl).elim fun fd F => bind0 (f := 46) rfl F rfl rfl fun _ _ _ _ _ _ us hl => (match us, hl with | [_, _], _ => rfl),
  ⟨(c.def_ 47 (d := d_47) rfl).elim fun fd F => bind0 (f := 47) rfl F rfl rfl fun _ _ _ _ _ _ us hl => (match us, hl with | [_, _], _ => rfl),
  ⟨(c.def_ 48 (d := d_48) rfl).elim fun fd F => bind0 (f := 48) rfl F rfl rfl fun _ _ _ _ _ _ us hl => (match us, hl with | [_, _], _ => rfl),
  ⟨(c.def_ 49 (d := d_49) rfl).elim fun fd F => bind0 (f := 49) rfl F rfl rfl fun _ _ _ _ _ _ us hl => (match us, hl with | [_, _], _ => rfl),
  ⟨(c.def_ 50 (d := d_50) rfl).elim fun fd F => bind0 (f := 50) rfl F rfl rfl fun _ _ _ _ _ _ us hl => (match us, hl with | [_, _], _ => rfl),
  ⟨(c.def_ 51 (d := d_51) rfl).elim fun fd F => bind0 (f := 51) rfl F rfl rfl fun _ _ _ _ _ _ us hl => (match us, hl with | [_, _], _ => rfl),
  ⟨(c.def_ 52 (d := d_52) rfl).elim fun fd F => bind0 (f := 52) rfl F rfl rfl fun _ _ _ _ _ _ us hl => (match us, hl with | [_, _], _ => rfl),
  ⟨(c.def_ 53 (d := d_53) rfl).elim fun fd F => bind0 (f := 53) rfl F rfl rfl fun _ _ _ _ _ _ us hl => (match us, hl with | [_, _], _ => rfl),
  ⟨(c.def_ 54 (d := d_54) rfl).elim fun fd F => bind0 (f := 54) rfl F rfl rfl fun _ _ _ _ _ _ us hl => (match us, hl with | [_], _ => rfl),
  ⟨(c.def_ 55 (d := d_55) rfl).elim fun fd F => bind0 (f := 55) rfl F rfl rfl fun _ _ _ _ _ _ us hl => (match us, hl with | [_], _ => rfl),
  ⟨(c.def_ 56 (d := d_56) rfl).elim fun fd F => bind0 (f := 56) rfl F rfl rfl fun _ _ _ _ _ _ us hl => (match us, hl with | [_], _ => rfl),
  ⟨(c.def_ 57 (d := d_57) rfl).elim fun fd F => bind0 (f := 57) rfl F rfl rfl fun _ _ _ _ _ _ us hl => (match us, hl with | [_, _], _ => rfl),
  ⟨(c.def_ 58 (d := d_58) rfl).elim fun fd F => bind0 (f := 58) rfl F rfl rfl fun _ _ _ _ _ _ us hl => (match us, hl with | [_], _ => rfl),
  ⟨(c.def_ 59 (d := d_59) rfl).elim fun fd F => bind0 (f := 59) rfl F rfl rfl fun _ _ _ _ _ _ us hl => (match us, hl with | [_], _ => rfl),
  ⟨(c.def_ 60 (d := d_60) rfl).elim fun fd F => bind0 (f := 60) rfl F rfl rfl fun _ _ _ _ _ _ us hl => (match us, hl with | [_, _, _], _ => rfl),
  ⟨(c.def_ 61 (d := d_61) rfl).elim fun fd F => bind0 (f := 61) rfl F rfl rfl fun _ _ _ _ _ _ us hl => (match us, hl with | [_, _], _ => rfl),
  ⟨(c.def_ 62 (d := d_62) rfl).elim fun fd F => bind0 (f := 62) rfl F rfl rfl fun _ _ _ _ _ _ us hl => (match us, hl with | [_, _], _ => rfl),
  ⟨(c.def_ 63 (d := d_63) rfl).elim fun fd F => bind0 (f := 63) rfl F rfl rfl fun _ _ _ _ _ _ us hl => (match us, hl with | [_, _], _ => rfl),
  ⟨(c.def_ 64 (d := d_64) rfl).elim fun fd F => bind0 (f := 64) rfl F rfl rfl fun _ _ _ _ _ _ us hl => (match us, hl with | [_, _], _ => rfl),
  ⟨(c.def_ 65 (d := d_65) rfl).elim fun fd F => bind0 (f := 65) rfl F rfl rfl fun _ _ _ _ _ _ us hl => (match us, hl with | [_, _], _ => rfl),
  ⟨(c.def_ 66 (d := d_66) rfl).elim fun fd F => bind0 (f := 66) rfl F rfl rfl fun _ _ _ _ _ _ us hl => (match us, hl with | [_], _ => rfl),
  ⟨(c.def_ 67 (d := d_67) rfl).elim fun fd F => bind0 (f := 67) rfl F rfl rfl fun _ _ _ _ _ _ us hl => (match us, hl with | [_], _ => rfl),
  ⟨(c.def_ 68 (d := d_68) rfl).elim fun fd F => bind0 (f := 68) rfl F rfl rfl fun _ _ _ _ _ _ us hl => (match us, hl with | [_, _, _], _ => rfl),
  ⟨(c.def_ 69 (d := d_69) rfl).elim fun fd F => bind0 (f := 69) rfl F rfl rfl fun _ _ _ _ _ _ us hl => (match us, hl with | [_, _], _ => rfl),
  ⟨(c.def_ 70 (d := d_70) rfl).elim fun fd F => bind0 (f := 70) rfl F rfl rfl fun _ _ _ _ _ _ us hl => (match us, hl with | [_, _], _ => rfl),
  ⟨(c.def_ 71 (d := d_71) rfl).elim fun fd F => bind0 (f := 71) rfl F rfl rfl fun _ _ _ _ _ _ us hl => (match us, hl with | [_, _], _ => rfl),
  ⟨(c.def_ 72 (d := d_72) rfl).elim fun fd F => bind0 (f := 72) rfl F rfl rfl fun _ _ _ _ _ _ us hl => (match us, hl with | [_, _], _ => rfl),
  ⟨(c.def_ 73 (d := d_73) rfl).elim fun fd F => bind0 (f := 73) rfl F rfl rfl fun _ _ _ _ _ _ us hl => (match us, hl with | [_, _], _ => rfl),
  ⟨(c.def_ 74 (d := d_74) rfl).elim fun fd F => bind0 (f := 74) rfl F rfl rfl fun _ _ _ _ _ _ us hl => (match us, hl with | [_, _], _ => rfl),
  ⟨(c.def_ 75 (d := d_75) rfl).elim fun fd F => bind0 (f := 75) rfl F rfl rfl fun _ _ _ _ _ _ us hl => (match us, hl with | [_], _ => rfl),
  ⟨(c.def_ 76 (d := d_76) rfl).elim fun fd F => bind0 (f := 76) rfl F rfl rfl fun _ _ _ _ _ _ us hl => (match us, hl with | [_, _], _ => rfl),
  ⟨(c.def_ 77 (d := d_77) rfl).elim fun fd F => bind0 (f := 77) rfl F rfl rfl fun _ _ _ _ _ _ us hl => (match us, hl with | [_], _ => rfl),
  ⟨(c.def_ 78 (d := d_78) rfl).elim fun fd F => bind0 (f := 78) rfl F rfl rfl fun _ _ _ _ _ _ us hl => (match us, hl with | [_], _ => rfl),
  ⟨(c.def_ 79 (d := d_79) rfl).elim fun fd F => bind0 (f := 79) rfl F rfl rfl fun _ _ _ _ _ _ us hl => (match us, hl with | [_, _], _ => rfl),
  ⟨(c.def_ 80 (d := d_80) rfl).elim fun fd F => bind0 (f := 80) rfl F rfl rfl fun _ _ _ _ _ _ us hl => (match us, hl with | [_], _ => rfl),
  ⟨(c.def_ 81 (d := d_81) rfl).elim fun fd F => bind0 (f := 81) rfl F rfl rfl fun _ _ _ _ _ _ us hl => (match us, hl with | [_], _ => rfl),
  ⟨(c.def_ 82 (d := d_82) rfl).elim fun fd F => bind0 (f := 82) rfl F rfl rfl fun _ _ _ _ _ _ us hl => (match us, hl with | [_, _], _ => rfl),
  ⟨(c.def_ 83 (d := d_83) rfl).elim fun fd F => bind0 (f := 83) rfl F rfl rfl fun _ _ _ _ _ _ us hl => (match us, hl with | [_, _], _ => rfl),
  ⟨(c.def_ 84 (d := d_84) rfl).elim fun fd F => bind0 (f := 84) rfl F rfl rfl fun _ _ _ _ _ _ us hl => (match us, hl with | [_, _], _ => rfl),
  ⟨(c.def_ 85 (d := d_85) rfl).elim fun fd F => bind0 (f := 85) rfl F rfl rfl fun _ _ _ _ _ _ us hl => (match us, hl with | [_, _], _ => rfl),
  ⟨(c.def_ 86 (d := d_86) rfl).elim fun fd F => bind0 (f := 86) rfl F rfl rfl fun _ _ _ _ _ _ us hl => (match us, hl with | [_, _], _ => rfl),
  ⟨(c.def_ 87 (d := d_87) rfl).elim fun fd F => bind0 (f := 87) rfl F rfl rfl fun _ _ _ _ _ _ us hl => (match us, hl with | [_, _], _ => rfl),
  ⟨(c.def_ 88 (d := d_88) rfl).elim fun fd F => bind0 (f := 88) rfl F rfl rfl fun _ _ _ _ _ _ us hl => (match us, hl with | [_, _], _ => rfl),
  trivial⟩⟩⟩⟩⟩⟩⟩⟩⟩⟩⟩⟩⟩⟩⟩⟩⟩⟩⟩⟩⟩⟩⟩⟩⟩⟩⟩⟩⟩⟩⟩⟩⟩⟩⟩⟩⟩⟩⟩⟩⟩⟩⟩⟩⟩⟩⟩⟩⟩⟩⟩⟩⟩⟩⟩⟩⟩⟩⟩⟩⟩⟩⟩⟩⟩⟩⟩⟩⟩⟩⟩⟩⟩⟩⟩⟩⟩⟩⟩⟩⟩⟩⟩⟩⟩⟩⟩⟩⟩
theorem keeps_of (c : Says fa fn ex K) : ∀ d ∈ tb.defs, PySem.W.keepIn K (.ref (adr K d.d.at_)) = true := fun d hd => by
  have hm : d.d ∈ fn := by
    have e : fn = tb.defs.map (·.d) := rfl
    rw [e]; exact List.mem_map.mpr ⟨d, hd, rfl⟩
  obtain ⟨fd, F⟩ := c.defs hm
  exact F.kp
theorem step (N : Nam K mg) (c : Says fa fn ex K) {k : Nat} {cf : Fn} (F : FOk (tb.lw K) P w K mg base k cf) : FOk (tb.lw K) P w K mg base (k + 10) (pickF (bodies cf) (nis cf)) := by
  refine F.next (fun f hf => allN (P := fun f => FnOk P w K mg base (L2.CX P w) (k + 10) ((tb.lw K).fad f) ((tb.lw K).fdt f) ((tb.lw K).fps f) (spM K (tb.lw K) ((tb.lw K).fps f).length (pickF (bodies cf) (nis cf) f))) (i := 0) (n := 89) ?_ f (Nat.zero_le _) (by have := of_decide_eq_true hf; have e : tb.defs.length = 89 := rfl; omega)) fun f hf => ?_
  · exact ⟨(c.def_ 0 (d := d_0) rfl).elim fun fd F0 => ok_0 N F0 F,
  ⟨(c.def_ 1 (d := d_1) rfl).elim fun fd F0 => ok_1 N F0 F,
  ⟨(c.def_ 2 (d := d_2) rfl).elim fun fd F0 => ok_2 N F0 F,
  ⟨(c.def_ 3 (d := d_3) rfl).elim fun fd F0 => ok_3 N F0 F,
  ⟨(c.def_ 4 (d := d_4) rfl).elim fun fd F0 => ok_4 N F0 F,
  ⟨(c.def_ 5 (d := d_5) rfl).elim fun fd F0 => ok_5 N F0 F,
  ⟨(c.def_ 6 (d := d_6) rfl).elim fun fd F0 => ok_6 N F0 F,
  ⟨(c.def_ 7 (d := d_7) rfl).elim fun fd F0 => ok_7 N F0 F,
  ⟨(c.def_ 8 (d := d_8) rfl).elim fun fd F0 => ok_8 N F0 F,
  ⟨(c.def_ 9 (d := d_9) rfl).elim fun fd F0 => ok_9 N F0 F,
  ⟨(c.def_ 10 (d := d_10) rfl).elim fun fd F0 => ok_10 N F0 F,
  ⟨(c.def_ 11 (d := d_11) rfl).elim fun fd F0 => ok_11 N F0 F,
  ⟨(c.def_ 12 (d := d_12) rfl).elim fun fd F0 => ok_12 N F0 F,
  ⟨(c.def_ 13 (d := d_13) rfl).elim fun fd F0 => ok_13 N F0 F,
  ⟨(c.def_ 14 (d := d_14) rfl).elim fun fd F0 => ok_14 N F0 F,
  ⟨(c.def_ 15 (d := d_15) rfl).elim fun fd F0 => ok_15 N F0 F,
  ⟨(c.def_ 16 (d := d_16) rfl).elim fun fd F0 => ok_16 N F0 F,
  ⟨(c.def_ 17 (d := d_17) rfl).elim fun fd F0 => ok_17 N F0 F,
  ⟨(c.def_ 18 (d := d_18) rfl).elim fun fd F0 => ok_18 N F0 F,
  ⟨(c.def_ 19 (d := d_19) rfl).elim fun fd F0 => ok_19 N F0 F,
  ⟨(c.def_ 20 (d := d_20) rfl).elim fun fd F0 => ok_20 N F0 F,
  ⟨(c.def_ 21 (d := d_21) rfl).elim fun fd F0 => ok_21 N F0 F,
  ⟨(c.def_ 22 (d := d_22) rfl).elim fun fd F0 => ok_22 N F0 F,
  ⟨(c.def_ 23 (d := d_23) rfl).elim fun fd F0 => ok_23 N F0 F,
  ⟨(c.def_ 24 (d := d_24) rfl).elim fun fd F0 => ok_24 N F0 F,
  ⟨(c.def_ 25 (d := d_25) rfl).elim fun fd F0 => ok_25 N F0 F,
  ⟨(c.def_ 26 (d := d_26) rfl).elim fun fd F0 => ok_26 N F0 F,
  ⟨(c.def_ 27 (d := d_27) rfl).elim fun fd F0 => ok_27 N F0 F,
  ⟨(c.def_ 28 (d := d_28) rfl).elim fun fd F0 => ok_28 N F0 F,
  ⟨(c.def_ 29 (d := d_29) rfl).elim fun fd F0 => ok_29 N F0 F,
  ⟨(c.def_ 30 (d := d_30) rfl).elim fun fd F0 => ok_30 N F0 F,
  ⟨(c.def_ 31 (d := d_31) rfl).elim fun fd F0 => ok_31 N F0 F,
  ⟨(c.def_ 32 (d := d_32) rfl).elim fun fd F0 => ok_32 N F0 F,
  ⟨(c.def_ 33 (d := d_33) rfl).elim fun fd F0 => ok_33 N F0 F,
  ⟨(c.def_ 34 (d := d_34) rfl).elim fun fd F0 => ok_34 N F0 F,
  ⟨(c.def_ 35 (d := d_35) rfl).elim fun fd F0 => ok_35 N F0 F,
  ⟨(c.def_ 36 (d := d_36) rfl).elim fun fd F0 => ok_36 N F0 F,
  ⟨(c.def_ 37 (d := d_37) rfl).elim fun fd F0 => ok_37 N F0 F,
  ⟨(c.def_ 38 (d := d_38) rfl).elim fun fd F0 => ok_38 N F0 F,
  ⟨(c.def_ 39 (d := d_39) rfl).elim fun fd F0 => ok_39 N F0 F,
  ⟨(c.def_ 40 (d := d_40) rfl).elim fun fd F0 => ok_40 N F0 F,
  ⟨(c.def_ 41 (d := d_41) rfl).elim fun fd F0 => ok_41 N F0 F,
  ⟨(c.def_ 42 (d := d_42) rfl).elim fun fd F0 => ok_42 N F0 F,
  ⟨(c.def_ 43 (d := d_43) rfl).elim fun fd F0 => ok_43 N F0 F,
  ⟨(c.def_ 44 (d := d_44) rfl).elim fun fd F0 => ok_44 N F0 F,
  ⟨(c.def_ 45 (d := d_45) rfl).elim fun fd F0 => ok_45 N F0 F,
  ⟨(c.def_ 46 (d := d_46) rfl).elim fun fd F0 => ok_46 N F0 F,
  ⟨(c.def_ 47 (d := d_47) rfl).elim fun fd F0 => ok_47 N F0 F,
  ⟨(c.def_ 48 (d := d_48) rfl).elim fun fd F0 => ok_48 N F0 F,
  ⟨(c.def_ 49 (d := d_49) rfl).elim fun fd F0 => ok_49 N F0 F,
  ⟨(c.def_ 50 (d := d_50) rfl).elim fun fd F0 => ok_50 N F0 F,
  ⟨(c.def_ 51 (d := d_51) rfl).elim fun fd F0 => ok_51 N F0 F,
  ⟨(c.def_ 52 (d := d_52) rfl).elim fun fd F0 => ok_52 N F0 F,
  ⟨(c.def_ 53 (d := d_53) rfl).elim fun fd F0 => ok_53 N F0 F,
  ⟨(c.def_ 54 (d := d_54) rfl).elim fun fd F0 => ok_54 N F0 F,
  ⟨(c.def_ 55 (d := d_55) rfl).elim fun fd F0 => ok_55 N F0 F,
  ⟨(c.def_ 56 (d := d_56) rfl).elim fun fd F0 => ok_56 N F0 F,
  ⟨(c.def_ 57 (d := d_57) rfl).elim fun fd F0 => ok_57 N F0 F,
  ⟨(c.def_ 58 (d := d_58) rfl).elim fun fd F0 => ok_58 N F0 F,
  ⟨(c.def_ 59 (d := d_59) rfl).elim fun fd F0 => ok_59 N F0 F,
  ⟨(c.def_ 60 (d := d_60) rfl).elim fun fd F0 => ok_60 N F0 F,
  ⟨(c.def_ 61 (d := d_61) rfl).elim fun fd F0 => ok_61 N F0 F,
  ⟨(c.def_ 62 (d := d_62) rfl).elim fun fd F0 => ok_62 N F0 F,
  ⟨(c.def_ 63 (d := d_63) rfl).elim fun fd F0 => ok_63 N F0 F,
  ⟨(c.def_ 64 (d := d_64) rfl).elim fun fd F0 => ok_64 N F0 F,
  ⟨(c.def_ 65 (d := d_65) rfl).elim fun fd F0 => ok_65 N F0 F,
  ⟨(c.def_ 66 (d := d_66) rfl).elim fun fd F0 => ok_66 N F0 F,
  ⟨(c.def_ 67 (d := d_67) rfl).elim fun fd F0 => ok_67 N F0 F,
  ⟨(c.def_ 68 (d := d_68) rfl).elim fun fd F0 => ok_68 N F0 F,
  ⟨(c.def_ 69 (d := d_69) rfl).elim fun fd F0 => ok_69 N F0 F,
  ⟨(c.def_ 70 (d := d_70) rfl).elim fun fd F0 => ok_70 N F0 F,
  ⟨(c.def_ 71 (d := d_71) rfl).elim fun fd F0 => ok_71 N F0 F,
  ⟨(c.def_ 72 (d := d_72) rfl).elim fun fd F0 => ok_72 N F0 F,
  ⟨(c.def_ 73 (d := d_73) rfl).elim fun fd F0 => ok_73 N F0 F,
  ⟨(c.def_ 74 (d := d_74) rfl).elim fun fd F0 => ok_74 N F0 F,
  ⟨(c.def_ 75 (d := d_75) rfl).elim fun fd F0 => ok_75 N F0 F,
  ⟨(c.def_ 76 (d := d_76) rfl).elim fun fd F0 => ok_76 N F0 F,
  ⟨(c.def_ 77 (d := d_77) rfl).elim fun fd F0 => ok_77 N F0 F,
  ⟨(c.def_ 78 (d := d_78) rfl).elim fun fd F0 => ok_78 N F0 F,
  ⟨(c.def_ 79 (d := d_79) rfl).elim fun fd F0 => ok_79 N F0 F,
  ⟨(c.def_ 80 (d := d_80) rfl).elim fun fd F0 => ok_80 N F0 F,
  ⟨(c.def_ 81 (d := d_81) rfl).elim fun fd F0 => ok_81 N F0 F,
  ⟨(c.def_ 82 (d := d_82) rfl).elim fun fd F0 => ok_82 N F0 F,
  ⟨(c.def_ 83 (d := d_83) rfl).elim fun fd F0 => ok_83 N F0 F,
  ⟨(c.def_ 84 (d := d_84) rfl).elim fun fd F0 => ok_84 N F0 F,
  ⟨(c.def_ 85 (d := d_85) rfl).elim fun fd F0 => ok_85 N F0 F,
  ⟨(c.def_ 86 (d := d_86) rfl).elim fun fd F0 => ok_86 N F0 F,
  ⟨(c.def_ 87 (d := d_87) rfl).elim fun fd F0 => ok_87 N F0 F,
  ⟨(c.def_ 88 (d := d_88) rfl).elim fun fd F0 => ok_88 N F0 F,
  trivial⟩⟩⟩⟩⟩⟩⟩⟩⟩⟩⟩⟩⟩⟩⟩⟩⟩⟩⟩⟩⟩⟩⟩⟩⟩⟩⟩⟩⟩⟩⟩⟩⟩⟩⟩⟩⟩⟩⟩⟩⟩⟩⟩⟩⟩⟩⟩⟩⟩⟩⟩⟩⟩⟩⟩⟩⟩⟩⟩⟩⟩⟩⟩⟩⟩⟩⟩⟩⟩⟩⟩⟩⟩⟩⟩⟩⟩⟩⟩⟩⟩⟩⟩⟩⟩⟩⟩⟩⟩
  · by_cases h47 : f = 47
    · subst h47
      have e : pickF (bodies cf) (nis cf) (47 + niB) = (fun ds st => (nt_47 cf (startE 2 ds) st).bind fun b st => .ok (.bl b) st) := pickF_some (show 89 ≤ niB by decide) rfl
      rw [e]
      exact (c.def_ 47 (d := d_47) rfl).elim fun fd F0 => no_47 N F0 F
    · by_cases h62 : f = 62
      · subst h62
        have e : pickF (bodies cf) (nis cf) (62 + niB) = (fun ds st => (nt_62 cf (startE 2 ds) st).bind fun b st => .ok (.bl b) st) := pickF_some (show 89 ≤ niB by decide) rfl
        rw [e]
        exact (c.def_ 62 (d := d_62) rfl).elim fun fd F0 => no_62 N F0 F
      · by_cases h63 : f = 63
        · subst h63
          have e : pickF (bodies cf) (nis cf) (63 + niB) = (fun ds st => (nt_63 cf (startE 2 ds) st).bind fun b st => .ok (.bl b) st) := pickF_some (show 89 ≤ niB by decide) rfl
          rw [e]
          exact (c.def_ 63 (d := d_63) rfl).elim fun fd F0 => no_63 N F0 F
        · by_cases h64 : f = 64
          · subst h64
            have e : pickF (bodies cf) (nis cf) (64 + niB) = (fun ds st => (nt_64 cf (startE 2 ds) st).bind fun b st => .ok (.bl b) st) := pickF_some (show 89 ≤ niB by decide) rfl
            rw [e]
            exact (c.def_ 64 (d := d_64) rfl).elim fun fd F0 => no_64 N F0 F
          · by_cases h71 : f = 71
            · subst h71
              have e : pickF (bodies cf) (nis cf) (71 + niB) = (fun ds st => (nt_71 cf (startE 2 ds) st).bind fun b st => .ok (.bl b) st) := pickF_some (show 89 ≤ niB by decide) rfl
              rw [e]
              exact (c.def_ 71 (d := d_71) rfl).elim fun fd F0 => no_71 N F0 F
            · by_cases h72 : f = 72
              · subst h72
                have e : pickF (bodies cf) (nis cf) (72 + niB) = (fun ds st => (nt_72 cf (startE 2 ds) st).bind fun b st => .ok (.bl b) st) := pickF_some (show 89 ≤ niB by decide) rfl
                rw [e]
                exact (c.def_ 72 (d := d_72) rfl).elim fun fd F0 => no_72 N F0 F
              · by_cases h73 : f = 73
                · subst h73
                  have e : pickF (bodies cf) (nis cf) (73 + niB) = (fun ds st => (nt_73 cf (startE 2 ds) st).bind fun b st => .ok (.bl b) st) := pickF_some (show 89 ≤ niB by decide) rfl
                  rw [e]
                  exact (c.def_ 73 (d := d_73) rfl).elim fun fd F0 => no_73 N F0 F
                · by_cases h85 : f = 85
                  · subst h85
                    have e : pickF (bodies cf) (nis cf) (85 + niB) = (fun ds st => (nt_85 cf (startE 2 ds) st).bind fun b st => .ok (.bl b) st) := pickF_some (show 89 ≤ niB by decide) rfl
                    rw [e]
                    exact (c.def_ 85 (d := d_85) rfl).elim fun fd F0 => no_85 N F0 F
                  · by_cases h87 : f = 87
                    · subst h87
                      have e : pickF (bodies cf) (nis cf) (87 + niB) = (fun ds st => (nt_87 cf (startE 2 ds) st).bind fun b st => .ok (.bl b) st) := pickF_some (show 89 ≤ niB by decide) rfl
                      rw [e]
                      exact (c.def_ 87 (d := d_87) rfl).elim fun fd F0 => no_87 N F0 F
                    · refine NiOk.none fun ds st z => ?_
                      have e : pickF (bodies cf) (nis cf) (f + niB) = fun _ _ => .stuck := pickF_none (show 89 ≤ niB by decide) fun p hp => by
                        simp only [nis, List.mem_cons, List.not_mem_nil, or_false] at hp
                        rcases hp with rfl | rfl | rfl | rfl | rfl | rfl | rfl | rfl | rfl
                        · exact fun z => h47 z.symm
                        · exact fun z => h62 z.symm
                        · exact fun z => h63 z.symm
                        · exact fun z => h64 z.symm
                        · exact fun z => h71 z.symm
                        · exact fun z => h72 z.symm
                        · exact fun z => h73 z.symm
                        · exact fun z => h85 z.symm
                        · exact fun z => h87 z.symm
                      rw [e] at z
                      cases z
theorem all (N : Nam K mg) (c : Says fa fn ex K) (hex : ex K = true) : ∀ n : Nat, FOk (tb.lw K) P w K mg base (10 * n) (run n)
  | 0 => fo_of hex (by decide +kernel) (keeps_of c) fun f hf => allN (binds_of c) f (Nat.zero_le _) (by have e : tb.defs.length = 89 := rfl; omega)
  | n + 1 => step N c (all N c hex n)
end
def LawOk : Prop := ∀ ns : List Int, ns.length ≤ 63 → ∃ st, run 14 36 [.ref 0] [.rol (ns.map D.int)] = .ok (.bl true) st
def spLaw (K : PySem.W.Frag) : L2.Sp := spM K (tb.lw K) 1 (run 14 36)
theorem law_sp (hL : LawOk) (K : PySem.W.Frag) (H : Hp) (a : Addr) (ns : List Int) (hl : ns.length ≤ 63) (hO : Only H) (hS : SqL K H a (ns.map V.int)) : spLaw K [.ref a] H (fun v _ => v = .bl true) fun _ _ _ => False := by
  obtain ⟨st, e⟩ := hL ns hl
  refine ⟨rfl, [.ref 0], ⟨fun _ => none, [a]⟩, [.rol (ns.map D.int)], Rls.mk (Rl.ref.mpr ⟨a, rfl, rfl⟩) (Rls.nil.mpr rfl), sok_law hO hS, ?_⟩
  rw [e]
  exact fun W' H' _ _ v R => Rl.bl.mp R
theorem facts {P : Program} {w : World} {K : PySem.W.Frag} {h : Heap} {mg : Str → Option Value} {f : Addr} (X : K.In h) (G : h.Ns mainGlobals mg) (hfa : mg ("law" : Str) = some (.ref f)) (c : Says fa fn ex K) (hex : ex K = true) (hlaw : (He.Fa.glo "law").ok K = true) :
    ∃ fd : FuncData, (∀ (s : Shared) (v : Value), BindsTo s fd ⟨[v], []⟩ [("_law_script", v)]) ∧ ∀ base : Heap, K.In base → base.Ns mainGlobals mg → FnOk P w K mg base (L2.CX P w) 140 f fd ["_law_script"] (spLaw K) := by
  have e := hfa.symm.trans (He.glo_ok X G hlaw)
  cases e
  obtain ⟨fd, F⟩ := c.def_ 36 (d := d_36) rfl
  have b := FunD.bindsA (ps := ["_law_script"]) F fun _ _ _ _ _ _ us hl => match us, hl with | [_], _ => rfl
  have N := nam_of X G c hex
  have ef : (tb.lw K).fdt 36 = fd := fd_eq F
  refine ⟨fd, fun s v => b s [v] rfl, fun base hb1 hb2 => ?_⟩
  have := (all (P := P) (w := w) (base := base) N c hex 14).fn 36 rfl
  rw [ef] at this
  exact this
theorem law_ok : LawOk := law_ok'
end G13
open PySem PySem.W PySem.Calls PyProof.Rows
set_option maxRecDepth 100000 in
set_option maxHeartbeats 0 in
theorem PySem.Challenge.cw_overfloors_k13_whole_duals_holds : PySem.Challenge.rw_overfloors_k13_whole_duals.Holds := by
  w_on; o_law
  refine HandSHeadRun.head_any (r := OpenLaw.row PySem.Challenge.rw_overfloors_k13_whole_duals) (q := view (OpenLaw.row PySem.Challenge.rw_overfloors_k13_whole_duals).prog [50]) (H := G13.hk) (ob := G13.ob) (M := 20000) (loose := G13.names) (d := HandSHeadRun.topDef (OpenLaw.row PySem.Challenge.rw_overfloors_k13_whole_duals).prog 50) (kwd := []) G13.ob_eq
    (by kernel_rfl) (fun s => by kernel_rfl) G13.run_top (by kernel_rfl) (by kernel_rfl) (by kernel_rfl) (by rfl) (by first | assumption | decide +kernel) (by decide +kernel) ⟨rfl, rfl, rfl, rfl, rfl, by decide +kernel⟩ ?hw ?hc
  case hw => w_witness2
  case hc =>
    refine Gm.walk_ofX (l := PySem.Challenge.rw_overfloors_k13_whole_duals) (n := 63) (k := 140) (x := "_law_script") (CX := fun w => L2.CX (PySem.Challenge.rw_overfloors_k13_whole_duals).prog w) rfl (by decide) (by kernel_rfl) ⟨rfl, by decide, by decide⟩ ?F (fun _ _ _ _ _ => Gm.cx_no)
    intro w mg fa h Y G hmg0
    obtain ⟨K, KX, c⟩ := Y
    have hmg : mg ("law" : PySem.Str) = some (.ref fa) := by
      have e : (HandSHeadRun.topDef (OpenLaw.row PySem.Challenge.rw_overfloors_k13_whole_duals).prog 50).name = ("law" : PySem.Str) := by kernel_rfl
      rw [← e]
      exact hmg0
    obtain ⟨fd, hb, hF⟩ := G13.facts (P := (PySem.Challenge.rw_overfloors_k13_whole_duals).prog) (w := w) KX G hmg c c.more (c.fact 49 rfl)
    exact ⟨K, fd, G13.spLaw K, KX, hb, fun H a ns hl _ hO hS => G13.law_sp G13.law_ok K H a ns hl hO hS, hF⟩
