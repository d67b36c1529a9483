import PyProof.Rows.All
import Wide.All
import OpenK.AllK
import Wide.FinOn
import HandS.ForMost
import HandS.ForExc
import HandS.Wide
import HandS.CallSlots
import HandS.OwnEq
import HandS.Property
import HandS.Star
import HandS.List
import HandS.Deep
import HandS.Comp
import HandS.IsInst
import HandS.Small
import KE.KStateDown
import HandS.More
import HandS.Words
import HandS.WordsExc
import HandS.Defaults
import HandS.Head0
import HandS.Head1
import HandS.Head2
import HandS.HeadEnd
import HandS.HeadHook1
import HandS.HeadHook2
import HandS.HeadHook3
import HandS.HeadHook4
import HandS.Style
import HandS.Ends
import HandS.EndBits
import PySem.Challenge.RW_overfloors_k39_whole_motions_and_grounds
set_option Elab.async false
set_option linter.all false
set_option autoImplicit false
set_option maxRecDepth 100000
set_option maxHeartbeats 0
/-! Plain data beside the abstract heap: what a def computes, said as a function of data and of a store of lists, dicts and instances under way. -/
namespace Gm
open PySem L2

/-- plain data: what never changes; ref n: the n-th cell of the store -/
inductive D where
  | non | bl (b : Bool) | int (i : Int) | str (s : Str)
  | tup (ds : List D)
  | obj (c : Nat) (ds : List D)
  | ref (n : Nat)
deriving Inhabited
inductive Cell where
  | lst (ds : List D) | rol (ds : List D) | dic (kvs : List (Key × D)) | ins (c : Nat) (fs : List (Nat × D)) | dead
deriving Inhabited
abbrev Store := List Cell
structure Exn where
  c : Nat
  ds : List D
inductive Res (α : Type) where
  | ok (a : α) (st : Store) | err (x : Exn) (st : Store) | stuck
abbrev Ev := List (Option D)
abbrev St := L2.St
/-- a law's names: name codes, classes' layouts, defs -/
structure Ls where
  nm : Nat → Str
  lay : Nat → List Nat
  atn : Nat → List Nat
  isC : Nat → Bool
  isF : Nat → Bool
  fps : Nat → List Str
  dfl : Nat → List (List D)
  meth : Nat → Nat → Option Nat
  prop : Nat → Nat → Option Nat
  sub : Nat → Nat → Bool
/-- .. and where they stand -/
structure Lw extends Ls where
  cad : Nat → Addr
  fad : Nat → Addr
  fdt : Nat → FuncData
/-- what is frozen for good; where the store's cells lie -/
structure Wd where
  fz : Hp
  io : List Addr
def Wd.le (W W' : Wd) : Prop := (∀ a o, W.fz a = some o → W'.fz a = some o) ∧ ∀ (n : Nat) (a : Addr), W.io[n]? = some a → W'.io[n]? = some a
theorem Wd.le.rfl' {W : Wd} : W.le W := ⟨fun _ _ h => h, fun _ _ h => h⟩
theorem Wd.le.trans {W W1 W2 : Wd} (a : W.le W1) (b : W1.le W2) : W.le W2 := ⟨fun c o h => b.1 c o (a.1 c o h), fun n c h => b.2 n c (a.2 n c h)⟩

section
variable (K : PySem.W.Frag) (L : Lw) (W : Wd)
mutual
def Rl : D → V → Prop
  | .non, v => v = .non
  | .bl b, v => v = .bl b
  | .int i, v => v = .int i
  | .str s, v => v = .str s
  | .tup ds, v => ∃ a vs, v = .ref a ∧ SqT K W.fz a vs ∧ Rls ds vs
  | .obj c ds, v => ∃ a dx vs, v = .ref a ∧ W.fz a = some (.ins (L.cad c) dx (((L.lay c).map L.nm).zip vs)) ∧ (L.lay c).length = ds.length ∧ Rls ds vs
  | .ref n, v => ∃ a, v = .ref a ∧ W.io[n]? = some a
def Rls : List D → List V → Prop
  | [], vs => vs = []
  | d :: ds, vs => ∃ v vs', vs = v :: vs' ∧ Rl d v ∧ Rls ds vs'
end
end
theorem SqT_mono {K : PySem.W.Frag} {H H' : Hp} {a : Addr} {xs : List V} (e : ∀ a o, H a = some o → H' a = some o) (h : SqT K H a xs) : SqT K H' a xs := by
  rcases h with (h | ⟨o, h⟩) | h
  · exact .inl (.inl (e _ _ h))
  · exact .inl (.inr ⟨o, e _ _ h⟩)
  · exact .inr h
section
variable {K : PySem.W.Frag} {L : Lw} {W W' : Wd}
mutual
theorem Rl.mono (e : W.le W') : ∀ {d : D} {v : V}, Rl K L W d v → Rl K L W' d v
  | .non, v, h => by unfold Rl at h ⊢; exact h
  | .bl b, v, h => by unfold Rl at h ⊢; exact h
  | .int b, v, h => by unfold Rl at h ⊢; exact h
  | .str b, v, h => by unfold Rl at h ⊢; exact h
  | .tup ds, v, h => by
    unfold Rl at h ⊢
    obtain ⟨a, vs, e1, h1, h2⟩ := h
    exact ⟨a, vs, e1, SqT_mono e.1 h1, Rls.mono e h2⟩
  | .obj c ds, v, h => by
    unfold Rl at h ⊢
    obtain ⟨a, dx, vs, e1, h1, h3, h2⟩ := h
    exact ⟨a, dx, vs, e1, e.1 _ _ h1, h3, Rls.mono e h2⟩
  | .ref n, v, h => by
    unfold Rl at h ⊢
    obtain ⟨a, e1, h1⟩ := h
    exact ⟨a, e1, e.2 _ _ h1⟩
theorem Rls.mono (e : W.le W') : ∀ {ds : List D} {vs : List V}, Rls K L W ds vs → Rls K L W' ds vs
  | [], vs, h => by unfold Rls at h ⊢; exact h
  | d :: ds, vs, h => by
    unfold Rls at h ⊢
    obtain ⟨v, vs', e1, h1, h2⟩ := h
    exact ⟨v, vs', e1, Rl.mono e h1, Rls.mono e h2⟩
end
theorem Rl.non {v : V} : Rl K L W .non v ↔ v = .non := by unfold Rl; exact Iff.rfl
theorem Rl.bl {b : Bool} {v : V} : Rl K L W (.bl b) v ↔ v = .bl b := by unfold Rl; exact Iff.rfl
theorem Rl.int {b : Int} {v : V} : Rl K L W (.int b) v ↔ v = .int b := by unfold Rl; exact Iff.rfl
theorem Rl.str {b : Str} {v : V} : Rl K L W (.str b) v ↔ v = .str b := by unfold Rl; exact Iff.rfl
theorem Rl.tup {ds : List D} {v : V} : Rl K L W (.tup ds) v ↔ ∃ a vs, v = .ref a ∧ SqT K W.fz a vs ∧ Rls K L W ds vs := by
  constructor <;> intro h
  · unfold Rl at h; exact h
  · unfold Rl; exact h
theorem Rl.obj {c : Nat} {ds : List D} {v : V} : Rl K L W (.obj c ds) v ↔ ∃ a dx vs, v = .ref a ∧ W.fz a = some (.ins (L.cad c) dx (((L.lay c).map L.nm).zip vs)) ∧ (L.lay c).length = ds.length ∧ Rls K L W ds vs := by
  constructor <;> intro h
  · unfold Rl at h; exact h
  · unfold Rl; exact h
theorem Rl.ref {n : Nat} {v : V} : Rl K L W (.ref n) v ↔ ∃ a, v = .ref a ∧ W.io[n]? = some a := by
  constructor <;> intro h
  · unfold Rl at h; exact h
  · unfold Rl; exact h
theorem Rls.nil {vs : List V} : Rls K L W [] vs ↔ vs = [] := by unfold Rls; exact Iff.rfl
theorem Rls.cons {d : D} {ds : List D} {vs : List V} : Rls K L W (d :: ds) vs ↔ ∃ v vs', vs = v :: vs' ∧ Rl K L W d v ∧ Rls K L W ds vs' := by
  constructor <;> intro h
  · unfold Rls at h; exact h
  · unfold Rls; exact h
theorem Rls.mk {d : D} {ds : List D} {v : V} {vs : List V} (h : Rl K L W d v) (h2 : Rls K L W ds vs) : Rls K L W (d :: ds) (v :: vs) := Rls.cons.mpr ⟨v, vs, rfl, h, h2⟩
theorem Rls.length : ∀ {ds : List D} {vs : List V}, Rls K L W ds vs → ds.length = vs.length
  | [], vs, h => by rw [Rls.nil.mp h]; rfl
  | d :: ds, vs, h => by
    obtain ⟨v, vs', rfl, _, h2⟩ := Rls.cons.mp h
    rw [List.length_cons, List.length_cons, Rls.length h2]
theorem Rls.get : ∀ {ds : List D} {vs : List V} {i : Nat} {d : D}, Rls K L W ds vs → ds[i]? = some d → ∃ v, vs[i]? = some v ∧ Rl K L W d v
  | [], vs, i, d, h, e => by simp at e
  | x :: ds, vs, 0, d, h, e => by
    obtain ⟨v, vs', rfl, h1, _⟩ := Rls.cons.mp h
    simp at e; subst e
    exact ⟨v, by simp, h1⟩
  | x :: ds, vs, i + 1, d, h, e => by
    obtain ⟨v, vs', rfl, _, h2⟩ := Rls.cons.mp h
    obtain ⟨u, h3, h4⟩ := Rls.get (i := i) h2 (by simpa using e)
    exact ⟨u, by simpa using h3, h4⟩
theorem Rls.get' : ∀ {ds : List D} {vs : List V} {i : Nat} {v : V}, Rls K L W ds vs → vs[i]? = some v → ∃ d, ds[i]? = some d ∧ Rl K L W d v
  | [], vs, i, d, h, e => by rw [Rls.nil.mp h] at e; simp at e
  | x :: ds, vs, 0, d, h, e => by
    obtain ⟨v, vs', rfl, h1, _⟩ := Rls.cons.mp h
    simp at e; subst e
    exact ⟨x, by simp, h1⟩
  | x :: ds, vs, i + 1, d, h, e => by
    obtain ⟨v, vs', rfl, _, h2⟩ := Rls.cons.mp h
    obtain ⟨u, h3, h4⟩ := Rls.get' (i := i) h2 (by simpa using e)
    exact ⟨u, by simpa using h3, h4⟩
theorem Rls.append : ∀ {ds es : List D} {vs us : List V}, Rls K L W ds vs → Rls K L W es us → Rls K L W (ds ++ es) (vs ++ us)
  | [], es, vs, us, h, h2 => by rw [Rls.nil.mp h]; exact h2
  | d :: ds, es, vs, us, h, h2 => by
    obtain ⟨v, vs', rfl, h1, h3⟩ := Rls.cons.mp h
    exact Rls.mk h1 (Rls.append h3 h2)
theorem Rls.ints : ∀ (ns : List Int), Rls K L W (ns.map D.int) (ns.map V.int)
  | [] => Rls.nil.mpr rfl
  | n :: ns => Rls.mk (Rl.int.mpr rfl) (Rls.ints ns)
end

/-! ### the store -/
def Cell.live : Cell → Bool
  | .lst _ => true | .dic _ => true | .ins _ _ => true | _ => false
section
variable (K : PySem.W.Frag) (L : Lw) (W : Wd)
inductive RKv : List (Key × D) → List (Key × V) → Prop
  | nil : RKv [] []
  | cons {k : Key} {d : D} {v : V} {ds : List (Key × D)} {vs : List (Key × V)} : Rl K L W d v → RKv ds vs → RKv ((k, d) :: ds) ((k, v) :: vs)
/-- a list that nobody changes -/
def RoL (H : Hp) (a : Addr) (vs : List V) : Prop := (∃ o, H a = some (.frz o (.lst vs))) ∨
    ∃ (o : Obj) (its : Array Value) (n : Nat), K.lookup a = some o ∧ o.cls = .type "list" ∧ o.dict = none ∧ o.data = .seq its n ∧ its.size ≤ sizeLine ∧ Vals vs its.toList
def CellR (H : Hp) (a : Addr) : Cell → Prop
  | .lst ds => ∃ vs, H a = some (.lst vs) ∧ Rls K L W ds vs
  | .rol ds => ∃ vs, RoL K H a vs ∧ Rls K L W ds vs
  | .dic kvs => ∃ vs, H a = some (.dK vs) ∧ RKv K L W kvs vs
  | .ins c fs => ∃ dx vs, H a = some (.ins (L.cad c) dx ((fs.map fun p => L.nm p.1).zip vs)) ∧ Rls K L W (fs.map (·.2)) vs
  | .dead => True
structure Sok (st : Store) (H : Hp) : Prop where
  fz : ∀ a o, W.fz a = some o → H a = some o
  len : st.length = W.io.length
  cell : ∀ (n : Nat) (c : Cell) (a : Addr), st[n]? = some c → W.io[n]? = some a → CellR K L W H a c
  ap : ∀ (n : Nat) (c : Cell) (a : Addr), st[n]? = some c → c.live = true → W.io[n]? = some a → W.fz a = none
  inj : ∀ (m n : Nat) (c c' : Cell) (a : Addr), st[m]? = some c → st[n]? = some c' → c.live = true → c'.live = true → W.io[m]? = some a → W.io[n]? = some a → m = n
end
section
variable {K : PySem.W.Frag} {L : Lw} {W W' : Wd} {st : Store} {H H' : Hp}
theorem RKv.mono (e : W.le W') {kvs : List (Key × D)} {vs : List (Key × V)} (h : RKv K L W kvs vs) : RKv K L W' kvs vs := by
  induction h with
  | nil => exact .nil
  | cons r _ ih => exact .cons (r.mono e) ih
theorem CellR.mono (e : W.le W') {a : Addr} {c : Cell} (h : CellR K L W H a c) (hl : ∀ o, H a = some o → H' a = some o) : CellR K L W' H' a c := by
  cases c with
  | lst ds => obtain ⟨vs, h1, h2⟩ := h; exact ⟨vs, hl _ h1, h2.mono e⟩
  | rol ds =>
    obtain ⟨vs, h1, h2⟩ := h
    refine ⟨vs, ?_, h2.mono e⟩
    rcases h1 with ⟨o, h⟩ | h
    · exact .inl ⟨o, hl _ h⟩
    · exact .inr h
  | dic kvs => obtain ⟨vs, h1, h2⟩ := h; exact ⟨vs, hl _ h1, h2.mono e⟩
  | ins c fs => obtain ⟨dx, vs, h1, h2⟩ := h; exact ⟨dx, vs, hl _ h1, h2.mono e⟩
  | dead => trivial
theorem CellR.there {a : Addr} {c : Cell} (h : CellR K L W H a c) (hc : c.live = true) : ∃ o, H a = some o := by
  cases c with
  | lst ds => obtain ⟨vs, h1, h2⟩ := h; exact ⟨_, h1⟩
  | rol ds => cases hc
  | dic kvs => obtain ⟨vs, h1, h2⟩ := h; exact ⟨_, h1⟩
  | ins c fs => obtain ⟨dx, vs, h1, h2⟩ := h; exact ⟨_, h1⟩
  | dead => cases hc
/-- the heap grows by an object that is not recorded -/
theorem Sok.grow (s : Sok K L W st H) (h : ∀ a o, H a = some o → H' a = some o) : Sok K L W st H' :=
  ⟨fun a o e => h _ _ (s.fz a o e), s.len, fun n c a e1 e2 => (s.cell n c a e1 e2).mono .rfl' fun o => h a o, s.ap, s.inj⟩
def Wd.freeze (W : Wd) (a : Addr) (o : HO) : Wd := ⟨upd W.fz a o, W.io⟩
theorem Wd.le_freeze {a : Addr} {o : HO} (h : W.fz a = none) : W.le (W.freeze a o) :=
  ⟨fun b u e => by show upd W.fz a o b = _; rw [upd_ne (ne_of_none e h)]; exact e, fun _ _ e => e⟩
theorem upd_grow {p : Addr} {o : HO} (hp : H p = none) : ∀ a u, H a = some u → upd H p o a = some u := fun a u e => by rw [upd_ne (ne_of_none e hp)]; exact e
/-- a new object that never changes -/
theorem Sok.alloc_fz (s : Sok K L W st H) {p : Addr} {o : HO} (hp : H p = none) : W.le (W.freeze p o) ∧ Sok K L (W.freeze p o) st (upd H p o) := by
  have hf : W.fz p = none := by
    cases q : W.fz p with
    | none => rfl
    | some u => have := s.fz p u q; rw [hp] at this; cases this
  have e := Wd.le_freeze (o := o) hf
  refine ⟨e, fun a u q => ?_, s.len, fun n c a e1 e2 => (s.cell n c a e1 e2).mono e fun u q => upd_grow hp _ _ q, fun n c a e1 e2 e3 => ?_, s.inj⟩
  · by_cases h : a = p
    · subst h
      have q' : upd W.fz a o a = some u := q
      rw [upd_same] at q' ⊢
      exact q'
    · have q' : upd W.fz p o a = some u := q
      rw [upd_ne h] at q' ⊢
      exact s.fz _ _ q'
  · obtain ⟨u, hu⟩ := (s.cell n c a e1 e3).there e2
    show upd W.fz p o a = none
    rw [upd_ne (ne_of_none hu hp)]
    exact s.ap n c a e1 e2 e3
def Wd.more (W : Wd) (a : Addr) : Wd := ⟨W.fz, W.io ++ [a]⟩
theorem Wd.le_more {a : Addr} : W.le (W.more a) := ⟨fun _ _ h => h, fun n b h => by
  show (W.io ++ [a])[n]? = some b
  rw [List.getElem?_append_left (List.getElem?_eq_some_iff.mp h).1]
  exact h⟩
/-- a new cell -/
theorem Sok.alloc (s : Sok K L W st H) {p : Addr} {o : HO} {c : Cell} (hp : H p = none) (hc : CellR K L (W.more p) (upd H p o) p c) : Sok K L (W.more p) (st ++ [c]) (upd H p o) := by
  have hf : W.fz p = none := by
    cases q : W.fz p with
    | none => rfl
    | some u => have := s.fz p u q; rw [hp] at this; cases this
  have split : ∀ {n x a}, (st ++ [c])[n]? = some x → (W.io ++ [p])[n]? = some a → (st[n]? = some x ∧ W.io[n]? = some a) ∨ (n = st.length ∧ x = c ∧ a = p) := fun {n x a} h1 h2 => by
    by_cases hn : n < st.length
    · rw [List.getElem?_append_left hn] at h1
      rw [List.getElem?_append_left (by rw [← s.len]; exact hn)] at h2
      exact .inl ⟨h1, h2⟩
    · have hl : n < (st ++ [c]).length := (List.getElem?_eq_some_iff.mp h1).1
      rw [List.length_append, List.length_singleton] at hl
      have hn' : n = st.length := by omega
      subst hn'
      rw [List.getElem?_concat_length] at h1
      rw [s.len, List.getElem?_concat_length] at h2
      exact .inr ⟨rfl, (Option.some.inj h1).symm, (Option.some.inj h2).symm⟩
  refine ⟨fun a u q => upd_grow hp _ _ (s.fz a u q), ?_, fun n x a e1 e2 => ?_, fun n x a e1 e2 e3 => ?_, fun m n x y a e1 e2 l1 l2 e3 e4 => ?_⟩
  · show (st ++ [c]).length = (W.io ++ [p]).length
    rw [List.length_append, List.length_append, s.len]; rfl
  · rcases split e1 e2 with ⟨h1, h2⟩ | ⟨_, rfl, rfl⟩
    · exact (s.cell n x a h1 h2).mono Wd.le_more fun u q => upd_grow hp _ _ q
    · exact hc
  · rcases split e1 e3 with ⟨h1, h2⟩ | ⟨_, rfl, rfl⟩
    · exact s.ap n x a h1 e2 h2
    · exact hf
  · rcases split e1 e3 with ⟨h1, h2⟩ | ⟨h0, rfl, rfl⟩
    · rcases split e2 e4 with ⟨h3, h4⟩ | ⟨_, rfl, rfl⟩
      · exact s.inj m n x y a h1 h3 l1 l2 h2 h4
      · obtain ⟨u, hu⟩ := (s.cell m x a h1 h2).there l1
        rw [hp] at hu; cases hu
    · rcases split e2 e4 with ⟨h3, h4⟩ | ⟨h5, rfl, _⟩
      · obtain ⟨u, hu⟩ := (s.cell n y a h3 h4).there l2
        rw [hp] at hu; cases hu
      · rw [h0, h5]
/-- a cell is changed -/
theorem Sok.write (s : Sok K L W st H) {n : Nat} {a : Addr} {o : HO} {c c' : Cell} (hn : st[n]? = some c) (hl : c.live = true) (ha : W.io[n]? = some a) (hc : CellR K L W (upd H a o) a c') : Sok K L W (st.set n c') (upd H a o) := by
  have hf := s.ap n c a hn hl ha
  have hlt : n < st.length := (List.getElem?_eq_some_iff.mp hn).1
  have at_ : ∀ {m x}, (st.set n c')[m]? = some x → (m = n ∧ x = c') ∨ (m ≠ n ∧ st[m]? = some x) := fun {m x} h => by
    by_cases hm : m = n
    · subst hm
      rw [List.getElem?_set_self hlt] at h
      exact .inl ⟨rfl, (Option.some.inj h).symm⟩
    · rw [List.getElem?_set_ne (Ne.symm hm)] at h
      exact .inr ⟨hm, h⟩
  refine ⟨fun b u q => ?_, by rw [List.length_set]; exact s.len, fun m x b e1 e2 => ?_, fun m x b e1 e2 e3 => ?_, fun m k x y b e1 e2 l1 l2 e3 e4 => ?_⟩
  · rw [upd_ne (ne_of_none q hf)]; exact s.fz b u q
  · rcases at_ e1 with ⟨rfl, rfl⟩ | ⟨hm, h1⟩
    · rw [ha] at e2; cases e2; exact hc
    · by_cases hb : b = a
      · subst hb
        cases hx : x.live with
        | true => exact absurd (s.inj m n x c b h1 hn hx hl e2 ha) hm
        | false =>
          cases x with
          | lst _ => cases hx
          | dic _ => cases hx
          | ins _ _ => cases hx
          | dead => trivial
          | rol ds =>
            have h2 := s.cell n c b hn ha
            obtain ⟨vs, h3, h4⟩ := s.cell m _ b h1 e2
            refine ⟨vs, ?_, h4⟩
            rcases h3 with ⟨ob, h⟩ | h
            · exfalso
              cases c with
              | lst _ => obtain ⟨us, h5, _⟩ := h2; rw [h] at h5; cases h5
              | dic _ => obtain ⟨us, h5, _⟩ := h2; rw [h] at h5; cases h5
              | ins _ _ => obtain ⟨_, us, h5, _⟩ := h2; rw [h] at h5; cases h5
              | rol _ => cases hl
              | dead => cases hl
            · exact .inr h
      · exact (s.cell m x b h1 e2).mono .rfl' fun u q => by rw [upd_ne hb]; exact q
  · rcases at_ e1 with ⟨rfl, rfl⟩ | ⟨hm, h1⟩
    · rw [ha] at e3; cases e3; exact hf
    · exact s.ap m x b h1 e2 e3
  · have key : ∀ {i : Nat} {z : Cell}, (st.set n c')[i]? = some z → z.live = true → W.io[i]? = some b → ∃ z' : Cell, st[i]? = some z' ∧ z'.live = true := fun {i z} h1 h2 h3 => by
      rcases at_ h1 with ⟨rfl, rfl⟩ | ⟨_, h4⟩
      · exact ⟨c, hn, hl⟩
      · exact ⟨z, h4, h2⟩
    obtain ⟨x', h1, h2⟩ := key e1 l1 e3
    obtain ⟨y', h3, h4⟩ := key e2 l2 e4
    exact s.inj m k x' y' b h1 h3 h2 h4 e3 e4
/-- an instance is done: it never changes again -/
theorem Sok.finish (s : Sok K L W st H) {n c : Nat} {a : Addr} {fs : List (Nat × D)} (hn : st[n]? = some (.ins c fs)) (ha : W.io[n]? = some a) (hf : fs.map (·.1) = L.lay c) :
    ∃ W', W.le W' ∧ Sok K L W' (st.set n .dead) H ∧ Rl K L W' (.obj c (fs.map (·.2))) (.ref a) := by
  obtain ⟨dx, vs, h1, h2⟩ := s.cell n _ a hn ha
  have hz := s.ap n _ a hn rfl ha
  have hlt : n < st.length := (List.getElem?_eq_some_iff.mp hn).1
  have e := Wd.le_freeze (o := HO.ins (L.cad c) dx ((fs.map fun p => L.nm p.1).zip vs)) hz
  have at_ : ∀ {m x}, (st.set n .dead)[m]? = some x → (m = n ∧ x = .dead) ∨ (m ≠ n ∧ st[m]? = some x) := fun {m x} h => by
    by_cases hm : m = n
    · subst hm
      rw [List.getElem?_set_self hlt] at h
      exact .inl ⟨rfl, (Option.some.inj h).symm⟩
    · rw [List.getElem?_set_ne (Ne.symm hm)] at h
      exact .inr ⟨hm, h⟩
  refine ⟨_, e, ⟨fun b u q => ?_, by rw [List.length_set]; exact s.len, fun m x b e1 e2 => ?_, fun m x b e1 e2 e3 => ?_, fun m k x y b e1 e2 l1 l2 e3 e4 => ?_⟩, ?_⟩
  · by_cases hb : b = a
    · subst hb
      have q' : upd W.fz b _ b = some u := q
      rw [upd_same] at q'
      rw [← q']; exact h1
    · have q' : upd W.fz a _ b = some u := q
      rw [upd_ne hb] at q'
      exact s.fz b u q'
  · rcases at_ e1 with ⟨rfl, rfl⟩ | ⟨hm, q1⟩
    · trivial
    · exact (s.cell m x b q1 e2).mono e fun _ q => q
  · rcases at_ e1 with ⟨rfl, rfl⟩ | ⟨hm, q1⟩
    · cases e2
    · show upd W.fz a _ b = none
      rw [upd_ne]
      · exact s.ap m x b q1 e2 e3
      · rintro rfl
        exact hm (s.inj m n x _ b q1 hn e2 rfl e3 ha)
  · rcases at_ e1 with ⟨rfl, rfl⟩ | ⟨_, q1⟩
    · cases l1
    · rcases at_ e2 with ⟨rfl, rfl⟩ | ⟨_, q2⟩
      · cases l2
      · exact s.inj m k x y b q1 q2 l1 l2 e3 e4
  · refine Rl.obj.mpr ⟨a, dx, vs, rfl, ?_, by rw [← hf, List.length_map, List.length_map], h2.mono e⟩
    show upd W.fz a _ a = _
    rw [upd_same, ← hf, List.map_map]
    rfl
end
end Gm
namespace Gm
open PySem PySem.Spec PyProof.Rows L2
/-! ### outcomes -/
def Res.bind {α β : Type} (r : Res α) (k : α → Store → Res β) : Res β := match r with
  | .ok a st => k a st
  | .err x st => .err x st
  | .stuck => .stuck
@[simp] theorem Res.bind_ok {α β : Type} (a : α) (st : Store) (k : α → Store → Res β) : (Res.ok a st).bind k = k a st := rfl
@[simp] theorem Res.bind_err {α β : Type} (x : Exn) (st : Store) (k : α → Store → Res β) : (Res.err x st).bind k = .err x st := rfl
@[simp] theorem Res.bind_stuck {α β : Type} (k : α → Store → Res β) : (Res.stuck).bind k = .stuck := rfl
abbrev Fe := Ev → Store → Res D
abbrev Fa := Ev → Store → Res (List D)
abbrev Ft := Ev → Store → Res Bool
inductive SR where
  | nx (ρ : Ev) (st : Store) | rt (d : D) (st : Store) | bk (ρ : Ev) (st : Store) | ct (ρ : Ev) (st : Store) | err (x : Exn) (ρ : Ev) (st : Store) | stuck
abbrev Fs := Ev → Store → SR
def Res.toS {α : Type} (r : Res α) (ρ : Ev) (k : α → Store → SR) : SR := match r with
  | .ok a st => k a st
  | .err x st => .err x ρ st
  | .stuck => .stuck
@[simp] theorem Res.toS_ok {α : Type} (a : α) (st : Store) (ρ : Ev) (k : α → Store → SR) : (Res.ok a st).toS ρ k = k a st := rfl
@[simp] theorem Res.toS_err {α : Type} (x : Exn) (st : Store) (ρ : Ev) (k : α → Store → SR) : (Res.err (α := α) x st).toS ρ k = .err x ρ st := rfl
@[simp] theorem Res.toS_stuck {α : Type} (ρ : Ev) (k : α → Store → SR) : (Res.stuck (α := α)).toS ρ k = .stuck := rfl

section
variable (K : PySem.W.Frag) (L : Lw) (Wx : WX) (W : Wd) (σ : St)
def XR (x : Exn) (cls : Value) (dx : Option Addr) : Prop := cls = .ref (L.cad x.c) ∧
  ((x.ds = [] ∧ dx = none) ∨ ∃ d vs, dx = some d ∧ W.fz d = some (.xd (((L.lay x.c).map L.nm).zip vs)) ∧ (L.lay x.c).length = x.ds.length ∧ Rls K L W x.ds vs)
def Out {β : Type} (Ok : Wd → Hp → β → Prop) : Res β → Prop
  | .ok b st => ∀ W' H', W.le W' → Sok K L W' st H' → Ok W' H' b
  | .err x st => ∀ W' H' cls dx, W.le W' → Sok K L W' st H' → XR K L W' x cls dx → Wx cls dx σ H'
  | .stuck => False
def EnR (ρ : Ev) : Prop := ρ.length = σ.length ∧ ∀ (i : Nat) (d : D), ρ[i]? = some (some d) → ∃ v, σ[i]? = some (some v) ∧ Rl K L W d v
def okE (Q : VK) : Wd → Hp → D → Prop := fun W' H' d => ∀ v, Rl K L W' d v → Q v H'
def okA (Q : List V → Hp → Prop) : Wd → Hp → List D → Prop := fun W' H' ds => ∀ vs, Rls K L W' ds vs → Q vs H'
def okT (Q : Bool → Hp → Prop) : Wd → Hp → Bool → Prop := fun W' H' b => Q b H'
def OutS (D : Ends) : SR → Prop
  | .nx ρ st => ∀ W' H' σ', W.le W' → Sok K L W' st H' → EnR K L W' σ' ρ → D.nx σ' H'
  | .rt d st => ∀ W' H' v, W.le W' → Sok K L W' st H' → Rl K L W' d v → D.rt v H'
  | .bk ρ st => ∀ W' H' σ', W.le W' → Sok K L W' st H' → EnR K L W' σ' ρ → D.bk σ' H'
  | .ct ρ st => ∀ W' H' σ', W.le W' → Sok K L W' st H' → EnR K L W' σ' ρ → D.ct σ' H'
  | .err x ρ st => ∀ W' H' σ' cls dx, W.le W' → Sok K L W' st H' → EnR K L W' σ' ρ → XR K L W' x cls dx → Wx cls dx σ' H'
  | .stuck => False
end
section
variable {K : PySem.W.Frag} {L : Lw} {Wx : WX} {W W1 : Wd} {σ : St}
theorem Out.mono {β : Type} {Ok : Wd → Hp → β → Prop} {r : Res β} (e : W.le W1) (h : Out K L Wx W σ Ok r) : Out K L Wx W1 σ Ok r := by
  cases r with
  | ok b st => exact fun W' H' e' => h W' H' (e.trans e')
  | err x st => exact fun W' H' cls dx e' => h W' H' cls dx (e.trans e')
  | stuck => exact h
theorem OutS.mono {D : Ends} {r : SR} (e : W.le W1) (h : OutS K L Wx W D r) : OutS K L Wx W1 D r := by
  cases r with
  | nx ρ st => exact fun W' H' σ' e' => h W' H' σ' (e.trans e')
  | bk ρ st => exact fun W' H' σ' e' => h W' H' σ' (e.trans e')
  | ct ρ st => exact fun W' H' σ' e' => h W' H' σ' (e.trans e')
  | rt ρ st => exact fun W' H' σ' e' => h W' H' σ' (e.trans e')
  | err x ρ st => exact fun W' H' σ' cls dx e' => h W' H' σ' cls dx (e.trans e')
  | stuck => exact h
theorem EnR.mono {ρ : Ev} (e : W.le W1) (h : EnR K L W σ ρ) : EnR K L W1 σ ρ := ⟨h.1, fun i d q => by
  obtain ⟨v, h1, h2⟩ := h.2 i d q
  exact ⟨v, h1, h2.mono e⟩⟩
end

/-! ### judgements -/
section
variable (L : Lw) (X : Cx) (Wx : WX)
structure RE (e : Expr) (f : Fe) : Prop where
  run : ∀ (pins : List (Addr × Obj)) (s : Shared) (σ : St) (H : Hp) (W : Wd) (st : Store) (ρ : Ev) (Q : VK), Inv X pins σ H s → Sok X.K L W st H → EnR X.K L W σ ρ → Out X.K L Wx W σ (okE X.K L Q) (f ρ st) →
    wpAny (model X.prog X.w) X.A (eval e X.env) (EP X pins σ Q) X.xe s
structure RA (es : List Expr) (f : Fa) : Prop where
  len : ∀ ρ st ds st', f ρ st = .ok ds st' → ds.length = es.length
  run : ∀ (pos : Pos) (pins : List (Addr × Obj)) (s : Shared) (σ : St) (H : Hp) (W : Wd) (st : Store) (ρ : Ev) (Q : List V → Hp → Prop), Inv X pins σ H s → Sok X.K L W st H → EnR X.K L W σ ρ → Out X.K L Wx W σ (okA X.K L Q) (f ρ st) →
    wpAny (model X.prog X.w) X.A (spliced (backTo pos (starEach es X.env))) (AP X pins σ Q) X.xe s
structure RT (e : Expr) (f : Ft) : Prop where
  run : ∀ (pins : List (Addr × Obj)) (s : Shared) (σ : St) (H : Hp) (W : Wd) (st : Store) (ρ : Ev) (Q : Bool → Hp → Prop), Inv X pins σ H s → Sok X.K L W st H → EnR X.K L W σ ρ → Out X.K L Wx W σ (okT Q) (f ρ st) →
    wpAny (model X.prog X.w) X.A (isTrue e X.env (eval e X.env)) (TP X pins σ Q) X.xe s
/-- a test whatever its whole is -/
structure RW (e : Expr) (f : Ft) : Prop where
  run : ∀ (whole : Sem Value) (pins : List (Addr × Obj)) (s : Shared) (σ : St) (H : Hp) (W : Wd) (st : Store) (ρ : Ev) (Q : Bool → Hp → Prop), Inv X pins σ H s → Sok X.K L W st H → EnR X.K L W σ ρ → Out X.K L Wx W σ (okT Q) (f ρ st) →
    wpAny (model X.prog X.w) X.A (isTrue e X.env whole) (TP X pins σ Q) X.xe s
structure RS (st : Stmt) (f : Fs) : Prop where
  run : ∀ (pins : List (Addr × Obj)) (s : Shared) (σ : St) (H : Hp) (W : Wd) (sto : Store) (ρ : Ev) (D : Ends), Inv X pins σ H s → Sok X.K L W sto H → EnR X.K L W σ ρ → OutS X.K L Wx W D (f ρ sto) →
    wpAny (model X.prog X.w) X.A (exec st X.env) (SP X pins D) X.xe s
structure RSs (st : List Stmt) (f : Fs) : Prop where
  run : ∀ (pins : List (Addr × Obj)) (s : Shared) (σ : St) (H : Hp) (W : Wd) (sto : Store) (ρ : Ev) (D : Ends), Inv X pins σ H s → Sok X.K L W sto H → EnR X.K L W σ ρ → OutS X.K L Wx W D (f ρ sto) →
    wpAny (model X.prog X.w) X.A (execs st X.env) (SP X pins D) X.xe s
/-- a two-place operation on values -/
def R2v (F : Value → Value → Sem Value) (g : D → D → Store → Res D) : Prop :=
  ∀ (pins : List (Addr × Obj)) (s : Shared) (σ : St) (H : Hp) (W : Wd) (st : Store) (d1 d2 : D) (x y : V) (v u : Value) (Q : VK), Inv X pins σ H s → Sok X.K L W st H → Rl X.K L W d1 x → Rl X.K L W d2 y → RelV x v → RelV y u →
    Out X.K L Wx W σ (okE X.K L Q) (g d1 d2 st) → wpAny (model X.prog X.w) X.A (F v u) (EP X pins σ Q) X.xe s
def R1v (F : Value → Sem Value) (g : D → Store → Res D) : Prop :=
  ∀ (pins : List (Addr × Obj)) (s : Shared) (σ : St) (H : Hp) (W : Wd) (st : Store) (d1 : D) (x : V) (v : Value) (Q : VK), Inv X pins σ H s → Sok X.K L W st H → Rl X.K L W d1 x → RelV x v →
    Out X.K L Wx W σ (okE X.K L Q) (g d1 st) → wpAny (model X.prog X.w) X.A (F v) (EP X pins σ Q) X.xe s
/-- a value's truth -/
def Rtv (g : D → Store → Res Bool) : Prop :=
  ∀ (pins : List (Addr × Obj)) (s : Shared) (σ : St) (H : Hp) (W : Wd) (st : Store) (d1 : D) (x : V) (v : Value) (Q : Bool → Hp → Prop), Inv X pins σ H s → Sok X.K L W st H → Rl X.K L W d1 x → RelV x v →
    Out X.K L Wx W σ (okT Q) (g d1 st) → wpAny (model X.prog X.w) X.A (truthy v) (TP X pins σ Q) X.xe s
/-- a call of a known built-in with values -/
def RCv (f : Value) (g : List D → Store → Res D) : Prop :=
  ∀ (pins : List (Addr × Obj)) (s : Shared) (σ : St) (H : Hp) (W : Wd) (st : Store) (ds : List D) (xs : List V) (us : List Value) (Q : VK), Inv X pins σ H s → Sok X.K L W st H → Rls X.K L W ds xs → Vals xs us →
    Out X.K L Wx W σ (okE X.K L Q) (g ds st) → wpAny (model X.prog X.w) X.A (call f us) (EP X pins σ Q) X.xe s
end

section
variable {L : Lw} {X : Cx} {Wx : WX}
/-! ### one after another -/
section
variable {pins : List (Addr × Obj)} {s : Shared} {σ : St} {H : Hp} {W : Wd} {st : Store} {ρ : Ev} {e : Expr} {f : Fe}
theorem RE.seq {P : Value → Shared → Prop} {r : Res D} (h : RE L X Wx e f) (I : Inv X pins σ H s) (S : Sok X.K L W st H) (E : EnR X.K L W σ ρ) (hf : f ρ st = r)
    (hx : ∀ x st', r = .err x st' → ∀ W' H' cls dx, W.le W' → Sok X.K L W' st' H' → XR X.K L W' x cls dx → Wx cls dx σ H') (hs : r ≠ .stuck)
    (hk : ∀ d st1 W1 H1 v u s1, r = .ok d st1 → W.le W1 → Inv X pins σ H1 s1 → Sok X.K L W1 st1 H1 → Rl X.K L W1 d v → RelV v u → P u s1) :
    wpAny (model X.prog X.w) X.A (eval e X.env) P X.xe s := by
  cases r with
  | ok d st1 =>
    refine thn (h.run pins s σ H W st ρ (fun v H1 => ∃ W1, W.le W1 ∧ Sok X.K L W1 st1 H1 ∧ Rl X.K L W1 d v) I S E ?_) fun u s1 ⟨v, H1, I1, rv, W1, e1, S1, R1⟩ => hk d st1 W1 H1 v u s1 rfl e1 I1 S1 R1 rv
    rw [hf]
    exact fun W' H' e' S' v R' => ⟨W', e', S', R'⟩
  | err x st1 =>
    refine thn (h.run pins s σ H W st ρ (fun _ _ => False) I S E ?_) fun u s1 ⟨v, H1, I1, rv, z⟩ => z.elim
    rw [hf]
    exact fun W' H' cls dx => hx x st1 rfl W' H' cls dx
  | stuck => exact absurd rfl hs
theorem RE.bind {β : Type} {Ok : Wd → Hp → β → Prop} {k : D → Store → Res β} {P : Value → Shared → Prop} (h : RE L X Wx e f) (I : Inv X pins σ H s) (S : Sok X.K L W st H) (E : EnR X.K L W σ ρ) (o : Out X.K L Wx W σ Ok ((f ρ st).bind k))
    (hk : ∀ d st1 W1 H1 v u s1, W.le W1 → Inv X pins σ H1 s1 → Sok X.K L W1 st1 H1 → Rl X.K L W1 d v → RelV v u → Out X.K L Wx W1 σ Ok (k d st1) → P u s1) :
    wpAny (model X.prog X.w) X.A (eval e X.env) P X.xe s := by
  refine h.seq I S E rfl (fun x st' q => ?_) (fun q => ?_) fun d st1 W1 H1 v u s1 q e1 I1 S1 R1 rv => ?_
  · rw [q] at o; exact o
  · rw [q] at o; exact o
  · rw [q] at o; exact hk d st1 W1 H1 v u s1 e1 I1 S1 R1 rv (Out.mono e1 o)
theorem RE.bindS {D' : Ends} {k : D → Store → SR} {P : Value → Shared → Prop} (h : RE L X Wx e f) (I : Inv X pins σ H s) (S : Sok X.K L W st H) (E : EnR X.K L W σ ρ) (o : OutS X.K L Wx W D' ((f ρ st).toS ρ k))
    (hk : ∀ d st1 W1 H1 v u s1, W.le W1 → Inv X pins σ H1 s1 → Sok X.K L W1 st1 H1 → Rl X.K L W1 d v → RelV v u → OutS X.K L Wx W1 D' (k d st1) → P u s1) :
    wpAny (model X.prog X.w) X.A (eval e X.env) P X.xe s := by
  refine h.seq I S E rfl (fun x st' q => ?_) (fun q => ?_) fun d st1 W1 H1 v u s1 q e1 I1 S1 R1 rv => ?_
  · rw [q] at o; exact fun W' H' cls dx e' S' R' => o W' H' σ cls dx e' S' (E.mono e') R'
  · rw [q] at o; exact o
  · rw [q] at o; exact hk d st1 W1 H1 v u s1 e1 I1 S1 R1 rv (OutS.mono e1 o)
theorem RA.bind {es : List Expr} {f : Fa} {β : Type} {Ok : Wd → Hp → β → Prop} {k : List D → Store → Res β} {pos : Pos} {P : List Value → Shared → Prop} (h : RA L X Wx es f) (I : Inv X pins σ H s) (S : Sok X.K L W st H) (E : EnR X.K L W σ ρ) (o : Out X.K L Wx W σ Ok ((f ρ st).bind k))
    (hk : ∀ ds st1 W1 H1 vs us s1, ds.length = es.length → W.le W1 → Inv X pins σ H1 s1 → Sok X.K L W1 st1 H1 → Rls X.K L W1 ds vs → Vals vs us → Out X.K L Wx W1 σ Ok (k ds st1) → P us s1) :
    wpAny (model X.prog X.w) X.A (spliced (backTo pos (starEach es X.env))) P X.xe s := by
  have hl := h.len ρ st
  cases hf : f ρ st with
  | ok ds st1 =>
    rw [hf] at o
    refine thn (h.run pos pins s σ H W st ρ (fun v H1 => ∃ W1, W.le W1 ∧ Sok X.K L W1 st1 H1 ∧ Rls X.K L W1 ds v) I S E ?_) fun u s1 ⟨v, H1, I1, rv, W1, e1, S1, R1⟩ => hk ds st1 W1 H1 v u s1 (hl _ _ hf) e1 I1 S1 R1 rv (Out.mono e1 o)
    rw [hf]
    exact fun W' H' e' S' v R' => ⟨W', e', S', R'⟩
  | err x st1 =>
    rw [hf] at o
    refine thn (h.run pos pins s σ H W st ρ (fun _ _ => False) I S E ?_) fun u s1 ⟨v, H1, I1, rv, z⟩ => z.elim
    rw [hf]
    exact o
  | stuck => rw [hf] at o; exact o.elim
theorem RT.seq {f : Ft} {P : Bool → Shared → Prop} {r : Res Bool} (h : RT L X Wx e f) (I : Inv X pins σ H s) (S : Sok X.K L W st H) (E : EnR X.K L W σ ρ) (hf : f ρ st = r)
    (hx : ∀ x st', r = .err x st' → ∀ W' H' cls dx, W.le W' → Sok X.K L W' st' H' → XR X.K L W' x cls dx → Wx cls dx σ H') (hs : r ≠ .stuck)
    (hk : ∀ b st1 W1 H1 s1, r = .ok b st1 → W.le W1 → Inv X pins σ H1 s1 → Sok X.K L W1 st1 H1 → P b s1) :
    wpAny (model X.prog X.w) X.A (isTrue e X.env (eval e X.env)) P X.xe s := by
  cases r with
  | ok d st1 =>
    refine thn (h.run pins s σ H W st ρ (fun b H1 => b = d ∧ ∃ W1, W.le W1 ∧ Sok X.K L W1 st1 H1) I S E ?_) fun u s1 ⟨H1, I1, eb, W1, e1, S1⟩ => by subst eb; exact hk _ st1 W1 H1 s1 rfl e1 I1 S1
    rw [hf]
    exact fun W' H' e' S' => ⟨rfl, W', e', S'⟩
  | err x st1 =>
    refine thn (h.run pins s σ H W st ρ (fun _ _ => False) I S E ?_) fun u s1 ⟨H1, I1, z⟩ => z.elim
    rw [hf]
    exact fun W' H' cls dx => hx x st1 rfl W' H' cls dx
  | stuck => exact absurd rfl hs
theorem RT.bind {f : Ft} {β : Type} {Ok : Wd → Hp → β → Prop} {k : Bool → Store → Res β} {P : Bool → Shared → Prop} (h : RT L X Wx e f) (I : Inv X pins σ H s) (S : Sok X.K L W st H) (E : EnR X.K L W σ ρ) (o : Out X.K L Wx W σ Ok ((f ρ st).bind k))
    (hk : ∀ b st1 W1 H1 s1, W.le W1 → Inv X pins σ H1 s1 → Sok X.K L W1 st1 H1 → Out X.K L Wx W1 σ Ok (k b st1) → P b s1) :
    wpAny (model X.prog X.w) X.A (isTrue e X.env (eval e X.env)) P X.xe s := by
  refine h.seq I S E rfl (fun x st' q => ?_) (fun q => ?_) fun d st1 W1 H1 s1 q e1 I1 S1 => ?_
  · rw [q] at o; exact o
  · rw [q] at o; exact o
  · rw [q] at o; exact hk d st1 W1 H1 s1 e1 I1 S1 (Out.mono e1 o)
theorem RT.bindS {f : Ft} {D' : Ends} {k : Bool → Store → SR} {P : Bool → Shared → Prop} (h : RT L X Wx e f) (I : Inv X pins σ H s) (S : Sok X.K L W st H) (E : EnR X.K L W σ ρ) (o : OutS X.K L Wx W D' ((f ρ st).toS ρ k))
    (hk : ∀ b st1 W1 H1 s1, W.le W1 → Inv X pins σ H1 s1 → Sok X.K L W1 st1 H1 → OutS X.K L Wx W1 D' (k b st1) → P b s1) :
    wpAny (model X.prog X.w) X.A (isTrue e X.env (eval e X.env)) P X.xe s := by
  refine h.seq I S E rfl (fun x st' q => ?_) (fun q => ?_) fun d st1 W1 H1 s1 q e1 I1 S1 => ?_
  · rw [q] at o; exact fun W' H' cls dx e' S' R' => o W' H' σ cls dx e' S' (E.mono e') R'
  · rw [q] at o; exact o
  · rw [q] at o; exact hk d st1 W1 H1 s1 e1 I1 S1 (OutS.mono e1 o)
end
end
end Gm
namespace Gm
open PySem PySem.Spec PyProof.Rows L2
/-! ### expressions -/
def xVar (i : Nat) : Fe := fun ρ st => match ρ[i]? with | some (some d) => .ok d st | _ => .stuck
def xK (d : D) : Fe := fun _ st => .ok d st
def xNo : Fe := fun _ _ => .stuck
def xUn (g : D → Store → Res D) (f : Fe) : Fe := fun ρ st => (f ρ st).bind g
def xBin (g : D → D → Store → Res D) (f h : Fe) : Fe := fun ρ st => (f ρ st).bind fun a st => (h ρ st).bind fun b st => g a b st
def aNil : Fa := fun _ st => .ok [] st
def aCons (f : Fe) (r : Fa) : Fa := fun ρ st => (f ρ st).bind fun a st => (r ρ st).bind fun l st => .ok (a :: l) st
def xTup (r : Fa) : Fe := fun ρ st => (r ρ st).bind fun l st => .ok (.tup l) st
def newLst (l : List D) (st : Store) : Res D := .ok (.ref st.length) (st ++ [.lst l])
def xLst (r : Fa) : Fe := fun ρ st => (r ρ st).bind newLst
def tOf (g : D → Store → Res Bool) (f : Fe) : Ft := fun ρ st => (f ρ st).bind g
def tNo : Ft := fun _ _ => .stuck
def tNot (t : Ft) : Ft := fun ρ st => (t ρ st).bind fun b st => .ok (!b) st
def tAnd (t u : Ft) : Ft := fun ρ st => (t ρ st).bind fun b st => if b then u ρ st else .ok false st
def tOr (t u : Ft) : Ft := fun ρ st => (t ρ st).bind fun b st => if b then .ok true st else u ρ st
def xIf (t : Ft) (f g : Fe) : Fe := fun ρ st => (t ρ st).bind fun b st => if b then f ρ st else g ρ st
def xNot (g : D → Store → Res Bool) (f : Fe) : Fe := fun ρ st => (f ρ st).bind fun d st => (g d st).bind fun b st => .ok (.bl (!b)) st
def xAnd (g : D → Store → Res Bool) (f h : Fe) : Fe := fun ρ st => (f ρ st).bind fun d st => (g d st).bind fun b st => if b then h ρ st else .ok d st
def xOr (g : D → Store → Res Bool) (f h : Fe) : Fe := fun ρ st => (f ρ st).bind fun d st => (g d st).bind fun b st => if b then .ok d st else h ρ st
/-- a op b op' c -/
def xChain (g g' : D → D → Store → Res D) (tr : D → Store → Res Bool) (f h k : Fe) : Fe := fun ρ st => (f ρ st).bind fun a st => (h ρ st).bind fun b st => (g a b st).bind fun c st => (tr c st).bind fun q st =>
  if q then (k ρ st).bind fun e st => g' b e st else .ok c st
def tChain (g g' : D → D → Store → Res D) (tr : D → Store → Res Bool) (f h k : Fe) : Ft := fun ρ st => (f ρ st).bind fun a st => (h ρ st).bind fun b st => (g a b st).bind fun c st => (tr c st).bind fun q st =>
  if q then (k ρ st).bind fun e st => (g' b e st).bind tr else .ok false st

section
variable {L : Lw} {X : Cx} {Wx : WX} {a b c : Expr} {f h k : Fe} {pos : Pos}
theorem re_no {e : Expr} : RE L X Wx e xNo := ⟨fun _ _ _ _ _ _ _ _ _ _ _ o => o.elim⟩
theorem rt_no {e : Expr} : RT L X Wx e tNo := ⟨fun _ _ _ _ _ _ _ _ _ _ _ o => o.elim⟩
theorem rw_no {e : Expr} : RW L X Wx e tNo := ⟨fun _ _ _ _ _ _ _ _ _ _ _ _ o => o.elim⟩
theorem RE.of_pe {e : Expr} {t : TE} (p : PE X e t) (hf : ∀ σ H W st ρ Q, Sok X.K L W st H → EnR X.K L W σ ρ → Out X.K L Wx W σ (okE X.K L Q) (f ρ st) → t σ H Q) : RE L X Wx e f :=
  ⟨fun pins s σ H W st ρ Q I S E o => p.run pins s σ H Q I (hf σ H W st ρ Q S E o)⟩
theorem re_var {i : Nat} {x : Str} (p : PE X (.Name x pos) (tVar i)) : RE L X Wx (.Name x pos) (xVar i) := RE.of_pe p fun σ H W st ρ Q S E o => by
  unfold xVar at o
  cases h1 : ρ[i]? with
  | none => rw [h1] at o; exact o.elim
  | some z =>
    cases z with
    | none => rw [h1] at o; exact o.elim
    | some d =>
      rw [h1] at o
      obtain ⟨v, e1, r⟩ := E.2 i d h1
      exact ⟨v, e1, o W H .rfl' S v r⟩
theorem re_k {e : Expr} {v : V} {d : D} (p : PE X e (tC v)) (r : ∀ W, Rl X.K L W d v) : RE L X Wx e (xK d) := RE.of_pe p fun σ H W st ρ Q S E o => o W H .rfl' S v (r W)
theorem re_int {i : Int} {j : Nat} : RE L X Wx (.Constant (.int i) j pos) (xK (.int i)) := re_k pe_int fun _ => Rl.int.mpr rfl
theorem re_bl {i : Bool} {j : Nat} : RE L X Wx (.Constant (.bool i) j pos) (xK (.bl i)) := re_k pe_bl fun _ => Rl.bl.mpr rfl
theorem re_non {j : Nat} : RE L X Wx (.Constant .none j pos) (xK .non) := re_k pe_non fun _ => Rl.non.mpr rfl
theorem re_str {x : Str} {j : Nat} : RE L X Wx (.Constant (.str x) j pos) (xK (.str x)) := re_k pe_str fun _ => Rl.str.mpr rfl

theorem binRun {g : D → D → Store → Res D} {F : Value → Value → Sem Value} {P : Value → Shared → Prop} (ha : RE L X Wx a f) (hb : RE L X Wx b h) {pins : List (Addr × Obj)} {s : Shared} {σ : St} {H : Hp} {W : Wd} {st : Store} {ρ : Ev} {β : Type} {Ok : Wd → Hp → β → Prop} {k : D → D → Store → Res β}
    (I : Inv X pins σ H s) (S : Sok X.K L W st H) (E : EnR X.K L W σ ρ) (o : Out X.K L Wx W σ Ok ((f ρ st).bind fun a st => (h ρ st).bind fun b st => k a b st))
    (hk : ∀ d1 d2 st2 W2 H2 x y v u s2, W.le W2 → Inv X pins σ H2 s2 → Sok X.K L W2 st2 H2 → Rl X.K L W2 d1 x → Rl X.K L W2 d2 y → RelV x v → RelV y u → Out X.K L Wx W2 σ Ok (k d1 d2 st2) → wpAny (model X.prog X.w) X.A (F v u) P X.xe s2) :
    wpAny (model X.prog X.w) X.A (eval a X.env) (fun v s₁ => wpAny (model X.prog X.w) X.A (eval b X.env) (fun u s₂ => wpAny (model X.prog X.w) X.A (F v u) P X.xe s₂) X.xe s₁) X.xe s := by
  refine ha.bind I S E o fun d1 st1 W1 H1 x v s1 e1 I1 S1 R1 r1 o1 => ?_
  refine hb.bind I1 S1 (E.mono e1) o1 fun d2 st2 W2 H2 y u s2 e2 I2 S2 R2 r2 o2 => ?_
  exact hk d1 d2 st2 W2 H2 x y v u s2 (e1.trans e2) I2 S2 (R1.mono e2) R2 r1 r2 o2
theorem re_bin {op : Operator} {g : D → D → Store → Res D} (ho : R2v L X Wx (binaryOp op) g) (ha : RE L X Wx a f) (hb : RE L X Wx b h) : RE L X Wx (.BinOp a op b pos) (xBin g f h) :=
  ⟨fun pins s σ H W st ρ Q I S E o => wpAny_BinOp (binRun (F := binaryOp op) (g := g) ha hb I S E o fun d1 d2 st2 W2 H2 x y v u s2 _ I2 S2 R1 R2 r1 r2 o2 => ho pins s2 σ H2 W2 st2 d1 d2 x y v u Q I2 S2 R1 R2 r1 r2 o2)⟩
theorem re_un {op : UnaryOp} {g : D → Store → Res D} (ho : R1v L X Wx (unaryOp op) g) (ha : RE L X Wx a f) : RE L X Wx (.UnaryOp op a pos) (xUn g f) :=
  ⟨fun pins s σ H W st ρ Q I S E o => UnaryOp_ (ha.bind I S E o fun d1 st1 W1 H1 x v s1 e1 I1 S1 R1 r1 o1 => ho pins s1 σ H1 W1 st1 d1 x v Q I1 S1 R1 r1 o1)⟩
theorem re_cmp {op : CmpOp} {g : D → D → Store → Res D} (ho : R2v L X Wx (compareOp op) g) (ha : RE L X Wx a f) (hb : RE L X Wx b h) (hm : behindInMarks op b = false) : RE L X Wx (.Compare a [op] [b] pos) (xBin g f h) :=
  ⟨fun pins s σ H W st ρ Q I S E o => wpAny_Compare1 (binRun (F := compareOp op) (g := g) ha hb I S E o fun d1 d2 st2 W2 H2 x y v u s2 _ I2 S2 R1 R2 r1 r2 o2 => ho pins s2 σ H2 W2 st2 d1 d2 x y v u Q I2 S2 R1 R2 r1 r2 o2) hm⟩

/-- a value's operation, then more -/
theorem R2v.bind {F : Value → Value → Sem Value} {g : D → D → Store → Res D} (ho : R2v L X Wx F g) {pins : List (Addr × Obj)} {s : Shared} {σ : St} {H : Hp} {W : Wd} {st : Store} {d1 d2 : D} {x y : V} {v u : Value} {β : Type} {Ok : Wd → Hp → β → Prop} {k : D → Store → Res β} {P : Value → Shared → Prop}
    (I : Inv X pins σ H s) (S : Sok X.K L W st H) (R1 : Rl X.K L W d1 x) (R2 : Rl X.K L W d2 y) (r1 : RelV x v) (r2 : RelV y u) (o : Out X.K L Wx W σ Ok ((g d1 d2 st).bind k))
    (hk : ∀ d st1 W1 H1 z w s1, W.le W1 → Inv X pins σ H1 s1 → Sok X.K L W1 st1 H1 → Rl X.K L W1 d z → RelV z w → Out X.K L Wx W1 σ Ok (k d st1) → P w s1) : wpAny (model X.prog X.w) X.A (F v u) P X.xe s := by
  cases q : g d1 d2 st with
  | ok d st1 =>
    rw [q] at o
    refine thn (ho pins s σ H W st d1 d2 x y v u (fun z H1 => ∃ W1, W.le W1 ∧ Sok X.K L W1 st1 H1 ∧ Rl X.K L W1 d z) I S R1 R2 r1 r2 ?_) fun w s1 ⟨z, H1, I1, rz, W1, e1, S1, Rz⟩ => hk d st1 W1 H1 z w s1 e1 I1 S1 Rz rz (Out.mono e1 o)
    rw [q]
    exact fun W' H' e' S' z R' => ⟨W', e', S', R'⟩
  | err x' st1 =>
    rw [q] at o
    refine thn (ho pins s σ H W st d1 d2 x y v u (fun _ _ => False) I S R1 R2 r1 r2 ?_) fun w s1 ⟨z, H1, I1, rz, hz⟩ => hz.elim
    rw [q]
    exact o
  | stuck => rw [q] at o; exact o.elim
theorem R1v.bind {F : Value → Sem Value} {g : D → Store → Res D} (ho : R1v L X Wx F g) {pins : List (Addr × Obj)} {s : Shared} {σ : St} {H : Hp} {W : Wd} {st : Store} {d1 : D} {x : V} {v : Value} {β : Type} {Ok : Wd → Hp → β → Prop} {k : D → Store → Res β} {P : Value → Shared → Prop}
    (I : Inv X pins σ H s) (S : Sok X.K L W st H) (R1 : Rl X.K L W d1 x) (r1 : RelV x v) (o : Out X.K L Wx W σ Ok ((g d1 st).bind k))
    (hk : ∀ d st1 W1 H1 z w s1, W.le W1 → Inv X pins σ H1 s1 → Sok X.K L W1 st1 H1 → Rl X.K L W1 d z → RelV z w → Out X.K L Wx W1 σ Ok (k d st1) → P w s1) : wpAny (model X.prog X.w) X.A (F v) P X.xe s := by
  cases q : g d1 st with
  | ok d st1 =>
    rw [q] at o
    refine thn (ho pins s σ H W st d1 x v (fun z H1 => ∃ W1, W.le W1 ∧ Sok X.K L W1 st1 H1 ∧ Rl X.K L W1 d z) I S R1 r1 ?_) fun w s1 ⟨z, H1, I1, rz, W1, e1, S1, Rz⟩ => hk d st1 W1 H1 z w s1 e1 I1 S1 Rz rz (Out.mono e1 o)
    rw [q]
    exact fun W' H' e' S' z R' => ⟨W', e', S', R'⟩
  | err x' st1 =>
    rw [q] at o
    refine thn (ho pins s σ H W st d1 x v (fun _ _ => False) I S R1 r1 ?_) fun w s1 ⟨z, H1, I1, rz, hz⟩ => hz.elim
    rw [q]
    exact o
  | stuck => rw [q] at o; exact o.elim
theorem Rtv.bind {g : D → Store → Res Bool} (ho : Rtv L X Wx g) {pins : List (Addr × Obj)} {s : Shared} {σ : St} {H : Hp} {W : Wd} {st : Store} {d1 : D} {x : V} {v : Value} {β : Type} {Ok : Wd → Hp → β → Prop} {k : Bool → Store → Res β} {P : Bool → Shared → Prop}
    (I : Inv X pins σ H s) (S : Sok X.K L W st H) (R1 : Rl X.K L W d1 x) (r1 : RelV x v) (o : Out X.K L Wx W σ Ok ((g d1 st).bind k))
    (hk : ∀ b st1 W1 H1 s1, W.le W1 → Inv X pins σ H1 s1 → Sok X.K L W1 st1 H1 → Out X.K L Wx W1 σ Ok (k b st1) → P b s1) : wpAny (model X.prog X.w) X.A (truthy v) P X.xe s := by
  cases q : g d1 st with
  | ok d st1 =>
    rw [q] at o
    refine thn (ho pins s σ H W st d1 x v (fun b H1 => b = d ∧ ∃ W1, W.le W1 ∧ Sok X.K L W1 st1 H1) I S R1 r1 ?_) fun w s1 ⟨H1, I1, e, W1, e1, S1⟩ => by subst e; exact hk _ st1 W1 H1 s1 e1 I1 S1 (Out.mono e1 o)
    rw [q]
    exact fun W' H' e' S' => ⟨rfl, W', e', S'⟩
  | err x' st1 =>
    rw [q] at o
    refine thn (ho pins s σ H W st d1 x v (fun _ _ => False) I S R1 r1 ?_) fun w s1 ⟨H1, I1, hz⟩ => hz.elim
    rw [q]
    exact o
  | stuck => rw [q] at o; exact o.elim

/-- .. as a test -/
theorem rt_cmp {op : CmpOp} {g : D → D → Store → Res D} {tr : D → Store → Res Bool} (ht : Rtv L X Wx tr) (ho : R2v L X Wx (compareOp op) g) (ha : RE L X Wx a f) (hb : RE L X Wx b h) (hm : behindInMarks op b = false) : RT L X Wx (.Compare a [op] [b] pos) (tOf tr (xBin g f h)) := by
  refine ⟨fun pins s σ H W st ρ Q I S E o => wpAny_isTrue_Compare1 ?_ hm⟩
  have o' : Out X.K L Wx W σ (okT Q) ((f ρ st).bind fun a st => (h ρ st).bind fun b st => (g a b st).bind tr) := by
    unfold tOf xBin at o
    revert o
    cases f ρ st with
    | ok d st1 =>
      simp only [Res.bind_ok]
      cases h ρ st1 with
      | ok d st1 => exact id
      | err x st1 => exact id
      | stuck => exact id
    | err x st1 => exact id
    | stuck => exact id
  refine binRun (g := g) (F := compareOp op) ha hb I S E o' fun d1 d2 st2 W2 H2 x y v u s2 _ I2 S2 R1 R2 r1 r2 o2 => ?_
  exact ho.bind I2 S2 R1 R2 r1 r2 o2 fun d st3 W3 H3 z w s3 e3 I3 S3 R3 r3 o3 => ht pins s3 σ H3 W3 st3 d z w Q I3 S3 R3 r3 o3
theorem rt_of {g : D → Store → Res Bool} (ht : Rtv L X Wx g) (ha : RE L X Wx a f) (he : ∀ whole, isTrue a X.env whole = (do let v ← whole; standAt a.pos; holding [v] (truthy v)) := by intro _; rfl) : RT L X Wx a (tOf g f) :=
  ⟨fun pins s σ H W st ρ Q I S E o => isTrue_plain (ha.bind I S E o fun d st1 W1 H1 x v s1 e1 I1 S1 R1 r1 o1 => ht pins s1 σ H1 W1 st1 d x v Q I1 S1 R1 r1 o1) (he _)⟩
theorem RW.rt {e : Expr} {t : Ft} (w : RW L X Wx e t) : RT L X Wx e t := ⟨w.run _⟩
theorem rw_and1 {t : Ft} (ha : RT L X Wx a t) : RW L X Wx (.BoolOp .And [a] pos) t := by
  refine ⟨fun wh pins s σ H W st ρ Q I S E o => isTrue_and (thn (ha.run pins s σ H W st ρ Q I S E o) fun c s1 q => ?_)⟩
  cases c with
  | true => exact isTrue_and_nil q
  | false => exact q
theorem rw_or1 {t : Ft} (ha : RT L X Wx a t) : RW L X Wx (.BoolOp .Or [a] pos) t := by
  refine ⟨fun wh pins s σ H W st ρ Q I S E o => isTrue_or (thn (ha.run pins s σ H W st ρ Q I S E o) fun c s1 q => ?_)⟩
  cases c with
  | false => exact isTrue_or_nil q
  | true => exact q
theorem rw_and {rest : List Expr} {t u : Ft} (ha : RT L X Wx a t) (hb : RW L X Wx (.BoolOp .And (b :: rest) pos) u) : RW L X Wx (.BoolOp .And (a :: b :: rest) pos) (tAnd t u) := by
  refine ⟨fun wh pins s σ H W st ρ Q I S E o => isTrue_and (ha.bind I S E o fun c st1 W1 H1 s1 e1 I1 S1 o1 => ?_)⟩
  cases c with
  | true => exact hb.run wh pins s1 σ H1 W1 st1 ρ Q I1 S1 (E.mono e1) o1
  | false => exact ⟨H1, I1, o1 W1 H1 .rfl' S1⟩
theorem rw_or {rest : List Expr} {t u : Ft} (ha : RT L X Wx a t) (hb : RW L X Wx (.BoolOp .Or (b :: rest) pos) u) : RW L X Wx (.BoolOp .Or (a :: b :: rest) pos) (tOr t u) := by
  refine ⟨fun wh pins s σ H W st ρ Q I S E o => isTrue_or (ha.bind I S E o fun c st1 W1 H1 s1 e1 I1 S1 o1 => ?_)⟩
  cases c with
  | false => exact hb.run wh pins s1 σ H1 W1 st1 ρ Q I1 S1 (E.mono e1) o1
  | true => exact ⟨H1, I1, o1 W1 H1 .rfl' S1⟩
theorem rt_not {t : Ft} (ha : RT L X Wx a t) : RT L X Wx (.UnaryOp .Not a pos) (tNot t) :=
  ⟨fun pins s σ H W st ρ Q I S E o => isTrue_not (ha.bind I S E o fun c st1 W1 H1 s1 e1 I1 S1 o1 => ⟨H1, I1, o1 W1 H1 .rfl' S1⟩)⟩
theorem rt_ifExp {t u : Ft} {v : Ft} (hc : RT L X Wx c t) (ha : RT L X Wx a u) (hb : RT L X Wx b v) : RT L X Wx (.IfExp c a b pos) (fun ρ st => (t ρ st).bind fun q st => if q then u ρ st else v ρ st) :=
  ⟨fun pins s σ H W st ρ Q I S E o => isTrue_IfExp (hc.bind I S E o fun d st1 W1 H1 s1 e1 I1 S1 o1 => by
    cases d with
    | true => exact ha.run pins s1 σ H1 W1 st1 ρ Q I1 S1 (E.mono e1) o1
    | false => exact hb.run pins s1 σ H1 W1 st1 ρ Q I1 S1 (E.mono e1) o1)⟩
/-- .. as values -/
theorem re_one {op : BoolOp} (ha : RE L X Wx a f) : RE L X Wx (.BoolOp op [a] pos) f := ⟨fun pins s σ H W st ρ Q I S E o => BoolOp_one (ha.run pins s σ H W st ρ Q I S E o)⟩
theorem re_and {rest : List Expr} {g : D → Store → Res Bool} (ht : Rtv L X Wx g) (ha : RE L X Wx a f) (hb : RE L X Wx (.BoolOp .And (b :: rest) pos) h) : RE L X Wx (.BoolOp .And (a :: b :: rest) pos) (xAnd g f h) := by
  refine ⟨fun pins s σ H W st ρ Q I S E o => BoolOp_and (ha.bind I S E o fun d st1 W1 H1 x v s1 e1 I1 S1 R1 r1 o1 => ht.bind I1 S1 R1 r1 o1 fun q st2 W2 H2 s2 e2 I2 S2 o2 => ?_)⟩
  cases q with
  | true => exact hb.run pins s2 σ H2 W2 st2 ρ Q I2 S2 (E.mono (e1.trans e2)) o2
  | false => exact ⟨x, H2, I2, r1, o2 W2 H2 .rfl' S2 x (R1.mono e2)⟩
theorem re_or {rest : List Expr} {g : D → Store → Res Bool} (ht : Rtv L X Wx g) (ha : RE L X Wx a f) (hb : RE L X Wx (.BoolOp .Or (b :: rest) pos) h) : RE L X Wx (.BoolOp .Or (a :: b :: rest) pos) (xOr g f h) := by
  refine ⟨fun pins s σ H W st ρ Q I S E o => BoolOp_or (ha.bind I S E o fun d st1 W1 H1 x v s1 e1 I1 S1 R1 r1 o1 => ht.bind I1 S1 R1 r1 o1 fun q st2 W2 H2 s2 e2 I2 S2 o2 => ?_)⟩
  cases q with
  | false => exact hb.run pins s2 σ H2 W2 st2 ρ Q I2 S2 (E.mono (e1.trans e2)) o2
  | true => exact ⟨x, H2, I2, r1, o2 W2 H2 .rfl' S2 x (R1.mono e2)⟩
theorem re_not {g : D → Store → Res Bool} (ht : Rtv L X Wx g) (ha : RE L X Wx a f) : RE L X Wx (.UnaryOp .Not a pos) (xNot g f) :=
  ⟨fun pins s σ H W st ρ Q I S E o => UnaryOp_ (ha.bind I S E o fun d st1 W1 H1 x v s1 e1 I1 S1 R1 r1 o1 => not_of (ht.bind I1 S1 R1 r1 o1 fun q st2 W2 H2 s2 e2 I2 S2 o2 => ⟨.bl (!q), H2, I2, rfl, o2 W2 H2 .rfl' S2 _ (Rl.bl.mpr rfl)⟩))⟩
theorem re_ifExp {t : Ft} (hc : RT L X Wx c t) (ha : RE L X Wx a f) (hb : RE L X Wx b h) : RE L X Wx (.IfExp c a b pos) (xIf t f h) :=
  ⟨fun pins s σ H W st ρ Q I S E o => wpAny_IfExp (hc.bind I S E o fun d st1 W1 H1 s1 e1 I1 S1 o1 => by
    cases d with
    | true => exact ha.run pins s1 σ H1 W1 st1 ρ Q I1 S1 (E.mono e1) o1
    | false => exact hb.run pins s1 σ H1 W1 st1 ρ Q I1 S1 (E.mono e1) o1)⟩
theorem re_chain {op op' : CmpOp} {g g' : D → D → Store → Res D} {tr : D → Store → Res Bool} (ht : Rtv L X Wx tr) (ho : R2v L X Wx (compareOp op) g) (ho' : R2v L X Wx (compareOp op') g') (ha : RE L X Wx a f) (hb : RE L X Wx b h) (hc : RE L X Wx c k)
    (hm : lastMarks [op, op'] [b, c] = false := by with_unfolding_all rfl) : RE L X Wx (.Compare a [op, op'] [b, c] pos) (xChain g g' tr f h k) := by
  refine ⟨fun pins s σ H W st ρ Q I S E o => Compare_chain (ha.bind I S E o fun d1 st1 W1 H1 x v s1 e1 I1 S1 R1 r1 o1 => chain_link (hb.bind I1 S1 (E.mono e1) o1 fun d2 st2 W2 H2 y u s2 e2 I2 S2 R2 r2 o2 =>
    ho.bind I2 S2 (R1.mono e2) R2 r1 r2 o2 fun d3 st3 W3 H3 z w s3 e3 I3 S3 R3 r3 o3 => ht.bind I3 S3 R3 r3 o3 fun q st4 W4 H4 s4 e4 I4 S4 o4 => ?_)) hm⟩
  cases q with
  | false => exact ite_ff ⟨z, H4, I4, r3, o4 W4 H4 .rfl' S4 z (R3.mono e4)⟩
  | true =>
    have E4 := E.mono (e1.trans (e2.trans (e3.trans e4)))
    exact ite_tt (chain_last (hc.bind I4 S4 E4 o4 fun d5 st5 W5 H5 z5 u5 s5 e5 I5 S5 R5 r5 o5 => ho' pins s5 σ H5 W5 st5 d2 d5 y z5 u u5 Q I5 S5 (R2.mono (e3.trans (e4.trans e5))) R5 r2 r5 o5))
theorem rt_chain {op op' : CmpOp} {g g' : D → D → Store → Res D} {tr : D → Store → Res Bool} (ht : Rtv L X Wx tr) (ho : R2v L X Wx (compareOp op) g) (ho' : R2v L X Wx (compareOp op') g') (ha : RE L X Wx a f) (hb : RE L X Wx b h) (hc : RE L X Wx c k)
    (hm : lastMarks [op, op'] [b, c] = false := by with_unfolding_all rfl) : RT L X Wx (.Compare a [op, op'] [b, c] pos) (tChain g g' tr f h k) := by
  refine ⟨fun pins s σ H W st ρ Q I S E o => isTrue_chain (ha.bind I S E o fun d1 st1 W1 H1 x v s1 e1 I1 S1 R1 r1 o1 => test_link (hb.bind I1 S1 (E.mono e1) o1 fun d2 st2 W2 H2 y u s2 e2 I2 S2 R2 r2 o2 =>
    ho.bind I2 S2 (R1.mono e2) R2 r1 r2 o2 fun d3 st3 W3 H3 z w s3 e3 I3 S3 R3 r3 o3 => ht.bind I3 S3 R3 r3 o3 fun q st4 W4 H4 s4 e4 I4 S4 o4 => ?_)) hm⟩
  cases q with
  | false => exact ite_ff ⟨H4, I4, o4 W4 H4 .rfl' S4⟩
  | true =>
    have E4 := E.mono (e1.trans (e2.trans (e3.trans e4)))
    exact ite_tt (test_last (hc.bind I4 S4 E4 o4 fun d5 st5 W5 H5 z5 u5 s5 e5 I5 S5 R5 r5 o5 => ho'.bind I5 S5 (R2.mono (e3.trans (e4.trans e5))) R5 r2 r5 o5 fun d6 st6 W6 H6 z6 u6 s6 e6 I6 S6 R6 r6 o6 => ht pins s6 σ H6 W6 st6 d6 z6 u6 Q I6 S6 R6 r6 o6))

/-! ### arguments, displays -/
theorem ra_nil : RA L X Wx [] aNil := ⟨fun ρ st ds st' e => by cases e; rfl, fun _ _ _ σ H W st ρ Q I S E o => Calls.spliced_nil ⟨[], H, I, .nil, o W H .rfl' S [] (Rls.nil.mpr rfl)⟩⟩
theorem ra_cons {es : List Expr} {r : Fa} (ha : RE L X Wx a f) (hr : RA L X Wx es r) (hs : starEach (a :: es) X.env = (false, eval a X.env) :: starEach es X.env := by rfl) : RA L X Wx (a :: es) (aCons f r) := by
  refine ⟨fun ρ st ds st' e => ?_, fun pos pins s σ H W st ρ Q I S E o => ?_⟩
  · unfold aCons at e
    revert e
    cases f ρ st with
    | ok d st1 =>
      simp only [Res.bind_ok]
      cases q : r ρ st1 with
      | ok l st2 => intro e; cases e; rw [List.length_cons, List.length_cons, hr.len _ _ _ _ q]
      | err x st1 => intro e; cases e
      | stuck => intro e; cases e
    | err x st1 => intro e; cases e
    | stuck => intro e; cases e
  · rw [hs]
    show wpAny _ _ (spliced ((false, eval a X.env) :: backTo pos (starEach es X.env))) _ _ s
    refine Calls.spliced_cons (ha.bind I S E o fun d st1 W1 H1 x v s1 e1 I1 S1 R1 r1 o1 => ?_)
    exact hr.bind I1 S1 (E.mono e1) o1 fun ds st2 W2 H2 vs us s2 _ e2 I2 S2 R2 r2 o2 => ⟨x :: vs, H2, I2, .cons r1 r2, o2 W2 H2 .rfl' S2 _ (Rls.mk (R1.mono e2) R2)⟩
theorem re_tup {es : List Expr} {r : Fa} {x1} (hr : RA L X Wx es r) (hz : es.length ≤ 1000 := by decide) : RE L X Wx (.Tuple es x1 pos) (xTup r) := by
  refine ⟨fun pins s σ H W st ρ Q I S E o => ?_⟩
  refine wpAny_Tuple_spliced (hr.bind I S E o fun ds st1 W1 H1 vs us s1 hl e1 I1 S1 R1 r1 o1 => ?_)
  have hlen : vs.length ≤ sizeLine := by rw [← R1.length, hl, sizeLine_eq]; omega
  refine ⟨by rw [← r1.length]; exact hlen, ?_⟩
  have hf : H1 s1.heap.objs.size = none := I1.hok.fresh (Nat.le_refl _)
  obtain ⟨e2, S2⟩ := S1.alloc_fz (o := .tup vs) hf
  refine ⟨.ref s1.heap.objs.size, upd H1 s1.heap.objs.size (.tup vs), I1.laid (t' := s1.toks) (fun b u e => Heap.get?_push_of_some _ e) (Nat.le_refl _) ⟨hlen, us, r1, ⟨_, Heap.get?_push_size _ rfl, rfl, _, rfl⟩⟩, rfl, ?_⟩
  exact o1 _ _ e2 S2 _ (Rl.tup.mpr ⟨_, vs, rfl, .inl (.inl (by show upd _ _ _ _ = _; exact upd_same)), R1.mono e2⟩)
theorem Sok.ofNew {K : PySem.W.Frag} {W : Wd} {st : Store} {H : Hp} {p : Addr} {ds : List D} {vs : List V} (S : Sok K L W st H) (hp : H p = none) (R : Rls K L W ds vs) : Sok K L (W.more p) (st ++ [.lst ds]) (upd H p (.lst vs)) :=
  S.alloc hp ⟨vs, upd_same, R.mono Wd.le_more⟩
theorem Rl.newRef {K : PySem.W.Frag} {W : Wd} {st : Store} {H : Hp} {p : Addr} (S : Sok K L W st H) : Rl K L (W.more p) (.ref st.length) (.ref p) := Rl.ref.mpr ⟨p, rfl, by
  show (W.io ++ [p])[st.length]? = some p
  rw [S.len, List.getElem?_concat_length]⟩
theorem re_lst {es : List Expr} {r : Fa} (hr : RA L X Wx es r) (hz : es.length ≤ 1000 := by decide) : RE L X Wx (.List es pos) (xLst r) := by
  refine ⟨fun pins s σ H W st ρ Q I S E o => ?_⟩
  refine wpAny_List_spliced (hr.bind I S E o fun ds st1 W1 H1 vs us s1 hl e1 I1 S1 R1 r1 o1 => ?_)
  have hlen : vs.length ≤ sizeLine := by rw [← R1.length, hl, sizeLine_eq]; omega
  refine ⟨by rw [← r1.length]; exact hlen, ?_⟩
  have hf : H1 s1.heap.objs.size = none := I1.hok.fresh (Nat.le_refl _)
  refine ⟨.ref s1.heap.objs.size, upd H1 s1.heap.objs.size (.lst vs), I1.laid (t' := s1.toks) (fun b u e => Heap.get?_push_of_some _ e) (Nat.le_refl _) ⟨hlen, us, 0, r1, Heap.get?_push_size _ rfl⟩, rfl, ?_⟩
  exact o1 _ _ Wd.le_more (S1.ofNew hf R1) _ (Rl.newRef S1)
end
end Gm
namespace Gm
open PySem PySem.Spec PyProof.Rows L2
/-! ### defs by their codes -/
abbrev Fn := Nat → List D → Store → Res D
/-- the promise: the def hands back what m says -/
def spM (K : PySem.W.Frag) (L : Lw) (n : Nat) (m : List D → Store → Res D) : Sp := fun vs H Q E => vs.length = n ∧ ∃ ds W st, Rls K L W ds vs ∧ Sok K L W st H ∧ Out K L (fun c d _ H => E c d H) W [] (okE K L Q) (m ds st)
/-- a call: the arguments that lack are filled up by a tail of defaults -/
def callD (T : Ls) (c : Fn) (f : Nat) (ds : List D) (st : Store) : Res D := match (T.dfl f).find? fun t => decide (ds.length + t.length = (T.fps f).length) with
  | some t => c f (ds ++ t) st
  | none => .stuck
theorem callD_some {T : Ls} {c : Fn} {f : Nat} {ds : List D} {st : Store} (h : callD T c f ds st ≠ .stuck) : ∃ t, t ∈ T.dfl f ∧ ds.length + t.length = (T.fps f).length ∧ callD T c f ds st = c f (ds ++ t) st := by
  unfold callD at h ⊢
  cases e : (T.dfl f).find? fun t => decide (ds.length + t.length = (T.fps f).length) with
  | none => rw [e] at h; exact absurd rfl h
  | some t => exact ⟨t, List.mem_of_find?_eq_some e, by simpa using List.find?_some e, rfl⟩
/-- codes of the names that operators look for -/
def opn : Operator → Nat
  | .Add => 1 | .Sub => 2 | .Mult => 3 | .FloorDiv => 4 | .Mod => 5 | .Pow => 6 | .BitAnd => 7 | .BitOr => 8 | .BitXor => 9 | _ => 0
def opr : Operator → Nat
  | .Add => 11 | .Sub => 12 | .Mult => 13 | .FloorDiv => 14 | .Mod => 15 | .Pow => 16 | .BitAnd => 17 | .BitOr => 18 | .BitXor => 19 | _ => 0
def cmn : CmpOp → Nat
  | .Eq => 21 | .Lt => 22 | .LtE => 23 | .Gt => 24 | .GtE => 25 | _ => 0
def cmr : CmpOp → Nat
  | .Eq => 21 | .Lt => 24 | .LtE => 25 | .Gt => 22 | .GtE => 23 | _ => 0
def nameOf : Nat → Str
  | 1 => "__add__" | 2 => "__sub__" | 3 => "__mul__" | 4 => "__floordiv__" | 5 => "__mod__" | 6 => "__pow__" | 7 => "__and__" | 8 => "__or__" | 9 => "__xor__"
  | 11 => "__radd__" | 12 => "__rsub__" | 13 => "__rmul__" | 14 => "__rfloordiv__" | 15 => "__rmod__" | 16 => "__rpow__" | 17 => "__rand__" | 18 => "__ror__" | 19 => "__rxor__"
  | 21 => "__eq__" | 22 => "__lt__" | 23 => "__le__" | 24 => "__gt__" | 25 => "__ge__" | 27 => "__contains__"
  | 31 => "__neg__" | 32 => "__invert__" | 33 => "__abs__" | 34 => "__bool__" | 35 => "__str__" | 36 => "__call__" | 37 => "__init__" | 38 => "__len__" | 39 => "__getitem__"
  | _ => ""
/-- what the words ask of an own class -/
structure ClsOk (K : PySem.W.Frag) (C : Addr) : Prop where
  cls : Cls K C
  first : PySem.W.selfFirst K C = true
  keep : PySem.W.keepIn K (.ref C) = true
def kinds : List String := ["NoneType", "bool", "int", "str", "list", "tuple", "dict"]
structure FOk (L : Lw) (P : Program) (w : World) (K : PySem.W.Frag) (mg : Str → Option Value) (base : Heap) (k : Nat) (c : Fn) : Prop where
  fn : ∀ f, L.isF f = true → FnOk P w K mg base (L2.CX P w) k (L.fad f) (L.fdt f) (L.fps f) (spM K L (L.fps f).length (c f))
  kp : ∀ f, L.isF f = true → PySem.W.keepIn K (.ref (L.fad f)) = true
  fi : ∀ f, L.isF f = true → PySem.W.fnIn K (L.fad f) = true
  bt : ∀ f, L.isF f = true → ∀ t ∈ L.dfl f, ∃ dvs dsV, Binds K (L.fdt f) (L.fps f) dsV ∧ Vals dvs dsV ∧ ∀ W, Rls K L W t dvs
  mt : ∀ i m f, L.meth i m = some f → L.isC i = true ∧ L.isF f = true ∧ Meth K (L.cad i) (L.nm m) (L.fad f)
  mi : ∀ i f, L.meth i 37 = some f → Mk K (L.cad i) (L.fad f)
  pr : ∀ i m f, L.prop i m = some f → L.isC i = true ∧ L.isF f = true ∧ ∃ p, PropOf K (L.cad i) (L.nm m) p (L.fad f)
  cl : ∀ i, L.isC i = true → ClsOk K (L.cad i)
  la : ∀ i g, g ∈ L.lay i → g ∈ L.atn i
  ly : ∀ i g, L.isC i = true → g ∈ L.atn i → NoAttr K (L.cad i) (L.nm g)
  li : ∀ i g h, L.isC i = true → g ∈ L.atn i → h ∈ L.atn i → L.nm g = L.nm h → g = h
  lm : ∀ i g m f, g ∈ L.atn i → L.meth i m = some f → L.nm g ≠ L.nm m
  ci : ∀ i j, L.isC i = true → L.isC j = true → L.cad i = L.cad j → i = j
  nm : ∀ n, n ≠ 0 → n < 40 → nameOf n ≠ "" → L.nm n = nameOf n
  bi : ∀ (op : Operator), opn op ≠ 0 → ∃ fo ro, PySem.W.findIn K (.type "int") (PySem.dunder op.info.2) = some fo ∧ PySem.W.findIn K (.type "int") (dunderR op.info.2) = some ro
  /-- an operator's names in a class: a def of one's own or none -/
  rf : ∀ i (op : Operator), L.isC i = true → opn op ≠ 0 → ∃ rc, PySem.W.findIn K (.ref (L.cad i)) (dunderR op.info.2) = some rc ∧ (rc = none ∨ ∃ g : Addr, rc = some (.ref g))
  /-- no class of these is within another -/
  sb : ∀ i j, L.isC i = true → L.isC j = true → i ≠ j → PySem.W.subIn K (.ref (L.cad i)) (.ref (L.cad j)) = some false ∧ L.cad i ≠ L.cad j
  sT : ∀ i, L.isC i = true → PySem.W.subIn K (.type "int") (.ref (L.cad i)) = some false ∧ PySem.W.subIn K (.ref (L.cad i)) (.type "int") = some false
  /-- what every class has from object -/
  ob : ∀ i, L.isC i = true → PySem.W.mroIn K (L.cad i) (.type "object") = some true
  oc : ∀ i, L.isC i = true → PySem.W.findIn K (.ref (L.cad i)) "__class__" = some (some (.builtin "object.__class__"))
  og : PySem.W.specialIn K (.builtin "object.__class__") "__get__" = some (some (.builtin "getset_descriptor.__get__"))
  ot : PySem.W.takesIn K (.builtin "object.__class__") = some true
  ne : ∀ i f, L.meth i 21 = some f → PySem.W.findIn K (.ref (L.cad i)) "__ne__" = some (some (.builtin "object.__ne__"))
  tb : ∀ i, L.isC i = true → L.meth i 34 = none → L.meth i 38 = none → PySem.W.findIn K (.ref (L.cad i)) "__bool__" = some none ∧ PySem.W.findIn K (.ref (L.cad i)) "__len__" = some none
  /-- isinstance -/
  ko : ∀ i j, L.isC i = true → L.isC j = true → PySem.W.kitOne K (.ref (L.cad i)) (.ref (L.cad j)) = some (L.sub i j)
  kt : ∀ j t, L.isC j = true → t ∈ kinds → PySem.W.kitOne K (.type t) (.ref (L.cad j)) = some false
  kb : ∀ i t, L.isC i = true → t ∈ kinds → PySem.W.kitOne K (.ref (L.cad i)) (.type t) = some false
structure Gd (L : Lw) (X : Cx) (Wx : WX) (k : Nat) (c : Fn) : Prop where
  fo : FOk L X.prog X.w X.K X.mg X.base k c
  room : Room (k + 9) X.A
  tk : Takes X Wx
  calm : X.calm = true
  po : PassesOwn (model X.prog X.w) X.A X.env X.xe
  nd : X.N.Nodup
theorem opn_name {op : Operator} (h : opn op ≠ 0) : nameOf (opn op) = PySem.dunder op.info.2 ∧ nameOf (opn op) ≠ "" ∧ opn op < 40 := by
  cases op <;> first | exact absurd rfl h | decide +kernel
theorem opr_name {op : Operator} (h : opn op ≠ 0) : nameOf (opr op) = dunderR op.info.2 ∧ nameOf (opr op) ≠ "" ∧ opr op < 40 ∧ opr op ≠ 0 := by
  cases op <;> first | exact absurd rfl h | decide +kernel

section
variable {L : Lw} {X : Cx} {Wx : WX} {k : Nat} {c : Fn}
theorem Gd.sub (G : Gd L X Wx k c) : Sub X (k + 9) X.A := ⟨G.room, rfl⟩
/-- a def is called with values, here or within a built-in -/
theorem Gd.callC (G : Gd L X Wx k c) {A : Around} (sb : Sub X k A) {f : Nat} (hf : L.isF f = true) {pins : List (Addr × Obj)} {s : Shared} {σ : St} {H : Hp} {W : Wd} {st : Store} {ds : List D} {vs : List V} {us : List Value} {Q : VK} (I : Inv X pins σ H s) (S : Sok X.K L W st H)
    (R : Rls X.K L W ds vs) (r : Vals vs us) (o : Out X.K L Wx W σ (okE X.K L Q) (callD L.toLs c f ds st)) :
    codeAny (model X.prog X.w) A (.call (.ref (L.fad f)) ⟨us, []⟩) (fun r s' => match r with | .ok (.ret v) => EP X pins σ Q v s' | .ok _ => False | .error e => X.xe e s') s := by
  obtain ⟨t, ht, hl, ec⟩ := callD_some (T := L.toLs) (c := c) (f := f) (ds := ds) (st := st) fun z => by rw [z] at o; exact o
  rw [ec] at o
  obtain ⟨dvs, dsV, hb, hd, hT⟩ := G.fo.bt f hf t ht
  have R2 := R.append (hT W)
  have r2 : Vals (vs ++ dvs) (us ++ dsV) := r.append hd
  have hl' : (ds ++ t).length = (L.fps f).length := by rw [List.length_append]; exact hl
  have hsp : spM X.K L (L.fps f).length (c f) (vs ++ dvs) H Q (WE Wx σ) := by
    refine ⟨by rw [← R2.length]; exact hl', ds ++ t, W, st, R2, S, ?_⟩
    revert o
    cases c f (ds ++ t) st with
    | ok d st' => exact id
    | err x st' => exact id
    | stuck => exact id
  have e0 : Env0 X.prog X.w X.K X.mg X.base A X.stack s H := by
    have e := I.env0
    exact ⟨by rw [sb.fr]; exact e.frames, e.mod, e.bs, e.bsz, e.funs, e.frf, e.hok, e.bare⟩
  have hl2 : (us ++ dsV).length = (L.fps f).length := by rw [← r2.length, ← R2.length]; exact hl'
  refine codeAny_mono ((G.fo.fn f hf).run A X.stack s H ⟨us, []⟩ (us ++ dsV) (vs ++ dvs) Q (WE Wx σ) sb.room e0 (hb s us I.kIn hl2) r2 hsp) fun r s' hq => ?_
  cases r with
  | error e => exact passAt G.tk σ pins H s e s' I hq
  | ok fl =>
    cases fl with
    | ret u => exact I.after hq
    | next => exact False.elim hq
    | brk => exact False.elim hq
    | cont => exact False.elim hq
theorem Gd.callA (G : Gd L X Wx k c) {A : Around} (sb : Sub X k A) {f : Nat} (hf : L.isF f = true) {pins : List (Addr × Obj)} {s : Shared} {σ : St} {H : Hp} {W : Wd} {st : Store} {ds : List D} {vs : List V} {us : List Value} {Q : VK} (I : Inv X pins σ H s) (S : Sok X.K L W st H)
    (R : Rls X.K L W ds vs) (r : Vals vs us) (o : Out X.K L Wx W σ (okE X.K L Q) (callD L.toLs c f ds st)) :
    wpAny (model X.prog X.w) A (PySem.call (.ref (L.fad f)) us) (EP X pins σ Q) X.xe s := wpAny_call (G.callC sb hf I S R r o)
theorem Gd.call (G : Gd L X Wx k c) {f : Nat} (hf : L.isF f = true) {pins : List (Addr × Obj)} {s : Shared} {σ : St} {H : Hp} {W : Wd} {st : Store} {ds : List D} {vs : List V} {us : List Value} {Q : VK} (I : Inv X pins σ H s) (S : Sok X.K L W st H)
    (R : Rls X.K L W ds vs) (r : Vals vs us) (o : Out X.K L Wx W σ (okE X.K L Q) (callD L.toLs c f ds st)) :
    wpAny (model X.prog X.w) X.A (PySem.call (.ref (L.fad f)) us) (EP X pins σ Q) X.xe s :=
  G.callA ⟨G.room.mono (Nat.le_add_right k 9), rfl⟩ hf I S R r o
theorem inst_of {pins : List (Addr × Obj)} {s : Shared} {σ : St} {H : Hp} {W : Wd} {st : Store} {i : Nat} {ds : List D} {x : V} (I : Inv X pins σ H s) (S : Sok X.K L W st H) (R : Rl X.K L W (.obj i ds) x) :
    ∃ a dx od, x = .ref a ∧ PySem.W.InstAt s.heap a (PySem.W.instObj (L.cad i) dx) (L.cad i) (some od) := by
  obtain ⟨a, dx, vs, rfl, h1, h2, h3⟩ := Rl.obj.mp R
  obtain ⟨mA, J, _⟩ := ins_get I.hok (S.fz _ _ h1)
  obtain ⟨od, J, _⟩ := J.look
  exact ⟨a, dx, od, rfl, J⟩
end
open Classical in
noncomputable def intBin (op : Operator) (i j : Int) (st : Store) : Res D := match op with
  | .Add => .ok (.int (i + j)) st
  | .Sub => .ok (.int (i - j)) st
  | .Mult => if IntMulOk i j then .ok (.int (i * j)) st else .stuck
  | .FloorDiv => if j ≠ 0 ∧ j.natAbs.log2 < 9000 then .ok (.int (i.fdiv j)) st else .stuck
  | .Mod => if j ≠ 0 then .ok (.int (i.fmod j)) st else .stuck
  | .Pow => if 0 ≤ j ∧ j ≤ 1000000 ∧ i.natAbs < 2 ^ 64 then .ok (.int (i ^ j.toNat)) st else .stuck
  | _ => .stuck
section
variable {L : Lw} {X : Cx} {Wx : WX} {k : Nat} {c : Fn}
theorem EP.of_ok {K : PySem.W.Frag} {pins : List (Addr × Obj)} {s : Shared} {σ : St} {H : Hp} {W : Wd} {st : Store} {d : D} {v : V} {u : Value} {Q : VK} (I : Inv X pins σ H s) (S : Sok X.K L W st H) (R : Rl X.K L W d v) (r : RelV v u)
    (o : Out X.K L Wx W σ (okE X.K L Q) (.ok d st)) : EP X pins σ Q u s := ⟨v, H, I, r, o W H .rfl' S v R⟩
theorem intBin_ok {op : Operator} {pins : List (Addr × Obj)} {s : Shared} {σ : St} {H : Hp} {W : Wd} {st : Store} {i j : Int} {t u : Tok} {Q : VK} (I : Inv X pins σ H s) (S : Sok X.K L W st H)
    (o : Out X.K L Wx W σ (okE X.K L Q) (intBin op i j st)) : wpAny (model X.prog X.w) X.A (binaryOp op (.int i t) (.int j u)) (EP X pins σ Q) X.xe s := by
  have fin : ∀ {n : Int} {tk : Nat} {t : Tok}, Out X.K L Wx W σ (okE X.K L Q) (.ok (.int n) st) → EP X pins σ Q (.int n t) { s with toks := tk } := fun {n tk t} o => EP.of_ok (K := X.K) (I.tok _) S (Rl.int.mpr rfl) ⟨t, rfl⟩ o
  unfold intBin at o
  cases op with
  | Add => exact add_int (fin o)
  | Sub => exact sub_int (fin o)
  | Mult =>
    dsimp only at o
    split at o
    · rename_i hm; exact mul_int (fin o) hm
    · exact o.elim
  | FloorDiv =>
    dsimp only at o
    split at o
    · rename_i hm; exact floordiv_int hm.1 (fin o) (.inl (PyProof.noPylong_of_log2 hm.2))
    · exact o.elim
  | Mod =>
    dsimp only at o
    split at o
    · rename_i hm; exact mod_int' hm (fin o)
    · exact o.elim
  | Pow =>
    dsimp only at o
    split at o
    · rename_i hm; exact pow_int_small hm.1 hm.2.1 hm.2.2 (fin o)
    · exact o.elim
  | _ => exact o.elim
end
end Gm
namespace Gm
open PySem PySem.Spec PySem.Calls PyProof.Rows PySem.W
/-! ### operators of own classes, at the library's level -/
/-- an int's own answer to an operator with an instance -/
structure IntOp (op : Operator) (B : Builtin) (id : String) : Prop where
  slot : Slot "int" (PySem.dunder op.info.2) id
  fills : fillsNumberSlot (.type "int") op.info.2 = pure true
  entry : entryFor table id = some B
  args : ∀ a b, argsOk id ⟨[a, b], []⟩
  no : ∀ (a : Int) (t : Tok) (l C dx : Addr), Meets (B ⟨[.int a t, .ref l], []⟩) (fun _ R s => s.heap.get? l = some (instObj C dx) ∧ R (.ok (.ret Value.notImplemented)) s)
theorem io_add : IntOp .Add Builtin.«int.__add__» "int.__add__" := ⟨PySem.F.slot_int_add, PySem.F.fills_int_add, PySem.F.entry_int_add, PySem.F.args_int_add_2, fun a t l C dx => .of_wp fun prog w A R s h => by
  obtain ⟨hp, g, d, tk, os⟩ := s; obtain ⟨hl, h⟩ := h; wp_walk; exact ⟨_, rfl, h⟩⟩
theorem io_sub : IntOp .Sub Builtin.«int.__sub__» "int.__sub__" := ⟨PySem.F.slot_int_sub, PySem.F.fills_int_sub, PySem.F.entry_int_sub, PySem.F.args_int_sub_2, fun a t l C dx => .of_wp fun prog w A R s h => by
  obtain ⟨hp, g, d, tk, os⟩ := s; obtain ⟨hl, h⟩ := h; wp_walk; exact ⟨_, rfl, h⟩⟩
theorem io_mul : IntOp .Mult Builtin.«int.__mul__» "int.__mul__" := ⟨PySem.F.slot_int_mul, PySem.F.fills_int_mul, PySem.F.entry_int_mul, PySem.F.args_int_mul_2, fun a t l C dx => .of_wp fun prog w A R s h => by
  obtain ⟨hp, g, d, tk, os⟩ := s; obtain ⟨hl, h⟩ := h; wp_walk; exact ⟨_, rfl, h⟩⟩
theorem io_floordiv : IntOp .FloorDiv Builtin.«int.__floordiv__» "int.__floordiv__" := ⟨PySem.F.slot_int_floordiv, PySem.F.fills_int_floordiv, PySem.F.entry_int_floordiv, PySem.F.args_int_floordiv_2, fun a t l C dx => .of_wp fun prog w A R s h => by
  obtain ⟨hp, g, d, tk, os⟩ := s; obtain ⟨hl, h⟩ := h; wp_walk; exact ⟨_, rfl, h⟩⟩
theorem io_mod : IntOp .Mod Builtin.«int.__mod__» "int.__mod__" := ⟨PySem.F.slot_int_mod, PySem.F.fills_int_mod, PySem.F.entry_int_mod, PySem.F.args_int_mod_2, fun a t l C dx => .of_wp fun prog w A R s h => by
  obtain ⟨hp, g, d, tk, os⟩ := s; obtain ⟨hl, h⟩ := h; wp_walk; exact ⟨_, rfl, h⟩⟩

section
variable {prog : Program} {w : World} {A : Around} {E : Value → Shared → Prop} {s : Shared} {K : Frag} {x C C2 L f : Addr} {h₀ : Heap} {m : Str → Option Value} {ox : Obj} {od : Option Obj}
/-- own op own, of unlike classes that both have the operator -/
theorem own_own {op : Operator} {b g : Addr} {oy : Obj} {od2 : Option Obj} {rc : Option Value} {Q : Value → Shared → Prop} (F : Fr h₀ L s.heap m) (X₀ : K.In h₀) (I : InstAt s.heap x ox C od) (J : InstAt s.heap b oy C2 od2) (hne : C ≠ C2)
    (hc : selfFirst K C = true) (hc2 : selfFirst K C2 = true)
    (hs : findIn K (.ref C) (PySem.dunder op.info.2) = some (some (.ref f))) (hf : isFn K (.ref f) = true) (hr : findIn K (.ref C) (dunderR op.info.2) = some rc) (hp : rc = none ∨ ∃ g : Addr, rc = some (.ref g))
    (hs2 : findIn K (.ref C2) (PySem.dunder op.info.2) = some (some (.ref g))) {rc2 : Option Value} (hr2 : findIn K (.ref C2) (dunderR op.info.2) = some rc2) (hp2 : rc2 = none ∨ ∃ g : Addr, rc2 = some (.ref g))
    (hsub : subIn K (.ref C2) (.ref C) = some false)
    (h : wpAny (model prog w) A (call (.ref f) [.ref x, .ref b]) (PySem.W.CmpBack Q) E s) : wpAny (model prog w) A (binaryOp op (.ref x) (.ref b)) Q E s := by
  have X := X₀.keeps F.keep
  obtain ⟨cd, rest, hcd, hm⟩ := ksp_first hc
  obtain ⟨cd2, rest2, hcd2, hm2⟩ := ksp_first hc2
  rcases hi : op.info with ⟨sym, nm'⟩
  rw [hi] at hs hr hs2 hr2
  dsimp only at hs hr hs2 hr2
  have one := ksp_try X I hs hf h
  obtain ⟨hh, g', d, tt, os⟩ := s
  have L1 : Looks (model prog w) hh (typeOf (.ref x)) (.ref C) := I.type
  have L2 : Looks (model prog w) hh (typeOf (.ref b)) (.ref C2) := J.type
  have L3 : Looks (model prog w) hh (fillsNumberSlot (.ref C) nm') true := fills_K X hcd hm hs
  have L4 : Looks (model prog w) hh (fillsNumberSlot (.ref C2) nm') true := fills_K X hcd2 hm2 hs2
  have L5 : Looks (model prog w) hh (isSubtype (.ref C2) (.ref C)) false := looks_subIn X hsub
  have L6 : Looks (model prog w) hh (numberSlotInPython (.ref C) nm') true := ksp_inPy X hs hr hp
  have L7 : Looks (model prog w) hh (numberSlotInPython (.ref C2) nm') true := ksp_inPy X hs2 hr2 hp2
  have hne' : (Value.ref C == Value.ref C2) = false := Bool.eq_false_iff.mpr fun q => hne (by cases beq_iff_eq.mp q; rfl)
  simp only [binaryOp, hi]
  refine wpAny_holding (wpAny_bind ?_)
  unfold binaryOp1
  refine wpAny_bind (L1.at (wpAny_bind (L2.at (wpAny_bind (L3.at ?_)))))
  simp only [hne', Bool.false_eq_true, if_false]
  ksp_lk
  refine wpAny_mono one (fun r s' hr' => ?_) fun _ _ e => e
  obtain ⟨v, rfl, hq⟩ := hr'
  ksp_lk
  exact hq

/-- int op own -/
theorem int_own {op : Operator} {B : Builtin} {id : String} {b g : Addr} {dx : Addr} {i : Int} {t : Tok} {od2 : Option Obj} {Q : Value → Shared → Prop} (io : IntOp op B id) (F : Fr h₀ L s.heap m) (X₀ : K.In h₀) (J : InstAt s.heap b (instObj C dx) C od2)
    (hc : selfFirst K C = true) (hs : findIn K (.ref C) (PySem.dunder op.info.2) = some (some (.ref g))) (hr : findIn K (.ref C) (dunderR op.info.2) = some (some (.ref f))) (hf : isFn K (.ref f) = true) (hsub : subIn K (.ref C) (.type "int") = some false)
    (h : wpAny (model prog w) A (call (.ref f) [.ref b, .int i t]) (PySem.W.CmpBack Q) E s) : wpAny (model prog w) A (binaryOp op (.int i t) (.ref b)) Q E s := by
  have X := X₀.keeps F.keep
  obtain ⟨cd, rest, hcd, hm⟩ := ksp_first hc
  obtain ⟨slot, fills, entry, args, no⟩ := io
  rcases hi : op.info with ⟨sym, nm'⟩
  rw [hi] at hs hr slot fills
  dsimp only at hs hr slot fills
  have two := ksp_try X J hr hf h
  have hb := J.at_
  have T1 : s.TypeIs (.int i t) "int" := typeIs_int s i t
  have L1 : Looks (model prog w) s.heap (typeOf (.int i t)) (.type "int") := Looks.of_pure rfl
  have L2 : Looks (model prog w) s.heap (typeOf (.ref b)) (.ref C) := J.type
  have L3 : Looks (model prog w) s.heap (fillsNumberSlot (.type "int") nm') true := Looks.of_pure fills
  have L4 : Looks (model prog w) s.heap (fillsNumberSlot (.ref C) nm') true := fills_K X hcd hm hs
  have L5 : Looks (model prog w) s.heap (isSubtype (.ref C) (.type "int")) false := looks_subIn X hsub
  have L6 : Looks (model prog w) s.heap (numberSlotInPython (.type "int") nm') false := Looks.of_pure rfl
  have hne : (Value.type "int" == Value.ref C) = false := Bool.eq_false_iff.mpr fun q => by cases beq_iff_eq.mp q
  have dec : ∀ {Q : Option Value → Shared → Prop}, Q none s → wpAny (model prog w) A (tryMethod (.int i t) (PySem.dunder nm') (.ref b)) Q E s := fun {Q} q =>
    wpAny_tryMethod_declines T1 slot (call_meets slot T1 entry (args _ _) (no i t b C dx) ⟨hb, rfl, q⟩)
  simp only [binaryOp, hi]
  refine wpAny_holding (wpAny_bind ?_)
  unfold binaryOp1
  refine wpAny_bind (L1.here (wpAny_bind (L2.here (wpAny_bind (L3.here ?_)))))
  simp only [hne, Bool.false_eq_true, if_false]
  refine wpAny_bind (L4.here ?_)
  simp only [Bool.and_self, if_true]
  refine wpAny_bind (L5.here ?_)
  simp only [Bool.false_eq_true, if_false, Bool.not_false, Bool.and_self, if_true, pure_bind]
  refine wpAny_bind (L6.here ?_)
  simp only [Bool.false_eq_true, if_false, Bool.not_false, Bool.and_self, if_true, pure_bind]
  refine wpAny_bind (dec ?_)
  simp only [pure_bind, Bool.false_eq_true, if_false, Bool.not_false, Bool.and_self, if_true]
  refine wpAny_bind (wpAny_mono two (fun r s' hr' => ?_) fun _ _ e => e)
  obtain ⟨v, rfl, hq⟩ := hr'
  dsimp only
  exact wpAny_bind (wpAny_rule (wpAny_pure (wpAny_pure hq)))
end
end Gm
namespace Gm
open PySem PySem.Spec PyProof.Rows L2
/-! ### what a call leaves behind is cleared away -/
mutual
def noRef (n : Nat) : D → Bool
  | .ref m => decide (m < n)
  | .tup ds => noRefs n ds
  | .obj _ ds => noRefs n ds
  | _ => true
def noRefs (n : Nat) : List D → Bool
  | [] => true
  | d :: ds => noRef n d && noRefs n ds
end
@[simp] theorem noRefs_nil (n : Nat) : noRefs n [] = true := by unfold noRefs; rfl
@[simp] theorem noRefs_cons (n : Nat) (d : D) (ds : List D) : noRefs n (d :: ds) = (noRef n d && noRefs n ds) := by rw [noRefs]
@[simp] theorem noRef_tup (n : Nat) (ds : List D) : noRef n (.tup ds) = noRefs n ds := by rw [noRef]
@[simp] theorem noRef_obj (n c : Nat) (ds : List D) : noRef n (.obj c ds) = noRefs n ds := by rw [noRef]
@[simp] theorem noRef_ref (n m : Nat) : noRef n (.ref m) = decide (m < n) := by rw [noRef]
@[simp] theorem noRef_int (n : Nat) (i : Int) : noRef n (.int i) = true := by simp [noRef]
@[simp] theorem noRef_bl (n : Nat) (i : Bool) : noRef n (.bl i) = true := by simp [noRef]
@[simp] theorem noRef_str (n : Nat) (i : Str) : noRef n (.str i) = true := by simp [noRef]
@[simp] theorem noRef_non (n : Nat) : noRef n .non = true := by simp [noRef]
theorem noRefs_iff {n : Nat} : ∀ {ds : List D}, noRefs n ds = true ↔ ∀ d ∈ ds, noRef n d = true
  | [] => by simp
  | d :: ds => by
    rw [noRefs_cons, Bool.and_eq_true, noRefs_iff (ds := ds)]
    simp
def noRefC (n : Nat) : Cell → Bool
  | .lst ds => noRefs n ds
  | .rol ds => noRefs n ds
  | .dic kvs => noRefs n (kvs.map (·.2))
  | .ins _ fs => noRefs n (fs.map (·.2))
  | .dead => true
section
variable {K : PySem.W.Frag} {L : Lw} {W W' : Wd}
mutual
theorem Rl.known : ∀ {d : D} {v : V}, Rl K L W d v → noRef W.io.length d = true
  | .non, _, _ => by simp
  | .bl _, _, _ => by simp
  | .int _, _, _ => by simp
  | .str _, _, _ => by simp
  | .tup ds, v, h => by
    obtain ⟨a, vs, _, _, h2⟩ := Rl.tup.mp h
    rw [noRef_tup]; exact Rls.known h2
  | .obj c ds, v, h => by
    obtain ⟨a, dx, vs, _, _, _, h2⟩ := Rl.obj.mp h
    rw [noRef_obj]; exact Rls.known h2
  | .ref n, v, h => by
    obtain ⟨a, _, h2⟩ := Rl.ref.mp h
    rw [noRef_ref, decide_eq_true_eq]
    exact (List.getElem?_eq_some_iff.mp h2).1
theorem Rls.known : ∀ {ds : List D} {vs : List V}, Rls K L W ds vs → noRefs W.io.length ds = true
  | [], _, _ => by simp
  | d :: ds, vs, h => by
    obtain ⟨v, vs', _, h1, h2⟩ := Rls.cons.mp h
    rw [noRefs_cons, Rl.known h1, Rls.known h2]; rfl
end
mutual
theorem Rl.cut {n : Nat} (hf : W'.fz = W.fz) (hi : ∀ m a, m < n → W.io[m]? = some a → W'.io[m]? = some a) : ∀ {d : D} {v : V}, noRef n d = true → Rl K L W d v → Rl K L W' d v
  | .non, _, _, h => Rl.non.mpr (Rl.non.mp h)
  | .bl _, _, _, h => Rl.bl.mpr (Rl.bl.mp h)
  | .int _, _, _, h => Rl.int.mpr (Rl.int.mp h)
  | .str _, _, _, h => Rl.str.mpr (Rl.str.mp h)
  | .tup ds, v, q, h => by
    obtain ⟨a, vs, e, h1, h2⟩ := Rl.tup.mp h
    rw [noRef_tup] at q
    exact Rl.tup.mpr ⟨a, vs, e, by rw [hf]; exact h1, Rls.cut hf hi q h2⟩
  | .obj c ds, v, q, h => by
    obtain ⟨a, dx, vs, e, h1, h3, h2⟩ := Rl.obj.mp h
    rw [noRef_obj] at q
    exact Rl.obj.mpr ⟨a, dx, vs, e, by rw [hf]; exact h1, h3, Rls.cut hf hi q h2⟩
  | .ref m, v, q, h => by
    obtain ⟨a, e, h2⟩ := Rl.ref.mp h
    rw [noRef_ref, decide_eq_true_eq] at q
    exact Rl.ref.mpr ⟨a, e, hi m a q h2⟩
theorem Rls.cut {n : Nat} (hf : W'.fz = W.fz) (hi : ∀ m a, m < n → W.io[m]? = some a → W'.io[m]? = some a) : ∀ {ds : List D} {vs : List V}, noRefs n ds = true → Rls K L W ds vs → Rls K L W' ds vs
  | [], _, _, h => Rls.nil.mpr (Rls.nil.mp h)
  | d :: ds, vs, q, h => by
    obtain ⟨v, vs', e, h1, h2⟩ := Rls.cons.mp h
    rw [noRefs_cons, Bool.and_eq_true] at q
    exact Rls.cons.mpr ⟨v, vs', e, Rl.cut hf hi q.1 h1, Rls.cut hf hi q.2 h2⟩
end
theorem RKv.cut {n : Nat} (hf : W'.fz = W.fz) (hi : ∀ m a, m < n → W.io[m]? = some a → W'.io[m]? = some a) {kvs : List (Key × D)} {vs : List (Key × V)} (h : RKv K L W kvs vs) : noRefs n (kvs.map (·.2)) = true → RKv K L W' kvs vs := by
  induction h with
  | nil => exact fun _ => .nil
  | cons r _ ih =>
    intro q
    rw [List.map_cons, noRefs_cons, Bool.and_eq_true] at q
    exact .cons (r.cut hf hi q.1) (ih q.2)
theorem RKv.known {kvs : List (Key × D)} {vs : List (Key × V)} (h : RKv K L W kvs vs) : noRefs W.io.length (kvs.map (·.2)) = true := by
  induction h with
  | nil => simp
  | cons r _ ih => rw [List.map_cons, noRefs_cons, r.known, ih]; rfl
theorem CellR.known {H : Hp} {a : Addr} {c : Cell} (h : CellR K L W H a c) : noRefC W.io.length c = true := by
  cases c with
  | lst ds => obtain ⟨vs, _, h2⟩ := h; exact h2.known
  | rol ds => obtain ⟨vs, _, h2⟩ := h; exact h2.known
  | dic ds => obtain ⟨vs, _, h2⟩ := h; exact h2.known
  | ins c ds => obtain ⟨_, vs, _, h2⟩ := h; exact h2.known
  | dead => rfl
theorem CellR.cut {n : Nat} (hf : W'.fz = W.fz) (hi : ∀ m a, m < n → W.io[m]? = some a → W'.io[m]? = some a) {H : Hp} {a : Addr} {c : Cell} (q : noRefC n c = true) (h : CellR K L W H a c) : CellR K L W' H a c := by
  cases c with
  | lst ds => obtain ⟨vs, h1, h2⟩ := h; exact ⟨vs, h1, h2.cut hf hi q⟩
  | rol ds => obtain ⟨vs, h1, h2⟩ := h; exact ⟨vs, h1, h2.cut hf hi q⟩
  | dic ds => obtain ⟨vs, h1, h2⟩ := h; exact ⟨vs, h1, h2.cut hf hi q⟩
  | ins c ds => obtain ⟨dx, vs, h1, h2⟩ := h; exact ⟨dx, vs, h1, h2.cut hf hi q⟩
  | dead => trivial
end
/-- the cells that stood are as they were, or know nothing new -/
def Kept (st st' : Store) : Prop := ∀ i c, i < st.length → st'[i]? = some c → st[i]? = some c ∨ noRefC st.length c = true
theorem Kept.rfl' (st : Store) (e : Store) : Kept st (st ++ e) := fun i c hi h => by
  rw [List.getElem?_append_left hi] at h; exact .inl h
theorem Kept.set (st : Store) (n : Nat) (c : Cell) (e : Store) (hc : noRefC st.length c = true) : Kept st (st.set n c ++ e) := fun i x hi h => by
  rw [List.getElem?_append_left (by rw [List.length_set]; exact hi)] at h
  by_cases hn : n = i
  · subst hn
    rw [List.getElem?_set_self hi] at h; cases h
    exact .inr hc
  · rw [List.getElem?_set_ne hn] at h
    exact .inl h
open Classical in
noncomputable def tidy (st : Store) (r : Res D) : Res D := match r with
  | .ok d st' =>
    if Kept st st' then
      if noRef st.length d = true then .ok d (st'.take st.length)
      else match d with
        | .ref m => match st'[m]? with
          | some (.lst ds) => if noRefs st.length ds = true then .ok (.ref st.length) (st'.take st.length ++ [.lst ds]) else .ok d st'
          | some (.dic ds) => if noRefs st.length (ds.map (·.2)) = true then .ok (.ref st.length) (st'.take st.length ++ [.dic ds]) else .ok d st'
          | _ => .ok d st'
        | _ => .ok d st'
    else .ok d st'
  | .err x st' => if Kept st st' ∧ noRefs st.length x.ds = true then .err x (st'.take st.length) else .err x st'
  | .stuck => .stuck
theorem tidy_pure {st st' : Store} {d : D} (hk : Kept st st') (hd : noRef st.length d = true) : tidy st (.ok d st') = .ok d (st'.take st.length) := by
  unfold tidy; simp only; rw [if_pos hk, if_pos hd]
theorem tidy_list {st st' : Store} {m : Nat} {ds : List D} (hk : Kept st st') (hm : st.length ≤ m) (hc : st'[m]? = some (.lst ds)) (hd : noRefs st.length ds = true) : tidy st (.ok (.ref m) st') = .ok (.ref st.length) (st'.take st.length ++ [.lst ds]) := by
  have h1 : ¬ noRef st.length (.ref m) = true := by simp; exact hm
  unfold tidy; simp only; rw [if_pos hk, if_neg h1, hc]
  simp only
  rw [if_pos hd]
theorem tidy_err {st st' : Store} {x : Exn} (hk : Kept st st') (hd : noRefs st.length x.ds = true) : tidy st (.err x st') = .err x (st'.take st.length) := by
  unfold tidy; simp only; rw [if_pos ⟨hk, hd⟩]
/-- .. in the common case: nothing that stood was changed -/
theorem tidy_same {st e : Store} {d : D} (hd : noRef st.length d = true) : tidy st (.ok d (st ++ e)) = .ok d st := by
  rw [tidy_pure (Kept.rfl' st e) hd, List.take_left]
theorem tidy_same0 {st : Store} {d : D} (hd : noRef st.length d = true) : tidy st (.ok d st) = .ok d st := by
  have := tidy_same (e := []) hd
  rwa [List.append_nil] at this
theorem tidy_set {st e : Store} {d : D} {n : Nat} {c : Cell} (hc : noRefC st.length c = true) (hd : noRef st.length d = true) : tidy st (.ok d (st.set n c ++ e)) = .ok d (st.set n c) := by
  rw [tidy_pure (Kept.set st n c e hc) hd, List.take_append_of_le_length (by rw [List.length_set]; exact Nat.le_refl _), List.take_of_length_le (by rw [List.length_set]; exact Nat.le_refl _)]
theorem tidy_set0 {st : Store} {d : D} {n : Nat} {c : Cell} (hc : noRefC st.length c = true) (hd : noRef st.length d = true) : tidy st (.ok d (st.set n c)) = .ok d (st.set n c) := by
  have := tidy_set (e := []) (n := n) hc hd
  rwa [List.append_nil] at this
section
variable {K : PySem.W.Frag} {L : Lw} {W W' : Wd} {st st' : Store} {H H' : Hp}
theorem Wd.le_len (e : W.le W') : W.io.length ≤ W'.io.length := by
  cases q : W.io.length with
  | zero => exact Nat.zero_le _
  | succ n =>
    have h1 : n < W.io.length := by rw [q]; exact Nat.lt_succ_self n
    have h2 := e.2 n _ (List.getElem?_eq_getElem h1)
    exact (List.getElem?_eq_some_iff.mp h2).1
/-- the cells behind the n-th forgotten -/
theorem Sok.trunc (s : Sok K L W st H) (s' : Sok K L W' st' H') (e : W.le W') (hk : Kept st st') : W.le ⟨W'.fz, W'.io.take st.length⟩ ∧ Sok K L ⟨W'.fz, W'.io.take st.length⟩ (st'.take st.length) H' ∧
    ∀ m a, m < st.length → W'.io[m]? = some a → (⟨W'.fz, W'.io.take st.length⟩ : Wd).io[m]? = some a := by
  have hi : ∀ m a, m < st.length → W'.io[m]? = some a → (⟨W'.fz, W'.io.take st.length⟩ : Wd).io[m]? = some a := fun m a hm h => by
    show (W'.io.take st.length)[m]? = some a
    rw [List.getElem?_take_of_lt hm]; exact h
  have back : ∀ {n x}, (st'.take st.length)[n]? = some x → n < st.length ∧ st'[n]? = some x := fun {n x} h => by
    have hl : n < (st'.take st.length).length := (List.getElem?_eq_some_iff.mp h).1
    rw [List.length_take] at hl
    have hn : n < st.length := by omega
    rw [List.getElem?_take_of_lt hn] at h
    exact ⟨hn, h⟩
  have backI : ∀ {n : Nat} {a : Addr}, (W'.io.take st.length)[n]? = some a → W'.io[n]? = some a := fun {n a} h => by
    have hl : n < (W'.io.take st.length).length := (List.getElem?_eq_some_iff.mp h).1
    rw [List.length_take] at hl
    rwa [List.getElem?_take_of_lt (by omega)] at h
  refine ⟨⟨e.1, fun m a h => ?_⟩, ⟨s'.fz, ?_, fun n c a h1 h2 => ?_, fun n c a h1 h2 h3 => ?_, fun m n c c' a h1 h2 l1 l2 h3 h4 => ?_⟩, hi⟩
  · have hm : m < st.length := by rw [s.len]; exact (List.getElem?_eq_some_iff.mp h).1
    exact hi m a hm (e.2 m a h)
  · show (st'.take st.length).length = (W'.io.take st.length).length
    rw [List.length_take, List.length_take, s'.len]
  · obtain ⟨hn, h1⟩ := back h1
    have h2 := backI h2
    refine CellR.cut (W := W') (n := st.length) (by rfl) hi ?_ (s'.cell n c a h1 h2)
    rcases hk n c hn h1 with h | h
    · have hl : n < W.io.length := by rw [← s.len]; exact hn
      have := (s.cell n c _ h (List.getElem?_eq_getElem hl)).known
      rwa [← s.len] at this
    · exact h
  · exact s'.ap n c a (back h1).2 h2 (backI h3)
  · exact s'.inj m n c c' a (back h1).2 (back h2).2 l1 l2 (backI h3) (backI h4)
/-- .. but for one, which becomes the last -/
theorem Sok.trunc1 (s : Sok K L W st H) (s' : Sok K L W' st' H') (e : W.le W') (hk : Kept st st') {m : Nat} {a : Addr} {c : Cell} (hm : st.length ≤ m) (hc : st'[m]? = some c) (ha : W'.io[m]? = some a) (hl : c.live = true) (hr : noRefC st.length c = true) :
    W.le ⟨W'.fz, W'.io.take st.length ++ [a]⟩ ∧ Sok K L ⟨W'.fz, W'.io.take st.length ++ [a]⟩ (st'.take st.length ++ [c]) H' ∧ (W'.io.take st.length).length = st.length := by
  obtain ⟨e1, s1, hi⟩ := s.trunc s' e hk
  have hlen : (st'.take st.length).length = st.length := by
    rw [List.length_take]
    have := (List.getElem?_eq_some_iff.mp hc).1
    omega
  have hlenI : (W'.io.take st.length).length = st.length := by
    have z : (st'.take st.length).length = (W'.io.take st.length).length := s1.len
    rw [← z]; exact hlen
  have hi' : ∀ m a', m < st.length → W'.io[m]? = some a' → (⟨W'.fz, W'.io.take st.length ++ [a]⟩ : Wd).io[m]? = some a' := fun m a' hm h => by
    show (W'.io.take st.length ++ [a])[m]? = some a'
    rw [List.getElem?_append_left (by rw [hlenI]; exact hm)]
    exact hi m a' hm h
  have split : ∀ {n x b}, (st'.take st.length ++ [c])[n]? = some x → (W'.io.take st.length ++ [a])[n]? = some b → (n < st.length ∧ (st'.take st.length)[n]? = some x ∧ (W'.io.take st.length)[n]? = some b) ∨ (n = st.length ∧ x = c ∧ b = a) := fun {n x b} h1 h2 => by
    by_cases hn : n < st.length
    · rw [List.getElem?_append_left (by rw [hlen]; exact hn)] at h1
      rw [List.getElem?_append_left (by rw [hlenI]; exact hn)] at h2
      exact .inl ⟨hn, h1, h2⟩
    · have hl2 : n < (st'.take st.length ++ [c]).length := (List.getElem?_eq_some_iff.mp h1).1
      rw [List.length_append, List.length_singleton, hlen] at hl2
      have hn' : n = st.length := by omega
      subst hn'
      rw [List.getElem?_append_right (by rw [hlen]; exact Nat.le_refl _), hlen, Nat.sub_self] at h1
      rw [List.getElem?_append_right (by rw [hlenI]; exact Nat.le_refl _), hlenI, Nat.sub_self] at h2
      simp at h1 h2
      exact .inr ⟨rfl, h1.symm, h2.symm⟩
  have old : ∀ {n x b}, (st'.take st.length)[n]? = some x → (W'.io.take st.length)[n]? = some b → n < st.length → st'[n]? = some x ∧ W'.io[n]? = some b := fun {n x b} h1 h2 hn => by
    rw [List.getElem?_take_of_lt hn] at h1 h2
    exact ⟨h1, h2⟩
  refine ⟨⟨e1.1, fun n b h => ?_⟩, ⟨s1.fz, ?_, fun n x b h1 h2 => ?_, fun n x b h1 h2 h3 => ?_, fun p n x y b h1 h2 l1 l2 h3 h4 => ?_⟩, hlenI⟩
  · have hn : n < st.length := by rw [s.len]; exact (List.getElem?_eq_some_iff.mp h).1
    exact hi' n b hn (e.2 n b h)
  · show (st'.take st.length ++ [c]).length = (W'.io.take st.length ++ [a]).length
    rw [List.length_append, List.length_append, hlen, hlenI]; rfl
  · rcases split h1 h2 with ⟨hn, g1, g2⟩ | ⟨_, rfl, rfl⟩
    · have kn : noRefC st.length x = true := by
        rcases hk n x hn (old g1 g2 hn).1 with h | h
        · have hl : n < W.io.length := by rw [← s.len]; exact hn
          have := (s.cell n x _ h (List.getElem?_eq_getElem hl)).known
          rwa [← s.len] at this
        · exact h
      exact CellR.cut (W := W') (n := st.length) (by rfl) hi' kn (s'.cell n x b (old g1 g2 hn).1 (old g1 g2 hn).2)
    · exact CellR.cut (W := W') (n := st.length) (by rfl) hi' hr (s'.cell m x b hc ha)
  · rcases split h1 h3 with ⟨hn, g1, g2⟩ | ⟨_, rfl, rfl⟩
    · exact s'.ap n x b (old g1 g2 hn).1 h2 (old g1 g2 hn).2
    · exact s'.ap m x b hc h2 ha
  · rcases split h1 h3 with ⟨hn, g1, g2⟩ | ⟨rfl, rfl, rfl⟩
    · rcases split h2 h4 with ⟨hn2, g3, g4⟩ | ⟨rfl, rfl, rfl⟩
      · exact s'.inj p n x y b (old g1 g2 hn).1 (old g3 g4 hn2).1 l1 l2 (old g1 g2 hn).2 (old g3 g4 hn2).2
      · have := s'.inj p m x y b (old g1 g2 hn).1 hc l1 l2 (old g1 g2 hn).2 ha
        omega
    · rcases split h2 h4 with ⟨hn2, g3, g4⟩ | ⟨rfl, rfl, _⟩
      · have := s'.inj m n x y b hc (old g3 g4 hn2).1 l1 l2 ha (old g3 g4 hn2).2
        omega
      · rfl
theorem tidy_ok {Wx : WX} {σ : St} {Q : VK} {r : Res D} (s : Sok K L W st H) (o : Out K L Wx W σ (okE K L Q) (tidy st r)) : Out K L Wx W σ (okE K L Q) r := by
  cases r with
  | stuck => exact o
  | err x st' =>
    intro W' H' cls dx e S' R
    unfold tidy at o
    simp only at o
    split at o
    · rename_i h
      obtain ⟨e2, S2, hi⟩ := s.trunc S' e h.1
      refine o _ H' cls dx e2 S2 ⟨R.1, ?_⟩
      rcases R.2 with h2 | ⟨d, vs, h2, h3, h4, h5⟩
      · exact .inl h2
      · exact .inr ⟨d, vs, h2, h3, h4, Rls.cut (W := W') (n := st.length) (by rfl) hi h.2 h5⟩
    · exact o W' H' cls dx e S' R
  | ok d st' =>
    intro W' H' e S' v R
    unfold tidy at o
    simp only at o
    split at o
    · rename_i hk
      split at o
      · rename_i hd
        obtain ⟨e2, S2, hi⟩ := s.trunc S' e hk
        exact o _ H' e2 S2 v (Rl.cut (W := W') (n := st.length) (by rfl) hi hd R)
      · rename_i hd
        split at o
        · rename_i m
          have hm : st.length ≤ m := by
            have : ¬ m < st.length := fun z => hd (by simp [z])
            omega
          obtain ⟨a, ev, ha⟩ := Rl.ref.mp R
          split at o
          · rename_i ds hc
            split at o
            · rename_i hr
              obtain ⟨e2, S2, hl⟩ := s.trunc1 S' e hk hm hc ha rfl hr
              refine o _ H' e2 S2 v (Rl.ref.mpr ⟨a, ev, ?_⟩)
              show (W'.io.take st.length ++ [a])[st.length]? = some a
              rw [List.getElem?_append_right (by rw [hl]; exact Nat.le_refl _), hl, Nat.sub_self]; rfl
            · exact o W' H' e S' v R
          · rename_i ds hc
            split at o
            · rename_i hr
              obtain ⟨e2, S2, hl⟩ := s.trunc1 S' e hk hm hc ha rfl hr
              refine o _ H' e2 S2 v (Rl.ref.mpr ⟨a, ev, ?_⟩)
              show (W'.io.take st.length ++ [a])[st.length]? = some a
              rw [List.getElem?_append_right (by rw [hl]; exact Nat.le_refl _), hl, Nat.sub_self]; rfl
            · exact o W' H' e S' v R
          · exact o W' H' e S' v R
        · exact o W' H' e S' v R
    · exact o W' H' e S' v R
end
end Gm
namespace Gm
open PySem PySem.Spec PyProof.Rows L2
/-! ### statements -/
def sNo : Fs := fun _ _ => .stuck
def sNx : Fs := fun ρ st => .nx ρ st
def sBk : Fs := fun ρ st => .bk ρ st
def sCt : Fs := fun ρ st => .ct ρ st
def SR.seq (r : SR) (b : Fs) : SR := match r with
  | .nx ρ st => b ρ st
  | r => r
@[simp] theorem SR.seq_nx (ρ : Ev) (st : Store) (b : Fs) : (SR.nx ρ st).seq b = b ρ st := rfl
@[simp] theorem SR.seq_rt (d : D) (st : Store) (b : Fs) : (SR.rt d st).seq b = .rt d st := rfl
@[simp] theorem SR.seq_bk (ρ : Ev) (st : Store) (b : Fs) : (SR.bk ρ st).seq b = .bk ρ st := rfl
@[simp] theorem SR.seq_ct (ρ : Ev) (st : Store) (b : Fs) : (SR.ct ρ st).seq b = .ct ρ st := rfl
@[simp] theorem SR.seq_err (x : Exn) (ρ : Ev) (st : Store) (b : Fs) : (SR.err x ρ st).seq b = .err x ρ st := rfl
@[simp] theorem SR.seq_stuck (b : Fs) : SR.stuck.seq b = .stuck := rfl
def sSeq (a b : Fs) : Fs := fun ρ st => (a ρ st).seq b
def sRet (f : Fe) : Fs := fun ρ st => (f ρ st).toS ρ fun d st => .rt d st
def sRetN : Fs := fun _ st => .rt .non st
def sIf (t : Ft) (a b : Fs) : Fs := fun ρ st => (t ρ st).toS ρ fun q st => if q then a ρ st else b ρ st
def sExpr (f : Fe) : Fs := fun ρ st => (f ρ st).toS ρ fun _ st => .nx ρ st
abbrev Fg := D → Ev → Store → Res Ev
def sAsg (f : Fe) (g : Fg) : Fs := fun ρ st => (f ρ st).toS ρ fun d st => match g d ρ st with
  | .ok ρ' st' => .nx ρ' st'
  | _ => .stuck
def gNm (i : Nat) : Fg := fun d ρ st => .ok (ρ.set i (some d)) st
def gsNil : List D → Ev → Store → Res Ev := fun ds ρ st => match ds with | [] => .ok ρ st | _ => .stuck
def gsCons (g : Fg) (r : List D → Ev → Store → Res Ev) : List D → Ev → Store → Res Ev := fun ds ρ st => match ds with
  | d :: ds => (g d ρ st).bind fun ρ st => r ds ρ st
  | [] => .stuck
def gTp (r : List D → Ev → Store → Res Ev) : Fg := fun d ρ st => match d with
  | .tup ds => r ds ρ st
  | _ => .stuck
/-- a, b = x, y -/
def sPar (i j : Nat) (r : Fa) : Fs := fun ρ st => (r ρ st).toS ρ fun ds st => match ds with
  | [d, e] => .nx ((ρ.set i (some d)).set j (some e)) st
  | _ => .stuck

section
variable {L : Lw} {X : Cx} {Wx : WX} {e : Expr} {f : Fe} {pos : Pos}
theorem rs_no {st : Stmt} : RS L X Wx st sNo := ⟨fun _ _ _ _ _ _ _ _ _ _ _ o => o.elim⟩
theorem rss_no {st : List Stmt} : RSs L X Wx st sNo := ⟨fun _ _ _ _ _ _ _ _ _ _ _ o => o.elim⟩
theorem rss_nil : RSs L X Wx [] sNx := ⟨fun _ _ σ H W sto ρ D I S E o => wpAny_execs_nil ⟨σ, H, I, o W H σ .rfl' S E⟩⟩
theorem rss_cons {st : Stmt} {rest : List Stmt} {a b : Fs} (h1 : RS L X Wx st a) (h2 : RSs L X Wx rest b) : RSs L X Wx (st :: rest) (sSeq a b) := by
  refine ⟨fun pins s σ H W sto ρ D I S E o => ?_⟩
  unfold sSeq at o
  have go : ∀ D', OutS X.K L Wx W D' (a ρ sto) → (∀ σ' H', D'.nx σ' H' → ∃ W' ρ' st', Sok X.K L W' st' H' ∧ EnR X.K L W' σ' ρ' ∧ OutS X.K L Wx W' D (b ρ' st')) → D'.rt = D.rt → D'.bk = D.bk → D'.ct = D.ct →
      wpAny (model X.prog X.w) X.A (execs (st :: rest) X.env) (SP X pins D) X.xe s := fun D' o' hn hr hb hc => by
    refine wpAny_execs_cons (thn (h1.run pins s σ H W sto ρ D' I S E o') fun fl s1 q => ?_)
    cases fl with
    | next =>
      obtain ⟨σ', H', I', q⟩ := q
      obtain ⟨W', ρ', st', S', E', o2⟩ := hn σ' H' q
      exact h2.run pins s1 σ' H' W' st' ρ' D I' S' E' o2
    | ret v => obtain ⟨v', σ', H', I', r', q⟩ := q; exact ⟨v', σ', H', I', r', by rw [← hr]; exact q⟩
    | brk => obtain ⟨σ', H', I', q⟩ := q; exact ⟨σ', H', I', by rw [← hb]; exact q⟩
    | cont => obtain ⟨σ', H', I', q⟩ := q; exact ⟨σ', H', I', by rw [← hc]; exact q⟩
  cases q : a ρ sto with
  | nx ρ' st' =>
    rw [q] at o
    refine go { D with nx := fun σ' H' => ∃ W', W.le W' ∧ Sok X.K L W' st' H' ∧ EnR X.K L W' σ' ρ' } (by rw [q]; exact fun W' H' σ' e' S' E' => ⟨W', e', S', E'⟩) (fun σ' H' ⟨W', e', S', E'⟩ => ⟨W', ρ', st', S', E', OutS.mono e' o⟩) rfl rfl rfl
  | rt d st' => rw [q] at o; exact go { D with nx := fun _ _ => False } (by rw [q]; exact o) (fun _ _ z => z.elim) rfl rfl rfl
  | bk d st' => rw [q] at o; exact go { D with nx := fun _ _ => False } (by rw [q]; exact o) (fun _ _ z => z.elim) rfl rfl rfl
  | ct d st' => rw [q] at o; exact go { D with nx := fun _ _ => False } (by rw [q]; exact o) (fun _ _ z => z.elim) rfl rfl rfl
  | err x d st' => rw [q] at o; exact go { D with nx := fun _ _ => False } (by rw [q]; exact o) (fun _ _ z => z.elim) rfl rfl rfl
  | stuck => rw [q] at o; exact o.elim
theorem rss_one {st : Stmt} {a : Fs} (h1 : RS L X Wx st a) : RSs L X Wx [st] a := by
  have h := rss_cons h1 rss_nil
  refine ⟨fun pins s σ H W sto ρ D I S E o => h.run pins s σ H W sto ρ D I S E ?_⟩
  unfold sSeq
  revert o
  cases a ρ sto with
  | nx ρ' st' => exact id
  | _ => exact id
theorem rs_pass : RS L X Wx (.Pass pos) sNx := ⟨fun _ _ σ H W sto ρ D I S E o => wpAny_Pass ⟨σ, H, I, o W H σ .rfl' S E⟩⟩
theorem rs_break : RS L X Wx (.Break pos) sBk := ⟨fun _ _ σ H W sto ρ D I S E o => wpAny_Break ⟨σ, H, I, o W H σ .rfl' S E⟩⟩
theorem rs_continue : RS L X Wx (.Continue pos) sCt := ⟨fun _ _ σ H W sto ρ D I S E o => wpAny_Continue ⟨σ, H, I, o W H σ .rfl' S E⟩⟩
theorem rs_ret (he : RE L X Wx e f) : RS L X Wx (.Return (some e) pos) (sRet f) :=
  ⟨fun pins s σ H W sto ρ D I S E o => wpAny_Return_some (he.bindS I S E o fun d st1 W1 H1 v u s1 e1 I1 S1 R1 r1 o1 => ⟨v, σ, H1, I1, r1, o1 W1 H1 v .rfl' S1 R1⟩)⟩
theorem rs_retN : RS L X Wx (.Return none pos) sRetN := ⟨fun _ _ σ H W sto ρ D I S E o => wpAny_Return_none ⟨.non, σ, H, I, rfl, o W H .non .rfl' S (Rl.non.mpr rfl)⟩⟩
theorem rs_if {c : Expr} {a b : List Stmt} {t : Ft} {fa fb : Fs} (hc : RT L X Wx c t) (ha : RSs L X Wx a fa) (hb : RSs L X Wx b fb) : RS L X Wx (.If c a b pos) (sIf t fa fb) :=
  ⟨fun pins s σ H W sto ρ D I S E o => wpAny_If (hc.bindS I S E o fun q st1 W1 H1 s1 e1 I1 S1 o1 => by
    cases q with
    | true => exact ha.run pins s1 σ H1 W1 st1 ρ D I1 S1 (E.mono e1) o1
    | false => exact hb.run pins s1 σ H1 W1 st1 ρ D I1 S1 (E.mono e1) o1)⟩
theorem rs_expr (he : RE L X Wx e f) (hs : swapsWith e none pos.line X.env = pure false := by rfl) : RS L X Wx (.Expr e pos) (sExpr f) :=
  ⟨fun pins s σ H W sto ρ D I S E o => wpAny_Expr_any (he.bindS I S E o fun d st1 W1 H1 v u s1 e1 I1 S1 R1 r1 o1 => ⟨σ, H1, I1, o1 W1 H1 σ .rfl' S1 (E.mono e1)⟩) I.quiet hs⟩

/-! ### targets -/
def OutG (K : PySem.W.Frag) (L : Lw) (W : Wd) (Q : Ev → Store → St → Hp → Prop) : Res Ev → Prop
  | .ok ρ st => ∀ W' H' σ', W.le W' → Sok K L W' st H' → EnR K L W' σ' ρ → Q ρ st σ' H'
  | _ => False
/-- slots outside ts are as they were -/
def Fram (ts : List Nat) (σ σ' : St) : Prop := σ'.length = σ.length ∧ ∀ i, i ∉ ts → σ'[i]? = σ[i]?
theorem Fram.rfl' {ts : List Nat} {σ : St} : Fram ts σ σ := ⟨rfl, fun _ _ => rfl⟩
theorem Fram.trans {ts us : List Nat} {σ σ1 σ2 : St} (a : Fram ts σ σ1) (b : Fram us σ1 σ2) : Fram (ts ++ us) σ σ2 := ⟨b.1.trans a.1, fun i h => by
  rw [List.mem_append, not_or] at h
  rw [b.2 i h.2, a.2 i h.1]⟩
structure RG (L : Lw) (X : Cx) (target : Expr) (g : Fg) (ts : List Nat) : Prop where
  run : ∀ (pins : List (Addr × Obj)) (s : Shared) (σ : St) (H : Hp) (W : Wd) (st : Store) (ρ : Ev) (d : D) (v : V) (u : Value) (ρ' : Ev) (st' : Store), Inv X pins σ H s → Sok X.K L W st H → EnR X.K L W σ ρ → Rl X.K L W d v → RelV v u → g d ρ st = .ok ρ' st' →
    wpAny (model X.prog X.w) X.A (assign target X.env u) (fun _ s' => ∃ W' σ' H', W.le W' ∧ Inv X pins σ' H' s' ∧ Sok X.K L W' st' H' ∧ EnR X.K L W' σ' ρ' ∧ Fram ts σ σ') X.xe s
structure RGs (L : Lw) (X : Cx) (tgs : List Expr) (g : List D → Ev → Store → Res Ev) (ts : List Nat) : Prop where
  run : ∀ (pins : List (Addr × Obj)) (s : Shared) (σ : St) (H : Hp) (W : Wd) (st : Store) (ρ : Ev) (ds : List D) (vs : List V) (us : List Value) (ρ' : Ev) (st' : Store), Inv X pins σ H s → Sok X.K L W st H → EnR X.K L W σ ρ → Rls X.K L W ds vs → Vals vs us → g ds ρ st = .ok ρ' st' →
    wpAny (model X.prog X.w) X.A (assignInOrder ((assignEach tgs X.env).map (·.2)) us) (fun _ s' => ∃ W' σ' H', W.le W' ∧ Inv X pins σ' H' s' ∧ Sok X.K L W' st' H' ∧ EnR X.K L W' σ' ρ' ∧ Fram ts σ σ') X.xe s
  len : ∀ ds ρ st ρ' st', g ds ρ st = .ok ρ' st' → ds.length = tgs.length
theorem EnR.set {K : PySem.W.Frag} {W : Wd} {σ : St} {ρ : Ev} {i : Nat} {d : D} {v : V} (E : EnR K L W σ ρ) (R : Rl K L W d v) : EnR K L W (σ.set i (some v)) (ρ.set i (some d)) := by
  refine ⟨by rw [List.length_set, List.length_set]; exact E.1, fun j d' h => ?_⟩
  by_cases hj : i = j
  · subst hj
    have hl : i < ρ.length := by
      have := (List.getElem?_eq_some_iff.mp h).1
      rwa [List.length_set] at this
    rw [List.getElem?_set_self hl] at h
    cases h
    exact ⟨v, by rw [List.getElem?_set_self (by rw [← E.1]; exact hl)], R⟩
  · rw [List.getElem?_set_ne hj] at h
    obtain ⟨v', h1, h2⟩ := E.2 j d' h
    exact ⟨v', by rw [List.getElem?_set_ne hj]; exact h1, h2⟩
theorem rg_name {i : Nat} {x : Str} (p : PG X (.Name x pos) (gName i)) : RG L X (.Name x pos) (gNm i) [i] := by
  refine ⟨fun pins s σ H W st ρ d v u ρ' st' I S E R r o => ?_⟩
  unfold gNm at o
  cases o
  refine thn (p.run pins s σ H v u (fun σ' H' => σ' = σ.set i (some v) ∧ H' = H) I r ⟨rfl, rfl⟩) fun _ s' ⟨σ', H', I', e1, e2⟩ => ?_
  subst e1; subst e2
  exact ⟨W, _, _, .rfl', I', S, E.set R, by rw [List.length_set], fun j hj => List.getElem?_set_ne (fun e => hj (by simp [e]))⟩
theorem rgs_nil : RGs L X [] gsNil [] := by
  refine ⟨fun pins s σ H W st ρ ds vs us ρ' st' I S E R r o => ?_, fun ds ρ st ρ' st' o => ?_⟩
  · unfold gsNil at o
    cases ds with
    | nil =>
      cases o
      rw [Rls.nil.mp R] at r
      cases r
      exact assignInOrder_nil ⟨W, σ, H, .rfl', I, S, E, .rfl'⟩
    | cons _ _ => cases o
  · unfold gsNil at o
    cases ds with
    | nil => rfl
    | cons _ _ => cases o
theorem rgs_cons {t : Expr} {ts : List Expr} {g : Fg} {r : List D → Ev → Store → Res Ev} {s1 s2 : List Nat} (h1 : RG L X t g s1) (h2 : RGs L X ts r s2)
    (hs : (assignEach (t :: ts) X.env).map (·.2) = assign t X.env :: (assignEach ts X.env).map (·.2) := by rfl) : RGs L X (t :: ts) (gsCons g r) (s1 ++ s2) := by
  refine ⟨fun pins s σ H W st ρ ds vs us ρ' st' I S E R rr o => ?_, fun ds ρ st ρ' st' o => ?_⟩
  · unfold gsCons at o
    cases ds with
    | nil => cases o
    | cons d ds =>
      obtain ⟨v, vs', rfl, R1, R2⟩ := Rls.cons.mp R
      cases rr with
      | cons r1 r2 =>
        rw [hs]
        dsimp only at o
        cases q : g d ρ st with
        | ok ρ1 st1 =>
          rw [q, Res.bind_ok] at o
          refine assignInOrder_cons (thn (h1.run pins s σ H W st ρ d v _ ρ1 st1 I S E R1 r1 q) fun _ s1 ⟨W1, σ1, H1, e1, I1, S1, E1, F1⟩ => ?_)
          exact thn (h2.run pins s1 σ1 H1 W1 st1 ρ1 ds vs' _ ρ' st' I1 S1 E1 (R2.mono e1) r2 o) fun _ s2 ⟨W2, σ2, H2, e2, I2, S2, E2, F2⟩ => ⟨W2, σ2, H2, e1.trans e2, I2, S2, E2, F1.trans F2⟩
        | err x st1 => rw [q] at o; cases o
        | stuck => rw [q] at o; cases o
  · unfold gsCons at o
    cases ds with
    | nil => cases o
    | cons d ds =>
      dsimp only at o
      cases q : g d ρ st with
      | ok ρ1 st1 => rw [q, Res.bind_ok] at o; rw [List.length_cons, List.length_cons, h2.len _ _ _ _ _ o]
      | err x st1 => rw [q] at o; cases o
      | stuck => rw [q] at o; cases o
theorem rg_tup {es : List Expr} {k : Nat} {r : List D → Ev → Store → Res Ev} {ts : List Nat} (hc : X.calm = true) (h : RGs L X es r ts)
    (hn : (assignEach es X.env).length = es.length := by rfl) (hst : (assignEach es X.env).findIdx? (·.1) = none := by rfl) : RG L X (.Tuple es k pos) (gTp r) ts := by
  refine ⟨fun pins s σ H W st ρ d v u ρ' st' I S E R rr o => ?_⟩
  unfold gTp at o
  cases d with
  | tup ds =>
    dsimp only at o
    obtain ⟨a, vs, rfl, h1, h2⟩ := Rl.tup.mp R
    cases rr
    obtain ⟨its, rv, ht, hz⟩ := I.tuple (SqT_mono S.fz h1)
    have hl := h.len _ _ _ _ _ o
    refine assign_Tuple_tuple (I.ok.hd hc) ht (by simp only [List.size_toArray]; rw [hn, ← hl, h2.length, rv.length]) hst fun h' hx => ?_
    have I1 : Inv X pins σ H { s with heap := h' } := I.kept (t' := s.toks) fun b o e => hx b o (Nat.ne_of_lt (Heap.lt_size e)) e
    exact h.run pins _ σ H W st ρ ds vs _ ρ' st' I1 S E h2 (by simpa using rv) o
  | _ => cases o
theorem rs_asg {tg : Expr} {g : Fg} {ts : List Nat} (he : RE L X Wx e f) (hg : RG L X tg g ts) (hs : swapsWithSole [tg] e pos.line X.env = pure false := by rfl) (hw : swappedStores [tg] e X.env = pure none := by rfl)
    (h1 : (assignEach [tg] X.env).map (·.2) = [assign tg X.env] := by rfl) : RS L X Wx (.Assign [tg] e pos) (sAsg f g) := by
  refine ⟨fun pins s σ H W sto ρ D I S E o => wpAny_Assign_stores (he.bindS I S E o fun d st1 W1 H1 v u s1 e1 I1 S1 R1 r1 o1 => ?_) hs hw⟩
  rw [h1]
  cases q : g d ρ st1 with
  | ok ρ' st' =>
    rw [q] at o1
    exact thn (hg.run pins s1 σ H1 W1 st1 ρ d v u ρ' st' I1 S1 (E.mono e1) R1 r1 q) fun _ s2 ⟨W2, σ2, H2, e2, I2, S2, E2, _⟩ => ⟨σ2, H2, I2, o1 W2 H2 σ2 e2 S2 E2⟩
  | err x st' => rw [q] at o1; exact o1.elim
  | stuck => rw [q] at o1; exact o1.elim
theorem rs_set {i : Nat} {x : Str} {pos' : Pos} (hN : X.N.Nodup) (hi : X.N[i]? = some x) (hx : Loc X.env.scope x) (he : RE L X Wx e f) (hs : swapsWith e (some (.Name x pos')) pos.line X.env = pure false := by rfl) (hf : X.fn x = true ∨ X.env.scope.names.lookup x = some .local := by first | exact .inl rfl | exact .inr rfl | assumption) :
    RS L X Wx (.Assign [.Name x pos'] e pos) (sAsg f (gNm i)) := by
  refine ⟨fun pins s σ H W sto ρ D I S E o => wpAny_Assign_Name (he.bindS I S E o fun d st1 W1 H1 v u s1 e1 I1 S1 R1 r1 o1 => ?_) hs⟩
  exact store_ok I1 hN hi hx r1 (fun s2 I2 => ⟨_, H1, I2, o1 W1 H1 _ .rfl' S1 ((E.mono e1).set R1)⟩) hf
/-- from the library's rule for a, b = x, y -/
theorem rs_par {i j : Nat} {x y : Str} {a b : Expr} {r : Fa} {px py pt : Pos} {kt k2 : _} {pt2 : Pos} (hc : X.calm = true) (hN : X.N.Nodup) (hi : X.N[i]? = some x) (hj : X.N[j]? = some y) (hij : i ≠ j)
    (hx : X.env.scope.names.lookup x = some .local) (hy : X.env.scope.names.lookup y = some .local) (ha : RA L X Wx [a, b] r)
    (hw : swappedStores [.Tuple [.Name x px, .Name y py] kt pt] (.Tuple [a, b] k2 pt2) X.env = pure (some [x, y]) := by rfl)
    (hs : swapsWithSole [.Tuple [.Name x px, .Name y py] kt pt] (.Tuple [a, b] k2 pt2) pos.line X.env = pure false := by rfl) :
    RS L X Wx (.Assign [.Tuple [.Name x px, .Name y py] kt pt] (.Tuple [a, b] k2 pt2) pos) (sPar i j r) := by
  have hlen := ha.len
  refine ⟨fun pins s σ H W sto ρ D I S E o => ?_⟩
  cases q : r ρ sto with
  | ok ds st1 =>
    have hl := hlen _ _ _ _ q
    unfold sPar at o
    rw [q, Res.toS_ok] at o
    match ds, hl with
    | [d1, d2], _ =>
      dsimp only at o
      have p : PA X [a, b] (fun σ' H' Q => σ' = σ ∧ H' = H ∧ ∀ W1 H1 vs, W.le W1 → Sok X.K L W1 st1 H1 → Rls X.K L W1 [d1, d2] vs → Q vs H1) :=
        ⟨fun pos pins' s' σ' H' Q I' h' => by
          obtain ⟨e1, e2, h'⟩ := h'
          subst e1; subst e2
          refine ha.run pos pins' s' σ' H' W sto ρ Q I' S E ?_
          rw [q]
          exact fun W' H' e' S' vs R' => h' W' H' vs e' S' R'⟩
      refine (ps_par hc hN hi hj hij hx hy p hw hs).run pins s σ H D I ⟨rfl, rfl, fun W1 H1 vs e1 S1 R1 => ?_⟩
      obtain ⟨v, vs1, rfl, Ra, R1⟩ := Rls.cons.mp R1
      obtain ⟨w, vs2, rfl, Rb, R1⟩ := Rls.cons.mp R1
      rw [Rls.nil.mp R1]
      exact ⟨v, w, rfl, o W1 H1 _ e1 S1 (((E.mono e1).set Ra).set Rb)⟩
  | err x st1 =>
    unfold sPar at o
    rw [q, Res.toS_err] at o
    have p : PA X [a, b] (fun σ' H' Q => σ' = σ ∧ H' = H) :=
      ⟨fun pos pins' s' σ' H' Q I' h' => by
        obtain ⟨e1, e2⟩ := h'
        subst e1; subst e2
        refine thn (ha.run pos pins' s' σ' H' W sto ρ (fun _ _ => False) I' S E ?_) fun _ _ ⟨_, _, _, _, z⟩ => z.elim
        rw [q]
        exact fun W' H' cls dx e' S' R' => o W' H' σ' cls dx e' S' (E.mono e') R'⟩
    exact (ps_par hc hN hi hj hij hx hy p hw hs).run pins s σ H D I ⟨rfl, rfl⟩
  | stuck => unfold sPar at o; rw [q, Res.toS_stuck] at o; exact o.elim
end
end Gm
namespace Gm
open PySem PySem.Spec PyProof.Rows L2
/-! ### a def -/
def startE (n : Nat) (ds : List D) : Ev := ds.map some ++ List.replicate (n - ds.length) none
def runB (n : Nat) (b : Fs) (ds : List D) (st : Store) : Res D := match b (startE n ds) st with
  | .nx _ st => .ok .non st
  | .rt d st => .ok d st
  | .err x _ st => .err x st
  | _ => .stuck
noncomputable def fnD (n : Nat) (b : Fs) : List D → Store → Res D := fun ds st => tidy st (runB n b ds st)
/-- a def of the text as it stands behind the top, whatever its defaults -/
structure FunG (K : PySem.W.Frag) (x qual : Str) (st : Stmt) (f : Addr) (fd : FuncData) : Prop where
  ex : ∃ (oc : Value) (od : Option Addr) (dV kV doc pm : Value) (an : Option Addr) (cdv ct : Value) (osl : Array (Option Value)),
    fd = PySem.W.fnOf x qual (defArgs st) (defBody st) (defScope st) dV kV doc pm an cdv ct ∧ K.lookup f = some ⟨oc, od, .func fd, osl⟩ ∧ PySem.W.codeIn K cdv qual = true
theorem start_ok {K : PySem.W.Frag} {L : Lw} {W : Wd} : ∀ {ds : List D} {vs : List V} (n : Nat), Rls K L W ds vs → EnR K L W (vs.map some ++ List.replicate (n - vs.length) none) (startE n ds) := by
  intro ds vs n h
  refine ⟨?_, fun i d e => ?_⟩
  · unfold startE
    rw [List.length_append, List.length_append, List.length_map, List.length_map, List.length_replicate, List.length_replicate, h.length]
  · unfold startE at e
    by_cases hi : i < ds.length
    · rw [List.getElem?_append_left (by rw [List.length_map]; exact hi), List.getElem?_map] at e
      cases q : ds[i]? with
      | none => rw [q] at e; cases e
      | some d' =>
        rw [q] at e
        cases e
        obtain ⟨v, h1, h2⟩ := h.get q
        refine ⟨v, ?_, h2⟩
        rw [List.getElem?_append_left (by rw [List.length_map, ← h.length]; exact hi), List.getElem?_map, h1]
        rfl
    · rw [List.getElem?_append_right (by rw [List.length_map]; omega)] at e
      rw [List.getElem?_replicate] at e
      split at e <;> cases e
section
variable {P : Program} {w : World} {K : PySem.W.Frag} {mg : Str → Option Value} {base : Heap} {L : Lw}
theorem fn_rule {x qual : Str} {st : Stmt} {f : Addr} {fd : FuncData} {N ps : List Str} {k : Nat} {c : Fn} {b : Fs} (F : FunG K x qual st f fd) (S : FnScope N ps (defScope st)) (fo : FOk L P w K mg base k c)
    (hc : ∀ (cdv : Value) (A : Around) (outer : List Env) (s : Shared) (H : Hp) (E : XK), (cxOf (L2.CX P w) P w K mg base N qual (defScope st) f cdv A outer s H E).calm = true)
    (hbody : ∀ (X : Cx) (Wx : WX), (∃ (cdv : Value) (A : Around) (outer : List Env) (s : Shared) (H : Hp) (E : XK), X = cxOf (L2.CX P w) P w K mg base N qual (defScope st) f cdv A outer s H E) → Gd L X Wx k c → RSs L X Wx (defBody st) b) :
    FnOk P w K mg base (L2.CX P w) (k + 10) f fd ps (spM K L ps.length (fnD N.length b)) := by
  obtain ⟨oc, od, dV, kV, doc, pm, an, cdv, ct, osl, rfl, lk, hcd⟩ := F.ex
  refine fn_of lk hcd S (fun vs H Q E h => h.1) fun A outer s H vs Q E hr hsp => ?_
  obtain ⟨hl, ds, W, sto, R, So, o⟩ := hsp
  let X := cxOf (L2.CX P w) P w K mg base N qual (defScope st) f cdv A outer s H E
  have G : Gd L X (fun cls d _ H => E cls d H) k c := ⟨fo, hr, takes_of rfl rfl rfl rfl, hc cdv A outer s H E, passes_of rfl, S.nd⟩
  have hb := hbody X _ ⟨cdv, A, outer, s, H, E, rfl⟩ G
  refine ⟨fun D σ H' => σ = L2.start N vs ∧ H' = H ∧ OutS K L (fun cls d _ H => E cls d H) W D (b (startE N.length ds) sto), ⟨fun pins s' σ H' D I h => ?_⟩, rfl, rfl, ?_⟩
  · obtain ⟨rfl, rfl, h⟩ := h
    exact hb.run pins s' _ _ W sto _ D I So (by unfold L2.start; exact start_ok _ R) h
  · have o2 := tidy_ok (K := K) (L := L) (W := W) (σ := []) So o
    unfold runB at o2
    cases q : b (startE N.length ds) sto with
    | nx ρ st' => rw [q] at o2; exact fun W' H' σ' e' S' E' => o2 W' H' e' S' .non (Rl.non.mpr rfl)
    | rt d st' => rw [q] at o2; exact fun W' H' v e' S' R' => o2 W' H' e' S' v R'
    | bk ρ st' => rw [q] at o2; exact o2.elim
    | ct ρ st' => rw [q] at o2; exact o2.elim
    | err x ρ st' => rw [q] at o2; exact fun W' H' σ' cls dx e' S' E' R' => o2 W' H' cls dx e' S' R'
    | stuck => rw [q] at o2; exact o2.elim
end

section
variable {L : Lw} {X : Cx} {Wx : WX} {k : Nat} {c : Fn} {e o fe : Expr} {es : List Expr} {f : Fe} {r : Fa} {x m : Str} {p pos apos : Pos}
/-! ### calls -/
def xCall (T : Ls) (c : Fn) (i : Nat) (r : Fa) : Fe := fun ρ st => (r ρ st).bind fun ds st => callD T c i ds st
theorem re_call {i : Nat} (G : Gd L X Wx k c) (hf : L.isF i = true) (hg : Gl X x) (hm : X.mg x = some (.ref (L.fad i))) (ha : RA L X Wx (e :: es) r) (hdb : (x == ("__debug__" : Str)) = false := by decide)
    (he : starEach (e :: es) X.env = (false, eval e X.env) :: starEach es X.env := by rfl) (hpl : (backTo pos (starEach es X.env)).any (·.1) = false := by rfl) :
    RE L X Wx (.Call (.Name x p) (e :: es) [] pos) (xCall L.toLs c i r) := by
  refine ⟨fun pins s σ H W st ρ Q I S E o => ?_⟩
  refine wpAny_Call_Name_kw (ld_glob I hg hm ?_ hdb)
  refine PySem.W.callWith_K (h₀ := X.base) I.ok.mod.kin (G.fo.kp i hf) (ha.bind I S E o fun ds st1 W1 H1 vs us s1 hl e1 I1 S1 R1 r1 o1 => ⟨I1.kIn, ?_⟩) he hpl
  exact G.call hf I1 S1 R1 r1 o1
theorem re_call0 {i : Nat} (G : Gd L X Wx k c) (hf : L.isF i = true) (hg : Gl X x) (hm : X.mg x = some (.ref (L.fad i))) (hdb : (x == ("__debug__" : Str)) = false := by decide) :
    RE L X Wx (.Call (.Name x p) [] [] pos) (xCall L.toLs c i aNil) := by
  refine ⟨fun pins s σ H W st ρ Q I S E o => ?_⟩
  refine wpAny_Call_Name_kw (ld_glob I hg hm ?_ hdb)
  exact PySem.W.callWith_K0 I.kIn (G.fo.kp i hf) (G.call (us := []) hf I S (Rls.nil.mpr rfl) .nil o)
/-! ### making -/
def made (T : Ls) (i n : Nat) (st' : Store) : Res D := match st'[n]? with
  | some (.ins j fs) => if j = i ∧ fs.map (·.1) = T.lay i then .ok (.obj i (fs.map (·.2))) (st'.set n .dead) else .ok (.ref n) st'
  | _ => .ok (.ref n) st'
def makeR (T : Ls) (c : Fn) (i f : Nat) (ds : List D) (st : Store) : Res D := match callD T c f (.ref st.length :: ds) (st ++ [.ins i []]) with
  | .ok .non st' => made T i st.length st'
  | .ok _ _ => .stuck
  | .err x st' => .err x st'
  | .stuck => .stuck
noncomputable def mkD (T : Ls) (c : Fn) (i : Nat) (ds : List D) (st : Store) : Res D := match T.meth i 37 with
  | some f => tidy st (makeR T c i f ds st)
  | none => .stuck
theorem Gd.make (G : Gd L X Wx k c) {i : Nat} {pins : List (Addr × Obj)} {s : Shared} {σ : St} {H : Hp} {W : Wd} {st : Store} {ds : List D} {vs : List V} {us : List Value} {Q : VK} (I : Inv X pins σ H s) (S : Sok X.K L W st H)
    (R : Rls X.K L W ds vs) (r : Vals vs us) (o : Out X.K L Wx W σ (okE X.K L Q) (mkD L.toLs c i ds st)) :
    wpAny (model X.prog X.w) X.A (PySem.call (.ref (L.cad i)) us) (EP X pins σ Q) X.xe s := by
  unfold mkD at o
  cases hm : L.meth i 37 with
  | none => rw [hm] at o; exact o.elim
  | some f =>
    rw [hm] at o
    dsimp only at o
    have o2 := tidy_ok (σ := σ) S o
    clear o
    have M := G.fo.mi i f hm
    obtain ⟨hC, hf, _⟩ := G.fo.mt i 37 f hm
    have hn : callD L.toLs c f (.ref st.length :: ds) (st ++ [.ins i []]) ≠ .stuck := fun z => by unfold makeR at o2; rw [z] at o2; exact o2
    obtain ⟨t, ht, hl, ec⟩ := callD_some hn
    obtain ⟨dvs, dsV, hb, hd, hT⟩ := G.fo.bt f hf t ht
    have I2 := Inv.made (C := L.cad i) I
    have fr1 : H s.heap.objs.size = none := I.hok.fresh (Nat.le_refl _)
    have fr2 : H (s.heap.objs.size + 1) = none := I.hok.fresh (Nat.le_succ _)
    have nex : s.heap.objs.size + 1 ≠ s.heap.objs.size := Nat.succ_ne_self _
    have S1 : Sok X.K L W st (upd H s.heap.objs.size (.own (s.heap.objs.size + 1))) := S.grow (upd_grow fr1)
    have S2 := S1.alloc (p := s.heap.objs.size + 1) (o := .ins (L.cad i) s.heap.objs.size []) (c := .ins i []) (by rw [upd_ne nex]; exact fr2) ⟨s.heap.objs.size, [], upd_same, Rls.nil.mpr rfl⟩
    have R2 : Rls X.K L (W.more (s.heap.objs.size + 1)) (.ref st.length :: (ds ++ t)) (.ref (s.heap.objs.size + 1) :: (vs ++ dvs)) := Rls.mk (Rl.newRef S) ((R.mono Wd.le_more).append (hT _))
    have r2 : Vals (V.ref (s.heap.objs.size + 1) :: (vs ++ dvs)) (Value.ref (s.heap.objs.size + 1) :: (us ++ dsV)) := .cons rfl (r.append hd)
    have hl' : (D.ref st.length :: (ds ++ t)).length = (L.fps f).length := by
      rw [List.length_cons] at hl
      rw [List.length_cons, List.length_append]
      omega
    have hsp : spM X.K L (L.fps f).length (c f) (V.ref (s.heap.objs.size + 1) :: (vs ++ dvs)) (upd (upd H s.heap.objs.size (.own (s.heap.objs.size + 1))) (s.heap.objs.size + 1) (.ins (L.cad i) s.heap.objs.size []))
        (fun v H2 => v = .non ∧ Q (.ref (s.heap.objs.size + 1)) H2) (WE Wx σ) := by
      refine ⟨by rw [← R2.length]; exact hl', _, _, _, R2, S2, ?_⟩
      unfold makeR at o2
      rw [ec] at o2
      have ecs : D.ref st.length :: (ds ++ t) = D.ref st.length :: ds ++ t := rfl
      rw [ecs]
      cases q : c f (D.ref st.length :: ds ++ t) (st ++ [.ins i []]) with
      | err x st' =>
        rw [q] at o2
        exact fun W' H' cls dx e' S' R' => o2 W' H' cls dx (Wd.le_more.trans e') S' R'
      | stuck => rw [q] at o2; exact o2
      | ok d st' =>
        rw [q] at o2
        cases d with
        | non =>
          intro W' H' e' S' v Rv
          refine ⟨Rl.non.mp Rv, ?_⟩
          have ha : W'.io[st.length]? = some (s.heap.objs.size + 1) := e'.2 _ _ (by
            show (W.io ++ [s.heap.objs.size + 1])[st.length]? = _
            rw [S.len, List.getElem?_concat_length])
          have asRef : Out X.K L Wx W σ (okE X.K L Q) (.ok (.ref st.length) st') → Q (.ref (s.heap.objs.size + 1)) H' := fun o3 => o3 W' H' (Wd.le_more.trans e') S' _ (Rl.ref.mpr ⟨_, rfl, ha⟩)
          dsimp only at o2
          unfold made at o2
          cases q2 : st'[st.length]? with
          | none => rw [q2] at o2; exact asRef o2
          | some cl =>
            rw [q2] at o2
            cases cl with
            | ins j fs =>
              dsimp only at o2
              by_cases hj : j = i ∧ fs.map (·.1) = L.lay i
              · rw [if_pos hj] at o2
                obtain ⟨rfl, hfs⟩ := hj
                obtain ⟨W2, e2, S3, R3⟩ := S'.finish q2 ha hfs
                exact o2 W2 H' ((Wd.le_more.trans e').trans e2) S3 _ R3
              · rw [if_neg hj] at o2
                exact asRef o2
            | lst _ => exact asRef o2
            | rol _ => exact asRef o2
            | dic _ => exact asRef o2
            | dead => exact asRef o2
        | _ => exact o2.elim
    have hl3 : (Value.ref (s.heap.objs.size + 1) :: us ++ dsV).length = (L.fps f).length := by
      have e := r2.length
      rw [← R2.length, hl'] at e
      exact e.symm
    have hr : Room (k + 1) X.A := G.room.mono (by omega)
    refine wpAny_call (make_map (f := L.fad f) I.kIn M.makes M.init (beq_iff_eq.mp M.fn) (codeAny_mono ((G.fo.fn f hf).run _ X.stack _ _ ⟨Value.ref (s.heap.objs.size + 1) :: us, []⟩ (Value.ref (s.heap.objs.size + 1) :: (us ++ dsV)) _ _ (WE Wx σ) (hr.make (L.cad i) us [])
      (I2.env0.make (L.cad i) us []) (hb _ (Value.ref (s.heap.objs.size + 1) :: us) I2.kIn hl3) r2 hsp) fun r s' hq' => ?_))
    cases r with
    | error e => exact passAt G.tk σ pins _ _ e s' I2 hq'
    | ok fl =>
      cases fl with
      | ret u =>
        obtain ⟨v, H', I3, rv, ev, q3⟩ := I2.after hq'
        subst ev
        exact ⟨rv, ⟨V.ref (s.heap.objs.size + 1), H', I3, rfl, q3⟩⟩
      | next => exact False.elim hq'
      | brk => exact False.elim hq'
      | cont => exact False.elim hq'
noncomputable def xMk (T : Ls) (c : Fn) (i : Nat) (r : Fa) : Fe := fun ρ st => (r ρ st).bind fun ds st => mkD T c i ds st
theorem re_mk {i f : Nat} (G : Gd L X Wx k c) (hf : L.meth i 37 = some f) (hg : Gl X x) (hm : X.mg x = some (.ref (L.cad i))) (ha : RA L X Wx (e :: es) r) (hdb : (x == ("__debug__" : Str)) = false := by decide)
    (he : starEach (e :: es) X.env = (false, eval e X.env) :: starEach es X.env := by rfl) (hpl : (backTo pos (starEach es X.env)).any (·.1) = false := by rfl) :
    RE L X Wx (.Call (.Name x p) (e :: es) [] pos) (xMk L.toLs c i r) := by
  refine ⟨fun pins s σ H W st ρ Q I S E o => ?_⟩
  refine wpAny_Call_Name_kw (ld_glob I hg hm ?_ hdb)
  refine PySem.W.callWith_K (h₀ := X.base) I.ok.mod.kin (G.fo.mi i f hf).kp (ha.bind I S E o fun ds st1 W1 H1 vs us s1 hl e1 I1 S1 R1 r1 o1 => ⟨I1.kIn, ?_⟩) he hpl
  exact G.make I1 S1 R1 r1 o1
theorem re_mk0 {i f : Nat} (G : Gd L X Wx k c) (hf : L.meth i 37 = some f) (hg : Gl X x) (hm : X.mg x = some (.ref (L.cad i))) (hdb : (x == ("__debug__" : Str)) = false := by decide) :
    RE L X Wx (.Call (.Name x p) [] [] pos) (xMk L.toLs c i aNil) := by
  refine ⟨fun pins s σ H W st ρ Q I S E o => ?_⟩
  refine wpAny_Call_Name_kw (ld_glob I hg hm ?_ hdb)
  exact PySem.W.callWith_K0 I.kIn (G.fo.mi i f hf).kp (G.make (us := []) I S (Rls.nil.mpr rfl) .nil o)
/-! ### attributes -/
def lookF (g : Nat) (fs : List (Nat × D)) : Option D := match fs with
  | [] => none
  | (h, d) :: r => if h = g then some d else lookF g r
def putC (g : Nat) (d : D) (fs : List (Nat × D)) : List (Nat × D) := match fs with
  | [] => [(g, d)]
  | (h, e) :: r => if h = g then (h, d) :: r else (h, e) :: putC g d r
def fldD (T : Ls) (c : Fn) (g : Nat) (d : D) (st : Store) : Res D := match d with
  | .obj i ds => if T.isC i = true ∧ g ∈ T.atn i then match lookF g ((T.lay i).zip ds) with | some d => .ok d st | none => .stuck else match T.prop i g with
    | some f => match callD T c f [d] st with
      | .ok d st => .ok d st
      | _ => .stuck
    | none => .stuck
  | .ref n => match st[n]? with
    | some (.ins i fs) => if T.isC i = true ∧ g ∈ T.atn i ∧ ∀ p ∈ fs, p.1 ∈ T.atn i then match lookF g fs with | some d => .ok d st | none => .stuck else .stuck
    | _ => .stuck
  | _ => .stuck
theorem lookF_at {K : PySem.W.Frag} {W : Wd} {nm : Nat → Str} {g : Nat} : ∀ {fs : List (Nat × D)} {vs : List V} {d : D}, (∀ p ∈ fs, nm p.1 = nm g → p.1 = g) → Rls K L W (fs.map (·.2)) vs → lookF g fs = some d → ∃ v, List.lookup (nm g) ((fs.map fun p => nm p.1).zip vs) = some v ∧ Rl K L W d v
  | [], vs, d, _, _, h => by cases h
  | (a, z) :: fs, vs, d, hi, R, h => by
    obtain ⟨v, vs', rfl, R1, R2⟩ := Rls.cons.mp R
    unfold lookF at h
    by_cases ha : a = g
    · rw [if_pos ha] at h
      cases h
      subst ha
      exact ⟨v, by simp [List.lookup], R1⟩
    · rw [if_neg ha] at h
      obtain ⟨v', h1, h2⟩ := lookF_at (nm := nm) (fun p hp => hi p (List.mem_cons_of_mem _ hp)) R2 h
      refine ⟨v', ?_, h2⟩
      have hb : (nm g == nm a) = false := beq_eq_false_iff_ne.mpr fun q => ha (hi (a, z) (List.mem_cons_self ..) q.symm)
      rw [List.map_cons, List.zip_cons_cons, List.lookup_cons, hb]
      exact h1
theorem zip_parts {α β : Type} : ∀ {l : List α} {m : List β}, l.length = m.length → (l.zip m).map (·.1) = l ∧ (l.zip m).map (·.2) = m
  | [], [], _ => ⟨rfl, rfl⟩
  | a :: l, b :: m, h => by
    obtain ⟨h1, h2⟩ := zip_parts (l := l) (m := m) (by simpa using h)
    exact ⟨by rw [List.zip_cons_cons, List.map_cons, h1], by rw [List.zip_cons_cons, List.map_cons, h2]⟩
theorem Gd.getAttr (G : Gd L X Wx k c) {b : Bool} {g : Nat} {pins : List (Addr × Obj)} {s : Shared} {σ : St} {H : Hp} {W : Wd} {st : Store} {d : D} {v : V} {u : Value} {Q : VK} (I : Inv X pins σ H s) (S : Sok X.K L W st H)
    (R : Rl X.K L W d v) (r : RelV v u) (o : Out X.K L Wx W σ (okE X.K L Q) (fldD L.toLs c g d st)) :
    wpAny (model X.prog X.w) X.A (PySem.getAttr u (L.nm g) b) (EP X pins σ Q) X.xe s := by
  cases d with
  | obj i ds =>
    obtain ⟨a, dx, vs, rfl, h1, h2, h3⟩ := Rl.obj.mp R
    obtain rfl : u = Value.ref a := r
    unfold fldD at o
    dsimp only at o
    split at o
    · rename_i hc
      split at o
      · rename_i d hd
        obtain ⟨z1, z2⟩ := zip_parts h2
        obtain ⟨v, h4, h5⟩ := lookF_at (K := X.K) (W := W) (nm := L.nm) (fs := (L.lay i).zip ds) (vs := vs) (fun p hp q => G.fo.li i _ _ hc.1 (G.fo.la i _ (List.of_mem_zip hp).1) hc.2 q) (by rw [z2]; exact h3) hd
        have e1 : ((L.lay i).zip ds).map (fun p => L.nm p.1) = (L.lay i).map L.nm := by
          rw [show (fun p : Nat × D => L.nm p.1) = L.nm ∘ (·.1) from rfl, ← List.map_map, z1]
        rw [e1] at h4
        exact getattr_ok I (S.fz _ _ h1) (G.fo.cl i hc.1).cls (G.fo.ly i g hc.1 hc.2) h4 fun u' s' I' r' => ⟨v, H, I', r', o W H .rfl' S v h5⟩
      · exact o.elim
    · split at o
      · rename_i f hp
        obtain ⟨hC, hF, p, hP⟩ := G.fo.pr i g f hp
        have hn : callD L.toLs c f [.obj i ds] st ≠ .stuck := fun z => by rw [z] at o; exact o
        obtain ⟨t, ht, hl, ec⟩ := callD_some hn
        obtain ⟨dvs, dsV, hb, hd, hT⟩ := G.fo.bt f hF t ht
        rw [ec] at o
        refine getprop_ok (CX := L2.CX X.prog X.w) (E := fun _ _ _ => False) I (S.fz _ _ h1) (G.fo.cl i hC).cls hP (G.fo.fn f hF) (G.room.mono (by omega)) hb hd (fun _ _ _ _ _ _ _ ⟨_, _, _, _, _, _, _, _, _, _, _, _, z⟩ => z) ?_
        have R2 : Rls X.K L W ([D.obj i ds] ++ t) (V.ref a :: dvs) := Rls.mk R (hT W)
        refine ⟨by rw [← R2.length, List.length_append]; exact hl, _, W, st, R2, S, ?_⟩
        revert o
        cases c f ([D.obj i ds] ++ t) st with
        | ok d st' => exact id
        | err x st' => exact fun z => z.elim
        | stuck => exact id
      · exact o.elim
  | ref n =>
    obtain ⟨a, rfl, h1⟩ := Rl.ref.mp R
    obtain rfl : u = Value.ref a := r
    unfold fldD at o
    dsimp only at o
    split at o
    · rename_i i fs hn
      split at o
      · rename_i hc
        split at o
        · rename_i d hd
          obtain ⟨dx, vs, h2, h3⟩ := S.cell n _ a hn h1
          obtain ⟨v, h4, h5⟩ := lookF_at (K := X.K) (W := W) (nm := L.nm) (fun p hp q => G.fo.li i _ _ hc.1 (hc.2.2 p hp) hc.2.1 q) h3 hd
          exact getattr_ok I h2 (G.fo.cl i hc.1).cls (G.fo.ly i g hc.1 hc.2.1) h4 fun u' s' I' r' => ⟨v, H, I', r', o W H .rfl' S v h5⟩
        · exact o.elim
      · exact o.elim
    · exact o.elim
  | _ => exact o.elim
def xFld (T : Ls) (c : Fn) (g : Nat) (f : Fe) : Fe := fun ρ st => (f ρ st).bind fun d st => fldD T c g d st
theorem re_fld {g : Nat} (G : Gd L X Wx k c) (he : RE L X Wx e f) (hn : x = L.nm g := by rfl) (hab : attributeBase e x X.env (eval e X.env) = eval e X.env := by rfl) : RE L X Wx (.Attribute e x pos) (xFld L.toLs c g f) := by
  refine ⟨fun pins s σ H W st ρ Q I S E o => ?_⟩
  refine attr_of hab (he.bind I S E o fun d st1 W1 H1 v u s1 e1 I1 S1 R1 r1 o1 => ?_)
  rw [hn]
  exact G.getAttr I1 S1 R1 r1 o1
/-! ### methods -/
def mthD (T : Ls) (c : Fn) (m : Nat) (d : D) (ds : List D) (st : Store) : Res D := match d with
  | .obj i _ => match T.meth i m with
    | some f => callD T c f (d :: ds) st
    | none => .stuck
  | .ref n => match st[n]? with
    | some (.ins i fs) => if ∀ p ∈ fs, p.1 ∈ T.atn i then match T.meth i m with
      | some f => callD T c f (d :: ds) st
      | none => .stuck else .stuck
    | _ => .stuck
  | _ => .stuck
def xMeth (T : Ls) (c : Fn) (m : Nat) (f : Fe) (r : Fa) : Fe := fun ρ st => (f ρ st).bind fun d st => (r ρ st).bind fun ds st => mthD T c m d ds st
/-- who the method is, before the arguments -/
def whoD (T : Ls) (m : Nat) (d : D) (st : Store) : Option Nat := match d with
  | .obj i _ => T.meth i m
  | .ref n => match st[n]? with
    | some (.ins i fs) => if ∀ p ∈ fs, p.1 ∈ T.atn i then T.meth i m else none
    | _ => none
  | _ => none
def xMethW (T : Ls) (c : Fn) (m : Nat) (f : Fe) (r : Fa) : Fe := fun ρ st => (f ρ st).bind fun d st => match whoD T m d st with
  | some g => (r ρ st).bind fun ds st => callD T c g (d :: ds) st
  | none => .stuck
theorem lookup_no {vs : List V} {x : Str} : ∀ {l : List Str}, (∀ y ∈ l, y ≠ x) → List.lookup x (l.zip vs) = none
  | [], _ => rfl
  | y :: l, h => by
    cases vs with
    | nil => rfl
    | cons v vs =>
      have hb : (x == y) = false := beq_eq_false_iff_ne.mpr fun q => h y (List.mem_cons_self ..) q.symm
      rw [List.zip_cons_cons, List.lookup_cons, hb]
      exact lookup_no fun z hz => h z (List.mem_cons_of_mem _ hz)
theorem Gd.who (G : Gd L X Wx k c) {m f : Nat} {pins : List (Addr × Obj)} {s : Shared} {σ : St} {H : Hp} {W : Wd} {st : Store} {d : D} {v : V} {pl : Sem Bool} {Q : Value × List Value → Shared → Prop} (I : Inv X pins σ H s) (S : Sok X.K L W st H)
    (R : Rl X.K L W d v) (h : whoD L.toLs m d st = some f) (q : ∀ a, v = .ref a → L.isF f = true → Q (.ref (L.fad f), [.ref a]) s) :
    ∃ a, v = .ref a ∧ wpAny (model X.prog X.w) X.A (PySem.getMethod (.ref a) (L.nm m) pl) Q X.xe s := by
  cases d with
  | obj i ds =>
    obtain ⟨a, dx, vs, rfl, h1, h2, h3⟩ := Rl.obj.mp R
    have h' : L.meth i m = some f := h
    obtain ⟨hC, hF, hM⟩ := G.fo.mt i m f h'
    refine ⟨a, rfl, getmeth_ok I (S.fz _ _ h1) (G.fo.cl i hC).cls hM (lookup_no fun y hy => ?_) (q a rfl hF)⟩
    obtain ⟨g, hg, rfl⟩ := List.mem_map.mp hy
    exact G.fo.lm i g m f (G.fo.la i g hg) h'
  | ref n =>
    obtain ⟨a, rfl, h1⟩ := Rl.ref.mp R
    unfold whoD at h
    dsimp only at h
    split at h
    · rename_i i fs hn
      split at h
      · rename_i hc
        obtain ⟨hC, hF, hM⟩ := G.fo.mt i m f h
        obtain ⟨dx, vs, h2, h3⟩ := S.cell n _ a hn h1
        refine ⟨a, rfl, getmeth_ok I h2 (G.fo.cl i hC).cls hM (lookup_no fun y hy => ?_) (q a rfl hF)⟩
        obtain ⟨p, hp, rfl⟩ := List.mem_map.mp hy
        exact G.fo.lm i p.1 m f (hc p hp) h
      · cases h
    · cases h
  | _ => cases h
theorem re_meth {pl : Sem Bool} {i : Nat} (G : Gd L X Wx k c) (he : RE L X Wx o f) (ha : RA L X Wx (e :: es) r) (hn : m = L.nm i := by rfl)
    (hst : starEach (e :: es) X.env = (false, eval e X.env) :: starEach es X.env := by rfl) (hpl : (backTo pos (starEach es X.env)).any (·.1) = false := by rfl)
    (ht : eval (.Call (.Attribute o m apos) (e :: es) [] pos) X.env = (do
      let ov ← eval o X.env
      standAt apos.atName
      let (f, first) ← holding [ov] (getMethod ov m pl)
      callWith pos f first (backTo pos (starEach (e :: es) X.env)) (backToKw pos (keywordEach [] X.env))) := by rfl) :
    RE L X Wx (.Call (.Attribute o m apos) (e :: es) [] pos) (xMethW L.toLs c i f r) := by
  refine ⟨fun pins s σ H W st ρ Q I S E o => ?_⟩
  refine PySem.W.methodCall_KW (pl := pl) (he.bind I S E o fun d st1 W1 H1 v u s1 e1 I1 S1 R1 r1 o1 => ?_) ht
  split at o1
  · rename_i g hw
    obtain ⟨a, rfl, hh⟩ := G.who (pl := pl) I1 S1 R1 hw (Q := fun q s₁ => wpAny (model X.prog X.w) X.A (callWith pos q.1 q.2 (backTo pos (starEach (e :: es) X.env)) (backToKw pos (keywordEach [] X.env))) (EP X pins σ Q) X.xe s₁) fun a ea hF => by
      subst ea
      refine PySem.W.callWith_K (first := [.ref a]) (h₀ := X.base) I1.ok.mod.kin (G.fo.kp g hF) (ha.bind I1 S1 (E.mono e1) o1 fun ds st2 W2 H2 vs us s2 hl e2 I2 S2 R2 r2 o2 => ⟨I2.kIn, ?_⟩) hst hpl
      exact G.call (us := .ref a :: us) hF I2 S2 (Rls.mk (R1.mono e2) R2) (.cons rfl r2) o2
    obtain rfl : u = Value.ref a := r1
    rw [hn]
    exact hh
  · exact o1.elim
theorem re_meth0 {pl : Sem Bool} {i : Nat} (G : Gd L X Wx k c) (he : RE L X Wx o f) (hn : m = L.nm i := by rfl)
    (ht : eval (.Call (.Attribute o m apos) [] [] pos) X.env = (do
      let ov ← eval o X.env
      standAt apos.atName
      let (f, first) ← holding [ov] (getMethod ov m pl)
      callWith pos f first (backTo pos (starEach [] X.env)) (backToKw pos (keywordEach [] X.env))) := by rfl) :
    RE L X Wx (.Call (.Attribute o m apos) [] [] pos) (xMethW L.toLs c i f aNil) := by
  refine ⟨fun pins s σ H W st ρ Q I S E o => ?_⟩
  refine PySem.W.methodCall_KW (pl := pl) (he.bind I S E o fun d st1 W1 H1 v u s1 e1 I1 S1 R1 r1 o1 => ?_) ht
  split at o1
  · rename_i g hw
    obtain ⟨a, rfl, hh⟩ := G.who (pl := pl) I1 S1 R1 hw (Q := fun q s₁ => wpAny (model X.prog X.w) X.A (callWith pos q.1 q.2 (backTo pos (starEach [] X.env)) (backToKw pos (keywordEach [] X.env))) (EP X pins σ Q) X.xe s₁) fun a ea hF => by
      subst ea
      exact PySem.W.callWith_K0 (first := [.ref a]) I1.kIn (G.fo.kp g hF) (G.call (us := [.ref a]) hF I1 S1 (Rls.mk R1 (Rls.nil.mpr rfl)) (.cons rfl .nil) o1)
    obtain rfl : u = Value.ref a := r1
    rw [hn]
    exact hh
  · exact o1.elim
/-! ### storing attributes -/
def setD (T : Ls) (g : Nat) (d o : D) (st : Store) : Res Store := match o with
  | .ref n => match st[n]? with
    | some (.ins i fs) => if T.isC i = true ∧ g ∈ T.atn i ∧ fs.length < 1000 ∧ ∀ p ∈ fs, p.1 ∈ T.atn i then .ok (st.set n (.ins i (putC g d fs))) st else .stuck
    | _ => .stuck
  | _ => .stuck
def sFldD (T : Ls) (g : Nat) (fo fv : Fe) : Fs := fun ρ st => (fv ρ st).toS ρ fun d st => (fo ρ st).toS ρ fun o st => match setD T g d o st with
  | .ok st' _ => .nx ρ st'
  | _ => .stuck
theorem putC_at {K : PySem.W.Frag} {W : Wd} {nm : Nat → Str} {g : Nat} {d : D} {v : V} : ∀ {fs : List (Nat × D)} {vs : List V}, (∀ p ∈ fs, nm p.1 = nm g → p.1 = g) → Rls K L W (fs.map (·.2)) vs → Rl K L W d v →
    ∃ us, putF (nm g) v ((fs.map fun p => nm p.1).zip vs) = ((putC g d fs).map fun p => nm p.1).zip us ∧ Rls K L W ((putC g d fs).map (·.2)) us
  | [], vs, _, R, Rv => ⟨[v], by rw [Rls.nil.mp R]; rfl, Rls.mk Rv (Rls.nil.mpr rfl)⟩
  | (a, z) :: fs, vs, hi, R, Rv => by
    obtain ⟨u, vs', rfl, R1, R2⟩ := Rls.cons.mp R
    by_cases ha : a = g
    · subst ha
      refine ⟨v :: vs', ?_, ?_⟩
      · unfold putC
        rw [if_pos rfl]
        show (if nm a = nm a then _ else _) = _
        rw [if_pos rfl]
        rfl
      · unfold putC
        rw [if_pos rfl]
        exact Rls.mk Rv R2
    · obtain ⟨us, h1, h2⟩ := putC_at (nm := nm) (fun p hp => hi p (List.mem_cons_of_mem _ hp)) R2 Rv
      refine ⟨u :: us, ?_, ?_⟩
      · unfold putC
        rw [if_neg ha]
        show (if nm a = nm g then _ else (nm a, u) :: putF (nm g) v ((fs.map fun p => nm p.1).zip vs')) = _
        rw [if_neg fun q => ha (hi (a, z) (List.mem_cons_self ..) q), h1]
        rfl
      · unfold putC
        rw [if_neg ha]
        exact Rls.mk R1 h2
theorem rs_fld {g : Nat} {fo fv : Fe} {value : Expr} {pos' : Pos} (G : Gd L X Wx k c) (ha : RE L X Wx o fo) (hv : RE L X Wx value fv) (hn : x = L.nm g := by rfl) (hs : swapsWith value (some (.Attribute o x pos')) pos.line X.env = pure false := by rfl) :
    RS L X Wx (.Assign [.Attribute o x pos'] value pos) (sFldD L.toLs g fo fv) := by
  refine ⟨fun pins s σ H W sto ρ D I S E oo => ?_⟩
  refine plainObj_wpAny_Assign_Attribute (hv.bindS I S E oo fun d st1 W1 H1 v u s1 e1 I1 S1 R1 r1 o1 => ha.bindS I1 S1 (E.mono e1) o1 fun od st2 W2 H2 x v2 s2 e2 I2 S2 R2 r2 o2 => ?_) hs
  cases od with
  | ref n =>
    obtain ⟨a, rfl, h1⟩ := Rl.ref.mp R2
    obtain rfl : v2 = Value.ref a := r2
    unfold setD at o2
    dsimp only at o2
    cases hst : st2[n]? with
    | none => rw [hst] at o2; exact o2.elim
    | some cl =>
      rw [hst] at o2
      cases cl with
      | ins i fs =>
        dsimp only at o2
        by_cases hc : L.isC i = true ∧ g ∈ L.atn i ∧ fs.length < 1000 ∧ ∀ p ∈ fs, p.1 ∈ L.atn i
        · rw [if_pos hc] at o2
          obtain ⟨hC, hg, hz, hall⟩ := hc
          obtain ⟨dx, vs, h2, h3⟩ := S2.cell n _ a hst h1
          rw [hn]
          obtain ⟨us, h4, h5⟩ := putC_at (K := X.K) (W := W2) (nm := L.nm) (g := g) (fun p hp q => G.fo.li i _ _ hC (hall p hp) hg q) h3 (R1.mono e2)
          refine setattr_ok I2 h2 (G.fo.cl i hC).cls (G.fo.ly i g hC hg) (by rw [List.length_zip, List.length_map]; omega) r1 fun s3 I3 => ⟨σ, _, I3, ?_⟩
          exact o2 W2 _ σ .rfl' (S2.write hst rfl h1 ⟨dx, us, by rw [upd_same, h4], h5⟩) (E.mono (e1.trans e2))
        · rw [if_neg hc] at o2; exact o2.elim
      | _ => exact o2.elim
  | _ => exact o2.elim
end
end Gm
namespace Gm
open PySem PySem.Spec PyProof.Rows L2
/-! ### equality -/
/-- data without instances, as the library compares them -/
def pyD : Nat → Store → D → Option PyData
  | 0, _, _ => none
  | n + 1, st, d => match d with
    | .non => some .none
    | .bl b => some (.bool b)
    | .int i => some (.int i)
    | .str x => some (.str x)
    | .tup ds => (ds.mapM (pyD n st)).map .tuple
    | .ref m => match st[m]? with
      | some (.lst ds) => (ds.mapM (pyD n st)).map .list
      | _ => none
    | .obj _ _ => none
section
variable {K : PySem.W.Frag} {L : Lw} {W : Wd} {st : Store} {H : Hp}
theorem pyD_all {f : D → Option PyData} (hf : ∀ d v p, Rl K L W d v → f d = some p → Dp K H v p) : ∀ {ds : List D} {vs : List V} {ps : List PyData}, Rls K L W ds vs → ds.mapM f = some ps → DpAll K H vs ps
  | [], vs, ps, R, h => by
    rw [Rls.nil.mp R]
    have : ps = [] := by simpa using h.symm
    subst this
    exact .nil
  | d :: ds, vs, ps, R, h => by
    obtain ⟨v, vs', rfl, R1, R2⟩ := Rls.cons.mp R
    rw [List.mapM_cons] at h
    cases q : f d with
    | none => rw [q] at h; cases h
    | some p =>
      rw [q] at h
      cases q2 : ds.mapM f with
      | none => rw [q2] at h; cases h
      | some ps' =>
        rw [q2] at h
        cases h
        exact .cons (hf d v p R1 q) (pyD_all hf R2 q2)
theorem pyD_ok (S : Sok K L W st H) : ∀ (n : Nat) (d : D) (v : V) (p : PyData), Rl K L W d v → pyD n st d = some p → Dp K H v p
  | 0, _, _, _, _, h => by cases h
  | n + 1, .non, v, p, R, h => by rw [Rl.non.mp R]; cases h; exact .non
  | n + 1, .bl b, v, p, R, h => by rw [Rl.bl.mp R]; cases h; exact .bl b
  | n + 1, .int b, v, p, R, h => by rw [Rl.int.mp R]; cases h; exact .int b
  | n + 1, .str b, v, p, R, h => by rw [Rl.str.mp R]; cases h; exact .str b
  | n + 1, .tup ds, v, p, R, h => by
    obtain ⟨a, vs, rfl, h1, h2⟩ := Rl.tup.mp R
    unfold pyD at h
    obtain ⟨ps, h3, rfl⟩ := Option.map_eq_some_iff.mp h
    exact .tup (SqT_mono S.fz h1) (pyD_all (fun d v p => pyD_ok S n d v p) h2 h3)
  | n + 1, .obj _ _, v, p, R, h => by cases h
  | n + 1, .ref m, v, p, R, h => by
    obtain ⟨a, rfl, h1⟩ := Rl.ref.mp R
    unfold pyD at h
    dsimp only at h
    split at h
    · rename_i ds hc
      obtain ⟨ps, h3, rfl⟩ := Option.map_eq_some_iff.mp h
      obtain ⟨vs, h4, h5⟩ := S.cell m _ a hc h1
      exact .lst (.inl (.inl h4)) (pyD_all (fun d v p => pyD_ok S n d v p) h5 h3)
    · cases h
end
mutual
/-- no cell within; every instance of a known class -/
def okC (T : Ls) : D → Bool
  | .ref _ => false
  | .tup ds => okCs T ds
  | .obj c ds => T.isC c && okCs T ds
  | _ => true
def okCs (T : Ls) : List D → Bool
  | [] => true
  | d :: ds => okC T d && okCs T ds
end
@[simp] theorem okCs_nil (T : Ls) : okCs T [] = true := by rw [okCs]
@[simp] theorem okCs_cons (T : Ls) (d : D) (ds : List D) : okCs T (d :: ds) = (okC T d && okCs T ds) := by rw [okCs]
@[simp] theorem okC_tup (T : Ls) (ds : List D) : okC T (.tup ds) = okCs T ds := by rw [okC]
@[simp] theorem okC_obj (T : Ls) (c : Nat) (ds : List D) : okC T (.obj c ds) = (T.isC c && okCs T ds) := by rw [okC]
@[simp] theorem okC_ref (T : Ls) (m : Nat) : okC T (.ref m) = false := by rw [okC]
@[simp] theorem okC_int (T : Ls) (i : Int) : okC T (.int i) = true := by simp [okC]
@[simp] theorem okC_bl (T : Ls) (i : Bool) : okC T (.bl i) = true := by simp [okC]
@[simp] theorem okC_str (T : Ls) (i : Str) : okC T (.str i) = true := by simp [okC]
@[simp] theorem okC_non (T : Ls) : okC T .non = true := by simp [okC]
/-- two data that may be one object are equal, and then nothing was done -/
noncomputable def itemR (T : Ls) (d1 d2 : D) (st : Store) (r : Res Bool) : Res Bool := match r with
  | .ok b st' => open Classical in if okC T d1 = true ∧ okC T d2 = true ∧ (d1 = d2 → b = true ∧ st' = st) then .ok b st' else .stuck
  | .err x st' => open Classical in if okC T d1 = true ∧ okC T d2 = true ∧ d1 ≠ d2 then .err x st' else .stuck
  | .stuck => .stuck
noncomputable def eqAll (T : Ls) (q : D → D → Store → Res Bool) : List D → List D → Store → Res Bool
  | [], [], st => .ok true st
  | [], _ :: _, st => .ok false st
  | _ :: _, [], st => .ok false st
  | x :: xs, y :: ys, st => (itemR T x y st (q x y st)).bind fun b st => if b then eqAll T q xs ys st else .ok false st
def asB (d : D) (st : Store) : Res Bool := match d with
  | .bl b => .ok b st
  | _ => .stuck
/-- what may stand to the right of an instance -/
def rhs (T : Ls) : D → Bool
  | .obj j _ => T.isC j
  | .ref _ => false
  | .tup _ => false
  | _ => true
noncomputable def eqD (T : Ls) (c : Fn) : Nat → D → D → Store → Res Bool
  | 0, _, _, _ => .stuck
  | n + 1, d1, d2, st => match d1 with
    | .obj i _ => match T.meth i 21 with
      | some f => if rhs T d2 = true then (callD T c f [d1, d2] st).bind asB else .stuck
      | none => .stuck
    | _ => match pyD 6 st d1, pyD 6 st d2 with
      | some p, some q => if SeqAt.shaped p = true ∧ SeqAt.shaped q = true then .ok (PyData.eqv p q) st else .stuck
      | _, _ => match d1, d2 with
        | .tup xs, .tup ys => eqAll T (eqD T c n) xs ys st
        | _, _ => .stuck
/-! the values of tuples and instances tell their data -/
theorem Vals.inj {us : List Value} : ∀ {xs ys : List V}, Vals xs us → Vals ys us → (∀ x y u, RelV x u → RelV y u → x = y) → xs = ys := by
  intro xs ys h
  induction h generalizing ys with
  | nil => intro h2 _; cases h2; rfl
  | cons r _ ih =>
    intro h2 hi
    cases h2 with
    | cons r2 h3 => rw [hi _ _ _ r r2, ih h3 hi]
theorem zip_inj {β : Type} : ∀ {l : List Str} {xs ys : List β}, l.length = xs.length → l.length = ys.length → l.zip xs = l.zip ys → xs = ys
  | [], [], [], _, _, _ => rfl
  | a :: l, x :: xs, y :: ys, h1, h2, h => by
    rw [List.zip_cons_cons, List.zip_cons_cons] at h
    injection h with h3 h4
    cases h3
    rw [zip_inj (by simpa using h1) (by simpa using h2) h4]
section
variable {L : Lw} {X : Cx} {pins : List (Addr × Obj)} {s : Shared} {σ : St} {H : Hp} {W : Wd}
theorem sqT_inj (I : Inv X pins σ H s) (hi : ∀ x y u, RelV x u → RelV y u → x = y) {a : Addr} {xs ys : List V} (h1 : SqT X.K H a xs) (h2 : SqT X.K H a ys) : xs = ys := by
  obtain ⟨its, r, ⟨o, ho, hc, n, hd⟩, _⟩ := I.tuple h1
  obtain ⟨its2, r2, ⟨o2, ho2, hc2, n2, hd2⟩, _⟩ := I.tuple h2
  rw [ho] at ho2
  cases ho2
  rw [hd] at hd2
  injection hd2 with h3 _
  have h4 : its = its2 := by simpa using h3
  subst h4
  exact Vals.inj r r2 hi
end
def decV : Value → Option V
  | .none => some .non
  | .bool b => some (.bl b)
  | .int i _ => some (.int i)
  | .str x _ => some (.str x)
  | .bytes x _ => some (.byt x)
  | .float x _ => some (.flt x)
  | .ref a => some (.ref a)
  | .type n => some (.ty n)
  | _ => none
theorem decV_of : ∀ {x : V} {u : Value}, L2.RelV x u → decV u = some x
  | .non, u, h => by have h : u = .none := h; subst h; rfl
  | .bl b, u, h => by have h : u = .bool b := h; subst h; rfl
  | .int i, u, h => by obtain ⟨t, rfl⟩ : ∃ t, u = Value.int i t := h; rfl
  | .str i, u, h => by obtain ⟨t, rfl⟩ : ∃ t, u = Value.str i t := h; rfl
  | .byt i, u, h => by obtain ⟨t, rfl⟩ : ∃ t, u = Value.bytes i t := h; rfl
  | .flt i, u, h => by obtain ⟨t, rfl⟩ : ∃ t, u = Value.float i t := h; rfl
  | .ref a, u, h => by have h : u = .ref a := h; subst h; rfl
  | .ty n, u, h => by have h : u = .type n := h; subst h; rfl
theorem relV_inj (x y : V) (u : Value) (h1 : L2.RelV x u) (h2 : L2.RelV y u) : x = y := Option.some.inj ((decV_of h1).symm.trans (decV_of h2))
section
variable {L : Lw} {X : Cx} {pins : List (Addr × Obj)} {s : Shared} {σ : St} {H : Hp} {W : Wd} {st : Store}
theorem tup_not_ins (I : Inv X pins σ H s) {a C dx : Addr} {xs : List V} {fs : List (Str × V)} (h : SqT X.K H a xs) (e : H a = some (.ins C dx fs)) : False := by
  obtain ⟨its, r, ⟨o, ho, hc, n, hd⟩, _⟩ := I.tuple h
  obtain ⟨mA, J, _⟩ := ins_get I.hok e
  obtain ⟨od, J, _⟩ := J.look
  rw [J.at_] at ho
  cases ho
  cases hc
mutual
theorem Rl.inj (I : Inv X pins σ H s) (S : Sok X.K L W st H) (hc : ∀ i j, L.isC i = true → L.isC j = true → L.cad i = L.cad j → i = j) : ∀ {d e : D} {v : V}, okC L.toLs d = true → okC L.toLs e = true → Rl X.K L W d v → Rl X.K L W e v → d = e
  | .non, e, v, _, h2, R1, R2 => by
    rw [Rl.non.mp R1] at R2
    cases e with
    | non => rfl
    | bl b => cases Rl.bl.mp R2
    | int b => cases Rl.int.mp R2
    | str b => cases Rl.str.mp R2
    | tup ds => obtain ⟨_, _, h, _⟩ := Rl.tup.mp R2; cases h
    | obj c ds => obtain ⟨_, _, _, h, _⟩ := Rl.obj.mp R2; cases h
    | ref n => obtain ⟨_, h, _⟩ := Rl.ref.mp R2; cases h
  | .bl b, e, v, _, h2, R1, R2 => by
    rw [Rl.bl.mp R1] at R2
    cases e with
    | non => cases Rl.non.mp R2
    | bl b => cases Rl.bl.mp R2; rfl
    | int b => cases Rl.int.mp R2
    | str b => cases Rl.str.mp R2
    | tup ds => obtain ⟨_, _, h, _⟩ := Rl.tup.mp R2; cases h
    | obj c ds => obtain ⟨_, _, _, h, _⟩ := Rl.obj.mp R2; cases h
    | ref n => obtain ⟨_, h, _⟩ := Rl.ref.mp R2; cases h
  | .int b, e, v, _, h2, R1, R2 => by
    rw [Rl.int.mp R1] at R2
    cases e with
    | non => cases Rl.non.mp R2
    | bl b => cases Rl.bl.mp R2
    | int b => cases Rl.int.mp R2; rfl
    | str b => cases Rl.str.mp R2
    | tup ds => obtain ⟨_, _, h, _⟩ := Rl.tup.mp R2; cases h
    | obj c ds => obtain ⟨_, _, _, h, _⟩ := Rl.obj.mp R2; cases h
    | ref n => obtain ⟨_, h, _⟩ := Rl.ref.mp R2; cases h
  | .str b, e, v, _, h2, R1, R2 => by
    rw [Rl.str.mp R1] at R2
    cases e with
    | non => cases Rl.non.mp R2
    | bl b => cases Rl.bl.mp R2
    | int b => cases Rl.int.mp R2
    | str b => cases Rl.str.mp R2; rfl
    | tup ds => obtain ⟨_, _, h, _⟩ := Rl.tup.mp R2; cases h
    | obj c ds => obtain ⟨_, _, _, h, _⟩ := Rl.obj.mp R2; cases h
    | ref n => obtain ⟨_, h, _⟩ := Rl.ref.mp R2; cases h
  | .tup ds, e, v, h1, h2, R1, R2 => by
    obtain ⟨a, vs, rfl, q1, q2⟩ := Rl.tup.mp R1
    cases e with
    | non => cases Rl.non.mp R2
    | bl b => cases Rl.bl.mp R2
    | int b => cases Rl.int.mp R2
    | str b => cases Rl.str.mp R2
    | tup es =>
      obtain ⟨b, us, h, q3, q4⟩ := Rl.tup.mp R2
      cases h
      have e1 := sqT_inj I relV_inj (SqT_mono S.fz q1) (SqT_mono S.fz q3)
      subst e1
      rw [okC_tup] at h1 h2
      rw [Rls.inj I S hc h1 h2 q2 q4]
    | obj c es =>
      obtain ⟨b, dx, us, h, q3, _⟩ := Rl.obj.mp R2
      cases h
      exact (tup_not_ins I (SqT_mono S.fz q1) (S.fz _ _ q3)).elim
    | ref n => rw [okC_ref] at h2; cases h2
  | .obj c ds, e, v, h1, h2, R1, R2 => by
    obtain ⟨a, dx, vs, rfl, q1, q5, q2⟩ := Rl.obj.mp R1
    cases e with
    | non => cases Rl.non.mp R2
    | bl b => cases Rl.bl.mp R2
    | int b => cases Rl.int.mp R2
    | str b => cases Rl.str.mp R2
    | tup es =>
      obtain ⟨b, us, h, q3, _⟩ := Rl.tup.mp R2
      cases h
      exact (tup_not_ins I (SqT_mono S.fz q3) (S.fz _ _ q1)).elim
    | obj c2 es =>
      obtain ⟨b, dx2, us, h, q3, q6, q4⟩ := Rl.obj.mp R2
      cases h
      rw [q1] at q3
      injection q3 with q3
      injection q3 with e1 e2 e3
      rw [okC_obj, Bool.and_eq_true] at h1 h2
      have := hc c c2 h1.1 h2.1 e1
      subst this
      have e4 := zip_inj (by rw [List.length_map, q5, q2.length]) (by rw [List.length_map, q6, q4.length]) e3
      subst e4
      rw [Rls.inj I S hc h1.2 h2.2 q2 q4]
    | ref n => rw [okC_ref] at h2; cases h2
  | .ref n, e, v, h1, _, _, _ => by rw [okC_ref] at h1; cases h1
theorem Rls.inj (I : Inv X pins σ H s) (S : Sok X.K L W st H) (hc : ∀ i j, L.isC i = true → L.isC j = true → L.cad i = L.cad j → i = j) : ∀ {ds es : List D} {vs : List V}, okCs L.toLs ds = true → okCs L.toLs es = true → Rls X.K L W ds vs → Rls X.K L W es vs → ds = es
  | [], es, vs, _, _, R1, R2 => by
    rw [Rls.nil.mp R1] at R2
    cases es with
    | nil => rfl
    | cons e es => obtain ⟨_, _, h, _⟩ := Rls.cons.mp R2; cases h
  | d :: ds, es, vs, h1, h2, R1, R2 => by
    obtain ⟨v, vs', rfl, q1, q2⟩ := Rls.cons.mp R1
    cases es with
    | nil => cases Rls.nil.mp R2
    | cons e es =>
      obtain ⟨v2, vs2, h, q3, q4⟩ := Rls.cons.mp R2
      cases h
      rw [okCs_cons, Bool.and_eq_true] at h1 h2
      rw [Rl.inj I S hc h1.1 h2.1 q1 q3, Rls.inj I S hc h1.2 h2.2 q2 q4]
end
end
end Gm
namespace Gm
section
open PySem PySem.SeqAt
open AutoSeq1 (wpAny_loadPart')
open MeetsSeq MeetsSeq2 MeetsSeq3 SeqRoads2 GQ
variable {prog : Program} {w : World} {A : Around} {R : Result → Shared → Prop}
theorem tuple_eqH (l b : Addr) (items items2 : Array Value) (n n2 : Nat) (dd dd2 : Option Addr) (sl sl2 : Array (Option Value)) (I : Nat → Shared → Prop)
    (turn : ∀ i (h1 : i < items.size) (h2 : i < items2.size) s, I i s → wpAny (model prog w) A.in1 (eqBool items[i] items2[i]) (fun r s' => if r = true then I (i + 1) s' else R (.ok (.ret (.bool false))) s') (fun e s' => R (.error e) s') s)
    (fin : ∀ i s, I i s → i = min items.size items2.size → R (.ok (.ret (.bool (items.size == items2.size)))) s) {s : Shared} (hl1 : s.heap.get? l = some { cls := .type "tuple", dict := dd, data := .seq items n, slots := sl }) (hb1 : s.heap.get? b = some { cls := .type "tuple", dict := dd2, data := .seq items2 n2, slots := sl2 }) (h : I 0 s) :
    wpAny (model prog w) A.in1 (Builtin.«tuple.__eq__» ⟨[.ref l, .ref b], []⟩) (FinOf prog w A R) (fun e s' => R (.error e) s') s := by
  have f2 := AutoSeq1.sub_tuple_tuple
  have hZ : (items.toList.zip items2.toList).length = min items.size items2.size := by simp
  have h0 := h
  obtain ⟨hp, g, d, tk, os⟩ := s
  wp_walk using wpAny_loadPart' hl1, wpAny_loadPart' hb1, wpAny_forIn_list _ (fun rest b s' => (b.1 = none ∧ ∃ i, rest = (items.toList.zip items2.toList).drop i ∧ i ≤ min items.size items2.size ∧ I i s')) _
  case turn =>
    rintro ⟨y, x⟩ rest b s' ⟨hb', i, hz, hi, hI⟩
    have hlt : i < (items.toList.zip items2.toList).length := by
      rcases Nat.lt_or_ge i (items.toList.zip items2.toList).length with h' | h'
      · exact h'
      · rw [List.drop_of_length_le h'] at hz; cases hz
    have h1 : i < items.size := by omega
    have h2 : i < items2.size := by omega
    rw [List.drop_eq_getElem_cons hlt] at hz
    injection hz with hyx hrest
    have hy : y = items[i] := by have := congrArg Prod.fst hyx; simpa using this
    have hx : x = items2[i] := by have := congrArg Prod.snd hyx; simpa using this
    subst hy hx
    refine wpAny_bind (wpAny_mono (turn i h1 h2 s' hI) (fun r s2 q2 => ?_) fun _ _ x => x)
    cases r with
    | true =>
      wp_walk
      exact ⟨rfl, i + 1, hrest, by omega, q2⟩
    | false =>
      wp_walk
      exact q2
  case fin =>
    rintro ⟨b1, b2⟩ s' ⟨hb', i, hz, hi, hI⟩
    simp only at hb'
    subst hb'
    have hge : min items.size items2.size ≤ i := by
      rcases Nat.lt_or_ge i (items.toList.zip items2.toList).length with h' | h'
      · rw [List.drop_eq_getElem_cons h'] at hz; cases hz
      · exact hZ ▸ h'
    have hR := fin i s' hI (by omega)
    wp_walk
    simpa [Builtin.Tuple.tupleCompareSizes] using hR
  case h =>
    exact ⟨rfl, 0, rfl, Nat.zero_le _, h0⟩
theorem tuple_neH (l b : Addr) (items items2 : Array Value) (n n2 : Nat) (dd dd2 : Option Addr) (sl sl2 : Array (Option Value)) (I : Nat → Shared → Prop)
    (turn : ∀ i (h1 : i < items.size) (h2 : i < items2.size) s, I i s → wpAny (model prog w) A.in1 (eqBool items[i] items2[i]) (fun r s' => if r = true then I (i + 1) s' else R (.ok (.ret (.bool true))) s') (fun e s' => R (.error e) s') s)
    (fin : ∀ i s, I i s → i = min items.size items2.size → R (.ok (.ret (.bool (!(items.size == items2.size))))) s) {s : Shared} (hl1 : s.heap.get? l = some { cls := .type "tuple", dict := dd, data := .seq items n, slots := sl }) (hb1 : s.heap.get? b = some { cls := .type "tuple", dict := dd2, data := .seq items2 n2, slots := sl2 }) (h : I 0 s) :
    wpAny (model prog w) A.in1 (Builtin.«tuple.__ne__» ⟨[.ref l, .ref b], []⟩) (FinOf prog w A R) (fun e s' => R (.error e) s') s := by
  have f2 := AutoSeq1.sub_tuple_tuple
  have hZ : (items.toList.zip items2.toList).length = min items.size items2.size := by simp
  have h0 := h
  obtain ⟨hp, g, d, tk, os⟩ := s
  wp_walk using wpAny_loadPart' hl1, wpAny_loadPart' hb1, wpAny_forIn_list _ (fun rest b s' => (b.1 = none ∧ ∃ i, rest = (items.toList.zip items2.toList).drop i ∧ i ≤ min items.size items2.size ∧ I i s')) _
  case turn =>
    rintro ⟨y, x⟩ rest b s' ⟨hb', i, hz, hi, hI⟩
    have hlt : i < (items.toList.zip items2.toList).length := by
      rcases Nat.lt_or_ge i (items.toList.zip items2.toList).length with h' | h'
      · exact h'
      · rw [List.drop_of_length_le h'] at hz; cases hz
    have h1 : i < items.size := by omega
    have h2 : i < items2.size := by omega
    rw [List.drop_eq_getElem_cons hlt] at hz
    injection hz with hyx hrest
    have hy : y = items[i] := by have := congrArg Prod.fst hyx; simpa using this
    have hx : x = items2[i] := by have := congrArg Prod.snd hyx; simpa using this
    subst hy hx
    refine wpAny_bind (wpAny_mono (turn i h1 h2 s' hI) (fun r s2 q2 => ?_) fun _ _ x => x)
    cases r with
    | true =>
      wp_walk
      exact ⟨rfl, i + 1, hrest, by omega, q2⟩
    | false =>
      wp_walk
      exact q2
  case fin =>
    rintro ⟨b1, b2⟩ s' ⟨hb', i, hz, hi, hI⟩
    simp only at hb'
    subst hb'
    have hge : min items.size items2.size ≤ i := by
      rcases Nat.lt_or_ge i (items.toList.zip items2.toList).length with h' | h'
      · rw [List.drop_eq_getElem_cons h'] at hz; cases hz
      · exact hZ ▸ h'
    have hR := fin i s' hI (by omega)
    wp_walk
    simpa [Builtin.Tuple.tupleCompareSizes, bne] using hR
  case h =>
    exact ⟨rfl, 0, rfl, Nat.zero_le _, h0⟩
end
section
open PySem PySem.Spec
variable {prog : Program} {w : World} {A : Around} {E : Value → Shared → Prop} {s : Shared}
theorem rc_tupE {l b : Addr} {items items2 : Array Value} {Q : Value → Shared → Prop} (hu : A.units < cLine) (I : Nat → Shared → Prop) (hl : s.heap.IsTuple l items) (hb : s.heap.IsTuple b items2)
    (turn : ∀ i (h1 : i < items.size) (h2 : i < items2.size) s, I i s → wpAny (model prog w) A.in1 (eqBool items[i] items2[i]) (fun r s' => if r = true then I (i + 1) s' else Q (.bool false) s') E s)
    (fin : ∀ i s, I i s → i = min items.size items2.size → Q (.bool (items.size == items2.size)) s) (h : I 0 s) : wpAny (model prog w) A (richCompare .Eq (.ref l) (.ref b)) Q E s := by
  obtain ⟨⟨cls, dd, data, sl⟩, ho, hc, n, hd⟩ := id hl
  obtain ⟨⟨cls2, dd2, data2, sl2⟩, ho2, hc2, n2, hd2⟩ := id hb
  simp only at hc hd hc2 hd2
  subst hc hd hc2 hd2
  refine wpAny_richCompare_same_room (op := .Eq) ⟨_, ho, rfl⟩ ⟨_, ho2, rfl⟩ F.slot_tuple_eq (GQ.call_here F.slot_tuple_eq ⟨_, ho, rfl⟩ F.entry_tuple_eq (F.args_tuple_eq_2 _ _) ?_) hu
  refine tuple_eqH (R := wants (fun v s' => v ≠ .notImplemented ∧ Q v s') E) l b items items2 n n2 dd dd2 sl sl2 I (fun i h1 h2 s' q => ?_) (fun i s' q e => ⟨(fun x => nomatch x), fin i s' q e⟩) ho ho2 h
  refine wpAny_mono (turn i h1 h2 s' q) (fun r s2 q2 => ?_) fun _ _ x => x
  cases r with
  | true => exact q2
  | false => exact ⟨(fun x => nomatch x), q2⟩
theorem rc_tupN {l b : Addr} {items items2 : Array Value} {Q : Value → Shared → Prop} (hu : A.units < cLine) (I : Nat → Shared → Prop) (hl : s.heap.IsTuple l items) (hb : s.heap.IsTuple b items2)
    (turn : ∀ i (h1 : i < items.size) (h2 : i < items2.size) s, I i s → wpAny (model prog w) A.in1 (eqBool items[i] items2[i]) (fun r s' => if r = true then I (i + 1) s' else Q (.bool true) s') E s)
    (fin : ∀ i s, I i s → i = min items.size items2.size → Q (.bool (!(items.size == items2.size))) s) (h : I 0 s) : wpAny (model prog w) A (richCompare .NotEq (.ref l) (.ref b)) Q E s := by
  obtain ⟨⟨cls, dd, data, sl⟩, ho, hc, n, hd⟩ := id hl
  obtain ⟨⟨cls2, dd2, data2, sl2⟩, ho2, hc2, n2, hd2⟩ := id hb
  simp only at hc hd hc2 hd2
  subst hc hd hc2 hd2
  refine wpAny_richCompare_same_room (op := .NotEq) ⟨_, ho, rfl⟩ ⟨_, ho2, rfl⟩ F.slot_tuple_ne (GQ.call_here F.slot_tuple_ne ⟨_, ho, rfl⟩ F.entry_tuple_ne (F.args_tuple_ne_2 _ _) ?_) hu
  refine tuple_neH (R := wants (fun v s' => v ≠ .notImplemented ∧ Q v s') E) l b items items2 n n2 dd dd2 sl sl2 I (fun i h1 h2 s' q => ?_) (fun i s' q e => ⟨(fun x => nomatch x), fin i s' q e⟩) ho ho2 h
  refine wpAny_mono (turn i h1 h2 s' q) (fun r s2 q2 => ?_) fun _ _ x => x
  cases r with
  | true => exact q2
  | false => exact ⟨(fun x => nomatch x), q2⟩
end
/-! ### != by an own == -/
section
open PySem PySem.Spec PySem.Calls PyProof.Rows PySem.W
open Builtin
variable {prog : Program} {w : World} {A : Around} {E : Value → Shared → Prop} {s : Shared} {K : Frag} {x C L f : Addr} {h₀ : Heap} {m : Str → Option Value} {ox : Obj} {od : Option Obj} {b tb : Value}
theorem objNe_entry_K {Q : PySem.Fin → Shared → Prop} (hu : A.units < cLine) (X : K.In s.heap) (I : InstAt s.heap x ox C od) (hs : findIn K (.ref C) "__eq__" = some (some (.ref f))) (hf : isFn K (.ref f) = true)
    (h : wpAny (model prog w) A (call (.ref f) [.ref x, b]) (fun v s' => ∃ r, v = .bool r ∧ Q (.done (.ret (.bool (!r)))) s') E s) : wpAny (model prog w) A (Builtin.«object.__ne__» ⟨[.ref x, b], []⟩) Q E s := by
  obtain ⟨hh, g, d, t, os⟩ := s
  unfold Builtin.«object.__ne__»
  repeat (first
    | with_reducible refine wpAny_cRoomFor hu ?_
    | (refine wpAny_bind (m := callSpecialIfBound? (.ref x) (Str.ofString "__eq__") [b])
        (ifBound_K X I hs hf (wpAny_mono h (fun r s' hr => by
          obtain ⟨b, rfl, hq⟩ := hr
          repeat (first | exact hq | exact wpAny_pure hq | exact wpAny_truthy_bool hq | (refine wpAny_bind (m := truthy (.bool _)) (wpAny_truthy_bool ?_)) | wp_step)) fun _ _ e => e)))
    | wp_step)
theorem check_ne_K {M : Model} {Q : Unit → Shared → Prop} (X : K.In s.heap) (I : InstAt s.heap x ox C od) (hob : mroIn K C (.type "object") = some true) (q : Q () s) : wpAny M A (checkBuiltinCall "object.__ne__" ⟨[.ref x, b], []⟩) Q E s := by
  simp only [checkBuiltinCall, PySem.F.cmpKind_ne, PySem.F.cmpSplit_ne]
  have LI : Looks M s.heap (isInstance (.ref x) (.type "object")) true := by
    unfold isInstance
    exact I.type.andThen (looks_mroIn X hob)
  refine wpAny_bind (LI.here ?_)
  simp only [Bool.not_true, Bool.false_eq_true, if_false]
  have ha := PySem.F.cmpArgs_ne (.ref x) b
  cases hsig : Manifest.signature? "object.__ne__" with
  | none => exact wpAny_pure q
  | some sig =>
    simp only [argsOk, hsig] at ha
    have h2 : Bind.checkArgs "object.__ne__" sig ⟨[.ref x, b], []⟩ = pure () := ha
    show wpAny M A (Bind.checkArgs "object.__ne__" sig ⟨[.ref x, b], []⟩) Q E _
    rw [h2]; exact wpAny_pure q
theorem ne_K {Q : Value → Shared → Prop} (hu : A.units + 1 < cLine) (F : Fr h₀ L s.heap m) (X₀ : K.In h₀) (I : InstAt s.heap x ox C od) (hb : Looks (model prog w) s.heap (typeOf b) tb) (hn : notFirst K C tb = true)
    (hs : findIn K (.ref C) "__eq__" = some (some (.ref f))) (hf : isFn K (.ref f) = true) (hne : findIn K (.ref C) "__ne__" = some (some (.builtin "object.__ne__"))) (hob : mroIn K C (.type "object") = some true)
    (h : wpAny (model prog w) A.in1 (call (.ref f) [.ref x, b]) (fun v s' => ∃ r, v = .bool r ∧ Q (.bool (!r)) s') E s) : wpAny (model prog w) A (richCompare .NotEq (.ref x) b) Q E s := by
  have X := X₀.keeps F.keep
  have one : wpAny (model prog w) A (tryCompare (.ref x) "__ne__" b) (fun r s' => ∃ v, r = some v ∧ Q v s') E s := by
    unfold tryCompare
    have hk : wpAny (model prog w) A (call (.builtin "object.__ne__") ([.ref x] ++ [b])) (fun v s' => v ≠ .notImplemented ∧ Q v s') E s := by
      refine wpAny_call (codeAny_call_builtin PySem.F.cmp_object.ne.plain PySem.F.cmpEntry_ne (check_ne_K X I hob (objNe_entry_K (by show A.units + 1 < cLine; exact hu) X I hs hf (wpAny_mono h (fun v s' hv => ?_) fun _ _ e => e))))
      obtain ⟨r, rfl, hq⟩ := hv
      exact ⟨r, rfl, (fun z => nomatch z), hq⟩
    refine wpAny_bind (m := callSpecialIfBound? (.ref x) (Str.ofString "__ne__") [b]) ?_
    simp only [callSpecialIfBound?, bindSpecialIfBound?]
    refine wpAny_holding (wpAny_bind (wpAny_bind (wpAny_bind (I.type.here ((looks_findIn X hne).here ?_)))))
    refine wpAny_bind (wpAny_askSetting (wpAny_ite ?_))
    have fin : wpAny (model prog w) A (call (.builtin "object.__ne__") ([.ref x] ++ [b]) >>= fun v => pure (some v)) (fun r s' => wpAny (model prog w) A (match r with | some .notImplemented | none => pure none | some v => pure (some v)) (fun r s' => ∃ v, r = some v ∧ Q v s') E s') E s :=
      wpAny_bind (wpAny_mono hk (fun v s' h' => wpAny_pure (by
        obtain ⟨hne', hq⟩ := h'
        cases v <;> first | exact absurd rfl hne' | exact wpAny_pure ⟨_, rfl, hq⟩)) fun _ _ h' => h')
    have hB := PySem.F.cmp_object.ne.bind (.ref x)
    simp only [hB]
    split
    · exact wpAny_bind (wpAny_pure (wpAny_pure fin))
    · exact wpAny_tryCatch (wpAny_bind (wpAny_pure (wpAny_pure fin)))
  unfold richCompare
  simp only [oneThing_ref]
  refine wpAny_holding (wpAny_bind (wpAny_cRoomFor (Nat.lt_of_succ_lt hu) ?_))
  refine wpAny_bind (I.type.here (wpAny_bind (hb.here ?_)))
  split
  · rename_i q
    have e : subIn K tb (.ref C) = some false := by
      rcases Bool.or_eq_true_iff.mp hn with e | e
      · rw [beq_iff_eq.mp e] at q; simp at q
      · exact beq_iff_eq.mp e
    refine wpAny_bind ((looks_subIn X e).here ?_)
    simp only [Bool.false_eq_true, if_false]
    refine wpAny_bind (wpAny_mono one (fun r s' z => ?_) fun _ _ e => e)
    obtain ⟨v, rfl, hq⟩ := z
    exact wpAny_pure hq
  · refine wpAny_bind (wpAny_pure ?_)
    simp only [Bool.false_eq_true, if_false]
    refine wpAny_bind (wpAny_mono one (fun r s' z => ?_) fun _ _ e => e)
    obtain ⟨v, rfl, hq⟩ := z
    exact wpAny_pure hq
end
end Gm
namespace Gm
open PySem PySem.Spec PyProof.Rows L2
section
variable {L : Lw} {X : Cx} {Wx : WX} {k : Nat} {c : Fn}
/-- a bool comes out -/
def BP (X : Cx) (pins : List (Addr × Obj)) (σ : St) (Q : Bool → Hp → Prop) (neg : Bool) (u : Value) (s' : Shared) : Prop := ∃ b, u = .bool (b != neg) ∧ TP X pins σ Q b s'
theorem asB_bind {W : Wd} {σ : St} {Q : Bool → Hp → Prop} {r : Res D} (o : Out X.K L Wx W σ (okT Q) (r.bind asB)) : Out X.K L Wx W σ (okE X.K L (fun v H => ∃ b, v = .bl b ∧ Q b H)) r := by
  cases r with
  | ok d st =>
    cases d with
    | bl b => exact fun W' H' e' S' v R' => ⟨b, Rl.bl.mp R', o W' H' e' S'⟩
    | _ => exact o.elim
  | err x st => exact o
  | stuck => exact o
theorem Looks_typeOf_int {M : Model} {h : Heap} {i : Int} {t : Tok} : PySem.W.Looks M h (typeOf (.int i t)) (.type "int") := PySem.W.Looks.of_pure rfl
/-- the type of a datum's value, and how it stands to a class of one's own -/
theorem Gd.tyLook (G : Gd L X Wx k c) {i : Nat} (hi : L.isC i = true) {pins : List (Addr × Obj)} {s : Shared} {σ : St} {H : Hp} {W : Wd} {st : Store} {d : D} {y : V} {u : Value} (I : Inv X pins σ H s) (S : Sok X.K L W st H) (R : Rl X.K L W d y) (r : L2.RelV y u)
    (hd : rhs L.toLs d = true) : ∃ tb, PySem.W.Looks (model X.prog X.w) s.heap (typeOf u) tb ∧ PySem.W.notFirst X.K (L.cad i) tb = true := by
  have one : ∀ t : String, t ∈ kinds → PySem.W.notFirst X.K (L.cad i) (.type t) = true := fun t ht => by
    have h := G.fo.kt i t hi ht
    unfold PySem.W.kitOne at h
    rw [if_neg (by simp)] at h
    unfold PySem.W.kitCls at h
    dsimp only at h
    split at h
    · unfold PySem.W.notFirst
      rw [h]
      simp
    · cases h
  cases d with
  | non => rw [Rl.non.mp R] at r; cases r; exact ⟨_, PySem.W.Looks.of_pure rfl, one "NoneType" (by decide)⟩
  | bl b => rw [Rl.bl.mp R] at r; cases r; exact ⟨_, PySem.W.Looks.of_pure rfl, one "bool" (by decide)⟩
  | int b => rw [Rl.int.mp R] at r; obtain ⟨t, rfl⟩ := r; exact ⟨_, PySem.W.Looks.of_pure rfl, one "int" (by decide)⟩
  | str b => rw [Rl.str.mp R] at r; obtain ⟨t, rfl⟩ := r; exact ⟨_, PySem.W.Looks.of_pure rfl, one "str" (by decide)⟩
  | tup _ => cases hd
  | ref _ => cases hd
  | obj j ds =>
    obtain ⟨a, dx, od, rfl, J⟩ := inst_of I S R
    cases r
    refine ⟨_, J.type, ?_⟩
    by_cases hij : i = j
    · subst hij; simp [PySem.W.notFirst]
    · unfold PySem.W.notFirst
      rw [(G.fo.sb j i hd hi (Ne.symm hij)).1]
      simp
theorem eqBool_gen {M : Model} {A : Around} {E : Value → Shared → Prop} {s : Shared} {u v : Value} {Q : Bool → Shared → Prop} (hu : ∀ f t, u ≠ .float f t) (h : u = v → Q true s)
    (h2 : u ≠ v → wpAny M A (richCompare .Eq u v) (fun r s' => ∃ b, r = .bool b ∧ Q b s') E s) : wpAny M A (eqBool u v) Q E s := by
  unfold eqBool
  refine wpAny_holding ?_
  refine wpAny_ite_split (fun hab => ?_) (fun hab => ?_)
  · first
      | exact wpAny_rule (wpAny_pure (h (eq_of_beq hab)))
      | exact wpAny_bind (wpAny_rule (wpAny_pure (h (eq_of_beq hab))))
      | exact wpAny_pure (h (eq_of_beq hab))
  · have hne : u ≠ v := fun e => by subst e; exact absurd (beq_self_eq_true _) hab
    have fin : wpAny M A (richCompare .Eq u v >>= fun r => truthOfDropped r) Q E s := wpAny_bind (wpAny_mono (h2 hne) (fun r s' hr => by
      obtain ⟨b, rfl, q⟩ := hr
      exact wpAny_truthy_bool q) fun _ _ x => x)
    cases u with
    | float f t => exact absurd rfl (hu f t)
    | _ => exact fin
/-- an item's comparison within a tuple -/
theorem Gd.itemRun (G : Gd L X Wx k c) {A : Around} {pins : List (Addr × Obj)} {s : Shared} {σ : St} {H : Hp} {W : Wd} {st : Store} {d1 d2 : D} {x y : V} {u v : Value} {Q : Bool → Hp → Prop} {r : Res Bool} (I : Inv X pins σ H s) (S : Sok X.K L W st H)
    (R1 : Rl X.K L W d1 x) (R2 : Rl X.K L W d2 y) (r1 : L2.RelV x u) (r2 : L2.RelV y v) (o : Out X.K L Wx W σ (okT Q) (itemR L.toLs d1 d2 st r))
    (h : ∀ Q', Out X.K L Wx W σ (okT Q') r → wpAny (model X.prog X.w) A (richCompare .Eq u v) (BP X pins σ Q' false) X.xe s) :
    wpAny (model X.prog X.w) A (eqBool u v) (TP X pins σ Q) X.xe s := by
  have hfl : ∀ f t, u ≠ .float f t := fun f t e => by
    subst e
    cases d1 with
    | non => rw [Rl.non.mp R1] at r1; cases r1
    | bl b => rw [Rl.bl.mp R1] at r1; cases r1
    | int b => rw [Rl.int.mp R1] at r1; obtain ⟨_, z⟩ := r1; cases z
    | str b => rw [Rl.str.mp R1] at r1; obtain ⟨_, z⟩ := r1; cases z
    | tup _ => obtain ⟨a, vs, rfl, _⟩ := Rl.tup.mp R1; cases r1
    | obj _ _ => obtain ⟨a, dx, vs, rfl, _⟩ := Rl.obj.mp R1; cases r1
    | ref _ => obtain ⟨a, rfl, _⟩ := Rl.ref.mp R1; cases r1
  have same : u = v → okC L.toLs d1 = true → okC L.toLs d2 = true → d1 = d2 := fun e h1 h2 => by
    subst e
    have := relV_inj x y u r1 r2
    subst this
    exact Rl.inj I S G.fo.ci h1 h2 R1 R2
  cases r with
  | stuck => exact o.elim
  | ok b st' =>
    unfold itemR at o
    dsimp only at o
    split at o
    · rename_i hc
      refine eqBool_gen hfl (fun e => ?_) (fun _ => wpAny_mono (h Q o) (fun r s' z => ?_) fun _ _ z => z)
      · obtain ⟨e1, e2⟩ := hc.2.2 (same e hc.1 hc.2.1)
        subst e1; subst e2
        exact ⟨H, I, o W H .rfl' S⟩
      · obtain ⟨b', e1, e2⟩ := z
        exact ⟨b', by simpa using e1, e2⟩
    · exact o.elim
  | err xx st' =>
    unfold itemR at o
    dsimp only at o
    split at o
    · rename_i hc
      refine eqBool_gen hfl (fun e => absurd (same e hc.1 hc.2.1) hc.2.2) (fun _ => wpAny_mono (h Q o) (fun r s' z => ?_) fun _ _ z => z)
      obtain ⟨b', e1, e2⟩ := z
      exact ⟨b', by simpa using e1, e2⟩
    · exact o.elim
/-- the loop over two tuples' items: what is left to compare -/
def Left (X : Cx) (L : Lw) (Wx : WX) (pins : List (Addr × Obj)) (σ : St) (q : D → D → Store → Res Bool) (Q : Bool → Hp → Prop) (xs ys : List D) (vs ws : List V) (i : Nat) (s' : Shared) : Prop :=
  ∃ W st H, Inv X pins σ H s' ∧ Sok X.K L W st H ∧ Rls X.K L W xs vs ∧ Rls X.K L W ys ws ∧ Out X.K L Wx W σ (okT Q) (eqAll L.toLs q (xs.drop i) (ys.drop i) st)
theorem Left.turn {q : D → D → Store → Res Bool} {Q : Bool → Hp → Prop} {xs ys : List D} {vs ws : List V} {pins : List (Addr × Obj)} {σ : St} (G : Gd L X Wx k c) {A : Around} {its its2 : List Value} (r1 : Vals vs its) (r2 : Vals ws its2) {neg : Bool}
    (hq : ∀ pins s σ H W st d1 d2 x y u v Q', Inv X pins σ H s → Sok X.K L W st H → Rl X.K L W d1 x → Rl X.K L W d2 y → L2.RelV x u → L2.RelV y v → Out X.K L Wx W σ (okT Q') (q d1 d2 st) → wpAny (model X.prog X.w) A.in1 (richCompare .Eq u v) (BP X pins σ Q' false) X.xe s)
    (i : Nat) (h1 : i < its.toArray.size) (h2 : i < its2.toArray.size) (s' : Shared) (l : Left X L Wx pins σ q Q xs ys vs ws i s') :
    wpAny (model X.prog X.w) A.in1 (eqBool its.toArray[i] its2.toArray[i]) (fun r s2 => if r = true then Left X L Wx pins σ q Q xs ys vs ws (i + 1) s2 else BP X pins σ Q neg (.bool neg) s2) X.xe s' := by
  obtain ⟨W, st, H, I, S, R1, R2, o⟩ := l
  have k1 : i < its.length := by simpa using h1
  have k2 : i < its2.length := by simpa using h2
  have l1 : i < xs.length := by rw [R1.length, r1.length]; exact k1
  have l2 : i < ys.length := by rw [R2.length, r2.length]; exact k2
  obtain ⟨x, hx, Rx⟩ := R1.get (List.getElem?_eq_getElem l1)
  obtain ⟨y, hy, Ry⟩ := R2.get (List.getElem?_eq_getElem l2)
  obtain ⟨u, hu, ru⟩ := r1.get hx
  obtain ⟨v, hv, rv⟩ := r2.get hy
  rw [List.getElem?_eq_getElem k1] at hu
  rw [List.getElem?_eq_getElem k2] at hv
  have e1 : its.toArray[i] = u := by rw [← Option.some.inj hu]; simp
  have e2 : its2.toArray[i] = v := by rw [← Option.some.inj hv]; simp
  rw [e1, e2]
  rw [List.drop_eq_getElem_cons l1, List.drop_eq_getElem_cons l2] at o
  unfold eqAll at o
  cases hr : itemR L.toLs xs[i] ys[i] st (q xs[i] ys[i] st) with
  | ok b st1 =>
    rw [hr, Res.bind_ok] at o
    refine wpAny_mono (G.itemRun (Q := fun b' H' => b' = b ∧ ∃ W', W.le W' ∧ Sok X.K L W' st1 H') I S Rx Ry ru rv (by rw [hr]; exact fun W' H' e' S' => ⟨rfl, W', e', S'⟩) fun Q' o' => hq pins s' σ H W st _ _ x y u v Q' I S Rx Ry ru rv o') (fun r s2 z => ?_) fun _ _ z => z
    obtain ⟨H2, I2, eb, W2, le2, S2⟩ := z
    subst eb
    cases r with
    | true => exact ⟨W2, st1, H2, I2, S2, R1.mono le2, R2.mono le2, Out.mono le2 o⟩
    | false => exact ⟨false, by cases neg <;> rfl, H2, I2, o W2 H2 le2 S2⟩
  | err xx st1 =>
    rw [hr] at o
    refine wpAny_mono (G.itemRun (Q := fun _ _ => False) I S Rx Ry ru rv (by rw [hr]; exact o) fun Q' o' => hq pins s' σ H W st _ _ x y u v Q' I S Rx Ry ru rv o') (fun r s2 z => ?_) fun _ _ z => z
    obtain ⟨_, _, z⟩ := z
    exact z.elim
  | stuck => rw [hr] at o; exact o.elim
theorem Left.fin {q : D → D → Store → Res Bool} {Q : Bool → Hp → Prop} {xs ys : List D} {vs ws : List V} {pins : List (Addr × Obj)} {σ : St} {its its2 : List Value} (r1 : Vals vs its) (r2 : Vals ws its2) {neg : Bool}
    (i : Nat) (s' : Shared) (l : Left X L Wx pins σ q Q xs ys vs ws i s') (hi : i = min its.toArray.size its2.toArray.size) : BP X pins σ Q neg (.bool ((its.toArray.size == its2.toArray.size) != neg)) s' := by
  obtain ⟨W, st, H, I, S, R1, R2, o⟩ := l
  simp only [List.size_toArray] at hi ⊢
  rw [← r1.length, ← r2.length, ← R1.length, ← R2.length] at hi ⊢
  refine ⟨xs.length == ys.length, rfl, H, I, ?_⟩
  rcases Nat.lt_trichotomy xs.length ys.length with h | h | h
  · have e1 : xs.drop i = [] := List.drop_of_length_le (by omega)
    have l2 : i < ys.length := by omega
    rw [e1, List.drop_eq_getElem_cons l2] at o
    unfold eqAll at o
    have e2 : (xs.length == ys.length) = false := beq_eq_false_iff_ne.mpr (by omega)
    rw [e2]
    exact o W H .rfl' S
  · have e1 : xs.drop i = [] := List.drop_of_length_le (by omega)
    have e3 : ys.drop i = [] := List.drop_of_length_le (by omega)
    rw [e1, e3] at o
    unfold eqAll at o
    have e2 : (xs.length == ys.length) = true := beq_iff_eq.mpr h
    rw [e2]
    exact o W H .rfl' S
  · have e1 : ys.drop i = [] := List.drop_of_length_le (by omega)
    have l2 : i < xs.length := by omega
    rw [e1, List.drop_eq_getElem_cons l2] at o
    unfold eqAll at o
    have e2 : (xs.length == ys.length) = false := beq_eq_false_iff_ne.mpr (by omega)
    rw [e2]
    exact o W H .rfl' S
end
end Gm
namespace Gm
open PySem PySem.Spec PyProof.Rows L2
section
variable {L : Lw} {X : Cx} {Wx : WX} {k : Nat} {c : Fn}
/-- what a == b is, the outermost step -/
noncomputable def eqTu (T : Ls) (q : D → D → Store → Res Bool) (d1 d2 : D) (st : Store) : Res Bool := match d1, d2 with
  | .tup xs, .tup ys => eqAll T q xs ys st
  | _, _ => .stuck
noncomputable def eqPl (T : Ls) (q : D → D → Store → Res Bool) (d1 d2 : D) (st : Store) : Res Bool := match pyD 6 st d1, pyD 6 st d2 with
  | some p, some q => if SeqAt.shaped p = true ∧ SeqAt.shaped q = true then .ok (PyData.eqv p q) st else .stuck
  | _, _ => eqTu T q d1 d2 st
noncomputable def eqTop (T : Ls) (c : Fn) (q : D → D → Store → Res Bool) (d1 d2 : D) (st : Store) : Res Bool := match d1 with
  | .obj i _ => match T.meth i 21 with
    | some f => if rhs T d2 = true then (callD T c f [d1, d2] st).bind asB else .stuck
    | none => .stuck
  | _ => eqPl T q d1 d2 st
theorem eqD_succ (T : Ls) (n : Nat) (d1 d2 : D) (st : Store) : eqD T c (n + 1) d1 d2 st = eqTop T c (eqD T c n) d1 d2 st := by
  cases d1 <;> rfl
inductive EqCase (L : Lw) (c : Fn) (q : D → D → Store → Res Bool) (d1 d2 : D) (st : Store) (r : Res Bool) : Prop where
  | own (i f : Nat) (ds : List D) (e : d1 = .obj i ds) (hm : L.meth i 21 = some f) (hd : rhs L.toLs d2 = true) (hr : r = (callD L.toLs c f [d1, d2] st).bind asB)
  | plain (p p' : PyData) (h1 : pyD 6 st d1 = some p) (h2 : pyD 6 st d2 = some p') (s1 : SeqAt.shaped p = true) (s2 : SeqAt.shaped p' = true) (hr : r = .ok (PyData.eqv p p') st)
  | tups (xs ys : List D) (e1 : d1 = .tup xs) (e2 : d2 = .tup ys) (hr : r = eqAll L.toLs q xs ys st)
  | no (hr : r = .stuck)
theorem eqTop_case (q : D → D → Store → Res Bool) (d1 d2 : D) (st : Store) : EqCase L c q d1 d2 st (eqTop L.toLs c q d1 d2 st) := by
  have tl : EqCase L c q d1 d2 st (eqTu L.toLs q d1 d2 st) := by
    cases d1 with
    | tup xs => cases d2 with
      | tup ys => exact .tups xs ys rfl rfl rfl
      | _ => exact .no rfl
    | _ => exact .no rfl
  have rest : (∀ i ds, d1 ≠ .obj i ds) → EqCase L c q d1 d2 st (eqPl L.toLs q d1 d2 st) := fun _ => by
    unfold eqPl
    cases h1 : pyD 6 st d1 with
    | none => exact tl
    | some p =>
      cases h2 : pyD 6 st d2 with
      | none => exact tl
      | some p' =>
        dsimp only
        split
        · rename_i hs; exact .plain p p' h1 h2 hs.1 hs.2 rfl
        · exact .no rfl
  cases d1 with
  | obj i ds =>
    unfold eqTop
    dsimp only
    cases hm : L.meth i 21 with
    | none => exact .no rfl
    | some f =>
      dsimp only
      split
      · rename_i hj; exact .own i f ds rfl hm hj rfl
      · exact .no rfl
  | _ => exact rest (fun i ds e => by cases e)
theorem Gd.eqRun (G : Gd L X Wx k c) : ∀ (n : Nat) {A : Around}, Sub X (k + 1 + n) A → ∀ (pins : List (Addr × Obj)) (s : Shared) (σ : St) (H : Hp) (W : Wd) (st : Store) (d1 d2 : D) (x y : V) (u v : Value) (Q : Bool → Hp → Prop),
    Inv X pins σ H s → Sok X.K L W st H → Rl X.K L W d1 x → Rl X.K L W d2 y → L2.RelV x u → L2.RelV y v → Out X.K L Wx W σ (okT Q) (eqD L.toLs c n d1 d2 st) →
    wpAny (model X.prog X.w) A (richCompare .Eq u v) (BP X pins σ Q false) X.xe s
  | 0, A, _, _, _, _, _, _, _, _, _, _, _, _, _, _, _, _, _, _, _, _, o => o.elim
  | n + 1, A, sb, pins, s, σ, H, W, st, d1, d2, x, y, u, v, Q, I, S, R1, R2, r1, r2, o => by
    rw [eqD_succ] at o
    have hu := sb.room.units
    rcases eqTop_case (L := L) (c := c) (eqD L.toLs c n) d1 d2 st with ⟨i, f, ds, e, hm, hd, hr⟩ | ⟨p, p', h1, h2, s1, s2, hr⟩ | ⟨xs, ys, e1, e2, hr⟩ | hr
    · subst e
      rw [hr] at o
      have o2 := asB_bind (X := X) o
      obtain ⟨hC, hF, M⟩ := G.fo.mt i 21 f hm
      obtain ⟨a, dx, od, rfl, J⟩ := inst_of I S R1
      cases r1
      obtain ⟨m, F⟩ := I.fr
      obtain ⟨tb, hb, hn⟩ := G.tyLook hC I S R2 r2 hd
      have hs := M.at_
      rw [G.fo.nm 21 (by decide) (by decide) (by decide)] at hs
      refine PySem.W.cmp_K (op := .Eq) sb.room.units0 F I.ok.mod.kin J hb hn hs M.fn ?_
      refine wpAny_mono (G.callA (sb.mono (by omega)) hF I S (Rls.mk R1 (Rls.mk R2 (Rls.nil.mpr rfl))) (.cons rfl (.cons r2 .nil)) o2) (fun r s' z => ?_) fun _ _ z => z
      obtain ⟨v', H', I', rv, b, rfl, q⟩ := z
      cases rv
      exact ⟨b, by simp, H', I', q⟩
    · rw [hr] at o
      obtain ⟨as, a1⟩ := Dp.reads I p x u (pyD_ok S 6 d1 x p R1 h1) r1
      obtain ⟨bs, a2⟩ := Dp.reads I p' y v (pyD_ok S 6 d2 y p' R2 h2) r2
      refine SeqAt.rcAt_reads a1 a2 (SeqAt.canLay_of_shaped s1) (SeqAt.canLay_of_shaped s2) (SeqAt.room_of_shaped s1 hu) X.prog X.w _ _ ⟨_, by simp, H, I, o W H .rfl' S⟩
    · subst e1; subst e2
      rw [hr] at o
      obtain ⟨a, vs, rfl, h1, h2⟩ := Rl.tup.mp R1
      obtain ⟨b, ws, rfl, h3, h4⟩ := Rl.tup.mp R2
      cases r1
      cases r2
      obtain ⟨its, q1, t1, _⟩ := I.tuple (SqT_mono S.fz h1)
      obtain ⟨its2, q2, t2, _⟩ := I.tuple (SqT_mono S.fz h3)
      refine rc_tupE sb.room.units0 (fun i s' => Left X L Wx pins σ (eqD L.toLs c n) Q xs ys vs ws i s') t1 t2 (fun i g1 g2 s' l => ?_) (fun i s' l e => ?_) ⟨W, st, H, I, S, h2, h4, o⟩
      · exact Left.turn G q1 q2 (neg := false) (fun pins s σ H W st d1 d2 x y u v Q' I S R1 R2 r1 r2 o => Gd.eqRun G n sb.in1 pins s σ H W st d1 d2 x y u v Q' I S R1 R2 r1 r2 o) i g1 g2 s' l
      · have := Left.fin q1 q2 (neg := false) i s' l e
        simpa using this
    · rw [hr] at o; exact o.elim
theorem Gd.neRun (G : Gd L X Wx k c) (n : Nat) {A : Around} (sb : Sub X (k + 1 + n) A) (pins : List (Addr × Obj)) (s : Shared) (σ : St) (H : Hp) (W : Wd) (st : Store) (d1 d2 : D) (x y : V) (u v : Value) (Q : Bool → Hp → Prop)
    (I : Inv X pins σ H s) (S : Sok X.K L W st H) (R1 : Rl X.K L W d1 x) (R2 : Rl X.K L W d2 y) (r1 : L2.RelV x u) (r2 : L2.RelV y v) (o : Out X.K L Wx W σ (okT Q) (eqD L.toLs c n d1 d2 st)) :
    wpAny (model X.prog X.w) A (richCompare .NotEq u v) (BP X pins σ Q true) X.xe s := by
  cases n with
  | zero => exact o.elim
  | succ n =>
    rw [eqD_succ] at o
    have hu := sb.room.units
    rcases eqTop_case (L := L) (c := c) (eqD L.toLs c n) d1 d2 st with ⟨i, f, ds, e, hm, hd, hr⟩ | ⟨p, p', h1, h2, s1, s2, hr⟩ | ⟨xs, ys, e1, e2, hr⟩ | hr
    · subst e
      rw [hr] at o
      have o2 := asB_bind (X := X) o
      obtain ⟨hC, hF, M⟩ := G.fo.mt i 21 f hm
      obtain ⟨a, dx, od, rfl, J⟩ := inst_of I S R1
      cases r1
      obtain ⟨m, F⟩ := I.fr
      obtain ⟨tb, hb, hn⟩ := G.tyLook hC I S R2 r2 hd
      have hs := M.at_
      rw [G.fo.nm 21 (by decide) (by decide) (by decide)] at hs
      refine ne_K (by have := sb.room.units; omega) F I.ok.mod.kin J hb hn hs M.fn (G.fo.ne i f hm) (G.fo.ob i hC) ?_
      refine wpAny_mono (G.callA (sb.in1.mono (Nat.le_trans (Nat.le_succ k) (Nat.le_add_right _ _))) hF I S (Rls.mk R1 (Rls.mk R2 (Rls.nil.mpr rfl))) (.cons rfl (.cons r2 .nil)) o2) (fun r s' z => ?_) fun _ _ z => z
      obtain ⟨v', H', I', rv, b, rfl, q⟩ := z
      cases rv
      exact ⟨b, rfl, b, by simp, H', I', q⟩
    · rw [hr] at o
      obtain ⟨as, a1⟩ := Dp.reads I p x u (pyD_ok S 6 d1 x p R1 h1) r1
      obtain ⟨bs, a2⟩ := Dp.reads I p' y v (pyD_ok S 6 d2 y p' R2 h2) r2
      have hq : BP X pins σ Q true (.bool (!PyData.eqv p p')) s := ⟨_, by simp, H, I, o W H .rfl' S⟩
      exact SeqAt.compareNe_shaped a1 a2 s1 s2 hu hq
    · subst e1; subst e2
      rw [hr] at o
      obtain ⟨a, vs, rfl, h1, h2⟩ := Rl.tup.mp R1
      obtain ⟨b, ws, rfl, h3, h4⟩ := Rl.tup.mp R2
      cases r1
      cases r2
      obtain ⟨its, q1, t1, _⟩ := I.tuple (SqT_mono S.fz h1)
      obtain ⟨its2, q2, t2, _⟩ := I.tuple (SqT_mono S.fz h3)
      refine rc_tupN sb.room.units0 (fun i s' => Left X L Wx pins σ (eqD L.toLs c n) Q xs ys vs ws i s') t1 t2 (fun i g1 g2 s' l => ?_) (fun i s' l e => ?_) ⟨W, st, H, I, S, h2, h4, o⟩
      · exact Left.turn G q1 q2 (neg := true) (fun pins s σ H W st d1 d2 x y u v Q' I S R1 R2 r1 r2 o => Gd.eqRun G n sb.in1 pins s σ H W st d1 d2 x y u v Q' I S R1 R2 r1 r2 o) i g1 g2 s' l
      · have := Left.fin q1 q2 (neg := true) i s' l e
        simpa using this
    · rw [hr] at o; exact o.elim
noncomputable def eqB (T : Ls) (c : Fn) (neg : Bool) (d1 d2 : D) (st : Store) : Res D := (eqD T c 6 d1 d2 st).bind fun b st => .ok (.bl (b != neg)) st
theorem Gd.subEq (G : Gd L X Wx k c) : Sub X (k + 1 + 6) X.A := ⟨G.room.mono (by omega), rfl⟩
theorem out_neg {W : Wd} {σ : St} {Q : VK} {neg : Bool} {r : Res Bool} (o : Out X.K L Wx W σ (okE X.K L Q) (r.bind fun b st => .ok (.bl (b != neg)) st)) : Out X.K L Wx W σ (okT fun b H => Q (.bl (b != neg)) H) r := by
  cases r with
  | ok b st => exact fun W' H' e' S' => o W' H' e' S' _ (Rl.bl.mpr rfl)
  | err x st => exact o
  | stuck => exact o
theorem BP.ep {pins : List (Addr × Obj)} {σ : St} {Q : VK} {neg : Bool} {u : Value} {s : Shared} (h : BP X pins σ (fun b H => Q (.bl (b != neg)) H) neg u s) : EP X pins σ Q u s := by
  obtain ⟨b, rfl, H, I, q⟩ := h
  exact ⟨.bl (b != neg), H, I, rfl, q⟩
theorem r2_eq (G : Gd L X Wx k c) : R2v L X Wx (compareOp .Eq) (eqB L.toLs c false) := fun pins s σ H W st d1 d2 x y v u Q I S R1 R2 r1 r2 o =>
  wpAny_mono (G.eqRun 6 G.subEq pins s σ H W st d1 d2 x y v u _ I S R1 R2 r1 r2 (out_neg o)) (fun _ _ z => BP.ep z) fun _ _ z => z
theorem r2_ne (G : Gd L X Wx k c) : R2v L X Wx (compareOp .NotEq) (eqB L.toLs c true) := fun pins s σ H W st d1 d2 x y v u Q I S R1 R2 r1 r2 o =>
  wpAny_mono (G.neRun 6 G.subEq pins s σ H W st d1 d2 x y v u _ I S R1 R2 r1 r2 (out_neg o)) (fun _ _ z => BP.ep z) fun _ _ z => z
/-! ### is None -/
def isNo (neg : Bool) (d1 d2 : D) (st : Store) : Res D := match d2 with
  | .non => match d1 with
    | .non => .ok (.bl (!neg)) st
    | _ => .ok (.bl neg) st
  | _ => .stuck
def D.isN : D → Bool
  | .non => true
  | _ => false
theorem non_iff {K : PySem.W.Frag} {W : Wd} {d : D} {x : V} (R : Rl K L W d x) : decide (x = .non) = d.isN := by
  cases d with
  | non => rw [Rl.non.mp R]; rfl
  | bl b => rw [Rl.bl.mp R]; rfl
  | int b => rw [Rl.int.mp R]; rfl
  | str b => rw [Rl.str.mp R]; rfl
  | tup _ => obtain ⟨a, vs, rfl, _⟩ := Rl.tup.mp R; rfl
  | obj _ _ => obtain ⟨a, dx, vs, rfl, _⟩ := Rl.obj.mp R; rfl
  | ref _ => obtain ⟨a, rfl, _⟩ := Rl.ref.mp R; rfl
theorem r2_is : R2v L X Wx (compareOp .Is) (isNo false) := fun pins s σ H W st d1 d2 x y v u Q I S R1 R2 r1 r2 o => by
  cases d2 with
  | non =>
    refine op_isN pins s σ H x y v u Q I r1 r2 ⟨Rl.non.mp R2, ?_⟩
    rw [non_iff R1]
    cases d1 <;> exact o W H .rfl' S _ (Rl.bl.mpr rfl)
  | _ => exact o.elim
theorem r2_isnot : R2v L X Wx (compareOp .IsNot) (isNo true) := fun pins s σ H W st d1 d2 x y v u Q I S R1 R2 r1 r2 o => by
  cases d2 with
  | non =>
    refine op_notN pins s σ H x y v u Q I r1 r2 ⟨Rl.non.mp R2, ?_⟩
    rw [non_iff R1]
    cases d1 <;> exact o W H .rfl' S _ (Rl.bl.mpr rfl)
  | _ => exact o.elim
/-! ### truth -/
def truD (T : Ls) (c : Fn) (d : D) (st : Store) : Res Bool := match d with
  | .non => .ok false st
  | .bl b => .ok b st
  | .int i => .ok (i != 0) st
  | .str x => if x.length ≤ sizeLine then .ok ((x.length : Int) != 0) st else .stuck
  | .tup ds => .ok (!ds.isEmpty) st
  | .ref n => match st[n]? with
    | some (.lst ds) => .ok (!ds.isEmpty) st
    | some (.dic kvs) => .ok (!kvs.isEmpty) st
    | _ => .stuck
  | .obj i _ => match T.meth i 34 with
    | some f => (callD T c f [d] st).bind asB
    | none => if T.isC i = true ∧ T.meth i 38 = none then .ok true st else .stuck
theorem isEmpty_rls {K : PySem.W.Frag} {W : Wd} {ds : List D} {vs : List V} (h : Rls K L W ds vs) : vs.isEmpty = ds.isEmpty := by
  cases ds with
  | nil => rw [Rls.nil.mp h]; rfl
  | cons d ds => obtain ⟨_, _, rfl, _⟩ := Rls.cons.mp h; rfl
theorem rtv_tru (G : Gd L X Wx k c) : Rtv L X Wx (truD L.toLs c) := fun pins s σ H W st d x v Q I S R r o => by
  have tr : ∀ b, TruV X.K x H b → Out X.K L Wx W σ (okT Q) (.ok b st) → wpAny (model X.prog X.w) X.A (truthy v) (TP X pins σ Q) X.xe s := fun b h o => tru_ok pins s σ H x v Q I r ⟨_, h, o W H .rfl' S⟩
  cases d with
  | non => obtain rfl := Rl.non.mp R; exact tr _ rfl o
  | bl b => obtain rfl := Rl.bl.mp R; exact tr _ rfl o
  | int b => obtain rfl := Rl.int.mp R; exact tr _ rfl o
  | str z =>
    obtain rfl := Rl.str.mp R
    unfold truD at o
    dsimp only at o
    split at o
    · rename_i hz; exact tr _ ⟨hz, rfl⟩ o
    · exact o.elim
  | tup ds =>
    obtain ⟨a, vs, rfl, h1, h2⟩ := Rl.tup.mp R
    exact tr _ (.inr (.inl ⟨vs, SqT_mono S.fz h1, rfl⟩)) (by rw [isEmpty_rls h2]; exact o)
  | ref n =>
    obtain ⟨a, rfl, h1⟩ := Rl.ref.mp R
    unfold truD at o
    dsimp only at o
    split at o
    · rename_i ds hn
      obtain ⟨vs, h2, h3⟩ := S.cell n _ a hn h1
      exact tr _ (.inl ⟨vs, .inl (.inl h2), rfl⟩) (by rw [isEmpty_rls h3]; exact o)
    · rename_i kvs hn
      obtain ⟨vs, h2, h3⟩ := S.cell n _ a hn h1
      exact tr _ (.inr (.inr ⟨vs, h2, rfl⟩)) (by cases h3 <;> exact o)
    · exact o.elim
  | obj i ds =>
    obtain ⟨a, dx, od, rfl, J⟩ := inst_of I S R
    cases r
    obtain ⟨m, F⟩ := I.fr
    unfold truD at o
    dsimp only at o
    split at o
    · rename_i f hm
      obtain ⟨hC, hF, M⟩ := G.fo.mt i 34 f hm
      have hs := M.at_
      rw [G.fo.nm 34 (by decide) (by decide) (by decide)] at hs
      refine PySem.W.truthy_K F I.ok.mod.kin J hs M.fn ?_
      refine wpAny_mono (G.call hF I S (Rls.mk R (Rls.nil.mpr rfl)) (.cons rfl .nil) (asB_bind (X := X) o)) (fun r s' z => ?_) fun _ _ z => z
      obtain ⟨v', H', I', rv, b, rfl, q⟩ := z
      cases rv
      exact ⟨H', I', q⟩
    · rename_i hm
      split at o
      · rename_i hc
        obtain ⟨b1, b2⟩ := G.fo.tb i hc.1 hm hc.2
        exact PySem.W.truthy_K0 F I.ok.mod.kin J b1 b2 ⟨H, I, o W H .rfl' S⟩
      · exact o.elim
end
end Gm
namespace Gm
open PySem PySem.Spec PyProof.Rows L2
section
variable {L : Lw} {X : Cx} {Wx : WX} {k : Nat} {c : Fn}
/-! ### operators -/
def intLeft : Operator → Bool
  | .Add => true | .Sub => true | .Mult => true | .FloorDiv => true | .Mod => true | _ => false
noncomputable def binD (T : Ls) (c : Fn) (op : Operator) (d1 d2 : D) (st : Store) : Res D := match d1 with
  | .int i => match d2 with
    | .int j => intBin op i j st
    | .obj j _ => match T.meth j (opr op) with
      | some f => if intLeft op = true ∧ (T.meth j (opn op)).isSome = true then callD T c f [d2, d1] st else .stuck
      | none => .stuck
    | _ => .stuck
  | .obj i _ => match T.meth i (opn op) with
    | some f => match d2 with
      | .obj j _ => if opn op ≠ 0 ∧ (j = i ∨ (T.isC j = true ∧ (T.meth j (opn op)).isSome = true)) then callD T c f [d1, d2] st else .stuck
      | .int _ => if opn op ≠ 0 then callD T c f [d1, d2] st else .stuck
      | _ => .stuck
    | none => .stuck
  | .str x => match d2 with
    | .str y => if op = .Add ∧ x.length + y.length ≤ sizeLine then .ok (.str (x ++ y)) st else .stuck
    | _ => .stuck
  | .ref m => match st[m]?, d2 with
    | some (.lst xs), .ref n => match st[n]? with
      | some (.lst ys) => if op = .Add ∧ xs.length + ys.length ≤ sizeLine then newLst (xs ++ ys) st else .stuck
      | _ => .stuck
    | some (.lst xs), .int z => if op = .Mult ∧ -(2 ^ 63) ≤ z ∧ z < 2 ^ 63 ∧ xs.length * z.toNat ≤ sizeLine then newLst (List.replicate z.toNat xs).flatten st else .stuck
    | _, _ => .stuck
  | .tup xs => match d2 with
    | .tup ys => if op = .Add ∧ xs ≠ [] ∧ xs.length + ys.length ≤ sizeLine then .ok (.tup (xs ++ ys)) st else .stuck
    | _ => .stuck
  | _ => .stuck
theorem CmpBack_of {Q : Value → Shared → Prop} {pins : List (Addr × Obj)} {σ : St} {Q' : VK} {v : Value} {s : Shared} (h : EP X pins σ Q' v s) (hq : EP X pins σ Q' v s → Q v s) : PySem.W.CmpBack Q v s := by
  obtain ⟨x, H, I, r, q⟩ := id h
  have : v ≠ .notImplemented := fun e => by
    subst e
    have := decV_of r
    cases this
  cases v <;> first | exact absurd rfl this | exact hq h
theorem rls_flat {K : PySem.W.Frag} {W : Wd} {xs : List D} {vs : List V} (R : Rls K L W xs vs) : ∀ n : Nat, Rls K L W (List.replicate n xs).flatten (List.replicate n vs).flatten
  | 0 => Rls.nil.mpr rfl
  | n + 1 => by
    rw [List.replicate_succ, List.flatten_cons, List.replicate_succ, List.flatten_cons]
    exact R.append (rls_flat R n)
theorem r2_bin (G : Gd L X Wx k c) (op : Operator) : R2v L X Wx (binaryOp op) (binD L.toLs c op) := fun pins s σ H W st d1 d2 x y v u Q I S R1 R2 r1 r2 o => by
  have G0 := G
  obtain ⟨m, F⟩ := I.fr
  cases d1 with
  | int i =>
    obtain rfl := Rl.int.mp R1
    obtain ⟨t, rfl⟩ := r1
    cases d2 with
    | int j =>
      obtain rfl := Rl.int.mp R2
      obtain ⟨t', rfl⟩ := r2
      exact intBin_ok I S o
    | obj j ds =>
      unfold binD at o
      dsimp only at o
      cases hm : L.meth j (opr op) with
      | none => rw [hm] at o; exact o.elim
      | some f =>
        rw [hm] at o
        dsimp only at o
        split at o
        · rename_i hc
          obtain ⟨g, hg⟩ := Option.isSome_iff_exists.mp hc.2
          obtain ⟨a, dx, od, rfl, J⟩ := inst_of I S R2
          cases r2
          have hop : opn op ≠ 0 := fun z => by cases op <;> first | exact absurd hc.1 (by decide) | exact absurd z (by decide)
          obtain ⟨hC, hF, M⟩ := G.fo.mt j _ f hm
          obtain ⟨_, _, M2⟩ := G.fo.mt j _ g hg
          obtain ⟨n1, n2, n3⟩ := opn_name hop
          obtain ⟨n4, n5, n6, n7⟩ := opr_name hop
          have hs := M.at_
          rw [G.fo.nm _ n7 n6 n5, n4] at hs
          have hs2 := M2.at_
          rw [G.fo.nm _ hop n3 n2, n1] at hs2
          have hcall := wpAny_mono (G.call hF I S (Rls.mk R2 (Rls.mk (Rl.int.mpr rfl) (Rls.nil.mpr rfl))) (.cons rfl (.cons (show L2.RelV (.int i) (.int i t) from ⟨t, rfl⟩) .nil)) o) (fun r s' z => CmpBack_of (X := X) (Q := EP X pins σ Q) z id) (fun _ _ z => z)
          have sT := (G.fo.sT j hC).2
          cases op <;> first
            | exact absurd hc.1 (by decide)
            | exact int_own io_add F I.ok.mod.kin J (G.fo.cl j hC).first hs2 hs M.fn sT hcall
            | exact int_own io_sub F I.ok.mod.kin J (G.fo.cl j hC).first hs2 hs M.fn sT hcall
            | exact int_own io_mul F I.ok.mod.kin J (G.fo.cl j hC).first hs2 hs M.fn sT hcall
            | exact int_own io_floordiv F I.ok.mod.kin J (G.fo.cl j hC).first hs2 hs M.fn sT hcall
            | exact int_own io_mod F I.ok.mod.kin J (G.fo.cl j hC).first hs2 hs M.fn sT hcall
        · exact o.elim
    | _ => exact o.elim
  | obj i ds =>
    unfold binD at o
    dsimp only at o
    cases hm : L.meth i (opn op) with
    | none => rw [hm] at o; exact o.elim
    | some f =>
      rw [hm] at o
      dsimp only at o
      obtain ⟨a, dx, od, rfl, J⟩ := inst_of I S R1
      cases r1
      obtain ⟨hC, hF, M⟩ := G.fo.mt i _ f hm
      cases d2 with
      | obj j es =>
        dsimp only at o
        split at o
        · rename_i hc
          obtain ⟨n1, n2, n3⟩ := opn_name hc.1
          have hs := M.at_
          rw [G.fo.nm _ hc.1 n3 n2, n1] at hs
          obtain ⟨b, dy, od2, rfl, J2⟩ := inst_of I S R2
          cases r2
          have hcall := wpAny_mono (G.call hF I S (Rls.mk R1 (Rls.mk R2 (Rls.nil.mpr rfl))) (.cons rfl (.cons rfl .nil)) o) (fun r s' z => CmpBack_of (X := X) (Q := EP X pins σ Q) z id) (fun _ _ z => z)
          by_cases hij : j = i
          · subst hij
            exact PySem.W.binop_K F I.ok.mod.kin J J2.type (G.fo.cl j hC).first hs M.fn hcall
          · obtain ⟨hC2, hg⟩ := hc.2.resolve_left hij
            obtain ⟨g, hg⟩ := Option.isSome_iff_exists.mp hg
            obtain ⟨_, _, M2⟩ := G.fo.mt j _ g hg
            have hs2 := M2.at_
            rw [G.fo.nm _ hc.1 n3 n2, n1] at hs2
            obtain ⟨rc, hr, hp⟩ := G.fo.rf i op hC hc.1
            obtain ⟨rc2, hr2, hp2⟩ := G.fo.rf j op hC2 hc.1
            obtain ⟨q1, q2⟩ := G.fo.sb j i hC2 hC hij
            exact own_own F I.ok.mod.kin J J2 (fun e => q2 e.symm) (G.fo.cl i hC).first (G.fo.cl j hC2).first hs M.fn hr hp hs2 hr2 hp2 q1 hcall
        · exact o.elim
      | int j =>
        dsimp only at o
        split at o
        · rename_i hc
          obtain ⟨n1, n2, n3⟩ := opn_name hc
          have hs := M.at_
          rw [G.fo.nm _ hc n3 n2, n1] at hs
          obtain rfl := Rl.int.mp R2
          obtain ⟨t', rfl⟩ := id r2
          have hcall := wpAny_mono (G.call hF I S (Rls.mk R1 (Rls.mk R2 (Rls.nil.mpr rfl))) (.cons rfl (.cons r2 .nil)) o) (fun r s' z => CmpBack_of (X := X) (Q := EP X pins σ Q) z id) (fun _ _ z => z)
          obtain ⟨rc, hr, hp⟩ := G.fo.rf i op hC hc
          obtain ⟨fo, ro, h1, h2⟩ := G.fo.bi op hc
          exact PySem.W.ksp_binT F I.ok.mod.kin J rfl (G.fo.cl i hC).first hs M.fn hr hp h1 h2 (G.fo.sT i hC).1 hcall
        · exact o.elim
      | _ => exact o.elim
  | str z =>
    cases d2 with
    | str z2 =>
      unfold binD at o
      dsimp only at o
      split at o
      · rename_i hc
        obtain ⟨rfl, hz⟩ := hc
        exact op_add_str pins s σ H x y v u Q I r1 r2 ⟨z, z2, Rl.str.mp R1, Rl.str.mp R2, hz, o W H .rfl' S _ (Rl.str.mpr rfl)⟩
      · exact o.elim
    | _ => exact o.elim
  | tup xs =>
    cases d2 with
    | tup ys =>
      unfold binD at o
      dsimp only at o
      split at o
      · rename_i hc
        obtain ⟨rfl, hne, hz⟩ := hc
        obtain ⟨a, vs, rfl, h1, h2⟩ := Rl.tup.mp R1
        obtain ⟨b, ws, rfl, h3, h4⟩ := Rl.tup.mp R2
        have e1 : vs ≠ [] := fun z => hne (by subst z; exact List.eq_nil_of_length_eq_zero h2.length)
        refine op_catT pins s σ H _ _ v u Q I r1 r2 ⟨a, b, vs, ws, rfl, rfl, SqT_mono S.fz h1, SqT_mono S.fz h3, e1, by rw [← h2.length, ← h4.length]; exact hz, fun z => ?_, fun z p hp => ?_⟩
        · have : ys = [] := by subst z; exact List.eq_nil_of_length_eq_zero h4.length
          subst this
          rw [List.append_nil] at o
          exact o W H .rfl' S _ R1
        · obtain ⟨e2, S2⟩ := S.alloc_fz (o := .tup (vs ++ ws)) hp
          exact o _ _ e2 S2 _ (Rl.tup.mpr ⟨p, vs ++ ws, rfl, .inl (.inl (by show upd _ _ _ _ = _; exact upd_same)), (h2.mono e2).append (h4.mono e2)⟩)
      · exact o.elim
    | _ => exact o.elim
  | ref n =>
    obtain ⟨a, rfl, h1⟩ := Rl.ref.mp R1
    unfold binD at o
    dsimp only at o
    split at o
    · rename_i xs n2 hn
      split at o
      · rename_i ys hn2
        split at o
        · rename_i hc
          obtain ⟨rfl, hz⟩ := hc
          obtain ⟨b, rfl, h3⟩ := Rl.ref.mp R2
          obtain ⟨vs, h4, h5⟩ := S.cell n _ a hn h1
          obtain ⟨ws, h6, h7⟩ := S.cell n2 _ b hn2 h3
          refine op_cat pins s σ H _ _ v u Q I r1 r2 ⟨a, b, vs, ws, rfl, rfl, h4, h6, by rw [← h5.length, ← h7.length]; exact hz, fun p hp => ?_⟩
          exact o _ _ Wd.le_more (S.ofNew hp (h5.append h7)) _ (Rl.newRef S)
        · exact o.elim
      · exact o.elim
    · rename_i xs z hn
      split at o
      · rename_i hc
        obtain ⟨rfl, hz1, hz2, hz⟩ := hc
        obtain ⟨vs, h4, h5⟩ := S.cell n _ a hn h1
        refine op_rep pins s σ H _ _ v u Q I r1 r2 ⟨a, z, vs, rfl, Rl.int.mp R2, h4, hz1, hz2, by rw [← h5.length]; exact hz, fun p hp => ?_⟩
        exact o _ _ Wd.le_more (S.ofNew hp (rls_flat h5 z.toNat)) _ (Rl.newRef S)
      · exact o.elim
    · exact o.elim
  | _ => exact o.elim
/-! ### one operand -/
def negD (T : Ls) (c : Fn) (d : D) (st : Store) : Res D := match d with
  | .int i => .ok (.int (-i)) st
  | .obj i _ => match T.meth i 31 with
    | some f => callD T c f [d] st
    | none => .stuck
  | _ => .stuck
def invD (T : Ls) (c : Fn) (d : D) (st : Store) : Res D := match d with
  | .obj i _ => match T.meth i 32 with
    | some f => callD T c f [d] st
    | none => .stuck
  | _ => .stuck
theorem r1_neg (G : Gd L X Wx k c) : R1v L X Wx (unaryOp .USub) (negD L.toLs c) := fun pins s σ H W st d x v Q I S R r o => by
  cases d with
  | int i => exact un_neg pins s σ H x v Q I r ⟨i, Rl.int.mp R, o W H .rfl' S _ (Rl.int.mpr rfl)⟩
  | obj i ds =>
    unfold negD at o
    dsimp only at o
    split at o
    · rename_i f hm
      obtain ⟨a, dx, od, rfl, J⟩ := inst_of I S R
      cases r
      obtain ⟨m, F⟩ := I.fr
      obtain ⟨hC, hF, M⟩ := G.fo.mt i 31 f hm
      have hs := M.at_
      rw [G.fo.nm 31 (by decide) (by decide) (by decide)] at hs
      exact PySem.W.ksp_neg F I.ok.mod.kin J hs M.fn (G.call hF I S (Rls.mk R (Rls.nil.mpr rfl)) (.cons rfl .nil) o)
    · exact o.elim
  | _ => exact o.elim
theorem r1_inv (G : Gd L X Wx k c) : R1v L X Wx (unaryOp .Invert) (invD L.toLs c) := fun pins s σ H W st d x v Q I S R r o => by
  cases d with
  | obj i ds =>
    unfold invD at o
    dsimp only at o
    split at o
    · rename_i f hm
      obtain ⟨a, dx, od, rfl, J⟩ := inst_of I S R
      cases r
      obtain ⟨m, F⟩ := I.fr
      obtain ⟨hC, hF, M⟩ := G.fo.mt i 32 f hm
      have hs := M.at_
      rw [G.fo.nm 32 (by decide) (by decide) (by decide)] at hs
      exact PySem.W.ksp_inv F I.ok.mod.kin J hs M.fn (G.call hF I S (Rls.mk R (Rls.nil.mpr rfl)) (.cons rfl .nil) o)
    · exact o.elim
  | _ => exact o.elim
/-! ### order -/
def ltI : CmpOp → Int → Int → Option Bool
  | .Lt, i, j => some (decide (i < j)) | .LtE, i, j => some (decide (i ≤ j)) | .Gt, i, j => some (decide (j < i)) | .GtE, i, j => some (decide (j ≤ i)) | _, _, _ => none
def isOrd : CmpOp → Bool
  | .Lt => true | .LtE => true | .Gt => true | .GtE => true | _ => false
def ordD (T : Ls) (c : Fn) (op : CmpOp) (d1 d2 : D) (st : Store) : Res D := match d1 with
  | .int i => match d2 with
    | .int j => match ltI op i j with
      | some b => .ok (.bl b) st
      | none => .stuck
    | _ => .stuck
  | .obj i _ => match T.meth i (cmn op) with
    | some f => if isOrd op = true ∧ rhs T d2 = true then callD T c f [d1, d2] st else .stuck
    | none => .stuck
  | _ => .stuck
theorem r2_ord (G : Gd L X Wx k c) (op : CmpOp) : R2v L X Wx (compareOp op) (ordD L.toLs c op) := fun pins s σ H W st d1 d2 x y v u Q I S R1 R2 r1 r2 o => by
  cases d1 with
  | int i =>
    cases d2 with
    | int j =>
      have hx := Rl.int.mp R1
      have hy := Rl.int.mp R2
      cases op with
      | Lt => exact op_lt pins s σ H x y v u Q I r1 r2 ⟨i, j, hx, hy, o W H .rfl' S _ (Rl.bl.mpr rfl)⟩
      | LtE => exact op_le pins s σ H x y v u Q I r1 r2 ⟨i, j, hx, hy, o W H .rfl' S _ (Rl.bl.mpr rfl)⟩
      | Gt => exact op_gt pins s σ H x y v u Q I r1 r2 ⟨i, j, hx, hy, o W H .rfl' S _ (Rl.bl.mpr rfl)⟩
      | GtE => exact op_ge pins s σ H x y v u Q I r1 r2 ⟨i, j, hx, hy, o W H .rfl' S _ (Rl.bl.mpr rfl)⟩
      | _ => exact o.elim
    | _ => exact o.elim
  | obj i ds =>
    unfold ordD at o
    dsimp only at o
    cases hm : L.meth i (cmn op) with
    | none => rw [hm] at o; exact o.elim
    | some f =>
      rw [hm] at o
      dsimp only at o
      split at o
      · rename_i hc
        obtain ⟨a, dx, od, rfl, J⟩ := inst_of I S R1
        cases r1
        obtain ⟨m, F⟩ := I.fr
        obtain ⟨hC, hF, M⟩ := G.fo.mt i _ f hm
        obtain ⟨tb, hb, hn⟩ := G.tyLook hC I S R2 r2 hc.2
        have hs := M.at_
        have hname : L.nm (cmn op) = (cmpInfo op).2.1 := by
          rw [G.fo.nm _ (by cases op <;> first | decide | exact absurd hc.1 (by decide)) (by cases op <;> decide) (by cases op <;> first | decide | exact absurd hc.1 (by decide))]
          cases op <;> first | rfl | exact absurd hc.1 (by decide)
        rw [hname] at hs
        have hcall := wpAny_mono (G.call hF I S (Rls.mk R1 (Rls.mk R2 (Rls.nil.mpr rfl))) (.cons rfl (.cons r2 .nil)) o) (fun r s' z => CmpBack_of (X := X) (Q := EP X pins σ Q) z id) (fun _ _ z => z)
        have key := PySem.W.cmp_K (op := op) G.room.units0 F I.ok.mod.kin J hb hn hs M.fn hcall
        cases op <;> first | exact key | exact absurd hc.1 (by decide)
      · exact o.elim
  | _ => exact o.elim
end
end Gm
namespace Gm
open PySem PySem.Spec PyProof.Rows L2
section
variable {L : Lw} {X : Cx} {Wx : WX} {k : Nat} {c : Fn}
/-! ### to the library's judgements and back -/
def teOf (L : Lw) (K : PySem.W.Frag) (Wx : WX) (f : Fe) : TE := fun σ H Q => ∃ W st ρ, Sok K L W st H ∧ EnR K L W σ ρ ∧ Out K L Wx W σ (okE K L Q) (f ρ st)
def taOf (L : Lw) (K : PySem.W.Frag) (Wx : WX) (f : Fa) : TA := fun σ H Q => ∃ W st ρ, Sok K L W st H ∧ EnR K L W σ ρ ∧ Out K L Wx W σ (okA K L Q) (f ρ st)
def ttOf (L : Lw) (K : PySem.W.Frag) (Wx : WX) (f : Ft) : TT := fun σ H Q => ∃ W st ρ, Sok K L W st H ∧ EnR K L W σ ρ ∧ Out K L Wx W σ (okT Q) (f ρ st)
def tsOf (L : Lw) (K : PySem.W.Frag) (Wx : WX) (f : Fs) : TS := fun D σ H => ∃ W st ρ, Sok K L W st H ∧ EnR K L W σ ρ ∧ OutS K L Wx W D (f ρ st)
def tgOf (L : Lw) (K : PySem.W.Frag) (g : Fg) (ts : List Nat) : TG := fun v σ H Q => ∃ W st ρ d ρ' st', Sok K L W st H ∧ EnR K L W σ ρ ∧ Rl K L W d v ∧ g d ρ st = .ok ρ' st' ∧ ∀ W' σ' H', W.le W' → Sok K L W' st' H' → EnR K L W' σ' ρ' → Fram ts σ σ' → Q σ' H'
theorem RE.pe {e : Expr} {f : Fe} (h : RE L X Wx e f) : PE X e (teOf L X.K Wx f) := ⟨fun pins s σ H Q I ⟨W, st, ρ, S, E, o⟩ => h.run pins s σ H W st ρ Q I S E o⟩
theorem RA.pa {e : List Expr} {f : Fa} (h : RA L X Wx e f) : PA X e (taOf L X.K Wx f) := ⟨fun pos pins s σ H Q I ⟨W, st, ρ, S, E, o⟩ => h.run pos pins s σ H W st ρ Q I S E o⟩
theorem RT.pt {e : Expr} {f : Ft} (h : RT L X Wx e f) : PT X e (ttOf L X.K Wx f) := ⟨fun pins s σ H Q I ⟨W, st, ρ, S, E, o⟩ => h.run pins s σ H W st ρ Q I S E o⟩
theorem RSs.pss {e : List Stmt} {f : Fs} (h : RSs L X Wx e f) : PSs X e (tsOf L X.K Wx f) := ⟨fun pins s σ H D I ⟨W, st, ρ, S, E, o⟩ => h.run pins s σ H W st ρ D I S E o⟩
theorem RG.pg {tg : Expr} {g : Fg} {ts : List Nat} (h : RG L X tg g ts) : PG X tg (tgOf L X.K g ts) := ⟨fun pins s σ H v u Q I r ⟨W, st, ρ, d, ρ', st', S, E, R, hg, q⟩ =>
  thn (h.run pins s σ H W st ρ d v u ρ' st' I S E R r hg) fun _ s' ⟨W', σ', H', e, I', S', E', F'⟩ => ⟨σ', H', I', q W' σ' H' e S' E' F'⟩⟩
section
variable {W : Wd} {σ : St} {H : Hp} {st : Store} {ρ : Ev} {β : Type} {Ok : Wd → Hp → β → Prop}
theorem Out.toE {r : Res D} {kk : D → Store → Res β} {Q : VK} {K : PySem.W.Frag} (o : Out K L Wx W σ Ok (r.bind kk)) (h : ∀ d st1 W1 H1 v, r = .ok d st1 → W.le W1 → Sok K L W1 st1 H1 → Rl K L W1 d v → Out K L Wx W1 σ Ok (kk d st1) → Q v H1) : Out K L Wx W σ (okE K L Q) r := by
  cases r with
  | ok d st1 => exact fun W' H' e' S' v R' => h d st1 W' H' v rfl e' S' R' (Out.mono e' o)
  | err x st1 => exact o
  | stuck => exact o
theorem Out.toA {r : Res (List D)} {kk : List D → Store → Res β} {Q : List V → Hp → Prop} {K : PySem.W.Frag} (o : Out K L Wx W σ Ok (r.bind kk)) (h : ∀ d st1 W1 H1 v, r = .ok d st1 → W.le W1 → Sok K L W1 st1 H1 → Rls K L W1 d v → Out K L Wx W1 σ Ok (kk d st1) → Q v H1) : Out K L Wx W σ (okA K L Q) r := by
  cases r with
  | ok d st1 => exact fun W' H' e' S' v R' => h d st1 W' H' v rfl e' S' R' (Out.mono e' o)
  | err x st1 => exact o
  | stuck => exact o
theorem Out.toT {r : Res Bool} {kk : Bool → Store → Res β} {Q : Bool → Hp → Prop} {K : PySem.W.Frag} (o : Out K L Wx W σ Ok (r.bind kk)) (h : ∀ d st1 W1 H1, r = .ok d st1 → W.le W1 → Sok K L W1 st1 H1 → Out K L Wx W1 σ Ok (kk d st1) → Q d H1) : Out K L Wx W σ (okT Q) r := by
  cases r with
  | ok d st1 => exact fun W' H' e' S' => h d st1 W' H' rfl e' S' (Out.mono e' o)
  | err x st1 => exact o
  | stuck => exact o
end
/-! ### what is walked -/
structure ItOk (K : PySem.W.Frag) (L : Lw) (J : It) (W : Wd) (ds : List D) (chk : Store → Prop) : Prop where
  go : ∀ (i : Nat) (W' : Wd) (st : Store) (H : Hp) (d : D), W.le W' → Sok K L W' st H → chk st → ds[i]? = some d → J.go i H ∧ ∀ x H', J.yld i H x H' → ∃ W2, W'.le W2 ∧ Sok K L W2 st H' ∧ Rl K L W2 d x
  stop : ∀ (i : Nat) (W' : Wd) (st : Store) (H : Hp), W.le W' → Sok K L W' st H → chk st → ds.length ≤ i → J.stop i H
theorem ItOk.mono {K : PySem.W.Frag} {J : It} {W W1 : Wd} {ds : List D} {chk : Store → Prop} (h : ItOk K L J W ds chk) (e : W.le W1) : ItOk K L J W1 ds chk :=
  ⟨fun i W' st H d e' => h.go i W' st H d (e.trans e'), fun i W' st H e' => h.stop i W' st H (e.trans e')⟩
abbrev Fi := Ev → Store → Res (List D × (Store → Prop))
structure RI (L : Lw) (X : Cx) (Wx : WX) (tg iter : Expr) (f : Fi) : Prop where
  run : ∀ (pins : List (Addr × Obj)) (s : Shared) (σ : St) (H : Hp) (W : Wd) (st : Store) (ρ : Ev) (R : It → Hp → Prop), Inv X pins σ H s → Sok X.K L W st H → EnR X.K L W σ ρ →
    Out X.K L Wx W σ (fun W' H' p => ∀ J, ItOk X.K L J W' p.1 p.2 → R J H') (f ρ st) →
    wpAny (model X.prog X.w) X.A (eval iter X.env) (fun v s1 => wpAny (model X.prog X.w) X.A (pyIter v) (PIE X pins σ tg R) X.xe s1) X.xe s
def tiOf (L : Lw) (K : PySem.W.Frag) (Wx : WX) (f : Fi) : TI := fun σ H R => ∃ W st ρ, Sok K L W st H ∧ EnR K L W σ ρ ∧ Out K L Wx W σ (fun W' H' p => ∀ J, ItOk K L J W' p.1 p.2 → R J H') (f ρ st)
theorem RI.pi {tg iter : Expr} {f : Fi} (h : RI L X Wx tg iter f) : PI X tg iter (tiOf L X.K Wx f) := ⟨fun pins s σ H R I ⟨W, st, ρ, S, E, o⟩ => h.run pins s σ H W st ρ R I S E o⟩
/-- a list or a tuple -/
def iSeq (f : Fe) : Fi := fun ρ st => (f ρ st).bind fun d st => match d with
  | .tup ds => .ok (ds, fun _ => True) st
  | .ref n => match st[n]? with
    | some (.lst ds) => .ok (ds, fun st => st[n]? = some (.lst ds)) st
    | some (.rol ds) => .ok (ds, fun st => st[n]? = some (.rol ds)) st
    | _ => .stuck
  | _ => .stuck
theorem sqL_of {K : PySem.W.Frag} {W : Wd} {st : Store} {H : Hp} {n : Nat} {a : Addr} {ds : List D} (S : Sok K L W st H) (h1 : W.io[n]? = some a) (h : st[n]? = some (.lst ds) ∨ st[n]? = some (.rol ds)) : ∃ vs, SqL K H a vs ∧ Rls K L W ds vs := by
  rcases h with h | h
  · obtain ⟨vs, h2, h3⟩ := S.cell n _ a h h1
    exact ⟨vs, .inl (.inl h2), h3⟩
  · obtain ⟨vs, h2, h3⟩ := S.cell n _ a h h1
    rcases h2 with ⟨o, h2⟩ | ⟨o, its, m, q1, q2, q3, q4, q5, q6⟩
    · exact ⟨vs, .inl (.inr ⟨o, h2⟩), h3⟩
    · exact ⟨vs, .inr ⟨o, its, m, q1, q2, q3, q4, q5, q6⟩, h3⟩
theorem itl_ok {K : PySem.W.Frag} {W : Wd} {n : Nat} {a : Addr} {ds : List D} {chk : Store → Prop} (h1 : W.io[n]? = some a) (hc : ∀ st, chk st → st[n]? = some (.lst ds) ∨ st[n]? = some (.rol ds)) : ItOk K L (Itl K a) W ds chk where
  go := fun i W' st H d e' S' h hd => by
    obtain ⟨vs, q1, q2⟩ := sqL_of S' (e'.2 _ _ h1) (hc st h)
    obtain ⟨x, hx, Rx⟩ := q2.get hd
    refine ⟨⟨vs, x, q1, hx⟩, fun y H' yl => ?_⟩
    obtain ⟨rfl, yl⟩ := yl
    have := yl vs q1
    rw [hx] at this
    cases this
    exact ⟨W', .rfl', S', Rx⟩
  stop := fun i W' st H e' S' h hd => by
    obtain ⟨vs, q1, q2⟩ := sqL_of S' (e'.2 _ _ h1) (hc st h)
    exact ⟨vs, q1, by rw [← q2.length]; exact hd⟩
theorem itt_ok {K : PySem.W.Frag} {W : Wd} {a : Addr} {vs : List V} {ds : List D} (h1 : SqT K W.fz a vs) (h2 : Rls K L W ds vs) (hinj : ∀ xs ys H, SqT K H a xs → SqT K H a ys → True) : ItOk K L (Itt K a) W ds (fun _ => True) where
  go := fun i W' st H d e' S' h hd => by
    obtain ⟨x, hx, Rx⟩ := h2.get hd
    have hq : SqT K H a vs := SqT_mono (fun b o q => S'.fz b o (e'.1 b o q)) h1
    refine ⟨⟨vs, x, hq, hx⟩, fun y H' yl => ?_⟩
    obtain ⟨rfl, yl⟩ := yl
    have := yl vs hq
    rw [hx] at this
    cases this
    exact ⟨W', .rfl', S', Rx.mono e'⟩
  stop := fun i W' st H e' S' h hd => ⟨vs, SqT_mono (fun b o q => S'.fz b o (e'.1 b o q)) h1, by rw [← h2.length]; exact hd⟩
theorem iter_list_any {pins : List (Addr × Obj)} {σ : St} {H : Hp} {s : Shared} {tg : Expr} {a : Addr} {xs : List V} {R : It → Hp → Prop} (I : Inv X pins σ H s) (hq : SqL X.K H a xs) (q : R (Itl X.K a) H) : wpAny (model X.prog X.w) X.A (pyIter (.ref a)) (PIE X pins σ tg R) X.xe s := by
  obtain ⟨its, rv, p, hz⟩ := I.list hq
  refine wpAny_pyIter_list p.isList ?_
  refine ⟨s.heap.objs.size, [s.heap.objs.size], _, _, H, rfl, I.kept (t' := s.toks) fun b o e => Heap.get?_push_of_some _ e, turn_list a _, ⟨_, Heap.get?_push_size _ rfl, rfl, rfl⟩, fun b hb => ?_, q⟩
  have e : b = s.heap.objs.size := by simpa using hb
  subst e
  exact I.fpOk (Nat.le_refl _) (I.hok.fresh (Nat.le_refl _))
theorem iter_tup_any {pins : List (Addr × Obj)} {σ : St} {H : Hp} {s : Shared} {tg : Expr} {a : Addr} {xs : List V} {R : It → Hp → Prop} (I : Inv X pins σ H s) (hq : SqT X.K H a xs) (q : R (Itt X.K a) H) : wpAny (model X.prog X.w) X.A (pyIter (.ref a)) (PIE X pins σ tg R) X.xe s := by
  obtain ⟨its, rv, p, hz⟩ := I.tuple hq
  refine wpAny_pyIter_tuple (show s.heap.IsTuple a its.toArray from p) ?_
  refine ⟨s.heap.objs.size, [s.heap.objs.size], _, _, H, rfl, I.kept (t' := s.toks) fun b o e => Heap.get?_push_of_some _ e, turn_tuple a _, ⟨_, Heap.get?_push_size _ rfl, rfl, rfl⟩, fun b hb => ?_, q⟩
  have e : b = s.heap.objs.size := by simpa using hb
  subst e
  exact I.fpOk (Nat.le_refl _) (I.hok.fresh (Nat.le_refl _))
theorem ri_seq {tg e : Expr} {f : Fe} (he : RE L X Wx e f) : RI L X Wx tg e (iSeq f) := by
  refine ⟨fun pins s σ H W st ρ R I S E o => he.bind I S E o fun d st1 W1 H1 v u s1 e1 I1 S1 R1 r1 o1 => ?_⟩
  cases d with
  | tup ds =>
    obtain ⟨a, vs, rfl, h1, h2⟩ := Rl.tup.mp R1
    cases r1
    exact iter_tup_any I1 (SqT_mono S1.fz h1) (o1 W1 H1 .rfl' S1 _ (itt_ok h1 h2 fun _ _ _ _ _ => trivial))
  | ref n =>
    obtain ⟨a, rfl, h1⟩ := Rl.ref.mp R1
    cases r1
    dsimp only at o1
    split at o1
    · rename_i ds hn
      obtain ⟨vs, q1, q2⟩ := sqL_of S1 h1 (.inl hn)
      exact iter_list_any I1 q1 (o1 W1 H1 .rfl' S1 _ (itl_ok h1 fun st h => .inl h))
    · rename_i ds hn
      obtain ⟨vs, q1, q2⟩ := sqL_of S1 h1 (.inr hn)
      exact iter_list_any I1 q1 (o1 W1 H1 .rfl' S1 _ (itl_ok h1 fun st h => .inr h))
    · exact o1.elim
  | _ => exact o1.elim
/-- range -/
def intsFrom (lo : Int) (n : Nat) : List D := (List.range n).map fun (i : Nat) => D.int (lo + (i : Int))
def iRng (r : Fa) : Fi := fun ρ st => (r ρ st).bind fun ds st => match ds with
  | [.int j] => if -(2 ^ 62) ≤ j ∧ j < 2 ^ 62 then .ok (intsFrom 0 j.toNat, fun _ => True) st else .stuck
  | [.int i, .int j] => if -(2 ^ 62) ≤ i ∧ i < 2 ^ 62 ∧ -(2 ^ 62) ≤ j ∧ j < 2 ^ 62 then .ok (intsFrom i (j - i).toNat, fun _ => True) st else .stuck
  | _ => .stuck
theorem itr_ok {K : PySem.W.Frag} {W : Wd} {lo : Int} {n : Nat} : ItOk K L (Itr lo n) W (intsFrom lo n) (fun _ => True) where
  go := fun i W' st H d e' S' h hd => by
    unfold intsFrom at hd
    rw [List.getElem?_map] at hd
    have hi : i < n := by
      rcases Nat.lt_or_ge i n with h | h
      · exact h
      · rw [List.getElem?_eq_none (by simpa using h)] at hd; cases hd
    rw [List.getElem?_range hi] at hd
    cases hd
    refine ⟨hi, fun x H' yl => ?_⟩
    obtain ⟨rfl, rfl⟩ := yl
    exact ⟨W', .rfl', S', Rl.int.mpr rfl⟩
  stop := fun i W' st H e' S' h hd => by
    have : n ≤ i := by simpa [intsFrom] using hd
    exact this
theorem ri_range1 {tg a : Expr} {r : Fa} {p pos : Pos} (hg : Gl X "range") (hm : X.mg "range" = none) (ha : RA L X Wx [a] r) (hs : starEach [a] X.env = [(false, eval a X.env)] := by rfl) : RI L X Wx tg (.Call (.Name "range" p) [a] [] pos) (iRng r) :=
  ⟨fun pins s σ H W st ρ R I S E o => (pi_range1 hg hm ha.pa hs).run pins s σ H R I ⟨W, st, ρ, S, E, Out.toA o fun ds st1 W1 H1 vs hr e1 S1 R1 o1 => by
    have hl := ha.len _ _ _ _ hr
    match ds, hl with
    | [d], _ =>
      cases d with
      | int j =>
        dsimp only at o1
        split at o1
        · rename_i hj
          obtain ⟨v, _, rfl, q1, q2⟩ := Rls.cons.mp R1
          rw [Rls.nil.mp q2, Rl.int.mp q1]
          exact ⟨j, rfl, hj.1, hj.2, o1 W1 H1 .rfl' S1 _ itr_ok⟩
        · exact o1.elim
      | _ => exact o1.elim⟩⟩
theorem ri_range2 {tg a b : Expr} {r : Fa} {p pos : Pos} (hg : Gl X "range") (hm : X.mg "range" = none) (ha : RA L X Wx [a, b] r) (hs : starEach [a, b] X.env = [(false, eval a X.env), (false, eval b X.env)] := by rfl) (hs2 : starEach [b] X.env = [(false, eval b X.env)] := by rfl) : RI L X Wx tg (.Call (.Name "range" p) [a, b] [] pos) (iRng r) :=
  ⟨fun pins s σ H W st ρ R I S E o => (pi_range2 hg hm ha.pa hs hs2).run pins s σ H R I ⟨W, st, ρ, S, E, Out.toA o fun ds st1 W1 H1 vs hr e1 S1 R1 o1 => by
    have hl := ha.len _ _ _ _ hr
    match ds, hl with
    | [d, d'], _ =>
      cases d with
      | int i =>
        cases d' with
        | int j =>
          dsimp only at o1
          split at o1
          · rename_i hj
            obtain ⟨v, _, rfl, q1, q2⟩ := Rls.cons.mp R1
            obtain ⟨v', _, rfl, q3, q4⟩ := Rls.cons.mp q2
            rw [Rls.nil.mp q4, Rl.int.mp q1, Rl.int.mp q3]
            exact ⟨i, j, rfl, hj, o1 W1 H1 .rfl' S1 _ itr_ok⟩
          · exact o1.elim
        | _ => exact o1.elim
      | _ => exact o1.elim⟩⟩
/-! ### for -/
open Classical in
noncomputable def forI (chk : Store → Prop) (g : Fg) (b : Fs) : List D → Fs
  | [] => fun ρ st => if chk st then .nx ρ st else .stuck
  | d :: ds => fun ρ st => if chk st then match g d ρ st with
    | .ok ρ' st' => match b ρ' st' with
      | .nx ρ st => forI chk g b ds ρ st
      | .ct ρ st => forI chk g b ds ρ st
      | .bk ρ st => .nx ρ st
      | r => r
    | _ => .stuck else .stuck
noncomputable def sFor (fi : Fi) (g : Fg) (b : Fs) : Fs := fun ρ st => (fi ρ st).toS ρ fun p st => forI p.2 g b p.1 ρ st
theorem rs_for {tg iter : Expr} {body : List Stmt} {fi : Fi} {g : Fg} {b : Fs} {ts : List Nat} {pos : Pos} (hp : PassesOwn (model X.prog X.w) X.A X.env X.xe) (hc : X.calm = true) (hi : RI L X Wx tg iter fi) (hg : RG L X tg g ts) (hb : RSs L X Wx body b)
    (hs : ∀ x, foldedSetIterable iter X.env x = pure x := by intro _; rfl) : RS L X Wx (.For tg iter body [] pos) (sFor fi g b) := by
  refine ⟨fun pins s σ H W st ρ D I S E o => (ps_for hp hc hi.pi hg.pg hb.pss hs).run pins s σ H D I ?_⟩
  refine ⟨W, st, ρ, S, E, ?_⟩
  unfold sFor at o
  cases q : fi ρ st with
  | stuck => rw [q] at o; exact o.elim
  | err x st1 => rw [q] at o; exact fun W' H' cls dx e' S' R' => o W' H' σ cls dx e' S' (E.mono e') R'
  | ok p st1 =>
    obtain ⟨ds, chk⟩ := p
    rw [q, Res.toS_ok] at o
    intro W1 H1 e1 S1 J hJ
    have o1 := OutS.mono e1 o
    clear o
    dsimp only at o1
    refine ⟨fun i m σ' H' => ∃ W' st' ρ', m = ds.length - i ∧ i ≤ ds.length ∧ W1.le W' ∧ Sok X.K L W' st' H' ∧ EnR X.K L W' σ' ρ' ∧ OutS X.K L Wx W' D (forI chk g b (ds.drop i) ρ' st'), ⟨ds.length, W1, st1, ρ, by simp, Nat.zero_le _, .rfl', S1, E.mono e1, by simpa using o1⟩, ?_⟩
    rintro i m σ' H' ⟨W', st', ρ', rfl, hi, e', S', E', o'⟩
    by_cases hlt : i < ds.length
    · rw [List.drop_eq_getElem_cons hlt] at o'
      unfold forI at o'
      split at o'
      · rename_i hck
        obtain ⟨h1, h2⟩ := hJ.go i W' st' H' ds[i] e' S' hck (List.getElem?_eq_getElem hlt)
        cases hgq : g ds[i] ρ' st' with
        | err x s2 => rw [hgq] at o'; exact o'.elim
        | stuck => rw [hgq] at o'; exact o'.elim
        | ok ρ2 st2 =>
          rw [hgq] at o'
          dsimp only at o'
          have step : ∀ (N : St → Hp → Prop), (∀ W2 x H2, W'.le W2 → Sok X.K L W2 st' H2 → Rl X.K L W2 ds[i] x → OutS X.K L Wx W2 { D with nx := N, ct := N, bk := D.nx } (b ρ2 st2)) →
              ∀ x H2, J.yld i H' x H2 → tgOf L X.K g ts x σ' H2 fun σ2 H3 => tsOf L X.K Wx b { D with nx := N, ct := N, bk := D.nx } σ2 H3 := fun N hN x H2 hy => by
            obtain ⟨W2, e2, S2, R2⟩ := h2 x H2 hy
            refine ⟨W2, st', ρ', ds[i], ρ2, st2, S2, E'.mono e2, R2, hgq, fun W3 σ3 H3 e3 S3 E3 _ => ⟨W3, st2, ρ2, S3, E3, OutS.mono e3 (hN W2 x H2 e2 S2 R2)⟩⟩
          cases hbq : b ρ2 st2 with
          | nx ρ3 st3 =>
            rw [hbq] at o'
            refine .inr ⟨h1, fun σ4 H4 => ∃ W4, W'.le W4 ∧ Sok X.K L W4 st3 H4 ∧ EnR X.K L W4 σ4 ρ3, fun σ4 H4 ⟨W4, e4, S4, E4⟩ => ⟨ds.length - (i + 1), by omega, W4, st3, ρ3, rfl, hlt, e'.trans e4, S4, E4, OutS.mono e4 o'⟩, step _ fun W2 x H2 e2 S2 R2 => ?_⟩
            rw [hbq]
            exact fun W4 H4 σ4 e4 S4 E4 => ⟨W4, e2.trans e4, S4, E4⟩
          | ct ρ3 st3 =>
            rw [hbq] at o'
            refine .inr ⟨h1, fun σ4 H4 => ∃ W4, W'.le W4 ∧ Sok X.K L W4 st3 H4 ∧ EnR X.K L W4 σ4 ρ3, fun σ4 H4 ⟨W4, e4, S4, E4⟩ => ⟨ds.length - (i + 1), by omega, W4, st3, ρ3, rfl, hlt, e'.trans e4, S4, E4, OutS.mono e4 o'⟩, step _ fun W2 x H2 e2 S2 R2 => ?_⟩
            rw [hbq]
            exact fun W4 H4 σ4 e4 S4 E4 => ⟨W4, e2.trans e4, S4, E4⟩
          | bk ρ3 st3 =>
            rw [hbq] at o'
            refine .inr ⟨h1, fun _ _ => False, fun _ _ z => z.elim, step _ fun W2 x H2 e2 S2 R2 => ?_⟩
            rw [hbq]
            exact fun W4 H4 σ4 e4 S4 E4 => o' W4 H4 σ4 (e2.trans e4) S4 E4
          | rt d st3 =>
            rw [hbq] at o'
            refine .inr ⟨h1, fun _ _ => False, fun _ _ z => z.elim, step _ fun W2 x H2 e2 S2 R2 => ?_⟩
            rw [hbq]
            exact fun W4 H4 v e4 S4 R4 => o' W4 H4 v (e2.trans e4) S4 R4
          | err d ρ3 st3 =>
            rw [hbq] at o'
            refine .inr ⟨h1, fun _ _ => False, fun _ _ z => z.elim, step _ fun W2 x H2 e2 S2 R2 => ?_⟩
            rw [hbq]
            exact fun W4 H4 σ4 cls dx e4 S4 E4 R4 => o' W4 H4 σ4 cls dx (e2.trans e4) S4 E4 R4
          | stuck => rw [hbq] at o'; exact o'.elim
      · exact o'.elim
    · have hi' : ds.length ≤ i := by omega
      rw [List.drop_of_length_le hi'] at o'
      unfold forI at o'
      split at o'
      · rename_i hck
        exact .inl ⟨hJ.stop i W' st' H' e' S' hck hi', o' W' H' σ' .rfl' S' E'⟩
      · exact o'.elim
end
end Gm
namespace Gm
open PySem PySem.Spec PyProof.Rows L2
section
variable {L : Lw} {X : Cx} {Wx : WX} {k : Nat} {c : Fn}
/-! ### while -/
def whileN (t : Ft) (b : Fs) : Nat → Fs
  | 0 => fun _ _ => .stuck
  | n + 1 => fun ρ st => (t ρ st).toS ρ fun q st => if q then match b ρ st with
    | .nx ρ st => whileN t b n ρ st
    | .ct ρ st => whileN t b n ρ st
    | .bk ρ st => .nx ρ st
    | r => r else .nx ρ st
theorem whileN_succ (t : Ft) (b : Fs) : ∀ (n : Nat) (ρ : Ev) (st : Store), whileN t b n ρ st ≠ .stuck → whileN t b (n + 1) ρ st = whileN t b n ρ st
  | 0, _, _, h => absurd rfl h
  | n + 1, ρ, st, h => by
    unfold whileN at h ⊢
    cases q : t ρ st with
    | stuck => rfl
    | err x s => rfl
    | ok a s1 =>
      rw [q] at h
      simp only [Res.toS_ok] at h ⊢
      cases a with
      | false => rfl
      | true =>
        simp only [if_true] at h ⊢
        cases qb : b ρ s1 with
        | nx ρ' s' => rw [qb] at h; exact whileN_succ t b n ρ' s' h
        | ct ρ' s' => rw [qb] at h; exact whileN_succ t b n ρ' s' h
        | bk ρ' s' => rfl
        | rt _ _ => rfl
        | err _ _ _ => rfl
        | stuck => rfl
theorem whileN_le (t : Ft) (b : Fs) (n : Nat) (ρ : Ev) (st : Store) (h : whileN t b n ρ st ≠ .stuck) : ∀ k, whileN t b (n + k) ρ st = whileN t b n ρ st
  | 0 => rfl
  | k + 1 => by
    have ih := whileN_le t b n ρ st h k
    rw [← ih]
    exact whileN_succ t b (n + k) ρ st (by rw [ih]; exact h)
open Classical in
noncomputable def sWhile (t : Ft) (b : Fs) : Fs := fun ρ st => if h : ∃ n, whileN t b n ρ st ≠ .stuck then whileN t b (Classical.choose h) ρ st else .stuck
theorem sWhile_eq {t : Ft} {b : Fs} {ρ : Ev} {st : Store} (n : Nat) {r : SR} (h : whileN t b n ρ st = r) (hr : r ≠ .stuck) : sWhile t b ρ st = r := by
  have hn : ∃ n, whileN t b n ρ st ≠ .stuck := ⟨n, by rw [h]; exact hr⟩
  unfold sWhile
  rw [dif_pos hn]
  have h1 := whileN_le t b n ρ st (by rw [h]; exact hr) (Classical.choose hn)
  have h2 := whileN_le t b _ ρ st (Classical.choose_spec hn) n
  rw [Nat.add_comm] at h1
  rw [← h2, h1, h]
theorem rs_while {cd : Expr} {body : List Stmt} {t : Ft} {b : Fs} {pos : Pos} (hp : PassesOwn (model X.prog X.w) X.A X.env X.xe) (hc : RT L X Wx cd t) (hb : RSs L X Wx body b) : RS L X Wx (.While cd body [] pos) (sWhile t b) := by
  refine ⟨fun pins s σ H W st ρ D I S E o => (ps_while hp hc.pt hb.pss).run pins s σ H D I ?_⟩
  by_cases hn : ∃ n, whileN t b n ρ st ≠ .stuck
  · unfold sWhile at o
    rw [dif_pos hn] at o
    generalize Classical.choose hn = n at o
    refine ⟨fun m σ' H' => ∃ W' st' ρ', W.le W' ∧ Sok X.K L W' st' H' ∧ EnR X.K L W' σ' ρ' ∧ OutS X.K L Wx W' D (whileN t b m ρ' st'), ⟨n, W, st, ρ, .rfl', S, E, o⟩, ?_⟩
    rintro m σ' H' ⟨W', st', ρ', e', S', E', o'⟩
    cases m with
    | zero => exact o'.elim
    | succ m =>
      unfold whileN at o'
      refine ⟨W', st', ρ', S', E', ?_⟩
      cases qt : t ρ' st' with
      | stuck => rw [qt] at o'; exact o'.elim
      | err x s => rw [qt] at o'; exact fun W2 H2 cls dx e2 S2 R2 => o' W2 H2 σ' cls dx e2 S2 (E'.mono e2) R2
      | ok a s1 =>
        rw [qt, Res.toS_ok] at o'
        intro W2 H2 e2 S2
        have o2 := OutS.mono e2 o'
        have E2 := E'.mono e2
        cases a with
        | false => exact o2 W2 H2 σ' .rfl' S2 E2
        | true =>
          simp only [if_true] at o2 ⊢
          cases qb : b ρ' s1 with
          | nx ρ3 s3 =>
            rw [qb] at o2
            refine ⟨fun σ3 H3 => ∃ W3, W2.le W3 ∧ Sok X.K L W3 s3 H3 ∧ EnR X.K L W3 σ3 ρ3, fun σ3 H3 ⟨W3, e3, S3, E3⟩ => ⟨m, Nat.lt_succ_self m, W3, s3, ρ3, e'.trans (e2.trans e3), S3, E3, OutS.mono e3 o2⟩, W2, s1, ρ', S2, E2, ?_⟩
            rw [qb]
            exact fun W3 H3 σ3 e3 S3 E3 => ⟨W3, e3, S3, E3⟩
          | ct ρ3 s3 =>
            rw [qb] at o2
            refine ⟨fun σ3 H3 => ∃ W3, W2.le W3 ∧ Sok X.K L W3 s3 H3 ∧ EnR X.K L W3 σ3 ρ3, fun σ3 H3 ⟨W3, e3, S3, E3⟩ => ⟨m, Nat.lt_succ_self m, W3, s3, ρ3, e'.trans (e2.trans e3), S3, E3, OutS.mono e3 o2⟩, W2, s1, ρ', S2, E2, ?_⟩
            rw [qb]
            exact fun W3 H3 σ3 e3 S3 E3 => ⟨W3, e3, S3, E3⟩
          | bk ρ3 s3 =>
            rw [qb] at o2
            refine ⟨fun _ _ => False, fun _ _ z => z.elim, W2, s1, ρ', S2, E2, ?_⟩
            rw [qb]
            exact o2
          | rt d s3 =>
            rw [qb] at o2
            refine ⟨fun _ _ => False, fun _ _ z => z.elim, W2, s1, ρ', S2, E2, ?_⟩
            rw [qb]
            exact o2
          | err x ρ3 s3 =>
            rw [qb] at o2
            refine ⟨fun _ _ => False, fun _ _ z => z.elim, W2, s1, ρ', S2, E2, ?_⟩
            rw [qb]
            exact o2
          | stuck => rw [qb] at o2; exact o2.elim
  · unfold sWhile at o
    rw [dif_neg hn] at o
    exact o.elim
/-! ### comprehensions -/
abbrev W0 : WX := fun _ _ _ _ => False
def wipeE (ρ : Ev) : List Nat → Ev
  | [] => ρ
  | v :: vs => (wipeE ρ vs).set v none
theorem wipeE_length (ρ : Ev) : ∀ vs : List Nat, (wipeE ρ vs).length = ρ.length
  | [] => rfl
  | v :: vs => by unfold wipeE; rw [List.length_set, wipeE_length ρ vs]
theorem wipe_at {σ : St} {i : Nat} : ∀ {vs : List Nat}, i ∉ vs → (wipe σ vs)[i]? = σ[i]?
  | [], _ => rfl
  | v :: vs, h => by
    unfold wipe
    rw [List.getElem?_set_ne (fun e => h (by simp [e]))]
    exact wipe_at (fun q => h (List.mem_cons_of_mem _ q))
theorem wipe_in {σ : St} {i : Nat} : ∀ {vs : List Nat}, i ∈ vs → i < σ.length → (wipe σ vs)[i]? = some none
  | v :: vs, h, hl => by
    unfold wipe
    by_cases e : v = i
    · subst e
      rw [List.getElem?_set_self (by rw [wipe_length]; exact hl)]
    · rw [List.getElem?_set_ne e]
      exact wipe_in ((List.mem_cons.mp h).resolve_left (fun q => e q.symm)) hl
theorem wipeE_some {ρ : Ev} {i : Nat} {x : D} : ∀ {vs : List Nat}, (wipeE ρ vs)[i]? = some (some x) → ρ[i]? = some (some x) ∧ i ∉ vs
  | [], h => ⟨h, by simp⟩
  | v :: vs, h => by
    unfold wipeE at h
    by_cases hi : v = i
    · subst hi
      by_cases hv : v < (wipeE ρ vs).length
      · rw [List.getElem?_set_self hv] at h; cases h
      · rw [List.getElem?_eq_none (by simpa using hv)] at h; cases h
    · rw [List.getElem?_set_ne hi] at h
      obtain ⟨h1, h2⟩ := wipeE_some h
      exact ⟨h1, by simp only [List.mem_cons, not_or]; exact ⟨fun e => hi e.symm, h2⟩⟩
theorem EnR.wipe {K : PySem.W.Frag} {W : Wd} {σ : St} {ρ : Ev} (vs : List Nat) (E : EnR K L W σ ρ) : EnR K L W (wipe σ vs) (wipeE ρ vs) := ⟨by rw [wipeE_length, wipe_length]; exact E.1, fun i d h => by
  obtain ⟨h1, h2⟩ := wipeE_some h
  obtain ⟨v, h3, h4⟩ := E.2 i d h1
  exact ⟨v, by rw [wipe_at h2]; exact h3, h4⟩⟩
theorem Fram.wiped {ts vs : List Nat} {σ σ2 : St} (f : Fram ts (wipe σ vs) σ2) (h : ∀ i ∈ ts, i ∈ vs) : wipe σ2 vs = wipe σ vs := by
  refine List.ext_getElem? fun i => ?_
  by_cases hi : i ∈ vs
  · by_cases hl : i < σ.length
    · rw [wipe_in hi hl, wipe_in hi (by rw [f.1, wipe_length]; exact hl)]
    · rw [List.getElem?_eq_none (by rw [wipe_length, f.1, wipe_length]; omega), List.getElem?_eq_none (by rw [wipe_length]; omega)]
  · rw [wipe_at hi, f.2 i (fun q => hi (h i q))]
open Classical in
noncomputable def lcI (chk : Store → Prop) (g : Fg) (t : Ft) (f : Fe) (n : Nat) : List D → Ev → Store → Res D
  | [] => fun _ st => if chk st then .ok (.ref n) st else .stuck
  | d :: ds => fun ρ st => if chk st then match g d ρ st with
    | .ok ρ' st1 => match t ρ' st1 with
      | .ok false st2 => lcI chk g t f n ds ρ st2
      | .ok true st2 => match f ρ' st2 with
        | .ok y st3 => match st3[n]? with
          | some (.lst acc) => if acc.length < sizeLine then lcI chk g t f n ds ρ (st3.set n (.lst (acc ++ [y]))) else .stuck
          | _ => .stuck
        | _ => .stuck
      | _ => .stuck
    | _ => .stuck else .stuck
noncomputable def xLc (fi : Fi) (g : Fg) (t : Ft) (f : Fe) (vs : List Nat) : Fe := fun ρ st => (fi ρ st).bind fun p st => lcI p.2 g t f st.length p.1 (wipeE ρ vs) (st ++ [.lst []])
def tTrue : Ft := fun _ st => .ok true st
structure RTs (L : Lw) (X : Cx) (Wx : WX) (es : List Expr) (f : Ft) : Prop where
  pts : PTs X es (ttOf L X.K Wx f)
theorem rts_nil : RTs L X Wx [] tTrue := ⟨⟨fun pins s σ H Q I ⟨W, st, ρ, S, E, o⟩ => wpAny_tests_nil ⟨H, I, o W H .rfl' S⟩⟩⟩
theorem rts_one {e : Expr} {t : Ft} (h : RT L X Wx e t) : RTs L X Wx [e] t := ⟨pts_one h.pt⟩
theorem Gd.blk (G : Gd L X Wx k c) (s : Shared) (H : Hp) (scope : Scope) (cenv : Env) (fp : List Addr) : Gd L (X.blk s H scope cenv fp) W0 k c := ⟨G.fo, G.room, takes0, G.calm, PassesOwn.never, G.nd⟩
theorem lc_term {fi : Fi} {g : Fg} {t : Ft} {f : Fe} {ts : List Nat} {vs : List Nat} {σ : St} {H : Hp} {W : Wd} {st : Store} {ρ : Ev} {Q : VK} (hts : ∀ i ∈ ts, i ∈ vs) (S : Sok X.K L W st H) (E : EnR X.K L W σ ρ)
    (o : Out X.K L Wx W σ (okE X.K L Q) (xLc fi g t f vs ρ st)) : tLc (tiOf L X.K Wx fi) (tgOf L X.K g ts) (ttOf L X.K W0 t) (teOf L X.K W0 f) vs σ H Q := by
  refine ⟨W, st, ρ, S, E, ?_⟩
  unfold xLc at o
  cases q : fi ρ st with
  | stuck => rw [q] at o; exact o.elim
  | err x st1 => rw [q] at o; exact o
  | ok p st1 =>
    obtain ⟨ds, chk⟩ := p
    rw [q, Res.bind_ok] at o
    intro W1 H1 e1 S1 J hJ D0 hD
    have o1 := Out.mono e1 o
    clear o
    dsimp only at o1
    have S2 : Sok X.K L (W1.more D0) (st1 ++ [.lst []]) (upd H1 D0 (.lst [])) := S1.alloc hD ⟨[], upd_same, Rls.nil.mpr rfl⟩
    have ioD : (W1.more D0).io[st1.length]? = some D0 := by
      show (W1.io ++ [D0])[st1.length]? = _
      rw [S1.len, List.getElem?_concat_length]
    have Ew := (E.mono e1).wipe vs
    refine ⟨fun i m H' => ∃ W' st', m = ds.length - i ∧ i ≤ ds.length ∧ (W1.more D0).le W' ∧ Sok X.K L W' st' H' ∧ Out X.K L Wx W' σ (okE X.K L Q) (lcI chk g t f st1.length (ds.drop i) (wipeE ρ vs) st'), ⟨ds.length, W1.more D0, st1 ++ [.lst []], by simp, Nat.zero_le _, .rfl', S2, by simpa using Out.mono Wd.le_more o1⟩, ?_⟩
    rintro i m H' ⟨W', st', rfl, hi, e', S', o'⟩
    have ioD' := e'.2 _ _ ioD
    have hJ' := hJ.mono (Wd.le_more.trans e')
    have Ew' := Ew.mono (Wd.le_more.trans e')
    by_cases hlt : i < ds.length
    · rw [List.drop_eq_getElem_cons hlt] at o'
      unfold lcI at o'
      split at o'
      · rename_i hck
        obtain ⟨h1, h2⟩ := hJ'.go i W' st' H' ds[i] .rfl' S' hck (List.getElem?_eq_getElem hlt)
        cases hgq : g ds[i] (wipeE ρ vs) st' with
        | err x s2 => rw [hgq] at o'; exact o'.elim
        | stuck => rw [hgq] at o'; exact o'.elim
        | ok ρ2 st2 =>
          rw [hgq] at o'
          dsimp only at o'
          cases htq : t ρ2 st2 with
          | err x s2 => rw [htq] at o'; exact o'.elim
          | stuck => rw [htq] at o'; exact o'.elim
          | ok b st3 =>
            rw [htq] at o'
            cases b with
            | false =>
              dsimp only at o'
              refine .inr ⟨h1, fun H4 => ∃ W4, W'.le W4 ∧ Sok X.K L W4 st3 H4, fun H4 ⟨W4, e4, S4⟩ => ⟨ds.length - (i + 1), by omega, W4, st3, rfl, hlt, e'.trans e4, S4, Out.mono e4 o'⟩, fun x H2 hy => ?_⟩
              obtain ⟨W2, e2, S2', R2⟩ := h2 x H2 hy
              refine ⟨W2, st', wipeE ρ vs, ds[i], ρ2, st2, S2', Ew'.mono e2, R2, hgq, fun W3 σ3 H3 e3 S3 E3 F3 => ⟨F3.wiped hts, W3, st2, ρ2, S3, E3, ?_⟩⟩
              rw [htq]
              exact fun W4 H4 e4 S4 => by
                unfold okT
                simp only [Bool.false_eq_true, if_false]
                exact ⟨W4, e2.trans (e3.trans e4), S4⟩
            | true =>
              dsimp only at o'
              cases hfq : f ρ2 st3 with
              | err x s2 => rw [hfq] at o'; exact o'.elim
              | stuck => rw [hfq] at o'; exact o'.elim
              | ok y st4 =>
                rw [hfq] at o'
                dsimp only at o'
                split at o'
                · rename_i acc hacc
                  split at o'
                  · rename_i hsz
                    refine .inr ⟨h1, fun H4 => ∃ W4, W'.le W4 ∧ Sok X.K L W4 (st4.set st1.length (.lst (acc ++ [y]))) H4, fun H4 ⟨W4, e4, S4⟩ => ⟨ds.length - (i + 1), by omega, W4, _, rfl, hlt, e'.trans e4, S4, Out.mono e4 o'⟩, fun x H2 hy => ?_⟩
                    obtain ⟨W2, e2, S2', R2⟩ := h2 x H2 hy
                    refine ⟨W2, st', wipeE ρ vs, ds[i], ρ2, st2, S2', Ew'.mono e2, R2, hgq, fun W3 σ3 H3 e3 S3 E3 F3 => ⟨F3.wiped hts, W3, st2, ρ2, S3, E3, ?_⟩⟩
                    rw [htq]
                    intro W4 H4 e4 S4
                    unfold okT
                    simp only [if_true]
                    refine ⟨W4, st3, ρ2, S4, E3.mono e4, ?_⟩
                    rw [hfq]
                    intro W5 H5 e5 S5 v R5
                    have io5 : W5.io[st1.length]? = some D0 := (e2.trans (e3.trans (e4.trans e5))).2 _ _ ioD'
                    obtain ⟨ws, q1, q2⟩ := S5.cell _ _ D0 hacc io5
                    refine ⟨ws, q1, by rw [← q2.length]; exact hsz, W5, e2.trans (e3.trans (e4.trans e5)), S5.write hacc rfl io5 ⟨ws ++ [v], upd_same, q2.append (Rls.mk R5 (Rls.nil.mpr rfl))⟩⟩
                  · exact o'.elim
                · exact o'.elim
      · exact o'.elim
    · have hi' : ds.length ≤ i := by omega
      rw [List.drop_of_length_le hi'] at o'
      unfold lcI at o'
      split at o'
      · rename_i hck
        exact .inl ⟨hJ'.stop i W' st' H' .rfl' S' hck hi', o' W' H' .rfl' S' _ (Rl.ref.mpr ⟨D0, rfl, ioD'⟩)⟩
      · exact o'.elim
theorem re_lc {elt tg iter : Expr} {ifs : List Expr} {scope : Scope} {own : List (Str × Nat)} {pos : Pos} {fi : Fi} {g : Fg} {t : Ft} {f : Fe} {ts : List Nat} (G : Gd L X Wx k c) (hi : RI L X Wx tg iter fi) (ok : BlkOk X.N X.env.scope scope own)
    (hg : ∀ (s : Shared) (H : Hp) (C : Addr) (cl : List (Str × Addr)) (fp : List Addr), RG L (X.blk s H scope (compEnvC scope cl C X.env) fp) tg g ts)
    (ht : ∀ (s : Shared) (H : Hp) (C : Addr) (cl : List (Str × Addr)) (fp : List Addr), RTs L (X.blk s H scope (compEnvC scope cl C X.env) fp) W0 ifs t)
    (he : ∀ (s : Shared) (H : Hp) (C : Addr) (cl : List (Str × Addr)) (fp : List Addr), RE L (X.blk s H scope (compEnvC scope cl C X.env) fp) W0 elt f)
    (hts : ∀ i ∈ ts, i ∈ own.map (·.2)) (hs : ∀ x, foldedSetIterable iter X.env x = pure x := by intro _; rfl) :
    RE L X Wx (.ListComp elt [⟨tg, iter, ifs, 0⟩] scope pos) (xLc fi g t f (own.map (·.2))) :=
  ⟨fun pins s σ H W st ρ Q I S E o => (pe_lc (wi := tiOf L X.K Wx fi) (g := tgOf L X.K g ts) (tt := ttOf L X.K W0 t) (te := teOf L X.K W0 f) G.calm G.nd hi.pi ok (fun s H C cl fp => (hg s H C cl fp).pg) (fun s H C cl fp => (ht s H C cl fp).pts) (fun s H C cl fp => (he s H C cl fp).pe) hs).run pins s σ H Q I (lc_term hts S E o)⟩
/-- name = [..] on one line, the name a local -/
theorem rs_setLc {i : Nat} {y : Str} {py : Pos} {elt tg iter : Expr} {ifs : List Expr} {scope : Scope} {own : List (Str × Nat)} {pos spos : Pos} {fi : Fi} {g : Fg} {t : Ft} {f : Fe} {ts : List Nat} (G : Gd L X Wx k c) (hy : X.N[i]? = some y) (hyl : X.env.scope.names.lookup y = some .local)
    (hsw : swapsWith (.ListComp elt [⟨tg, iter, ifs, 0⟩] scope pos) (some (.Name y py)) spos.line X.env = pure true) (hi : RI L X Wx tg iter fi) (ok : BlkOk X.N X.env.scope scope own)
    (hg : ∀ (s : Shared) (H : Hp) (C : Addr) (cl : List (Str × Addr)) (fp : List Addr), RG L (X.blk s H scope (compEnvC scope cl C X.env) fp) tg g ts)
    (ht : ∀ (s : Shared) (H : Hp) (C : Addr) (cl : List (Str × Addr)) (fp : List Addr), RTs L (X.blk s H scope (compEnvC scope cl C X.env) fp) W0 ifs t)
    (he : ∀ (s : Shared) (H : Hp) (C : Addr) (cl : List (Str × Addr)) (fp : List Addr), RE L (X.blk s H scope (compEnvC scope cl C X.env) fp) W0 elt f)
    (hts : ∀ i ∈ ts, i ∈ own.map (·.2)) (hs : ∀ x, foldedSetIterable iter X.env x = pure x := by intro _; rfl) :
    RS L X Wx (.Assign [.Name y py] (.ListComp elt [⟨tg, iter, ifs, 0⟩] scope pos) spos) (sAsg (xLc fi g t f (own.map (·.2))) (gNm i)) := by
  refine ⟨fun pins s σ H W st ρ D I S E o => (ps_setLc (wi := tiOf L X.K Wx fi) (g := tgOf L X.K g ts) (tt := ttOf L X.K W0 t) (te := teOf L X.K W0 f) G.calm G.nd hy hyl hsw hi.pi ok (fun s H C cl fp => (hg s H C cl fp).pg) (fun s H C cl fp => (ht s H C cl fp).pts) (fun s H C cl fp => (he s H C cl fp).pe) hs).run pins s σ H D I ?_⟩
  refine lc_term hts S E ?_
  unfold sAsg at o
  cases q : xLc fi g t f (own.map (·.2)) ρ st with
  | stuck => rw [q] at o; exact o.elim
  | err x st1 => rw [q] at o; exact fun W' H' cls dx e' S' R' => o W' H' σ cls dx e' S' (E.mono e') R'
  | ok d st1 =>
    rw [q] at o
    intro W' H' e' S' v R'
    exact o W' H' _ e' S' ((E.mono e').set R')
end
end Gm
namespace Gm
open PySem PySem.Spec PyProof.Rows L2
section
variable {L : Lw} {X : Cx} {Wx : WX} {k : Nat} {c : Fn} {x : Str} {p pos : Pos} {e : Expr} {es : List Expr} {f : Fe} {r : Fa}
def xBi (g : List D → Store → Res D) (r : Fa) : Fe := fun ρ st => (r ρ st).bind g
theorem re_bfn {id : String} {g : List D → Store → Res D} (hc : RCv L X Wx (.builtin id) g) (hg : Gl X x) (hm : X.mg x = none) (hv : bootBuiltins x = some (.builtin id)) (ha : RA L X Wx (e :: es) r) (hn : x ≠ "__name__" := by decide) (hdb : (x == ("__debug__" : Str)) = false := by decide)
    (he : starEach (e :: es) X.env = (false, eval e X.env) :: starEach es X.env := by rfl) (hpl : (backTo pos (starEach es X.env)).any (·.1) = false := by rfl) : RE L X Wx (.Call (.Name x p) (e :: es) [] pos) (xBi g r) := by
  refine ⟨fun pins s σ H W st ρ Q I S E o => ?_⟩
  refine wpAny_Call_Name_kw (ld_blt I hg hm hv ?_ hn hdb)
  exact PyProof.Rows.callWith_builtin1 (ha.bind I S E o fun ds st1 W1 H1 vs us s1 hl e1 I1 S1 R1 r1 o1 => hc pins s1 σ H1 W1 st1 ds vs us Q I1 S1 R1 r1 o1) he hpl
theorem re_bty {T : String} {g : List D → Store → Res D} (hc : RCv L X Wx (.type T) g) (hg : Gl X x) (hm : X.mg x = none) (hv : bootBuiltins x = some (.type T)) (ha : RA L X Wx (e :: es) r) (hn : x ≠ "__name__" := by decide) (hdb : (x == ("__debug__" : Str)) = false := by decide)
    (he : starEach (e :: es) X.env = (false, eval e X.env) :: starEach es X.env := by rfl) (hpl : (backTo pos (starEach es X.env)).any (·.1) = false := by rfl) : RE L X Wx (.Call (.Name x p) (e :: es) [] pos) (xBi g r) := by
  refine ⟨fun pins s σ H W st ρ Q I S E o => ?_⟩
  refine wpAny_Call_Name_kw (ld_blt I hg hm hv ?_ hn hdb)
  exact PyProof.Rows.callWith_type1 (ha.bind I S E o fun ds st1 W1 H1 vs us s1 hl e1 I1 S1 R1 r1 o1 => hc pins s1 σ H1 W1 st1 ds vs us Q I1 S1 R1 r1 o1) he hpl
/-! ### the built-ins -/
def bAbs (ds : List D) (st : Store) : Res D := match ds with | [.int i] => .ok (.int (if i < 0 then -i else i)) st | _ => .stuck
def bInt (ds : List D) (st : Store) : Res D := match ds with | [.int i] => .ok (.int i) st | [.bl b] => .ok (.int (if b then 1 else 0)) st | _ => .stuck
def seqOf (d : D) (st : Store) : Option (List D) := match d with
  | .tup ds => some ds
  | .ref n => match st[n]? with
    | some (.lst ds) => some ds
    | some (.rol ds) => some ds
    | _ => none
  | _ => none
def bLen (ds : List D) (st : Store) : Res D := match ds with
  | [.str x] => if x.length ≤ sizeLine then .ok (.int x.length) st else .stuck
  | [d] => match seqOf d st with
    | some xs => .ok (.int xs.length) st
    | none => .stuck
  | _ => .stuck
def bList (ds : List D) (st : Store) : Res D := match ds with
  | [d] => match seqOf d st with
    | some xs => newLst xs st
    | none => .stuck
  | _ => .stuck
def bTuple (ds : List D) (st : Store) : Res D := match ds with
  | [d] => match seqOf d st with
    | some xs => .ok (.tup xs) st
    | none => .stuck
  | _ => .stuck
def intsOf : List D → Option (List Int)
  | [] => some []
  | d :: ds => match d with
    | .int i => (intsOf ds).map (i :: ·)
    | _ => none
def blsOf : List D → Option (List Bool)
  | [] => some []
  | d :: ds => match d with
    | .bl i => (blsOf ds).map (i :: ·)
    | _ => none
def maxOf : List Int → Int
  | [] => 0
  | [i] => i
  | i :: r => max i (maxOf r)
def minOf : List Int → Int
  | [] => 0
  | [i] => i
  | i :: r => min i (minOf r)
def bMax (ds : List D) (st : Store) : Res D := match ds with
  | [.int i, .int j] => .ok (.int (if j > i then j else i)) st
  | [.ref n] => match seqOf (.ref n) st with
    | some xs => match intsOf xs with
      | some ns => if ns ≠ [] then .ok (.int (maxOf ns)) st else .stuck
      | none => .stuck
    | none => .stuck
  | _ => .stuck
def bMin (ds : List D) (st : Store) : Res D := match ds with
  | [.int i, .int j] => .ok (.int (if j < i then j else i)) st
  | [.ref n] => match seqOf (.ref n) st with
    | some xs => match intsOf xs with
      | some ns => if ns ≠ [] then .ok (.int (minOf ns)) st else .stuck
      | none => .stuck
    | none => .stuck
  | _ => .stuck
def bSum (ds : List D) (st : Store) : Res D := match ds with
  | [.ref n] => match seqOf (.ref n) st with
    | some xs => match intsOf xs with
      | some ns => .ok (.int ns.sum) st
      | none => .stuck
    | none => .stuck
  | _ => .stuck
def bAll (ds : List D) (st : Store) : Res D := match ds with
  | [.ref n] => match seqOf (.ref n) st with
    | some xs => match blsOf xs with
      | some ns => .ok (.bl (ns.all id)) st
      | none => .stuck
    | none => .stuck
  | _ => .stuck
def bAny (ds : List D) (st : Store) : Res D := match ds with
  | [.ref n] => match seqOf (.ref n) st with
    | some xs => match blsOf xs with
      | some ns => .ok (.bl (ns.any id)) st
      | none => .stuck
    | none => .stuck
  | _ => .stuck
def bStr (ds : List D) (st : Store) : Res D := match ds with | [.int i] => if i.natAbs.log2 < 1920 then .ok (.str (toString i)) st else .stuck | _ => .stuck
theorem intsOf_ok {K : PySem.W.Frag} {W : Wd} : ∀ {ds : List D} {vs : List V} {ns : List Int}, Rls K L W ds vs → intsOf ds = some ns → vs = ns.map V.int
  | [], vs, ns, R, h => by rw [Rls.nil.mp R]; cases h; rfl
  | d :: ds, vs, ns, R, h => by
    obtain ⟨v, vs', rfl, R1, R2⟩ := Rls.cons.mp R
    unfold intsOf at h
    cases d with
    | int i =>
      obtain ⟨ms, h1, rfl⟩ := Option.map_eq_some_iff.mp h
      rw [Rl.int.mp R1, intsOf_ok R2 h1]
      rfl
    | _ => cases h
theorem blsOf_ok {K : PySem.W.Frag} {W : Wd} : ∀ {ds : List D} {vs : List V} {ns : List Bool}, Rls K L W ds vs → blsOf ds = some ns → vs = ns.map V.bl
  | [], vs, ns, R, h => by rw [Rls.nil.mp R]; cases h; rfl
  | d :: ds, vs, ns, R, h => by
    obtain ⟨v, vs', rfl, R1, R2⟩ := Rls.cons.mp R
    unfold blsOf at h
    cases d with
    | bl i =>
      obtain ⟨ms, h1, rfl⟩ := Option.map_eq_some_iff.mp h
      rw [Rl.bl.mp R1, blsOf_ok R2 h1]
      rfl
    | _ => cases h
theorem seqOf_ok {K : PySem.W.Frag} {W : Wd} {st : Store} {H : Hp} {d : D} {v : V} {ds : List D} (S : Sok K L W st H) (R : Rl K L W d v) (h : seqOf d st = some ds) : ∃ a vs, v = .ref a ∧ Rls K L W ds vs ∧ ((∃ n, d = .ref n ∧ SqL K H a vs) ∨ (d = .tup ds ∧ SqT K H a vs)) := by
  cases d with
  | tup es =>
    cases h
    obtain ⟨a, vs, rfl, h1, h2⟩ := Rl.tup.mp R
    exact ⟨a, vs, rfl, h2, .inr ⟨rfl, SqT_mono S.fz h1⟩⟩
  | ref n =>
    obtain ⟨a, rfl, h1⟩ := Rl.ref.mp R
    unfold seqOf at h
    dsimp only at h
    split at h
    · rename_i es hn
      cases h
      obtain ⟨vs, q1, q2⟩ := sqL_of S h1 (.inl hn)
      exact ⟨a, vs, rfl, q2, .inl ⟨n, rfl, q1⟩⟩
    · rename_i es hn
      cases h
      obtain ⟨vs, q1, q2⟩ := sqL_of S h1 (.inr hn)
      exact ⟨a, vs, rfl, q2, .inl ⟨n, rfl, q1⟩⟩
    · cases h
  | _ => cases h
theorem rls1 {K : PySem.W.Frag} {W : Wd} {d : D} {vs : List V} (R : Rls K L W [d] vs) : ∃ v, vs = [v] ∧ Rl K L W d v := by
  obtain ⟨v, vs', rfl, R1, R2⟩ := Rls.cons.mp R
  exact ⟨v, by rw [Rls.nil.mp R2], R1⟩
theorem rls2 {K : PySem.W.Frag} {W : Wd} {d e : D} {vs : List V} (R : Rls K L W [d, e] vs) : ∃ v w, vs = [v, w] ∧ Rl K L W d v ∧ Rl K L W e w := by
  obtain ⟨v, vs', rfl, R1, R2⟩ := Rls.cons.mp R
  obtain ⟨w, rfl, R3⟩ := rls1 R2
  exact ⟨v, w, rfl, R1, R3⟩
theorem rc_abs : RCv L X Wx (.builtin "abs") bAbs := fun pins s σ H W st ds xs us Q I S R r o => by
  unfold bAbs at o
  split at o
  · rename_i i
    obtain ⟨v, rfl, R1⟩ := rls1 R
    exact call_abs pins s σ H _ us Q I r ⟨i, by rw [Rl.int.mp R1], o W H .rfl' S _ (Rl.int.mpr rfl)⟩
  · exact o.elim
theorem rc_int : RCv L X Wx (.type "int") bInt := fun pins s σ H W st ds xs us Q I S R r o => by
  unfold bInt at o
  split at o
  · rename_i i
    obtain ⟨v, rfl, R1⟩ := rls1 R
    exact call_int1 pins s σ H _ us Q I r (.inl ⟨i, by rw [Rl.int.mp R1], o W H .rfl' S _ (Rl.int.mpr rfl)⟩)
  · rename_i i
    obtain ⟨v, rfl, R1⟩ := rls1 R
    exact call_int1 pins s σ H _ us Q I r (.inr ⟨i, by rw [Rl.bl.mp R1], o W H .rfl' S _ (Rl.int.mpr rfl)⟩)
  · exact o.elim
theorem rc_len : RCv L X Wx (.builtin "len") bLen := fun pins s σ H W st ds xs us Q I S R r o => by
  unfold bLen at o
  split at o
  · rename_i z
    obtain ⟨v, rfl, R1⟩ := rls1 R
    split at o
    · rename_i hz
      rw [Rl.str.mp R1] at r
      exact call_len pins s σ H _ us Q I r ⟨.str z, z.length, rfl, ⟨hz, rfl⟩, o W H .rfl' S _ (Rl.int.mpr rfl)⟩
    · exact o.elim
  · rename_i d _
    obtain ⟨v, rfl, R1⟩ := rls1 R
    cases hq : seqOf d st with
    | none => rw [hq] at o; exact o.elim
    | some ys =>
      rw [hq] at o
      obtain ⟨a, vs, rfl, h1, h2⟩ := seqOf_ok S R1 hq
      refine call_len pins s σ H _ us Q I r ⟨.ref a, vs.length, rfl, ?_, by rw [← h1.length]; exact o W H .rfl' S _ (Rl.int.mpr rfl)⟩
      rcases h2 with ⟨n, _, h2⟩ | ⟨_, h2⟩
      · exact .inl ⟨vs, h2, rfl⟩
      · exact .inr ⟨vs, h2, rfl⟩
  · exact o.elim
theorem rc_list : RCv L X Wx (.type "list") bList := fun pins s σ H W st ds xs us Q I S R r o => by
  unfold bList at o
  split at o
  · rename_i d
    obtain ⟨v, rfl, R1⟩ := rls1 R
    cases hq : seqOf d st with
    | none => rw [hq] at o; exact o.elim
    | some ys =>
      rw [hq] at o
      obtain ⟨a, vs, rfl, h1, h2⟩ := seqOf_ok S R1 hq
      refine call_list_of pins s σ H _ us Q I r ⟨a, vs, rfl, ?_, fun p hp => o _ _ Wd.le_more (S.ofNew hp h1) _ (Rl.newRef S)⟩
      rcases h2 with ⟨n, _, h2⟩ | ⟨_, h2⟩
      · exact .inl h2
      · exact .inr h2
  · exact o.elim
theorem rc_tuple : RCv L X Wx (.type "tuple") bTuple := fun pins s σ H W st ds xs us Q I S R r o => by
  unfold bTuple at o
  split at o
  · rename_i d
    obtain ⟨v, rfl, R1⟩ := rls1 R
    cases hq : seqOf d st with
    | none => rw [hq] at o; exact o.elim
    | some ys =>
      rw [hq] at o
      obtain ⟨a, vs, rfl, h1, h2⟩ := seqOf_ok S R1 hq
      refine call_tuple_of pins s σ H _ us Q I r ⟨a, vs, rfl, ?_⟩
      rcases h2 with ⟨n, _, h2⟩ | ⟨rfl, h2⟩
      · refine .inl ⟨h2, fun p hp => ?_⟩
        obtain ⟨e2, S2⟩ := S.alloc_fz (o := .tup vs) hp
        exact o _ _ e2 S2 _ (Rl.tup.mpr ⟨p, vs, rfl, .inl (.inl (by show upd _ _ _ _ = _; exact upd_same)), h1.mono e2⟩)
      · exact .inr ⟨h2, o W H .rfl' S _ R1⟩
  · exact o.elim
theorem maxOf_max : ∀ {ns : List Int}, ns ≠ [] → maxOf ns ∈ ns ∧ ∀ y ∈ ns, y ≤ maxOf ns
  | [], h => absurd rfl h
  | [i], _ => ⟨by simp [maxOf], by simp [maxOf]⟩
  | i :: j :: r, _ => by
    obtain ⟨h1, h2⟩ := maxOf_max (ns := j :: r) (by simp)
    unfold maxOf
    refine ⟨?_, fun y hy => ?_⟩
    · rcases Int.le_total i (maxOf (j :: r)) with h | h
      · rw [Int.max_eq_right h]; exact List.mem_cons_of_mem _ h1
      · rw [Int.max_eq_left h]; exact List.mem_cons_self ..
    · rcases List.mem_cons.mp hy with rfl | hy
      · exact Int.le_max_left _ _
      · exact Int.le_trans (h2 y hy) (Int.le_max_right _ _)
theorem minOf_min : ∀ {ns : List Int}, ns ≠ [] → minOf ns ∈ ns ∧ ∀ y ∈ ns, minOf ns ≤ y
  | [], h => absurd rfl h
  | [i], _ => ⟨by simp [minOf], by simp [minOf]⟩
  | i :: j :: r, _ => by
    obtain ⟨h1, h2⟩ := minOf_min (ns := j :: r) (by simp)
    unfold minOf
    refine ⟨?_, fun y hy => ?_⟩
    · rcases Int.le_total i (minOf (j :: r)) with h | h
      · rw [Int.min_eq_left h]; exact List.mem_cons_self ..
      · rw [Int.min_eq_right h]; exact List.mem_cons_of_mem _ h1
    · rcases List.mem_cons.mp hy with rfl | hy
      · exact Int.min_le_left _ _
      · exact Int.le_trans (Int.min_le_right _ _) (h2 y hy)
/-- a list of ints, as the library wants it -/
theorem seqInts {K : PySem.W.Frag} {W : Wd} {st : Store} {H : Hp} {n : Nat} {v : V} {ds : List D} {ns : List Int} (S : Sok K L W st H) (R : Rl K L W (.ref n) v) (h : seqOf (.ref n) st = some ds) (hn : intsOf ds = some ns) : ∃ a, v = .ref a ∧ SqL K H a (ns.map V.int) := by
  obtain ⟨a, vs, rfl, h1, h2⟩ := seqOf_ok S R h
  rcases h2 with ⟨m, _, h2⟩ | ⟨e, _⟩
  · exact ⟨a, rfl, by rw [← intsOf_ok h1 hn]; exact h2⟩
  · cases e
theorem seqBls {K : PySem.W.Frag} {W : Wd} {st : Store} {H : Hp} {n : Nat} {v : V} {ds : List D} {ns : List Bool} (S : Sok K L W st H) (R : Rl K L W (.ref n) v) (h : seqOf (.ref n) st = some ds) (hn : blsOf ds = some ns) : ∃ a, v = .ref a ∧ SqL K H a (ns.map V.bl) := by
  obtain ⟨a, vs, rfl, h1, h2⟩ := seqOf_ok S R h
  rcases h2 with ⟨m, _, h2⟩ | ⟨e, _⟩
  · exact ⟨a, rfl, by rw [← blsOf_ok h1 hn]; exact h2⟩
  · cases e
theorem rc_max (hc : X.calm = true) : RCv L X Wx (.builtin "max") bMax := fun pins s σ H W st ds xs us Q I S R r o => by
  unfold bMax at o
  split at o
  · rename_i i j
    obtain ⟨v, w, rfl, R1, R2⟩ := rls2 R
    exact call_max2 hc pins s σ H _ us Q I r ⟨i, j, by rw [Rl.int.mp R1, Rl.int.mp R2], o W H .rfl' S _ (Rl.int.mpr rfl)⟩
  · rename_i n
    obtain ⟨v, rfl, R1⟩ := rls1 R
    split at o
    · rename_i ys hy
      split at o
      · rename_i ns hns
        split at o
        · rename_i hne
          obtain ⟨a, rfl, h1⟩ := seqInts S R1 hy hns
          obtain ⟨m1, m2⟩ := maxOf_max hne
          refine cr_max hc pins s σ H _ us Q I r ⟨a, ns, rfl, h1, List.length_pos_iff.mpr hne, fun m hm hall => ?_⟩
          have : m = maxOf ns := Int.le_antisymm (m2 m hm) (hall _ m1)
          rw [this]
          exact o W H .rfl' S _ (Rl.int.mpr rfl)
        · exact o.elim
      · exact o.elim
    · exact o.elim
  · exact o.elim
theorem rc_min (hc : X.calm = true) : RCv L X Wx (.builtin "min") bMin := fun pins s σ H W st ds xs us Q I S R r o => by
  unfold bMin at o
  split at o
  · rename_i i j
    obtain ⟨v, w, rfl, R1, R2⟩ := rls2 R
    exact call_min2 hc pins s σ H _ us Q I r ⟨i, j, by rw [Rl.int.mp R1, Rl.int.mp R2], o W H .rfl' S _ (Rl.int.mpr rfl)⟩
  · rename_i n
    obtain ⟨v, rfl, R1⟩ := rls1 R
    split at o
    · rename_i ys hy
      split at o
      · rename_i ns hns
        split at o
        · rename_i hne
          obtain ⟨a, rfl, h1⟩ := seqInts S R1 hy hns
          obtain ⟨m1, m2⟩ := minOf_min hne
          refine cr_min hc pins s σ H _ us Q I r ⟨a, ns, rfl, h1, List.length_pos_iff.mpr hne, fun m hm hall => ?_⟩
          have : m = minOf ns := Int.le_antisymm (hall _ m1) (m2 m hm)
          rw [this]
          exact o W H .rfl' S _ (Rl.int.mpr rfl)
        · exact o.elim
      · exact o.elim
    · exact o.elim
  · exact o.elim
theorem rc_sum (hc : X.calm = true) : RCv L X Wx (.builtin "sum") bSum := fun pins s σ H W st ds xs us Q I S R r o => by
  unfold bSum at o
  split at o
  · rename_i n
    obtain ⟨v, rfl, R1⟩ := rls1 R
    split at o
    · rename_i ys hy
      split at o
      · rename_i ns hns
        obtain ⟨a, rfl, h1⟩ := seqInts S R1 hy hns
        exact cr_sum hc pins s σ H _ us Q I r ⟨a, ns, rfl, h1, o W H .rfl' S _ (Rl.int.mpr rfl)⟩
      · exact o.elim
    · exact o.elim
  · exact o.elim
theorem rc_all (hc : X.calm = true) : RCv L X Wx (.builtin "all") bAll := fun pins s σ H W st ds xs us Q I S R r o => by
  unfold bAll at o
  split at o
  · rename_i n
    obtain ⟨v, rfl, R1⟩ := rls1 R
    split at o
    · rename_i ys hy
      split at o
      · rename_i ns hns
        obtain ⟨a, rfl, h1⟩ := seqBls S R1 hy hns
        exact cr_all hc pins s σ H _ us Q I r ⟨a, ns, rfl, h1, o W H .rfl' S _ (Rl.bl.mpr rfl)⟩
      · exact o.elim
    · exact o.elim
  · exact o.elim
theorem rc_any (hc : X.calm = true) : RCv L X Wx (.builtin "any") bAny := fun pins s σ H W st ds xs us Q I S R r o => by
  unfold bAny at o
  split at o
  · rename_i n
    obtain ⟨v, rfl, R1⟩ := rls1 R
    split at o
    · rename_i ys hy
      split at o
      · rename_i ns hns
        obtain ⟨a, rfl, h1⟩ := seqBls S R1 hy hns
        exact cr_any hc pins s σ H _ us Q I r ⟨a, ns, rfl, h1, o W H .rfl' S _ (Rl.bl.mpr rfl)⟩
      · exact o.elim
    · exact o.elim
  · exact o.elim
theorem rc_str : RCv L X Wx (.type "str") bStr := fun pins s σ H W st ds xs us Q I S R r o => by
  unfold bStr at o
  split at o
  · rename_i i
    obtain ⟨v, rfl, R1⟩ := rls1 R
    split at o
    · rename_i hz
      exact call_str_int pins s σ H _ us Q I r ⟨i, by rw [Rl.int.mp R1], hz, o W H .rfl' S _ (Rl.str.mpr rfl)⟩
    · exact o.elim
  · exact o.elim
/-! ### isinstance -/
def kindD (d : D) (st : Store) : Option String := match d with
  | .non => some "NoneType" | .bl _ => some "bool" | .int _ => some "int" | .str _ => some "str" | .tup _ => some "tuple"
  | .ref n => match st[n]? with
    | some (.lst _) => some "list" | some (.rol _) => some "list" | some (.dic _) => some "dict" | _ => none
  | .obj _ _ => none
def clsD (d : D) (st : Store) : Option Nat := match d with
  | .obj i _ => some i
  | .ref n => match st[n]? with
    | some (.ins i _) => some i | _ => none
  | _ => none
def isoD (T : Ls) (j : Nat) (d : D) (st : Store) : Res D := match clsD d st with
  | some i => if T.isC i = true then .ok (.bl (T.sub i j)) st else .stuck
  | none => match kindD d st with
    | some _ => .ok (.bl false) st
    | none => .stuck
def istD (T : Ls) (t : String) (d : D) (st : Store) : Res D := match clsD d st with
  | some i => if T.isC i = true then .ok (.bl false) st else .stuck
  | none => match kindD d st with
    | some u => .ok (.bl (u == t || (u == "bool" && t == "int"))) st
    | none => .stuck
theorem kindD_in {d : D} {st : Store} {t : String} (h : kindD d st = some t) : t ∈ kinds := by
  unfold kindD at h
  split at h <;> first
    | (cases h; decide)
    | (split at h <;> first | (cases h; decide) | cases h)
    | cases h
theorem kindD_ty {K : PySem.W.Frag} {W : Wd} {st : Store} {H : Hp} {d : D} {v : V} {t : String} (S : Sok K L W st H) (R : Rl K L W d v) (h : kindD d st = some t) : TyX K H v (.type t) := by
  cases d with
  | non => cases h; rw [Rl.non.mp R]; exact .base .non
  | bl b => cases h; rw [Rl.bl.mp R]; exact .base (.bl b)
  | int b => cases h; rw [Rl.int.mp R]; exact .base (.int b)
  | str b => cases h; rw [Rl.str.mp R]; exact .base (.str b)
  | tup ds =>
    cases h
    obtain ⟨a, vs, rfl, h1, _⟩ := Rl.tup.mp R
    rcases SqT_mono S.fz h1 with (h2 | ⟨o, h2⟩) | ⟨o, its, n, q1, q2, _⟩
    · exact .base (.tup h2)
    · exact .fTuple h2
    · exact .kTuple q1 q2
  | obj _ _ => cases h
  | ref n =>
    obtain ⟨a, rfl, h1⟩ := Rl.ref.mp R
    unfold kindD at h
    dsimp only at h
    split at h
    · rename_i ds hn
      cases h
      obtain ⟨vs, h2, _⟩ := S.cell n _ a hn h1
      exact .base (.lst h2)
    · rename_i ds hn
      cases h
      obtain ⟨vs, h2, _⟩ := S.cell n _ a hn h1
      rcases h2 with ⟨o, h2⟩ | ⟨o, its, m, q1, q2, _⟩
      · exact .base (.frz h2)
      · exact .kList q1 q2
    · rename_i ds hn
      cases h
      obtain ⟨vs, h2, _⟩ := S.cell n _ a hn h1
      exact .base (.dK h2)
    · cases h
theorem Gd.clsD_ty (G : Gd L X Wx k c) {W : Wd} {st : Store} {H : Hp} {d : D} {v : V} {i : Nat} (S : Sok X.K L W st H) (R : Rl X.K L W d v) (h : clsD d st = some i) (hC : L.isC i = true) : TyX X.K H v (.ref (L.cad i)) := by
  cases d with
  | obj j ds =>
    cases h
    obtain ⟨a, dx, vs, rfl, h1, _⟩ := Rl.obj.mp R
    exact .base (.ins (S.fz _ _ h1) (G.fo.cl i hC).cls (G.fo.oc i hC) G.fo.og G.fo.ot (G.fo.ob i hC))
  | ref n =>
    obtain ⟨a, rfl, h1⟩ := Rl.ref.mp R
    unfold clsD at h
    dsimp only at h
    split at h
    · rename_i j fs hn
      cases h
      obtain ⟨dx, vs, h2, _⟩ := S.cell n _ a hn h1
      exact .base (.ins h2 (G.fo.cl i hC).cls (G.fo.oc i hC) G.fo.og G.fo.ot (G.fo.ob i hC))
    · cases h
  | _ => cases h
theorem kit_pair {K : PySem.W.Frag} : ∀ t ∈ kinds, ∀ u ∈ kinds, PySem.W.kitOne K (.type u) (.type t) = some (u == t || (u == "bool" && t == "int")) := by
  intro t ht u hu
  simp only [kinds, List.mem_cons, List.not_mem_nil, or_false] at ht hu
  rcases ht with rfl | rfl | rfl | rfl | rfl | rfl | rfl <;> rcases hu with rfl | rfl | rfl | rfl | rfl | rfl | rfl <;> first | rfl | decide +kernel
def xIso (T : Ls) (j : Nat) (f : Fe) : Fe := fun ρ st => (f ρ st).bind fun d st => isoD T j d st
def xIst (T : Ls) (t : String) (f : Fe) : Fe := fun ρ st => (f ρ st).bind fun d st => istD T t d st
theorem re_iso {j : Nat} {y : Str} {p2 : Pos} (G : Gd L X Wx k c) (hj : L.isC j = true) (he : RE L X Wx e f) (hg : Gl X "isinstance") (hm : X.mg "isinstance" = none) (hy : Gl X y) (hym : X.mg y = some (.ref (L.cad j))) (hyd : (y == ("__debug__" : Str)) = false := by decide)
    (hs : starEach [e, .Name y p2] X.env = (false, eval e X.env) :: starEach [.Name y p2] X.env := by rfl) (hpl : (backTo pos (starEach [.Name y p2] X.env)).any (·.1) = false := by rfl) (hs2 : starEach [.Name y p2] X.env = (false, eval (.Name y p2) X.env) :: starEach [] X.env := by rfl) :
    RE L X Wx (.Call (.Name "isinstance" p) [e, .Name y p2] [] pos) (xIso L.toLs j f) := by
  have pc : PE X (.Name y p2) (tC (.ref (L.cad j))) := ⟨fun pins s σ H Q I h => ld_glob I hy hym ⟨.ref (L.cad j), H, I, rfl, h⟩ hyd⟩
  refine RE.of_pe (pe_callB call_isi hg hm PyProof.Rows.boot_isinstance (pa_cons he.pe (pa_cons pc pa_nil hs2) hs) (by decide) (by decide) hs hpl) fun σ H W st ρ Q S E o => ?_
  refine ⟨W, st, ρ, S, E, Out.toE o fun d st1 W1 H1 v hr e1 S1 R1 o1 => ?_⟩
  show rIsi X.K [v, V.ref (L.cad j)] H1 Q
  unfold isoD at o1
  split at o1
  · rename_i i hi
    split at o1
    · rename_i hC
      exact ⟨v, _, _, _, _, rfl, .own _, G.clsD_ty S1 R1 hi hC, G.fo.ko i j hC hj, o1 W1 H1 .rfl' S1 _ (Rl.bl.mpr rfl)⟩
    · exact o1.elim
  · split at o1
    · rename_i t ht
      exact ⟨v, _, _, _, _, rfl, .own _, kindD_ty S1 R1 ht, G.fo.kt j t hj (kindD_in ht), o1 W1 H1 .rfl' S1 _ (Rl.bl.mpr rfl)⟩
    · exact o1.elim
theorem re_ist {t : String} {y : Str} {p2 : Pos} (G : Gd L X Wx k c) (htk : t ∈ kinds) (he : RE L X Wx e f) (hg : Gl X "isinstance") (hm : X.mg "isinstance" = none) (hy : Gl X y) (hym : X.mg y = none) (hv : bootBuiltins y = some (.type t)) (hyn : y ≠ "__name__" := by decide) (hyd : (y == ("__debug__" : Str)) = false := by decide)
    (hs : starEach [e, .Name y p2] X.env = (false, eval e X.env) :: starEach [.Name y p2] X.env := by rfl) (hpl : (backTo pos (starEach [.Name y p2] X.env)).any (·.1) = false := by rfl) (hs2 : starEach [.Name y p2] X.env = (false, eval (.Name y p2) X.env) :: starEach [] X.env := by rfl) :
    RE L X Wx (.Call (.Name "isinstance" p) [e, .Name y p2] [] pos) (xIst L.toLs t f) := by
  have pc : PE X (.Name y p2) (tC (.ty t)) := ⟨fun pins s σ H Q I h => ld_blt I hy hym hv ⟨.ty t, H, I, rfl, h⟩ hyn hyd⟩
  refine RE.of_pe (pe_callB call_isi hg hm PyProof.Rows.boot_isinstance (pa_cons he.pe (pa_cons pc pa_nil hs2) hs) (by decide) (by decide) hs hpl) fun σ H W st ρ Q S E o => ?_
  refine ⟨W, st, ρ, S, E, Out.toE o fun d st1 W1 H1 v hr e1 S1 R1 o1 => ?_⟩
  show rIsi X.K [v, V.ty t] H1 Q
  unfold istD at o1
  split at o1
  · rename_i i hi
    split at o1
    · rename_i hC
      exact ⟨v, _, _, _, _, rfl, .ty t, G.clsD_ty S1 R1 hi hC, G.fo.kb i t hC htk, o1 W1 H1 .rfl' S1 _ (Rl.bl.mpr rfl)⟩
    · exact o1.elim
  · split at o1
    · rename_i u hu
      exact ⟨v, _, _, _, _, rfl, .ty t, kindD_ty S1 R1 hu, kit_pair t htk u (kindD_in hu), o1 W1 H1 .rfl' S1 _ (Rl.bl.mpr rfl)⟩
    · exact o1.elim
end
end Gm
namespace Gm
open PySem PySem.Spec PyProof.Rows L2
section
variable {L : Lw} {X : Cx} {Wx : WX} {k : Nat} {c : Fn} {x : Str} {p pos : Pos} {e o a b : Expr} {es : List Expr} {f h : Fe} {r : Fa}
/-! ### subscripts -/
def keyOf : D → Option Key
  | .int i => some (.inl i)
  | .str z => some (.inr z)
  | _ => none
def valC (kvs : List (Key × D)) (k : Key) : Option D := match kvs with
  | [] => none
  | (j, d) :: r => if j = k then some d else valC r k
def putKC (kvs : List (Key × D)) (k : Key) (d : D) : List (Key × D) := match kvs with
  | [] => [(k, d)]
  | (j, e) :: r => if j = k then (j, d) :: r else (j, e) :: putKC r k d
def ndK (kvs : List (Key × D)) : Prop := (kvs.map (·.1)).Nodup
def optR (o : Option D) (st : Store) : Res D := match o with
  | some d => .ok d st
  | none => .stuck
def subD (d1 d2 : D) (st : Store) : Res D := match d1 with
  | .tup ds => match d2 with
    | .int i => optR (atI ds i) st
    | _ => .stuck
  | .ref n => match st[n]? with
    | some (.lst ds) => match d2 with
      | .int i => optR (atI ds i) st
      | _ => .stuck
    | some (.rol ds) => match d2 with
      | .int i => optR (atI ds i) st
      | _ => .stuck
    | some (.dic kvs) => match keyOf d2 with
      | some key => optR (valC kvs key) st
      | none => .stuck
    | _ => .stuck
  | _ => .stuck
theorem atI_rls {K : PySem.W.Frag} {W : Wd} {ds : List D} {vs : List V} {i : Int} {d : D} (R : Rls K L W ds vs) (h : atI ds i = some d) : ∃ v, atI vs i = some v ∧ Rl K L W d v := by
  unfold atI at h ⊢
  rw [← R.length]
  cases q : ixN ds.length i with
  | none => rw [q] at h; cases h
  | some j =>
    rw [q] at h
    exact R.get h
theorem keyOf_ok {K : PySem.W.Frag} {W : Wd} {d : D} {v : V} {key : Key} (R : Rl K L W d v) (h : keyOf d = some key) : v = kV key := by
  cases d with
  | int i => cases h; exact Rl.int.mp R
  | str i => cases h; exact Rl.str.mp R
  | _ => cases h
theorem valC_ok {K : PySem.W.Frag} {W : Wd} {kvs : List (Key × D)} {vs : List (Key × V)} {key : Key} {d : D} (R : RKv K L W kvs vs) (h : valC kvs key = some d) : ∃ v, valV vs key = some v ∧ Rl K L W d v := by
  induction R with
  | nil => cases h
  | @cons j e v ds us r _ ih =>
    unfold valC at h
    by_cases hj : j = key
    · rw [if_pos hj] at h
      cases h
      exact ⟨v, valV_pos hj, r⟩
    · rw [if_neg hj] at h
      obtain ⟨u, h1, h2⟩ := ih h
      refine ⟨u, ?_, h2⟩
      unfold valV at h1 ⊢
      rw [List.find?_cons]
      simp only [hj, decide_false]
      exact h1
theorem ix_dictv (hu : X.A.units + 1 < cLine) : IxR X (fun x y H Q => ∃ a v, x = .ref a ∧ DGet H a y (some v) ∧ Q v H) := by
  intro value slice pins s σ H x y v u Q I rx ry hh hs
  obtain ⟨a, w, rfl, g, q⟩ := hh
  cases rx
  have hT := dict_typeIs I g
  have h2 : wpAny (model X.prog X.w) X.A (getItem (.ref a) u) (EP X pins σ Q) X.xe s := d_getItem hu I g ry fun w' s3 I3 rw' => ⟨w, H, I3, rw', q⟩
  unfold subscriptTail
  refine wpAny_bind ?_
  rw [getitemInPython_of_ne hT.not_modules]
  refine wpAny_bind (wpAny_specialOf hT PySem.F.slot_dict_getitem.lookup ?_)
  have fin : wpAny (model X.prog X.w) X.A (subscripted slice false (.ref a) u) (fun r s₃ => wpAny (model X.prog X.w) X.A (letTemporaryGo value (.ref a) r >>= fun _ => pure r) (EP X pins σ Q) X.xe s₃) X.xe s := by
    rw [hs]
    exact wpAny_operating (wpAny_mono h2 (fun r s₃ h₃ => wpAny_bind (wpAny_letTemporaryGo (wpAny_pure h₃))) fun _ _ x => x)
  first
    | exact wpAny_pure (wpAny_bind fin)
    | exact wpAny_bind (wpAny_pure (wpAny_bind fin))
    | exact wpAny_bind fin
theorem re_ix (G : Gd L X Wx k c) (ha : RE L X Wx a f) (hb : RE L X Wx b h) (hs : PlainIx b := by intro _ _; rfl) : RE L X Wx (.Subscript a b pos) (xBin subD f h) := by
  refine ⟨fun pins s σ H W st ρ Q I S E o => ?_⟩
  refine Subscript_ (binRun (F := fun v u => subscriptTail a b v u) (g := subD) ha hb I S E o fun d1 d2 st2 W2 H2 x y v u s2 _ I2 S2 R1 R2 r1 r2 o2 => ?_)
  have hu : X.A.units + 1 < cLine := by have := G.room.units; omega
  have seq : ∀ a' vs ds, x = .ref a' → Rls X.K L W2 ds vs → (SqL X.K H2 a' vs ∨ SqT X.K H2 a' vs) → ∀ i, d2 = .int i → Out X.K L Wx W2 σ (okE X.K L Q) (optR (atI ds i) st2) → wpAny (model X.prog X.w) X.A (subscriptTail a b v u) (EP X pins σ Q) X.xe s2 := fun a' vs ds ex R hq i ed o => by
    subst ex; subst ed
    cases hat : atI ds i with
    | none => rw [hat] at o; exact o.elim
    | some d =>
      rw [hat] at o
      obtain ⟨w, h1, h2⟩ := atI_rls R hat
      have hy := Rl.int.mp R2
      rcases hq with hq | hq
      · exact ix_list a b pins s2 σ H2 _ y v u Q I2 r1 r2 ⟨a', vs, i, w, rfl, hy, hq, h1, o W2 H2 .rfl' S2 w h2⟩ (hs _ _)
      · exact ix_tup a b pins s2 σ H2 _ y v u Q I2 r1 r2 ⟨a', vs, i, w, rfl, hy, hq, h1, o W2 H2 .rfl' S2 w h2⟩ (hs _ _)
  unfold subD at o2
  split at o2
  · rename_i ds
    obtain ⟨a', vs, rfl, h1, h2⟩ := Rl.tup.mp R1
    split at o2
    · rename_i i
      exact seq a' vs ds rfl h2 (.inr (SqT_mono S2.fz h1)) i rfl o2
    · exact o2.elim
  · rename_i n
    obtain ⟨a', rfl, h1⟩ := Rl.ref.mp R1
    split at o2
    · rename_i ds hn
      obtain ⟨vs, q1, q2⟩ := sqL_of S2 h1 (.inl hn)
      split at o2
      · rename_i i
        exact seq a' vs ds rfl q2 (.inl q1) i rfl o2
      · exact o2.elim
    · rename_i ds hn
      obtain ⟨vs, q1, q2⟩ := sqL_of S2 h1 (.inr hn)
      split at o2
      · rename_i i
        exact seq a' vs ds rfl q2 (.inl q1) i rfl o2
      · exact o2.elim
    · rename_i kvs hn
      obtain ⟨vs, q1, q2⟩ := S2.cell n _ a' hn h1
      split at o2
      · rename_i key hk
        cases hv : valC kvs key with
        | none => rw [hv] at o2; exact o2.elim
        | some d =>
          rw [hv] at o2
          obtain ⟨w, h3, h4⟩ := valC_ok q2 hv
          have hy := keyOf_ok R2 hk
          subst hy
          refine ix_dictv hu a b pins s2 σ H2 _ _ v u Q I2 r1 r2 ⟨a', w, rfl, ?_, o2 W2 H2 .rfl' S2 w h4⟩ (hs _ _)
          rw [← h3]
          exact DGet.k q1
      · exact o2.elim
    · exact o2.elim
  · exact o2.elim
/-! ### d[k] = v, l[i] = v -/
open Classical in
noncomputable def putD (o i d : D) (st : Store) : Res Store := match o with
  | .ref n => match st[n]? with
    | some (.dic kvs) => match keyOf i with
      | some key => if kvs.length < sizeLine ∧ ndK kvs then .ok (st.set n (.dic (putKC kvs key d))) st else .stuck
      | none => .stuck
    | some (.lst ds) => match i with
      | .int j => match ixN ds.length j with
        | some m => .ok (st.set n (.lst (ds.set m d))) st
        | none => .stuck
      | _ => .stuck
    | _ => .stuck
  | _ => .stuck
noncomputable def sPut (fo fi fv : Fe) : Fs := fun ρ st => (fv ρ st).toS ρ fun d st => (fo ρ st).toS ρ fun o st => (fi ρ st).toS ρ fun i st => match putD o i d st with
  | .ok st' _ => .nx ρ st'
  | _ => .stuck
theorem RKv.keys {K : PySem.W.Frag} {W : Wd} {kvs : List (Key × D)} {vs : List (Key × V)} (R : RKv K L W kvs vs) : vs.map (·.1) = kvs.map (·.1) := by
  induction R with
  | nil => rfl
  | cons _ _ ih => rw [List.map_cons, List.map_cons, ih]
theorem putKC_ok {K : PySem.W.Frag} {W : Wd} {kvs : List (Key × D)} {vs : List (Key × V)} {key : Key} {d : D} {v : V} (R : RKv K L W kvs vs) (hn : ndK kvs) (Rv : Rl K L W d v) : RKv K L W (putKC kvs key d) (putK vs key v) := by
  induction R with
  | nil => exact .cons Rv .nil
  | @cons j e u ds us r rest ih =>
    have hn' : j ∉ ds.map (·.1) ∧ ndK ds := by
      have := List.nodup_cons.mp (show (j :: ds.map (·.1)).Nodup from hn)
      exact ⟨this.1, this.2⟩
    unfold putKC
    by_cases hj : j = key
    · subst hj
      rw [if_pos rfl]
      unfold putK
      have h1 : ((j, u) :: us).any (fun kv => decide (kv.1 = j)) = true := by simp
      rw [if_pos h1, List.map_cons, if_pos rfl]
      have h2 : us.map (fun kv => if kv.1 = j then (kv.1, v) else kv) = us := by
        have h3 : us.map (fun kv => if kv.1 = j then (kv.1, v) else kv) = us.map id := List.map_congr_left fun kv hk => if_neg fun e => hn'.1 (by
          rw [← rest.keys, ← e]
          exact List.mem_map.mpr ⟨kv, hk, rfl⟩)
        rw [h3, List.map_id]
      rw [h2]
      exact .cons Rv rest
    · rw [if_neg hj]
      have ih' := ih hn'.2
      unfold putK at ih' ⊢
      have h1 : ((j, u) :: us).any (fun kv => decide (kv.1 = key)) = us.any (fun kv => decide (kv.1 = key)) := by simp [hj]
      rw [h1]
      split
      · rename_i h2
        rw [if_pos h2] at ih'
        rw [List.map_cons, if_neg hj]
        exact .cons r ih'
      · rename_i h2
        rw [if_neg h2] at ih'
        exact .cons r ih'
theorem rls_set {K : PySem.W.Frag} {W : Wd} {d : D} {v : V} (Rv : Rl K L W d v) : ∀ {ds : List D} {vs : List V} (j : Nat), Rls K L W ds vs → Rls K L W (ds.set j d) (vs.set j v)
  | [], vs, j, R => by rw [Rls.nil.mp R]; exact Rls.nil.mpr rfl
  | e :: ds, vs, 0, R => by
    obtain ⟨u, vs', rfl, _, R2⟩ := Rls.cons.mp R
    exact Rls.mk Rv R2
  | e :: ds, vs, j + 1, R => by
    obtain ⟨u, vs', rfl, R1, R2⟩ := Rls.cons.mp R
    exact Rls.mk R1 (rls_set Rv j R2)
theorem rs_sput {fo fi fv : Fe} {i value : Expr} {pos' : Pos} (G : Gd L X Wx k c) (ho : RE L X Wx o fo) (hi : RE L X Wx i fi) (hv : RE L X Wx value fv) (hs : swapsWith value (some (.Subscript o i pos')) pos.line X.env = pure false := by rfl) :
    RS L X Wx (.Assign [.Subscript o i pos'] value pos) (sPut fo fi fv) := by
  refine ⟨fun pins s σ H W sto ρ D I S E oo => ?_⟩
  have hu : X.A.units + 1 < cLine := by have := G.room.units; omega
  refine wpAny_Assign_Subscript (hv.bindS I S E oo fun d st1 W1 H1 v u s1 e1 I1 S1 R1 r1 o1 => ho.bindS I1 S1 (E.mono e1) o1 fun od st2 W2 H2 x ov s2 e2 I2 S2 R2 r2 o2 => hi.bindS I2 S2 (E.mono (e1.trans e2)) o2 fun iD st3 W3 H3 y iv s3 e3 I3 S3 R3 r3 o3 => ?_) hs
  have Rd := R1.mono (e2.trans e3)
  have Ro := R2.mono e3
  have E3 := E.mono (e1.trans (e2.trans e3))
  unfold putD at o3
  split at o3
  · rename_i st' _ hq
    split at hq
    · rename_i n
      obtain ⟨a', rfl, h1⟩ := Rl.ref.mp Ro
      obtain rfl : ov = Value.ref a' := r2
      split at hq
      · rename_i kvs hn
        split at hq
        · rename_i key hk
          split at hq
          · rename_i hc
            cases hq
            obtain ⟨vs, q1, q2⟩ := S3.cell n _ a' hn h1
            have hy := keyOf_ok R3 hk
            subst hy
            have hl : vs.length < sizeLine := by
              have := congrArg List.length q2.keys
              rw [List.length_map, List.length_map] at this
              rw [this]; exact hc.1
            exact d_setItem hu I3 (DPut.k q1 hl) r3 r1 fun s4 I4 => ⟨σ, _, I4, o3 W3 _ σ .rfl' (S3.write hn rfl h1 ⟨_, upd_same, putKC_ok q2 hc.2 Rd⟩) E3⟩
          · cases hq
        · cases hq
      · rename_i ds hn
        split at hq
        · rename_i j
          split at hq
          · rename_i m hm
            cases hq
            obtain ⟨vs, q1, q2⟩ := S3.cell n _ a' hn h1
            refine thn (set_list pins s3 σ H3 (.ref a') y v (.ref a') iv u (fun H' => H' = upd H3 a' (.lst (vs.set m v))) I3 rfl r3 r1 ⟨a', vs, j, m, rfl, Rl.int.mp R3, q1, by rw [← q2.length]; exact hm, rfl⟩) fun _ s4 ⟨H4, I4, e4⟩ => ?_
            subst e4
            exact ⟨σ, _, I4, o3 W3 _ σ .rfl' (S3.write hn rfl h1 ⟨_, upd_same, rls_set Rd m q2⟩) E3⟩
          · cases hq
        · cases hq
      · cases hq
    · cases hq
  · exact o3.elim
/-! ### dict displays with keys that are written texts -/
open Classical in
noncomputable def xDic (ks : List Str) (r : Fa) : Fe := fun ρ st => (r ρ (st ++ [.dic []])).bind fun ds st' => match st'[st.length]? with
  | some (.dic []) => if ds.length = ks.length ∧ ks.Nodup then .ok (.ref st.length) (st'.set st.length (.dic ((ks.map Sum.inr).zip ds))) else .stuck
  | _ => .stuck
/-- keys and values, one pair after another -/
inductive RPs (L : Lw) (X : Cx) (Wx : WX) : List Str → List (Option Expr) → List Expr → Fa → Prop where
  | nil : RPs L X Wx [] [] [] aNil
  | cons {z : Str} {j : Nat} {kp : Pos} {v : Expr} {ks : List Str} {kes : List (Option Expr)} {ves : List Expr} {f : Fe} {r : Fa} : RE L X Wx v f → RPs L X Wx ks kes ves r → RPs L X Wx (z :: ks) (some (.Constant (.str z) j kp) :: kes) (v :: ves) (aCons f r)
theorem RPs.shape {ks : List Str} {kes : List (Option Expr)} {ves : List Expr} {r : Fa} (h : RPs L X Wx ks kes ves r) : kes.all (·.isSome) = true ∧ kes.length = ves.length ∧ kes.length = ks.length := by
  induction h with
  | nil => exact ⟨rfl, rfl, rfl⟩
  | cons _ _ ih => exact ⟨by rw [List.all_cons, ih.1]; rfl, by rw [List.length_cons, List.length_cons, ih.2.1], by rw [List.length_cons, List.length_cons, ih.2.2]⟩
def prsOf (L : Lw) (K : PySem.W.Frag) (Wx : WX) : List Str → List Fe → List (TE × TE)
  | z :: ks, f :: fs => (tC (.str z), teOf L K Wx f) :: prsOf L K Wx ks fs
  | _, _ => []
theorem RPs.pps {ks : List Str} {kes : List (Option Expr)} {ves : List Expr} {r : Fa} (h : RPs L X Wx ks kes ves r) : ∃ fs : List Fe, fs.length = ks.length ∧ PPs X pos kes ves (prsOf L X.K Wx ks fs) ∧ r = fs.foldr aCons aNil := by
  induction h with
  | nil => exact ⟨[], rfl, pps_nil, rfl⟩
  | @cons z j kp v ks kes ves f r hf _ ih =>
    obtain ⟨fs, h1, h2, h3⟩ := ih
    exact ⟨f :: fs, by rw [List.length_cons, List.length_cons, h1], pps_cons pe_str hf.pe h2, by rw [List.foldr_cons, h3]⟩
theorem aCons_eq (f : Fe) (r : Fa) (ρ : Ev) (st : Store) : aCons f r ρ st = (f ρ st).bind fun a st => (r ρ st).bind fun l st => .ok (a :: l) st := rfl
theorem zip_kV : ∀ (ks : List Str) (vs : List V), (ks.map V.str).zip vs = ((ks.map (Sum.inr : Str → Key)).zip vs).map fun kv => (kV kv.1, kv.2)
  | [], vs => rfl
  | z :: ks, [] => rfl
  | z :: ks, v :: vs => by
    rw [List.map_cons, List.map_cons, List.zip_cons_cons, List.zip_cons_cons, List.map_cons, zip_kV ks vs]
    rfl
theorem prs_run {σ : St} : ∀ {ks : List Str} {fs : List Fe} {H : Hp} {W : Wd} {st : Store} {ρ : Ev} {Q : List (V × V) → Hp → Prop}, fs.length = ks.length → Sok X.K L W st H → EnR X.K L W σ ρ →
    Out X.K L Wx W σ (okA X.K L fun vs H' => ∃ ps, ps = (ks.map V.str).zip vs ∧ Q ps H') ((fs.foldr aCons aNil) ρ st) → tPairs (prsOf L X.K Wx ks fs) σ H Q
  | [], [], H, W, st, ρ, Q, _, S, E, o => by
    obtain ⟨ps, rfl, q⟩ := o W H .rfl' S [] (Rls.nil.mpr rfl)
    exact q
  | z :: ks, f :: fs, H, W, st, ρ, Q, hl, S, E, o => by
    refine ⟨W, st, ρ, S, E, ?_⟩
    rw [List.foldr_cons, aCons_eq] at o
    refine Out.toE o fun d st1 W1 H1 v hr e1 S1 R1 o1 => ?_
    refine prs_run (by simpa using hl) S1 (E.mono e1) ?_
    generalize (fs.foldr aCons aNil) ρ st1 = r1 at o1 ⊢
    cases r1 with
    | stuck => exact o1
    | err x s2 => exact o1
    | ok l s2 =>
      intro W' H' e' S' vs R'
      obtain ⟨ps, e2, q⟩ := o1 W' H' e' S' (v :: vs) (Rls.mk (R1.mono e') R')
      exact ⟨_, rfl, by subst e2; exact q⟩
theorem merge_id {vs : List V} : ∀ {ks : List Str} {acc : List (Key × V)}, (∀ z ∈ ks, ∀ p ∈ acc, p.1 ≠ Sum.inr z) → ks.Nodup → vs.length = ks.length → mergeK acc ((ks.map Sum.inr).zip vs) = acc ++ (ks.map Sum.inr).zip vs := by
  induction vs with
  | nil =>
    intro ks acc _ _ hl
    cases ks with
    | nil => simp [mergeK]
    | cons _ _ => cases hl
  | cons v vs ih =>
    intro ks acc hd hn hl
    cases ks with
    | nil => cases hl
    | cons z ks =>
      have hn' := List.nodup_cons.mp hn
      have h1 : putK acc (Sum.inr z : Key) v = acc ++ [((Sum.inr z : Key), v)] := by
        unfold putK
        rw [if_neg]
        intro h
        rw [List.any_eq_true] at h
        obtain ⟨p, hp, hq⟩ := h
        exact hd z (List.mem_cons_self ..) p hp (of_decide_eq_true hq)
      show mergeK (putK acc (Sum.inr z) v) ((ks.map Sum.inr).zip vs) = acc ++ ((Sum.inr z, v) :: (ks.map Sum.inr).zip vs)
      rw [h1, ih (ks := ks) (fun y hy p hp => ?_) hn'.2 (by simpa using hl)]
      · simp
      · rcases List.mem_append.mp hp with hp | hp
        · exact hd y (List.mem_cons_of_mem _ hy) p hp
        · rcases List.mem_singleton.mp hp with rfl
          intro e
          cases e
          exact hn'.1 hy
theorem rkv_zip {K : PySem.W.Frag} {W : Wd} : ∀ {ks : List Key} {ds : List D} {vs : List V}, Rls K L W ds vs → RKv K L W (ks.zip ds) (ks.zip vs)
  | [], ds, vs, R => .nil
  | k :: ks, [], vs, R => by rw [Rls.nil.mp R]; exact .nil
  | k :: ks, d :: ds, vs, R => by
    obtain ⟨v, vs', rfl, R1, R2⟩ := Rls.cons.mp R
    exact .cons R1 (rkv_zip R2)
theorem re_dic {ks : List Str} {kes : List (Option Expr)} {ves : List Expr} {r : Fa} (h : RPs L X Wx ks kes ves r) (h0 : kes ≠ []) (h15 : kes.length ≤ 15) : RE L X Wx (.Dict kes ves pos) (xDic ks r) := by
  obtain ⟨s1, s2, s3⟩ := h.shape
  obtain ⟨fs, l1, hp, rfl⟩ := h.pps (pos := pos)
  refine RE.of_pe (pe_disp hp s1 s2 h0 h15) fun σ H W st ρ Q S E o => ?_
  intro D0 hD
  have S1 : Sok X.K L (W.more D0) (st ++ [.dic []]) (upd H D0 (.dK [])) := S.alloc hD ⟨[], upd_same, .nil⟩
  have ioD : (W.more D0).io[st.length]? = some D0 := by
    show (W.io ++ [D0])[st.length]? = _
    rw [S.len, List.getElem?_concat_length]
  refine prs_run l1 S1 (E.mono Wd.le_more) ?_
  unfold xDic at o
  have o' := Out.mono (Wd.le_more (a := D0)) o
  generalize (fs.foldr aCons aNil) ρ (st ++ [.dic []]) = r1 at o' ⊢
  cases r1 with
  | stuck => exact o'
  | err x s2 => exact o'
  | ok ds st' =>
    intro W' H' e' S' vs R'
    have o2 := Out.mono e' o'
    rw [Res.bind_ok] at o2
    split at o2
    · rename_i hn
      split at o2
      · rename_i hc
        have ioD' := e'.2 _ _ ioD
        obtain ⟨us, q1, q2⟩ := S'.cell _ _ D0 hn ioD'
        cases q2
        have hlv : vs.length = ks.length := by rw [← R'.length]; exact hc.1
        have hm := merge_id (vs := vs) (ks := ks) (acc := []) (fun _ _ p hp => by cases hp) hc.2 hlv
        refine ⟨_, rfl, q1, (ks.map Sum.inr).zip vs, zip_kV ks vs, ?_, ?_⟩
        · rw [List.length_zip, List.length_map]
          have := Nat.min_le_left ks.length vs.length
          omega
        · rw [hm, List.nil_append]
          exact o2 W' _ .rfl' (S'.write hn rfl ioD' ⟨_, upd_same, rkv_zip R'⟩) _ (Rl.ref.mpr ⟨D0, rfl, ioD'⟩)
      · exact o2.elim
    · exact o2.elim
end
end Gm
namespace Gm
open PySem PySem.Spec PyProof.Rows L2
section
variable {L : Lw} {X : Cx} {Wx : WX} {k : Nat} {c : Fn} {x : Str} {p pos apos : Pos} {e o a b fe : Expr} {es : List Expr} {f h : Fe} {r : Fa}
/-! ### l.append(v) -/
def appD (o d : D) (st : Store) : Res D := match o with
  | .ref n => match st[n]? with
    | some (.lst ds) => if ds.length < sizeLine then .ok .non (st.set n (.lst (ds ++ [d]))) else .stuck
    | _ => .stuck
  | _ => .stuck
/-- the receiver must be a list before its argument is made, and be one still -/
def xApp (fo fd : Fe) : Fe := fun ρ st => (fo ρ st).bind fun o st => match o with
  | .ref n => match st[n]? with
    | some (.lst _) => (fd ρ st).bind fun d st => appD o d st
    | _ => .stuck
  | _ => .stuck
theorem re_app {fo fd : Fe} (ho : RE L X Wx o fo) (hd : RE L X Wx e fd) (hbase : attributeBase o "append" X.env (eval o X.env) = eval o X.env := by rfl)
    (hfew : ((backTo pos (starEach (e :: []) X.env)).all (fun x => !x.1) && (backToKw pos (keywordEach [] X.env)).all (fun x => x.1.isSome)
      && decide ((e :: []).length + ([] : List Keyword).length + (if ([] : List Keyword).isEmpty then 0 else 1) < 30)) = true := by rfl)
    (hline : (apos.endLine == pos.line) = true := by rfl) (hs : starEach (e :: []) X.env = (false, eval e X.env) :: starEach [] X.env := by rfl) (hplain : (backTo pos (starEach [] X.env)).any (·.1) = false := by rfl) :
    RE L X Wx (.Call (.Attribute o "append" apos) [e] [] pos) (xApp fo fd) := by
  refine RE.of_pe (pe_bm PySem.F.plainAttrs_list PySem.F.slot_list_append PySem.F.type_list_append mt_append ho.pe (pa_cons hd.pe pa_nil hs) hbase hfew hline hs hplain) fun σ H W st ρ Q S E oo => ?_
  refine ⟨W, st, ρ, S, E, Out.toE oo fun od st1 W1 H1 v hr e1 S1 R1 o1 => ?_⟩
  cases od with
  | ref n =>
    obtain ⟨a', rfl, h1⟩ := Rl.ref.mp R1
    dsimp only at o1
    split at o1
    · rename_i ds hn
      obtain ⟨vs, q1, q2⟩ := S1.cell n _ a' hn h1
      refine ⟨.inl ⟨rfl, vs, .inl (.inl q1)⟩, W1, st1, ρ, S1, E.mono e1, Out.toE o1 fun d st2 W2 H2 u hr2 e2 S2 R2 o2 => ?_⟩
      unfold appD at o2
      dsimp only at o2
      split at o2
      · rename_i ds2 hn2
        split at o2
        · rename_i hz
          have h2 := e2.2 _ _ h1
          obtain ⟨ws, q3, q4⟩ := S2.cell n _ a' hn2 h2
          refine ⟨a', ws, u, rfl, rfl, q3, by rw [← q4.length]; exact hz, ?_⟩
          exact o2 W2 _ .rfl' (S2.write hn2 rfl h2 ⟨ws ++ [u], upd_same, q4.append (Rls.mk R2 (Rls.nil.mpr rfl))⟩) _ (Rl.non.mpr rfl)
        · exact o2.elim
      · exact o2.elim
    · exact o1.elim
  | _ => exact o1.elim
/-! ### slices -/
abbrev Fo := Ev → Store → Res (Option Int)
def oNo : Fo := fun _ st => .ok none st
def oSo (f : Fe) : Fo := fun ρ st => (f ρ st).bind fun d st => match d with
  | .int i => .ok (some i) st
  | _ => .stuck
def cutD (xs : List D) (lo hi : Option Int) : List D := (xs.drop (HT.sIx xs.length 0 lo)).take (HT.sIx xs.length xs.length hi - HT.sIx xs.length 0 lo)
def sliD (d : D) (lo hi : Option Int) (st : Store) : Res D := match d with
  | .tup xs => if HT.sIx xs.length 0 lo = 0 ∧ HT.sIx xs.length xs.length hi = xs.length then .stuck else .ok (.tup (cutD xs lo hi)) st
  | .ref n => match st[n]? with
    | some (.lst xs) => newLst (cutD xs lo hi) st
    | some (.rol xs) => newLst (cutD xs lo hi) st
    | _ => .stuck
  | _ => .stuck
def xSl (f : Fe) (lo hi : Fo) : Fe := fun ρ st => (f ρ st).bind fun d st => (lo ρ st).bind fun l st => (hi ρ st).bind fun u st => sliD d l u st
def toOf (L : Lw) (K : PySem.W.Frag) (Wx : WX) (f : Fo) : TO := fun σ H Q => ∃ W st ρ, Sok K L W st H ∧ EnR K L W σ ρ ∧ Out K L Wx W σ (fun _ H' o => Q o H') (f ρ st)
structure RO (L : Lw) (X : Cx) (Wx : WX) (e : Option Expr) (f : Fo) : Prop where
  po : PO X e (toOf L X.K Wx f)
theorem ro_no : RO L X Wx none oNo := ⟨⟨fun pins s σ H Q I ⟨W, st, ρ, S, E, o⟩ => po_none.run pins s σ H Q I (o W H .rfl' S)⟩⟩
theorem ro_so (he : RE L X Wx e f) : RO L X Wx (some e) (oSo f) := ⟨⟨fun pins s σ H Q I ⟨W, st, ρ, S, E, o⟩ => (po_some he.pe).run pins s σ H Q I ⟨W, st, ρ, S, E, Out.toE o fun d st1 W1 H1 v hr e1 S1 R1 o1 => by
  cases d with
  | int i => exact ⟨i, Rl.int.mp R1, o1 W1 H1 .rfl' S1⟩
  | _ => exact o1.elim⟩⟩⟩
theorem Out.toO {W : Wd} {σ : St} {β : Type} {Ok : Wd → Hp → β → Prop} {r : Res (Option Int)} {kk : Option Int → Store → Res β} {Q : Option Int → Hp → Prop} {K : PySem.W.Frag} (o : Out K L Wx W σ Ok (r.bind kk)) (h : ∀ d st1 W1 H1, r = .ok d st1 → W.le W1 → Sok K L W1 st1 H1 → Out K L Wx W1 σ Ok (kk d st1) → Q d H1) : Out K L Wx W σ (fun _ H' o => Q o H') r := by
  cases r with
  | ok d st1 => exact fun W' H' e' S' => h d st1 W' H' rfl e' S' (Out.mono e' o)
  | err x st1 => exact o
  | stuck => exact o
theorem rls_cut {K : PySem.W.Frag} {W : Wd} {ds : List D} {vs : List V} (R : Rls K L W ds vs) (lo hi : Option Int) : Rls K L W (cutD ds lo hi) (cutV vs lo hi) := by
  have hdrop : ∀ (n : Nat) {ds : List D} {vs : List V}, Rls K L W ds vs → Rls K L W (ds.drop n) (vs.drop n) := by
    intro n
    induction n with
    | zero => intro ds vs R; exact R
    | succ n ih =>
      intro ds vs R
      cases ds with
      | nil => rw [Rls.nil.mp R]; exact Rls.nil.mpr rfl
      | cons d ds => obtain ⟨v, vs', rfl, _, R2⟩ := Rls.cons.mp R; exact ih R2
  have htake : ∀ (n : Nat) {ds : List D} {vs : List V}, Rls K L W ds vs → Rls K L W (ds.take n) (vs.take n) := by
    intro n
    induction n with
    | zero => intro ds vs R; exact Rls.nil.mpr rfl
    | succ n ih =>
      intro ds vs R
      cases ds with
      | nil => rw [Rls.nil.mp R]; exact Rls.nil.mpr rfl
      | cons d ds => obtain ⟨v, vs', rfl, R1, R2⟩ := Rls.cons.mp R; exact Rls.mk R1 (ih R2)
  unfold cutD cutV
  rw [← R.length]
  exact htake _ (hdrop _ R)
theorem re_sl {lo hi : Option Expr} {p2 : Pos} {fl fh : Fo} (he : RE L X Wx e f) (hl : RO L X Wx lo fl) (hh : RO L X Wx hi fh) : RE L X Wx (.Subscript e (.Slice lo hi none p2) pos) (xSl f fl fh) := by
  refine RE.of_pe (pe_slice (sl_list.or sl_tup) he.pe hl.po hh.po) fun σ H W st ρ Q S E oo => ?_
  refine ⟨W, st, ρ, S, E, Out.toE oo fun d st1 W1 H1 v hr e1 S1 R1 o1 => ⟨W1, st1, ρ, S1, E.mono e1, Out.toO o1 fun l st2 W2 H2 hr2 e2 S2 o2 => ⟨W2, st2, ρ, S2, E.mono (e1.trans e2), Out.toO o2 fun u st3 W3 H3 hr3 e3 S3 o3 => ?_⟩⟩⟩
  have R3 := R1.mono (e2.trans e3)
  unfold sliD at o3
  split at o3
  · rename_i xs
    split at o3
    · exact o3.elim
    · rename_i hc
      obtain ⟨a', vs, rfl, h1, h2⟩ := Rl.tup.mp R3
      refine .inr ⟨a', vs, rfl, SqT_mono S3.fz h1, by rw [← h2.length]; exact hc, fun p hp => ?_⟩
      obtain ⟨e4, S4⟩ := S3.alloc_fz (o := .tup (cutV vs l u)) hp
      exact o3 _ _ e4 S4 _ (Rl.tup.mpr ⟨p, _, rfl, .inl (.inl (by show upd _ _ _ _ = _; exact upd_same)), (rls_cut h2 l u).mono e4⟩)
  · rename_i n
    obtain ⟨a', rfl, h1⟩ := Rl.ref.mp R3
    split at o3
    · rename_i xs hn
      obtain ⟨vs, q1, q2⟩ := sqL_of S3 h1 (.inl hn)
      exact .inl ⟨a', vs, rfl, q1, fun p hp => o3 _ _ Wd.le_more (S3.ofNew hp (rls_cut q2 l u)) _ (Rl.newRef S3)⟩
    · rename_i xs hn
      obtain ⟨vs, q1, q2⟩ := sqL_of S3 h1 (.inr hn)
      exact .inl ⟨a', vs, rfl, q1, fun p hp => o3 _ _ Wd.le_more (S3.ofNew hp (rls_cut q2 l u)) _ (Rl.newRef S3)⟩
    · exact o3.elim
  · exact o3.elim
/-! ### the call of an instance -/
def xCallI (T : Ls) (c : Fn) (f : Fe) (r : Fa) : Fe := fun ρ st => (f ρ st).bind fun d st => match d with
  | .obj i _ => match T.meth i 36 with
    | some g => (r ρ st).bind fun ds st => callD T c g (d :: ds) st
    | none => .stuck
  | _ => .stuck
theorem re_callI (G : Gd L X Wx k c) (hf : RE L X Wx fe f) (ha : RA L X Wx (e :: es) r)
    (ht : eval (.Call fe (e :: es) [] pos) X.env = (do callWith pos (← eval fe X.env) [] (backTo pos (starEach (e :: es) X.env)) (backToKw pos (keywordEach [] X.env))) := by rfl)
    (he : starEach (e :: es) X.env = (false, eval e X.env) :: starEach es X.env := by rfl) (hpl : (backTo pos (starEach es X.env)).any (·.1) = false := by rfl) :
    RE L X Wx (.Call fe (e :: es) [] pos) (xCallI L.toLs c f r) := by
  refine ⟨fun pins s σ H W st ρ Q I S E o => ?_⟩
  refine Call_ (hf.bind I S E o fun d st1 W1 H1 v u s1 e1 I1 S1 R1 r1 o1 => ?_) ht
  cases d with
  | obj i ds' =>
    dsimp only at o1
    split at o1
    · rename_i g hm
      obtain ⟨a', dx, vs0, rfl, _⟩ := Rl.obj.mp R1
      obtain rfl : u = Value.ref a' := r1
      refine StX.callO_with (ha.bind I1 S1 (E.mono e1) o1 fun ds st2 W2 H2 vs us s2 hl e2 I2 S2 R2 r2 o2 => ?_) he hpl
      have R1' := R1.mono e2
      obtain ⟨a2, dx2, od2, ea, J⟩ := inst_of I2 S2 R1'
      cases ea
      refine ⟨⟨_, _, _, J, rfl⟩, ?_⟩
      obtain ⟨hC, hF, M⟩ := G.fo.mt i 36 g hm
      have hs := M.at_
      rw [G.fo.nm 36 (by decide) (by decide) (by decide)] at hs
      exact wpAny_call (PySem.W.kco_code I2.kIn J rfl hs M.fn (G.fo.fi g hF) (G.callC (us := .ref a' :: us) ⟨G.room.mono (Nat.le_add_right k 9), rfl⟩ hF I2 S2 (Rls.mk R1' R2) (.cons rfl r2) o2))
    · exact o1.elim
  | _ => exact o1.elim
/-! ### names of the module -/
theorem re_glob {v : V} {u : Value} {d : D} (hg : Gl X x) (hm : X.mg x = some u) (rv : L2.RelV v u) (rl : ∀ W, Rl X.K L W d v) (hd : (x == ("__debug__" : Str)) = false := by decide) : RE L X Wx (.Name x pos) (xK d) := re_k (pe_glob hg hm rv hd) rl
end
end Gm
namespace Gm
open PySem PySem.Spec PyProof.Rows L2
section
variable {L : Lw} {X : Cx} {Wx : WX} {k : Nat} {c : Fn}
/-! ### in -/
def toV : D → Option V
  | .non => some .non | .bl b => some (.bl b) | .int i => some (.int i) | .str z => some (.str z) | _ => none
theorem toV_ok {K : PySem.W.Frag} {W : Wd} {d : D} {v w : V} (R : Rl K L W d v) (h : toV d = some w) : v = w ∧ flatV w = true := by
  cases d with
  | non => cases h; exact ⟨Rl.non.mp R, rfl⟩
  | bl _ => cases h; exact ⟨Rl.bl.mp R, rfl⟩
  | int _ => cases h; exact ⟨Rl.int.mp R, rfl⟩
  | str _ => cases h; exact ⟨Rl.str.mp R, rfl⟩
  | _ => cases h
def toVs : List D → Option (List V)
  | [] => some []
  | d :: ds => match toV d, toVs ds with
    | some v, some vs => some (v :: vs)
    | _, _ => none
theorem toVs_ok {K : PySem.W.Frag} {W : Wd} : ∀ {ds : List D} {vs ws : List V}, Rls K L W ds vs → toVs ds = some ws → vs = ws ∧ ws.all flatV = true
  | [], vs, ws, R, h => by cases h; exact ⟨Rls.nil.mp R, rfl⟩
  | d :: ds, vs, ws, R, h => by
    obtain ⟨v, vs', rfl, R1, R2⟩ := Rls.cons.mp R
    unfold toVs at h
    cases h1 : toV d with
    | none => rw [h1] at h; cases h
    | some u =>
      cases h2 : toVs ds with
      | none => rw [h1, h2] at h; cases h
      | some us =>
        rw [h1, h2] at h
        cases h
        obtain ⟨e1, f1⟩ := toV_ok R1 h1
        obtain ⟨e2, f2⟩ := toVs_ok R2 h2
        exact ⟨by rw [e1, e2], by rw [List.all_cons, f1, f2]; rfl⟩
def dicOf (d : D) (st : Store) : Option (List (Key × D)) := match d with
  | .ref n => match st[n]? with
    | some (.dic kvs) => some kvs
    | _ => none
  | _ => none
def inD (neg : Bool) (d1 d2 : D) (st : Store) : Res D := match seqOf d2 st with
  | some ds => match toV d1, toVs ds with
    | some v, some vs => .ok (.bl (if neg then !inV v vs else inV v vs)) st
    | _, _ => .stuck
  | none => match dicOf d2 st, keyOf d1 with
    | some kvs, some key => .ok (.bl ((valC kvs key).isSome != neg)) st
    | _, _ => .stuck
theorem valC_some {K : PySem.W.Frag} {W : Wd} {kvs : List (Key × D)} {vs : List (Key × V)} {key : Key} (R : RKv K L W kvs vs) : (valV vs key).isSome = (valC kvs key).isSome := by
  induction R with
  | nil => rfl
  | @cons j e v ds us r _ ih =>
    unfold valC
    by_cases hj : j = key
    · rw [if_pos hj, valV_pos hj]
      rfl
    · rw [if_neg hj, ← ih]
      unfold valV
      rw [List.find?_cons]
      simp only [hj, decide_false]
theorem r2_inn (G : Gd L X Wx k c) (neg : Bool) : R2v L X Wx (compareOp (if neg then .NotIn else .In)) (inD neg) := fun pins s σ H W st d1 d2 x y v u Q I S R1 R2 r1 r2 o => by
  have hu : X.A.units + 1 < cLine := by have := G.room.units; omega
  unfold inD at o
  split at o
  · rename_i ds hds
    split at o
    · rename_i w ws h1 h2
      obtain ⟨rfl, f1⟩ := toV_ok R1 h1
      obtain ⟨a, vs, rfl, q1, q2⟩ := seqOf_ok S R2 hds
      obtain ⟨rfl, f2⟩ := toVs_ok q1 h2
      have hq : SqL X.K H a vs ∨ SqT X.K H a vs := by
        rcases q2 with ⟨n, _, q⟩ | ⟨_, q⟩
        · exact .inl q
        · exact .inr q
      cases neg with
      | false => exact op_in_seq pins s σ H _ _ v u Q I r1 r2 ⟨a, vs, rfl, hq, f1, f2, o W H .rfl' S _ (Rl.bl.mpr rfl)⟩
      | true => exact op_notIn_seq pins s σ H _ _ v u Q I r1 r2 ⟨a, vs, rfl, hq, f1, f2, o W H .rfl' S _ (Rl.bl.mpr rfl)⟩
    · exact o.elim
  · split at o
    · rename_i kvs key h1 h2
      cases d2 with
      | ref n =>
        obtain ⟨a, rfl, hio⟩ := Rl.ref.mp R2
        unfold dicOf at h1
        dsimp only at h1
        split at h1
        · rename_i kvs' hn
          cases h1
          obtain ⟨vs, q1, q2⟩ := S.cell n _ a hn hio
          have hy := keyOf_ok R1 h2
          subst hy
          cases r2
          have hg : DGet H a (kV key) (valV vs key) := DGet.k q1
          rw [← valC_some q2] at o
          cases neg with
          | false => exact d_in hu I hg r1 fun s3 I3 => ⟨.bl (valV vs key).isSome, H, I3, rfl, o W H .rfl' S _ (Rl.bl.mpr (by simp))⟩
          | true => exact d_notIn hu I hg r1 fun s3 I3 => ⟨.bl (!(valV vs key).isSome), H, I3, rfl, o W H .rfl' S _ (Rl.bl.mpr (by simp))⟩
        · cases h1
      | _ => cases h1
    · exact o.elim
theorem r2_in (G : Gd L X Wx k c) : R2v L X Wx (compareOp .In) (inD false) := r2_inn G false
theorem r2_notin (G : Gd L X Wx k c) : R2v L X Wx (compareOp .NotIn) (inD true) := r2_inn G true
/-! ### bool(x) -/
theorem callType_meetsIn {prog : Program} {w : World} {A : Around} {E : Value → Shared → Prop} {s : Shared} {T newId initId : String} {Bn Bi : Builtin} {args : List Value} {S : PySem.Spec} {Q Q₁ : Value → Shared → Prop} (ft : TypeCalled T newId initId)
    (hct : checkTypeCall T ⟨args, []⟩ = pure ()) (hcn : checkBuiltinCall newId ⟨.type T :: args, []⟩ = pure ())
    (entryN : entryFor table newId = some Bn) (entryI : entryFor table initId = some Bi) (g : MeetsIn prog w (Bn ⟨.type T :: args, []⟩) S)
    (h : S A.in1 (wants Q₁ E) s)
    (hnext : ∀ obj s₁, Q₁ obj s₁ → s₁.TypeIs obj T ∧ argsOk initId ⟨obj :: args, []⟩ ∧ ∃ Si, Meets (Bi ⟨obj :: args, []⟩) Si ∧ Si A.in1 (wants (fun r s₂ => r = .none ∧ Q obj s₂) E) s₁) :
    wpAny (model prog w) A (call (.type T) args) Q E s := by
  obtain ⟨c, tl, hmro⟩ := ft.mro
  have hmade := ft.made
  have hsub := ft.sub
  refine wpAny_call (codeAny_of_tree ?_)
  show wpAny _ _ (callAny (.type T) _) _ _ _
  refine wpAny_pure ⟨Code.quiet_builtin _ (by decide +kernel), codeAny_builtin F.entry_type_call ?_⟩
  rw [Around.under_plain (weight_type_call_type T args []) (units_type_call_type T args [])]
  have h1 := ft.notType
  have h2 := ft.canCreate
  repeat (any_goals (first | assumption | wp_step))
  refine codeAny_mono (codeAny_call_builtin ft.plain entryN (wpAny_of_eq hcn (g A.in1 _ s h))) fun r s₁ hr => ?_
  cases r with
  | error e => exact hr
  | ok fl =>
    cases fl with
    | ret obj =>
      obtain ⟨hT, hok, Si, gi, hsi⟩ := hnext _ _ hr
      have hli := ft.init.lookup
      have hbi := ft.init.bind obj
      repeat (any_goals (first | assumption | wp_step))
      refine codeAny_mono (codeAny_call_builtin ft.init.plain entryI (ft.init.check _ _ _ _ _ _ _ _ hT hok (gi prog w A.in1 _ s₁ hsi))) fun r₂ s₂ hr₂ => ?_
      cases r₂ with
      | error e => exact hr₂
      | ok fl₂ =>
        cases fl₂ with
        | ret r =>
          obtain ⟨rfl, hq⟩ := hr₂
          repeat (any_goals (first | assumption | wp_step))
        | _ => exact hr₂.elim
    | _ => exact hr.elim
theorem meets_bool_any {prog : Program} {w : World} (v : Value) : MeetsIn prog w (Builtin.«bool.__new__» ⟨[.type "bool", v], []⟩) (fun A R s => wpAny (model prog w) A.in1 (truthy v) (fun b s' => R (.ok (.ret (.bool b))) s') (fun e s' => R (.error e) s') s) :=
  MeetsIn.of_wp fun A R s hs => by
    have f1 := F.conv_sub_bool
    unfold Builtin.«bool.__new__»
    repeat (any_goals (first | assumption | (refine wpAny_bind (m := truthy v) (wpAny_mono hs (fun b s' hb => ?_) fun _ _ e => e)) | wp_step))
    all_goals first | exact ⟨_, rfl, hb⟩ | exact ⟨_, rfl, hs⟩ | skip
def bBool (T : Ls) (c : Fn) (ds : List D) (st : Store) : Res D := match ds with
  | [.int i] => .ok (.bl (i != 0)) st
  | [.bl b] => .ok (.bl b) st
  | [.obj i es] => match T.meth i 34 with
    | some f => (callD T c f [.obj i es] st).bind fun d st => match d with
      | .bl b => .ok (.bl b) st
      | _ => .stuck
    | none => .stuck
  | _ => .stuck
theorem rc_bool (G : Gd L X Wx k c) : RCv L X Wx (.type "bool") (bBool L.toLs c) := fun pins s σ H W st ds xs us Q I S R r o => by
  unfold bBool at o
  split at o
  · rename_i i
    obtain ⟨v, rfl, R1⟩ := rls1 R
    exact call_bool1 pins s σ H _ us Q I r (.inl ⟨i, by rw [Rl.int.mp R1], o W H .rfl' S _ (Rl.bl.mpr rfl)⟩)
  · rename_i i
    obtain ⟨v, rfl, R1⟩ := rls1 R
    exact call_bool1 pins s σ H _ us Q I r (.inr ⟨i, by rw [Rl.bl.mp R1], o W H .rfl' S _ (Rl.bl.mpr rfl)⟩)
  · rename_i i es
    obtain ⟨v, rfl, R1⟩ := rls1 R
    split at o
    · rename_i f hm
      obtain ⟨hC, hF, M⟩ := G.fo.mt i 34 f hm
      have hs := M.at_
      rw [G.fo.nm 34 (by decide) (by decide) (by decide)] at hs
      obtain ⟨u, rfl, ru⟩ := vals1 r
      obtain ⟨a, dx, od, rfl, J⟩ := inst_of I S R1
      cases ru
      obtain ⟨m, Fr0⟩ := I.fr
      have o2 : Out X.K L Wx W σ (okE X.K L fun v H => ∃ b, v = .bl b ∧ Q (.bl b) H) (callD L.toLs c f [.obj i es] st) := by
        revert o
        generalize callD L.toLs c f [.obj i es] st = q
        cases q with
        | ok d s2 =>
          cases d with
          | bl b => exact fun o W' H' e' S' v R' => ⟨b, Rl.bl.mp R', o W' H' e' S' _ (Rl.bl.mpr rfl)⟩
          | _ => exact fun o => o.elim
        | err x s2 => exact fun o => o
        | stuck => exact fun o => o
      have sub : Sub X k X.A.in1.in1 := by
        have h : Sub X (k + 1 + 1) X.A := ⟨G.room.mono (by omega), rfl⟩
        exact h.in1.in1
      have ht : wpAny (model X.prog X.w) X.A.in1.in1 (truthy (.ref a)) (fun b s' => TP X pins σ (fun b H => Q (.bl b) H) b s') X.xe s := by
        refine PySem.W.truthy_K Fr0 I.ok.mod.kin J hs M.fn ?_
        refine wpAny_mono (G.callA sub hF I S (Rls.mk R1 (Rls.nil.mpr rfl)) (.cons rfl .nil) o2) (fun r s' z => ?_) fun _ _ z => z
        obtain ⟨v', H', I', rv, b, rfl, q⟩ := z
        cases rv
        exact ⟨H', I', q⟩
      refine callType_meetsIn (Q₁ := fun obj s1 => ∃ b, obj = .bool b ∧ TP X pins σ (fun b H => Q (.bl b) H) b s1) F.called_bool (F.typeCall_bool_1 _) (F.newCall_bool_1 _) F.entry_bool_new F.entry_object_init (meets_bool_any (.ref a)) ?_ ?_
      · exact wpAny_mono ht (fun b s' z => ⟨b, rfl, z⟩) fun _ _ z => z
      · rintro obj s1 ⟨b, rfl, H', I', q⟩
        refine ⟨rfl, F.args_object_init_2 _ _, _, object_init_meets F.called_bool.init.lookup F.called_bool.made F.newNe_bool, rfl, rfl, ⟨.bl b, H', I', rfl, q⟩⟩
    · exact o.elim
  · exact o.elim
end
end Gm
namespace Gm
open PySem PySem.Spec PyProof.Rows L2
/-! ### the tables of a law, and what is asked of the top -/
structure Cl where
  name : Str
  lay : List Nat
  atn : List Nat
  meth : List (Nat × Nat)
structure Df where
  d : He.DefD
  ps : List Str
structure Tb where
  cls : List Cl
  defs : List Df
  nms : List Str
def dvD : He.Dv → D
  | .int i => .int i
  | .bl b => .bl b
  | .str z => .str z
  | _ => .non
def dvOk : He.Dv → Bool
  | .int _ => true
  | .bl _ => true
  | .str _ => true
  | .non => true
  | _ => false
def tailsD : List He.Dv → List (List D)
  | [] => [[]]
  | d :: ds => (d :: ds).map dvD :: tailsD ds
def Tb.nm (t : Tb) (n : Nat) : Str := if n < 40 then nameOf n else t.nms.getD (n - 40) ""
def Tb.ls (t : Tb) : Ls where
  nm := t.nm
  lay i := match t.cls[i]? with | some c => c.lay | none => []
  atn i := match t.cls[i]? with | some c => c.atn | none => []
  isC i := decide (i < t.cls.length)
  isF f := decide (f < t.defs.length)
  fps f := match t.defs[f]? with | some d => d.ps | none => []
  dfl f := match t.defs[f]? with | some d => tailsD d.d.dfl | none => []
  meth i m := match t.cls[i]? with | some c => c.meth.lookup m | none => none
  prop _ _ := none
  sub i j := i == j
def fdO (o : Option Obj) : Option FuncData := match o with
  | some ⟨_, _, .func fd, _⟩ => some fd
  | _ => none
def Tb.cad (t : Tb) (K : PySem.W.Frag) (i : Nat) : Addr := match t.cls[i]? with | some c => He.ga K c.name | none => 0
def Tb.fad (t : Tb) (K : PySem.W.Frag) (f : Nat) : Addr := match t.defs[f]? with | some d => He.fAd K d.d.at_ | none => 0
def Tb.lw (t : Tb) (K : PySem.W.Frag) : Lw := { t.ls with
  cad := t.cad K
  fad := t.fad K
  fdt := fun f => (fdO (K.lookup (t.fad K f))).getD default }
def refO : Option (Option Value) → Bool
  | some none => true
  | some (some (.ref _)) => true
  | _ => false
def ops9 : List Operator := [.Add, .Sub, .Mult, .FloorDiv, .Mod, .Pow, .BitAnd, .BitOr, .BitXor]
def clB (K : PySem.W.Frag) (t : Tb) (c : Cl) : Bool :=
  let C := He.ga K c.name
  PySem.W.plainGet K C Str.empty && PySem.W.hasDictIn K C && PySem.W.plainOver K C && He.eqO (PySem.W.findIn K (.ref C) "__setattr__") (some (some (.builtin "object.__setattr__"))) &&
  PySem.W.selfFirst K C && PySem.W.keepIn K (.ref C) &&
  decide (PySem.W.mroIn K C (.type "object") = some true) && He.eqO (PySem.W.findIn K (.ref C) "__class__") (some (some (.builtin "object.__class__"))) &&
  (c.meth.all fun p => decide (p.2 < t.defs.length) && He.eqO (PySem.W.findIn K (.ref C) (t.nm p.1)) (some (some (.ref (t.fad K p.2)))) && PySem.W.isFn K (.ref (t.fad K p.2)) && PySem.W.keepIn K (.ref (t.fad K p.2))) &&
  ((c.meth.lookup 37).isNone || PySem.W.makesIn K C) &&
  ((c.meth.lookup 21).isNone || He.eqO (PySem.W.findIn K (.ref C) "__ne__") (some (some (.builtin "object.__ne__")))) &&
  ((c.meth.lookup 34).isSome || ((c.meth.lookup 38).isSome || (He.eqO (PySem.W.findIn K (.ref C) "__bool__") (some none) && He.eqO (PySem.W.findIn K (.ref C) "__len__") (some none)))) &&
  (c.atn.all fun g => He.eqO (PySem.W.findIn K (.ref C) (t.nm g)) (some none)) &&
  (kinds.all fun k => decide (PySem.W.kitOne K (.type k) (.ref C) = some false) && decide (PySem.W.kitOne K (.ref C) (.type k) = some false)) &&
  decide (PySem.W.subIn K (.type "int") (.ref C) = some false) && decide (PySem.W.subIn K (.ref C) (.type "int") = some false) &&
  (ops9.all fun op => refO (PySem.W.findIn K (.ref C) (dunderR op.info.2)))
def prB (K : PySem.W.Frag) (t : Tb) (i j : Nat) : Bool := decide (PySem.W.kitOne K (.ref (t.cad K i)) (.ref (t.cad K j)) = some (i == j)) &&
  (i == j || (decide (PySem.W.subIn K (.ref (t.cad K i)) (.ref (t.cad K j)) = some false) && !(t.cad K i == t.cad K j)))
def okB (t : Tb) (K : PySem.W.Frag) : Bool :=
  (t.cls.all fun c => clB K t c) && (((List.range t.cls.length).all fun i => (List.range t.cls.length).all fun j => prB K t i j) &&
  ((t.defs.all fun d => PySem.W.fnIn K (He.fAd K d.d.at_)) &&
  (decide (PySem.W.specialIn K (.builtin "object.__class__") "__get__" = some (some (.builtin "getset_descriptor.__get__"))) && decide (PySem.W.takesIn K (.builtin "object.__class__") = some true))))
/-- what the tables themselves must keep -/
def stB (t : Tb) : Bool :=
  (t.cls.all fun c => (c.lay.all fun g => c.atn.contains g) && ((c.atn.all fun g => c.atn.all fun h => !(t.nm g == t.nm h) || g == h) && (c.atn.all fun g => c.meth.all fun p => !(t.nm g == t.nm p.1)))) &&
  (t.defs.all fun d => (d.d.dfl.all dvOk) && d.d.kwd.isEmpty)
theorem lookup_mem' {α β : Type} [BEq α] [LawfulBEq α] {k : α} {v : β} : ∀ {l : List (α × β)}, l.lookup k = some v → (k, v) ∈ l
  | [], h => by cases h
  | (a, b) :: r, h => by
    rw [List.lookup_cons] at h
    cases q : k == a with
    | true =>
      rw [q] at h
      cases h
      rw [eq_of_beq q]
      exact List.mem_cons_self ..
    | false =>
      rw [q] at h
      exact List.mem_cons_of_mem _ (lookup_mem' h)
theorem refO_ok {o : Option (Option Value)} (h : refO o = true) : ∃ rc, o = some rc ∧ (rc = none ∨ ∃ g : Addr, rc = some (.ref g)) := by
  unfold refO at h
  split at h
  · exact ⟨none, rfl, .inl rfl⟩
  · rename_i g; exact ⟨_, rfl, .inr ⟨g, rfl⟩⟩
  · cases h
section
variable {t : Tb} {K : PySem.W.Frag}
theorem clB_of (h : okB t K = true) {i : Nat} (hi : t.ls.isC i = true) : ∃ c, t.cls[i]? = some c ∧ clB K t c = true ∧ t.cad K i = He.ga K c.name ∧ t.ls.lay i = c.lay ∧ t.ls.atn i = c.atn ∧ (∀ m, t.ls.meth i m = c.meth.lookup m) := by
  have hl : i < t.cls.length := of_decide_eq_true hi
  have e := List.getElem?_eq_getElem hl
  unfold okB at h
  rw [Bool.and_eq_true] at h
  refine ⟨t.cls[i], e, List.all_eq_true.mp h.1 _ (List.getElem_mem hl), ?_, ?_, ?_, fun m => ?_⟩
  · unfold Tb.cad; rw [e]
  · show (match t.cls[i]? with | some c => c.lay | none => []) = _; rw [e]
  · show (match t.cls[i]? with | some c => c.atn | none => []) = _; rw [e]
  · show (match t.cls[i]? with | some c => c.meth.lookup m | none => none) = _; rw [e]
theorem prB_of (h : okB t K = true) {i j : Nat} (hi : t.ls.isC i = true) (hj : t.ls.isC j = true) : prB K t i j = true := by
  have hl : i < t.cls.length := of_decide_eq_true hi
  have hl2 : j < t.cls.length := of_decide_eq_true hj
  unfold okB at h
  rw [Bool.and_eq_true, Bool.and_eq_true] at h
  exact List.all_eq_true.mp (List.all_eq_true.mp h.2.1 i (List.mem_range.mpr hl)) j (List.mem_range.mpr hl2)
structure ClP (K : PySem.W.Frag) (t : Tb) (c : Cl) : Prop where
  c1 : PySem.W.plainGet K (He.ga K c.name) Str.empty = true
  c2 : PySem.W.hasDictIn K (He.ga K c.name) = true
  c3 : PySem.W.plainOver K (He.ga K c.name) = true
  c4 : PySem.W.findIn K (.ref (He.ga K c.name)) "__setattr__" = some (some (.builtin "object.__setattr__"))
  c5 : PySem.W.selfFirst K (He.ga K c.name) = true
  c6 : PySem.W.keepIn K (.ref (He.ga K c.name)) = true
  c7 : PySem.W.mroIn K (He.ga K c.name) (.type "object") = some true
  c8 : PySem.W.findIn K (.ref (He.ga K c.name)) "__class__" = some (some (.builtin "object.__class__"))
  c9 : ∀ p ∈ c.meth, p.2 < t.defs.length ∧ PySem.W.findIn K (.ref (He.ga K c.name)) (t.nm p.1) = some (some (.ref (t.fad K p.2))) ∧ PySem.W.isFn K (.ref (t.fad K p.2)) = true ∧ PySem.W.keepIn K (.ref (t.fad K p.2)) = true
  c10 : (c.meth.lookup 37).isNone = true ∨ PySem.W.makesIn K (He.ga K c.name) = true
  c11 : (c.meth.lookup 21).isNone = true ∨ PySem.W.findIn K (.ref (He.ga K c.name)) "__ne__" = some (some (.builtin "object.__ne__"))
  c12 : (c.meth.lookup 34).isSome = true ∨ (c.meth.lookup 38).isSome = true ∨ (PySem.W.findIn K (.ref (He.ga K c.name)) "__bool__" = some none ∧ PySem.W.findIn K (.ref (He.ga K c.name)) "__len__" = some none)
  c13 : ∀ g ∈ c.atn, PySem.W.findIn K (.ref (He.ga K c.name)) (t.nm g) = some none
  c14 : ∀ k ∈ kinds, PySem.W.kitOne K (.type k) (.ref (He.ga K c.name)) = some false ∧ PySem.W.kitOne K (.ref (He.ga K c.name)) (.type k) = some false
  c15 : PySem.W.subIn K (.type "int") (.ref (He.ga K c.name)) = some false
  c16 : PySem.W.subIn K (.ref (He.ga K c.name)) (.type "int") = some false
  c17 : ∀ op ∈ ops9, refO (PySem.W.findIn K (.ref (He.ga K c.name)) (dunderR op.info.2)) = true
theorem clP_of {K : PySem.W.Frag} {t : Tb} {c : Cl} (h : clB K t c = true) : ClP K t c := by
  unfold clB at h
  simp only [Bool.and_eq_true] at h
  obtain ⟨⟨⟨⟨⟨⟨⟨⟨⟨⟨⟨⟨⟨⟨⟨⟨c1, c2⟩, c3⟩, c4⟩, c5⟩, c6⟩, c7⟩, c8⟩, c9⟩, c10⟩, c11⟩, c12⟩, c13⟩, c14⟩, c15⟩, c16⟩, c17⟩ := h
  refine ⟨c1, c2, c3, He.eqO_ok c4, c5, c6, of_decide_eq_true c7, He.eqO_ok c8, fun p hp => ?_, ?_, ?_, ?_, fun g hg => He.eqO_ok (List.all_eq_true.mp c13 g hg), fun k hk => ?_, of_decide_eq_true c15, of_decide_eq_true c16, fun op hop => List.all_eq_true.mp c17 op hop⟩
  · have := List.all_eq_true.mp c9 p hp
    simp only [Bool.and_eq_true] at this
    obtain ⟨⟨⟨h1, h2⟩, h3⟩, h4⟩ := this
    exact ⟨of_decide_eq_true h1, He.eqO_ok h2, h3, h4⟩
  · exact Bool.or_eq_true_iff.mp c10
  · rcases Bool.or_eq_true_iff.mp c11 with h | h
    · exact .inl h
    · exact .inr (He.eqO_ok h)
  · rcases Bool.or_eq_true_iff.mp c12 with h | h
    · exact .inl h
    · rcases Bool.or_eq_true_iff.mp h with h | h
      · exact .inr (.inl h)
      · rw [Bool.and_eq_true] at h
        exact .inr (.inr ⟨He.eqO_ok h.1, He.eqO_ok h.2⟩)
  · have := List.all_eq_true.mp c14 k hk
    rw [Bool.and_eq_true] at this
    exact ⟨of_decide_eq_true this.1, of_decide_eq_true this.2⟩
theorem ops9_all {op : Operator} (h : opn op ≠ 0) : op ∈ ops9 := by cases op <;> first | decide | exact absurd rfl h
/-- what a def's binding asks -/
def BindOk (t : Tb) (K : PySem.W.Frag) (f : Nat) : Prop := ∀ tl ∈ (t.lw K).dfl f, ∃ dvs dsV, Binds K ((t.lw K).fdt f) ((t.lw K).fps f) dsV ∧ Vals dvs dsV ∧ ∀ W, Rls K (t.lw K) W tl dvs
theorem fo_of {P : Program} {w : World} {mg : Str → Option Value} {base : Heap} (hB : okB t K = true) (hS : stB t = true) (hD : ∀ d ∈ t.defs, PySem.W.keepIn K (.ref (He.fAd K d.d.at_)) = true) (hb : ∀ f, f < t.defs.length → BindOk t K f) :
    FOk (t.lw K) P w K mg base 0 (fun _ _ _ => .stuck) := by
  have hB' := hB
  unfold okB at hB'
  simp only [Bool.and_eq_true] at hB'
  obtain ⟨hcls, hprs, hfn, hog, hot⟩ := hB'
  unfold stB at hS
  rw [Bool.and_eq_true] at hS
  obtain ⟨hs1, hs2⟩ := hS
  have isC : ∀ i, (t.lw K).isC i = true → t.ls.isC i = true := fun i h => h
  have cOf := fun {i : Nat} (h : (t.lw K).isC i = true) => clB_of (t := t) (K := K) hB (isC i h)
  have stc : ∀ {i : Nat} {c : Cl}, t.cls[i]? = some c → (∀ g ∈ c.lay, g ∈ c.atn) ∧ (∀ g ∈ c.atn, ∀ h ∈ c.atn, t.nm g = t.nm h → g = h) ∧ (∀ g ∈ c.atn, ∀ p ∈ c.meth, t.nm g ≠ t.nm p.1) := fun {i c} e => by
    have := List.all_eq_true.mp hs1 c (List.mem_of_getElem? e)
    simp only [Bool.and_eq_true, List.all_eq_true, List.contains_iff_mem, Bool.or_eq_true, Bool.not_eq_true', beq_eq_false_iff_ne, beq_iff_eq] at this
    obtain ⟨h1, h2, h3⟩ := this
    refine ⟨h1, fun g hg h hh e => ?_, fun g hg p hp => h3 g hg p hp⟩
    rcases h2 g hg h hh with q | q
    · exact absurd e q
    · exact q
  have fadOf : ∀ {f : Nat}, (t.lw K).isF f = true → ∃ d, d ∈ t.defs ∧ (t.lw K).fad f = He.fAd K d.d.at_ := fun {f} h => by
    have hl : f < t.defs.length := of_decide_eq_true h
    refine ⟨t.defs[f], List.getElem_mem hl, ?_⟩
    show (match t.defs[f]? with | some d => He.fAd K d.d.at_ | none => 0) = _
    rw [List.getElem?_eq_getElem hl]
  have clOf : ∀ {i : Nat} {m f : Nat}, (t.lw K).meth i m = some f → ∃ c, t.cls[i]? = some c ∧ (t.lw K).isC i = true ∧ (m, f) ∈ c.meth ∧ c.meth.lookup m = some f := fun {i m f} h => by
    have h' : (match t.cls[i]? with | some c => c.meth.lookup m | none => none) = some f := h
    cases e : t.cls[i]? with
    | none => rw [e] at h'; cases h'
    | some c =>
      rw [e] at h'
      exact ⟨c, rfl, decide_eq_true (List.getElem?_eq_some_iff.mp e).1, lookup_mem' h', h'⟩
  have full : ∀ {i : Nat}, (t.lw K).isC i = true → ∃ c, t.cls[i]? = some c ∧ (t.lw K).cad i = He.ga K c.name ∧ (t.lw K).lay i = c.lay ∧ (t.lw K).atn i = c.atn ∧ (∀ m, (t.lw K).meth i m = c.meth.lookup m) ∧ ClP K t c := fun {i} h => by
    obtain ⟨c, e, hc, e1, e2, e3, e4⟩ := cOf h
    exact ⟨c, e, e1, e2, e3, e4, clP_of hc⟩
  refine { fn := ?_, kp := ?_, fi := ?_, bt := ?_, mt := ?_, mi := ?_, pr := ?_, cl := ?_, la := ?_, ly := ?_, li := ?_, lm := ?_, ci := ?_, nm := ?_, bi := ?_, rf := ?_, sb := ?_, sT := ?_, ob := ?_, oc := ?_, og := ?_, ot := ?_, ne := ?_, tb := ?_, ko := ?_, kt := ?_, kb := ?_ }
  · exact fun f hf => ⟨fun vs H Q E h => h.1, fun A outer s H args us vs Q E _ _ _ _ h => by obtain ⟨_, _, _, _, _, _, o⟩ := h; exact o.elim⟩
  · intro f hf
    obtain ⟨d, hd, e⟩ := fadOf hf
    rw [e]; exact hD d hd
  · intro f hf
    obtain ⟨d, hd, e⟩ := fadOf hf
    rw [e]; exact List.all_eq_true.mp hfn d hd
  · exact fun f hf => hb f (of_decide_eq_true hf)
  · intro i m f h
    obtain ⟨c, e, hC, hm, _⟩ := clOf h
    obtain ⟨c', e', e1, _, _, _, hc⟩ := full hC
    rw [e] at e'; cases e'
    obtain ⟨h1, h2, h3, h4⟩ := hc.c9 (m, f) hm
    refine ⟨hC, decide_eq_true h1, ?_⟩
    rw [e1]
    exact ⟨h2, h3, h4⟩
  · intro i f h
    obtain ⟨c, e, hC, hm, hl⟩ := clOf h
    obtain ⟨c', e', e1, _, _, _, hc⟩ := full hC
    rw [e] at e'; cases e'
    obtain ⟨h1, h2, h3, h4⟩ := hc.c9 (37, f) hm
    rw [e1]
    refine ⟨?_, h2, h3, hc.c6⟩
    rcases hc.c10 with h | h
    · rw [hl] at h; cases h
    · exact h
  · intro i m f h; cases h
  · intro i hC
    obtain ⟨c, e, e1, _, _, _, hc⟩ := full hC
    rw [e1]
    exact ⟨⟨hc.c1, hc.c2, hc.c3, hc.c4⟩, hc.c5, hc.c6⟩
  · intro i g hg
    have hg' : g ∈ (match t.cls[i]? with | some c => c.lay | none => []) := hg
    show g ∈ (match t.cls[i]? with | some c => c.atn | none => [])
    cases e : t.cls[i]? with
    | none => rw [e] at hg'; cases hg'
    | some c => rw [e] at hg'; exact (stc e).1 g hg'
  · intro i g hC hg
    obtain ⟨c, e, e1, _, e3, _, hc⟩ := full hC
    rw [e3] at hg
    rw [e1]
    exact hc.c13 g hg
  · intro i g h hC hg hh
    obtain ⟨c, e, e1, _, e3, _, hc⟩ := full hC
    rw [e3] at hg hh
    exact (stc e).2.1 g hg h hh
  · intro i g m f hg h
    obtain ⟨c, e, hC, hm, hl⟩ := clOf h
    have hg' : g ∈ (match t.cls[i]? with | some c => c.atn | none => []) := hg
    rw [e] at hg'
    exact (stc e).2.2 g hg' (m, f) hm
  · intro i j hi hj he
    by_cases hij : i = j
    · exact hij
    · have := prB_of hB (isC i hi) (isC j hj)
      unfold prB at this
      simp only [Bool.and_eq_true, Bool.or_eq_true, beq_iff_eq, Bool.not_eq_true', beq_eq_false_iff_ne] at this
      rcases this.2 with q | q
      · exact q
      · exact absurd he q.2
  · intro n h0 h40 hne
    show t.nm n = nameOf n
    unfold Tb.nm
    rw [if_pos h40]
  · intro op hop
    cases op <;> first | exact absurd rfl hop | exact ⟨_, _, rfl, rfl⟩
  · intro i op hC hop
    obtain ⟨c, e, e1, _, _, _, hc⟩ := full hC
    rw [e1]
    exact refO_ok (hc.c17 op (ops9_all hop))
  · intro i j hi hj hij
    have := prB_of hB (isC i hi) (isC j hj)
    unfold prB at this
    simp only [Bool.and_eq_true, Bool.or_eq_true, beq_iff_eq, Bool.not_eq_true', beq_eq_false_iff_ne, decide_eq_true_eq] at this
    rcases this.2 with q | q
    · exact absurd q hij
    · exact q
  · intro i hC
    obtain ⟨c, e, e1, _, _, _, hc⟩ := full hC
    rw [e1]
    exact ⟨hc.c15, hc.c16⟩
  · intro i hC
    obtain ⟨c, e, e1, _, _, _, hc⟩ := full hC
    rw [e1]
    exact hc.c7
  · intro i hC
    obtain ⟨c, e, e1, _, _, _, hc⟩ := full hC
    rw [e1]
    exact hc.c8
  · exact of_decide_eq_true hog
  · exact of_decide_eq_true hot
  · intro i f h
    obtain ⟨c, e, hC, hm, hl⟩ := clOf h
    obtain ⟨c', e', e1, _, _, _, hc⟩ := full hC
    rw [e] at e'; cases e'
    rw [e1]
    rcases hc.c11 with h | h
    · rw [hl] at h; cases h
    · exact h
  · intro i hC h1 h2
    obtain ⟨c, e, e1, _, _, e4, hc⟩ := full hC
    rw [e1]
    rw [e4] at h1 h2
    rcases hc.c12 with h | h | h
    · rw [h1] at h; cases h
    · rw [h2] at h; cases h
    · exact h
  · intro i j hi hj
    have := prB_of hB (isC i hi) (isC j hj)
    unfold prB at this
    rw [Bool.and_eq_true] at this
    exact of_decide_eq_true this.1
  · intro i k hC hk
    obtain ⟨c, e, e1, _, _, _, hc⟩ := full hC
    rw [e1]
    exact (hc.c14 k hk).1
  · intro i k hC hk
    obtain ⟨c, e, e1, _, _, _, hc⟩ := full hC
    rw [e1]
    exact (hc.c14 k hk).2
/-- one level more -/
theorem FOk.next {L : Lw} {P : Program} {w : World} {mg : Str → Option Value} {base : Heap} {k k' : Nat} {c c' : Fn} (F : FOk L P w K mg base k c) (h : ∀ f, L.isF f = true → FnOk P w K mg base (L2.CX P w) k' (L.fad f) (L.fdt f) (L.fps f) (spM K L (L.fps f).length (c' f))) : FOk L P w K mg base k' c' :=
  { fn := h, kp := F.kp, fi := F.fi, bt := F.bt, mt := F.mt, mi := F.mi, pr := F.pr, cl := F.cl, la := F.la, ly := F.ly, li := F.li, lm := F.lm, ci := F.ci, nm := F.nm, bi := F.bi, rf := F.rf, sb := F.sb, sT := F.sT, ob := F.ob, oc := F.oc, og := F.og, ot := F.ot, ne := F.ne, tb := F.tb, ko := F.ko, kt := F.kt, kb := F.kb }
/-- from the head's def to ours -/
theorem funG_of {d : He.DefD} {s : Stmt} {fd : FuncData} (F : FunD K d.name d.qual d.params d.body d.scope (d.dvs K) (d.kws K) (He.fAd K d.at_) fd) (h1 : d.params = defArgs s) (h2 : d.body = defBody s) (h3 : d.scope = defScope s) :
    FunG K d.name d.qual s (He.fAd K d.at_) ((fdO (K.lookup (He.fAd K d.at_))).getD default) := by
  obtain ⟨oc, od, dV, kV, doc, pm, an, cdv, ct, osl, e, lk, hcd, _, _⟩ := F.ex
  rw [lk]
  exact ⟨oc, od, dV, kV, doc, pm, an, cdv, ct, osl, by rw [← h1, ← h2, ← h3]; exact e, lk, hcd⟩
theorem fd_eq {d : He.DefD} {fd : FuncData} (F : FunD K d.name d.qual d.params d.body d.scope (d.dvs K) (d.kws K) (He.fAd K d.at_) fd) : (fdO (K.lookup (He.fAd K d.at_))).getD default = fd := by
  obtain ⟨oc, od, dV, kV, doc, pm, an, cdv, ct, osl, e, lk, _⟩ := F.ex
  rw [lk]
  rfl
theorem rls_dv {L : Lw} {W : Wd} : ∀ {l : List He.Dv}, l.all dvOk = true → Rls K L W (l.map dvD) (l.map (He.Dv.v K))
  | [], _ => Rls.nil.mpr rfl
  | d :: ds, h => by
    rw [List.all_cons, Bool.and_eq_true] at h
    refine Rls.mk ?_ (rls_dv h.2)
    cases d with
    | int i => exact Rl.int.mpr rfl
    | bl i => exact Rl.bl.mpr rfl
    | str i => exact Rl.str.mpr rfl
    | non => exact Rl.non.mpr rfl
    | _ => exact absurd (show false = true from h.1) Bool.false_ne_true
theorem tails_at : ∀ {l : List He.Dv} {tl : List D}, tl ∈ tailsD l → ∃ j, j ≤ l.length ∧ tl = (l.drop j).map dvD
  | [], tl, h => ⟨0, Nat.le_refl _, by simpa [tailsD] using h⟩
  | d :: ds, tl, h => by
    unfold tailsD at h
    rcases List.mem_cons.mp h with rfl | h
    · exact ⟨0, Nat.zero_le _, rfl⟩
    · obtain ⟨j, hj, e⟩ := tails_at h
      exact ⟨j + 1, by simpa using hj, e⟩
/-- a def without defaults binds -/
theorem bind0 {f : Nat} {df : Df} {fd : FuncData} (e : t.defs[f]? = some df) (F : FunD K df.d.name df.d.qual df.d.params df.d.body df.d.scope (df.d.dvs K) (df.d.kws K) (He.fAd K df.d.at_) fd) (hd : df.d.dfl = []) (hk : df.d.kwd = [])
    (h : ∀ (kV doc pm : Value) (an : Option Addr) (cdv ct : Value) (us : List Value), us.length = df.ps.length → bindArgs (PySem.W.fnOf df.d.name df.d.qual df.d.params df.d.body df.d.scope .none kV doc pm an cdv ct) ⟨us, []⟩ = pure (df.ps.zip us)) : BindOk t K f := by
  have ef : (t.lw K).fdt f = fd := by
    show (fdO (K.lookup (t.fad K f))).getD default = fd
    unfold Tb.fad
    rw [e]
    exact fd_eq F
  have ep : (t.lw K).fps f = df.ps := by
    show (match t.defs[f]? with | some d => d.ps | none => []) = _
    rw [e]
  have F' : FunD K df.d.name df.d.qual df.d.params df.d.body df.d.scope [] [] (He.fAd K df.d.at_) fd := by
    have := F
    unfold He.DefD.dvs He.DefD.kws at this
    rw [hd, hk] at this
    exact this
  intro tl htl
  have htl' : tl ∈ (match t.defs[f]? with | some d => tailsD d.d.dfl | none => []) := htl
  rw [e, ] at htl'
  have htl2 : tl ∈ tailsD df.d.dfl := htl'
  rw [hd] at htl2
  have : tl = [] := by simpa [tailsD] using htl2
  subst this
  rw [ef, ep]
  exact ⟨[], [], FunD.bindsN F' h, .nil, fun W => Rls.nil.mpr rfl⟩
/-- a def with defaults binds: h for each number j of defaults that are left out from the front -/
theorem bindJ {f : Nat} {df : Df} {fd : FuncData} (e : t.defs[f]? = some df) (F : FunD K df.d.name df.d.qual df.d.params df.d.body df.d.scope (df.d.dvs K) (df.d.kws K) (He.fAd K df.d.at_) fd) (hdv : df.d.dfl.all dvOk = true) (hd : df.d.dfl ≠ []) (hlen : df.d.dfl.length ≤ df.ps.length)
    (h : ∀ j, j ≤ df.d.dfl.length → ∀ (T : Addr) (kV doc pm : Value) (an : Option Addr) (cdv ct : Value) (us its : List Value), us.length = df.ps.length - (df.d.dfl.length - j) → its.length = df.d.dfl.length →
      if j = df.d.dfl.length then bindArgs (PySem.W.fnOf df.d.name df.d.qual df.d.params df.d.body df.d.scope (.ref T) kV doc pm an cdv ct) ⟨us, []⟩ = pure (df.ps.zip us) ∨ ∃ k, bindArgs (PySem.W.fnOf df.d.name df.d.qual df.d.params df.d.body df.d.scope (.ref T) kV doc pm an cdv ct) ⟨us, []⟩ = seqItems? (.ref T) >>= k ∧ k (some its.toArray) = pure (df.ps.zip (us ++ its.drop j))
      else ∃ k, bindArgs (PySem.W.fnOf df.d.name df.d.qual df.d.params df.d.body df.d.scope (.ref T) kV doc pm an cdv ct) ⟨us, []⟩ = seqItems? (.ref T) >>= k ∧ k (some its.toArray) = pure (df.ps.zip (us ++ its.drop j))) : BindOk t K f := by
  have ef : (t.lw K).fdt f = fd := by
    show (fdO (K.lookup (t.fad K f))).getD default = fd
    unfold Tb.fad
    rw [e]
    exact fd_eq F
  have ep : (t.lw K).fps f = df.ps := by
    show (match t.defs[f]? with | some d => d.ps | none => []) = _
    rw [e]
  intro tl htl
  have htl' : tl ∈ (match t.defs[f]? with | some d => tailsD d.d.dfl | none => []) := htl
  rw [e] at htl'
  have htl2 : tl ∈ tailsD df.d.dfl := htl'
  obtain ⟨j, hj, rfl⟩ := tails_at htl2
  rw [ef, ep]
  have hne : df.d.dvs K ≠ [] := by
    unfold He.DefD.dvs
    intro z
    exact hd (List.map_eq_nil_iff.mp z)
  have hl : (df.d.dvs K).length = df.d.dfl.length := by unfold He.DefD.dvs; rw [List.length_map]
  have hR : ∀ W, Rls K (t.lw K) W ((df.d.dfl.drop j).map dvD) ((df.d.dvs K).drop j) := fun W => by
    unfold He.DefD.dvs
    rw [← List.map_drop]
    exact rls_dv (List.all_eq_true.mpr fun x hx => List.all_eq_true.mp hdv x (List.mem_of_mem_drop hx))
  have gen : (∀ (T : Addr) (kV doc pm : Value) (an : Option Addr) (cdv ct : Value) (us its : List Value), us.length = df.ps.length - (df.d.dfl.length - j) → its.length = (df.d.dvs K).length →
      ∃ k, bindArgs (PySem.W.fnOf df.d.name df.d.qual df.d.params df.d.body df.d.scope (.ref T) kV doc pm an cdv ct) ⟨us, []⟩ = seqItems? (.ref T) >>= k ∧ k (some its.toArray) = pure (df.ps.zip (us ++ its.drop j))) →
      ∃ dvs dsV, Binds K fd df.ps dsV ∧ Vals dvs dsV ∧ ∀ W, Rls K (t.lw K) W ((df.d.dfl.drop j).map dvD) dvs := fun hh => by
    obtain ⟨ds, h1, h2⟩ := F.binds1 (ps := df.ps) (df.ps.length - (df.d.dfl.length - j)) j hne (by rw [hl]; omega) hh
    exact ⟨_, ds, h2, h1, hR⟩
  by_cases hjl : j = df.d.dfl.length
  · have hdr : (df.d.dfl.drop j).map dvD = [] := by rw [hjl, List.drop_length]; rfl
    obtain ⟨oc, od, dV, kV, doc, pm, an, cdv, ct, osl, e2, lk, hcd, hD, hK⟩ := F.ex
    rcases hD with ⟨z, _⟩ | ⟨_, T, o, its, m, rfl, lT, oT, rT⟩
    · exact absurd z hne
    · refine ⟨[], [], fun s us X hlen => ?_, .nil, fun W => by rw [hdr]; exact Rls.nil.mpr rfl⟩
      rw [List.append_nil] at hlen ⊢
      have := h j hj T kV doc pm an cdv ct us its (by omega) (by rw [← hl]; exact rT.length.symm)
      rw [if_pos hjl] at this
      rcases this with q | ⟨k, q1, q2⟩
      · rw [e2]
        exact .of_eq q
      · refine BindsTo.of_looks fun M => ?_
        rw [e2, q1]
        refine looks_items X lT oT (.of_pure ?_)
        rw [q2, List.drop_of_length_le (by rw [← rT.length, hl]; omega), List.append_nil]
  · refine gen fun T kV doc pm an cdv ct us its h1 h2 => ?_
    have := h j hj T kV doc pm an cdv ct us its h1 (by rw [h2, hl])
    rw [if_neg hjl] at this
    exact this
end
end Gm
namespace Gm
open PySem PySem.Spec PyProof.Rows L2
/-! ### in short -/
/-- a, b, c = x, y, z -/
def sPar3 (i j l : Nat) (r : Fa) : Fs := fun ρ st => (r ρ st).toS ρ fun ds st => match ds with
  | [d, e, f] => .nx (((ρ.set i (some d)).set j (some e)).set l (some f)) st
  | _ => .stuck
section
variable {L : Lw} {X : Cx} {Wx : WX} {k : Nat} {c : Fn} {x : Str} {p pos pos' : Pos} {e : Expr} {es : List Expr} {f : Fe} {r : Fa}
theorem rs_par3 {i j l : Nat} {x y z : Str} {a b d : Expr} {px py pz pt : Pos} {kt k2} {pt2 : Pos} (G : Gd L X Wx k c) (hi : X.N[i]? = some x) (hj : X.N[j]? = some y) (hl : X.N[l]? = some z) (hij : i ≠ j) (hil : i ≠ l) (hjl : j ≠ l)
    (hx : X.env.scope.names.lookup x = some .local) (hy : X.env.scope.names.lookup y = some .local) (hz : X.env.scope.names.lookup z = some .local) (ha : RA L X Wx [a, b, d] r)
    (hw : swappedStores [.Tuple [.Name x px, .Name y py, .Name z pz] kt pt] (.Tuple [a, b, d] k2 pt2) X.env = pure (some [x, y, z]) := by rfl)
    (hs : swapsWithSole [.Tuple [.Name x px, .Name y py, .Name z pz] kt pt] (.Tuple [a, b, d] k2 pt2) pos.line X.env = pure false := by rfl) :
    RS L X Wx (.Assign [.Tuple [.Name x px, .Name y py, .Name z pz] kt pt] (.Tuple [a, b, d] k2 pt2) pos) (sPar3 i j l r) := by
  refine ⟨fun pins s σ H W sto ρ D I S E o => ?_⟩
  refine (ps_par3 G.calm G.nd hi hj hl hij hil hjl hx hy hz ha.pa hw hs).run pins s σ H D I ⟨W, sto, ρ, S, E, ?_⟩
  have hlen := ha.len ρ sto
  unfold sPar3 at o
  cases q : r ρ sto with
  | stuck => rw [q] at o; exact o.elim
  | err x st1 => rw [q] at o; exact fun W' H' cls dx e' S' R' => o W' H' σ cls dx e' S' (E.mono e') R'
  | ok ds st1 =>
    have hl := hlen _ _ q
    rw [q, Res.toS_ok] at o
    match ds, hl with
    | [d1, d2, d3], _ =>
      intro W1 H1 e1 S1 vs R1
      obtain ⟨v, vs1, rfl, Ra, R1⟩ := Rls.cons.mp R1
      obtain ⟨w, vs2, rfl, Rb, R1⟩ := Rls.cons.mp R1
      obtain ⟨u, vs3, rfl, Rc, R1⟩ := Rls.cons.mp R1
      rw [Rls.nil.mp R1]
      exact ⟨v, w, u, rfl, o W1 H1 _ e1 S1 ((((E.mono e1).set Ra).set Rb).set Rc)⟩
theorem ev (i : Nat) (hN : X.N[i]? = some x := by rfl) (hv : Vis X.env.scope x := by first | exact Or.inl rfl | exact Or.inr (Or.inl rfl) | exact Or.inr (Or.inr rfl)) (hd : (x == ("__debug__" : Str)) = false := by decide)
    (hcd : (x == ("__classdict__" : Str)) = false := by decide) : RE L X Wx (.Name x pos) (xVar i) := re_var (pe_var hN hv hd hcd)
theorem gv (i : Nat) (G : Gd L X Wx k c) (hN : X.N[i]? = some x := by rfl) (hx : Loc X.env.scope x := by first | exact Or.inl rfl | exact Or.inr rfl) (hf : X.fn x = true ∨ X.env.scope.names.lookup x = some .local := by first | exact .inl rfl | exact .inr rfl) : RG L X (.Name x pos) (gNm i) [i] :=
  rg_name (pg_name G.nd hN hx hf)
theorem sv (i : Nat) (G : Gd L X Wx k c) (he : RE L X Wx e f) (hN : X.N[i]? = some x := by rfl) (hx : Loc X.env.scope x := by first | exact Or.inl rfl | exact Or.inr rfl) (hs : swapsWith e (some (.Name x pos')) pos.line X.env = pure false := by rfl)
    (hf : X.fn x = true ∨ X.env.scope.names.lookup x = some .local := by first | exact .inl rfl | exact .inr rfl) : RS L X Wx (.Assign [.Name x pos'] e pos) (sAsg f (gNm i)) := rs_set G.nd hN hx he hs hf
theorem gt {tgs : List Expr} {kk : Nat} {rr : List D → Ev → Store → Res Ev} {ts : List Nat} (G : Gd L X Wx k c) (h : RGs L X tgs rr ts) (hn : (assignEach tgs X.env).length = tgs.length := by rfl) (hst : (assignEach tgs X.env).findIdx? (·.1) = none := by rfl) : RG L X (.Tuple tgs kk pos) (gTp rr) ts := rg_tup G.calm h hn hst
theorem pr2 {y : Str} {a b : Expr} {py pt pt2 : Pos} {kt k2} (i j : Nat) (G : Gd L X Wx k c) (ha : RA L X Wx [a, b] r) (hij : i ≠ j := by decide) (hi : X.N[i]? = some x := by rfl) (hj : X.N[j]? = some y := by rfl)
    (hx : X.env.scope.names.lookup x = some .local := by rfl) (hy : X.env.scope.names.lookup y = some .local := by rfl)
    (hw : swappedStores [.Tuple [.Name x p, .Name y py] kt pt] (.Tuple [a, b] k2 pt2) X.env = pure (some [x, y]) := by rfl)
    (hs : swapsWithSole [.Tuple [.Name x p, .Name y py] kt pt] (.Tuple [a, b] k2 pt2) pos.line X.env = pure false := by rfl) :
    RS L X Wx (.Assign [.Tuple [.Name x p, .Name y py] kt pt] (.Tuple [a, b] k2 pt2) pos) (sPar i j r) := rs_par G.calm G.nd hi hj hij hx hy ha hw hs
theorem pr3 {y z : Str} {a b d : Expr} {py pz pt pt2 : Pos} {kt k2} (i j l : Nat) (G : Gd L X Wx k c) (ha : RA L X Wx [a, b, d] r) (hij : i ≠ j := by decide) (hil : i ≠ l := by decide) (hjl : j ≠ l := by decide) (hi : X.N[i]? = some x := by rfl) (hj : X.N[j]? = some y := by rfl) (hl : X.N[l]? = some z := by rfl)
    (hx : X.env.scope.names.lookup x = some .local := by rfl) (hy : X.env.scope.names.lookup y = some .local := by rfl) (hz : X.env.scope.names.lookup z = some .local := by rfl)
    (hw : swappedStores [.Tuple [.Name x p, .Name y py, .Name z pz] kt pt] (.Tuple [a, b, d] k2 pt2) X.env = pure (some [x, y, z]) := by rfl)
    (hs : swapsWithSole [.Tuple [.Name x p, .Name y py, .Name z pz] kt pt] (.Tuple [a, b, d] k2 pt2) pos.line X.env = pure false := by rfl) :
    RS L X Wx (.Assign [.Tuple [.Name x p, .Name y py, .Name z pz] kt pt] (.Tuple [a, b, d] k2 pt2) pos) (sPar3 i j l r) := rs_par3 G hi hj hl hij hil hjl hx hy hz ha hw hs
/-- a[i]; the subscript of an int written out -/
theorem rf (G : Gd L X Wx k c) (hp : PassesOwn (model X.prog X.w) X.A X.env X.xe → True := fun _ => trivial) : True := trivial
end
def tIfE (t u v : Ft) : Ft := fun ρ st => (t ρ st).bind fun q st => if q then u ρ st else v ρ st
theorem bb_abs : bootBuiltins "abs" = some (.builtin "abs") := by decide +kernel
theorem bb_len : bootBuiltins "len" = some (.builtin "len") := by decide +kernel
theorem bb_max : bootBuiltins "max" = some (.builtin "max") := by decide +kernel
theorem bb_min : bootBuiltins "min" = some (.builtin "min") := by decide +kernel
theorem bb_sum : bootBuiltins "sum" = some (.builtin "sum") := by decide +kernel
theorem bb_all : bootBuiltins "all" = some (.builtin "all") := by decide +kernel
theorem bb_any : bootBuiltins "any" = some (.builtin "any") := by decide +kernel
theorem bb_int : bootBuiltins "int" = some (.type "int") := by decide +kernel
theorem bb_list : bootBuiltins "list" = some (.type "list") := by decide +kernel
theorem bb_tuple : bootBuiltins "tuple" = some (.type "tuple") := by decide +kernel
theorem bb_bool : bootBuiltins "bool" = some (.type "bool") := by decide +kernel
theorem bb_str : bootBuiltins "str" = some (.type "str") := by decide +kernel
theorem bb_dict : bootBuiltins "dict" = some (.type "dict") := by decide +kernel
/-! ### all of the first n -/
def AllN (P : Nat → Prop) : Nat → Nat → Prop
  | _, 0 => True
  | i, n + 1 => P i ∧ AllN P (i + 1) n
theorem allN {P : Nat → Prop} : ∀ {i n : Nat}, AllN P i n → ∀ f, i ≤ f → f < i + n → P f
  | i, 0, _, f, h1, h2 => absurd h2 (by omega)
  | i, n + 1, h, f, h1, h2 => by
    by_cases e : f = i
    · subst e; exact h.1
    · exact allN h.2 f (by omega) (by omega)
end Gm
namespace Gm
open PySem PySem.Spec PyProof.Rows L2
theorem sok_law {K : PySem.W.Frag} {L : Lw} {H : Hp} {a : Addr} {ns : List Int} (hO : Only H) (hS : SqL K H a (ns.map V.int)) : Sok K L ⟨fun _ => none, [a]⟩ [.rol (ns.map D.int)] H := by
  refine ⟨fun b o h => (nomatch h), rfl, fun n c b h1 h2 => ?_, fun n c b h1 h2 h3 => rfl, fun m n c c' b h1 h2 l1 l2 h3 h4 => ?_⟩
  · cases n with
    | zero =>
      cases h1
      cases h2
      refine ⟨ns.map V.int, ?_, Rls.ints ns⟩
      rcases hS with (h | ⟨o, h⟩) | ⟨o, its, n, q1, q2, q3, q4, q5, q6⟩
      · exfalso
        rcases hO a with z | ⟨o, xs, z⟩
        · rw [z] at h; cases h
        · rw [z] at h; cases h
      · exact .inl ⟨o, h⟩
      · exact .inr ⟨o, its, n, q1, q2, q3, q4, q5, q6⟩
    | succ n => simp at h1
  · cases m with
    | zero => cases h1; cases l1
    | succ m => simp at h1
theorem walk_ofX {l : PySem.W.OpenLaw} {n k : Nat} {q : Program} {loose : List Str} {XP : (Str → Option Value) → Heap → Prop} {YP : World → Heap → Prop} {d : DefRec} {CX : World → CXT} {x : Str}
    (hn : l.most = some n) (hn2 : n ≤ sizeLine) (hdf : d.params.defaults = []) (hr : Room k callerA)
    (F : ∀ (w : World) (mg : Str → Option Value) (fa : Addr) (h : Heap), YP w h → h.Ns mainGlobals mg → mg d.name = some (.ref fa) →
      ∃ (K : PySem.W.Frag) (fd : FuncData) (sp : Sp), K.In h ∧ (∀ (s : Shared) (u : Value), BindsTo s fd ⟨[u], []⟩ [(x, u)]) ∧
        (∀ (H : Hp) (a : Addr) (ns : List Int), ns.length ≤ n → (∀ z ∈ ns, Builtin.Int.intBits z ≤ 1048576) → Only H → SqL K H a (ns.map V.int) → sp [.ref a] H (fun v _ => v = .bl true) fun _ _ _ => False) ∧
        ∀ base : Heap, K.In base → base.Ns mainGlobals mg → FnOk l.prog w K mg base (CX w) k fa fd [x] sp)
    (hCX : ∀ (w : World) (H : Hp) (s : Shared) (e : Value) (s' : Shared), CX w [] H s (fun _ _ _ => False) e s' → False) :
    PySem.W.WalkO q loose XP YP l.row.toRowW d [] (fun f vs => PySem.call f vs) := by
  refine Att.attach_callB hn hdf fun w s₀ s₁ mg mb fa o pm cd doc a vs ns G Y ho hd hcd hmg hobj hints hlen hbits hg => ?_
  obtain ⟨K, fd, sp, KX, hb, hsp, hF⟩ := F w mg fa _ Y G.T.g hmg
  exact law_call KX G.T.g G.T.b G.T.builtins G.T.nolimit hg hobj hints (Nat.le_trans hlen hn2) hr hF hb (fun H hO hS => hsp H a ns hlen hbits hO hS) fun H e s' => hCX w H s₁ e s'
theorem cx_no {P : Program} {w : World} {H : Hp} {s : Shared} {e : Value} {s' : Shared} : L2.CX P w [] H s (fun _ _ _ => False) e s' → False := fun ⟨_, _, _, _, _, _, _, _, _, _, _, _, z⟩ => z
end Gm
namespace Gm
open PySem PySem.Spec PyProof.Rows L2
/-! ### running a mirror by rewriting -/
section
variable (ρ : Ev) (st : Store) (T : Ls) (c : Fn) (f h k : Fe) (r : Fa) (t u v : Ft) (a b : Fs)
@[simp] theorem ap_sSeq : sSeq a b ρ st = (a ρ st).seq b := rfl
@[simp] theorem ap_sNx : sNx ρ st = .nx ρ st := rfl
@[simp] theorem ap_sNo : sNo ρ st = .stuck := rfl
@[simp] theorem ap_sBk : sBk ρ st = .bk ρ st := rfl
@[simp] theorem ap_sCt : sCt ρ st = .ct ρ st := rfl
def kRt (d : D) (st : Store) : SR := .rt d st
@[simp] theorem kRt_ (d : D) : kRt d st = .rt d st := rfl
@[simp] theorem ap_sRet : sRet f ρ st = (f ρ st).toS ρ kRt := rfl
@[simp] theorem ap_sRetN : sRetN ρ st = .rt .non st := rfl
def kIf (a b : Fs) (ρ : Ev) (q : Bool) (st : Store) : SR := if q then a ρ st else b ρ st
@[simp] theorem kIf_t : kIf a b ρ true st = a ρ st := rfl
@[simp] theorem kIf_f : kIf a b ρ false st = b ρ st := rfl
@[simp] theorem ap_sIf : sIf t a b ρ st = (t ρ st).toS ρ (kIf a b ρ) := rfl
def kNx (ρ : Ev) (d : D) (st : Store) : SR := .nx ρ st
@[simp] theorem kNx_ (d : D) : kNx ρ d st = .nx ρ st := rfl
@[simp] theorem ap_sExpr : sExpr f ρ st = (f ρ st).toS ρ (kNx ρ) := rfl
def asgK (g : Fg) (ρ : Ev) (d : D) (st : Store) : SR := match g d ρ st with
  | .ok ρ' st' => .nx ρ' st'
  | _ => .stuck
@[simp] theorem ap_sAsg (g : Fg) : sAsg f g ρ st = (f ρ st).toS ρ (asgK g ρ) := rfl
@[simp] theorem asgK_nm (i : Nat) (d : D) : asgK (gNm i) ρ d st = .nx (ρ.set i (some d)) st := rfl
@[simp] theorem ap_gNm (i : Nat) (d : D) : gNm i d ρ st = .ok (ρ.set i (some d)) st := rfl
@[simp] theorem ap_gsNil : gsNil [] ρ st = .ok ρ st := rfl
def kGs (q : List D → Ev → Store → Res Ev) (ds : List D) (ρ : Ev) (st : Store) : Res Ev := q ds ρ st
@[simp] theorem kGs_ (q : List D → Ev → Store → Res Ev) (ds : List D) : kGs q ds ρ st = q ds ρ st := rfl
@[simp] theorem ap_gsCons (g : Fg) (q : List D → Ev → Store → Res Ev) (d : D) (ds : List D) : gsCons g q (d :: ds) ρ st = (g d ρ st).bind (kGs q ds) := rfl
@[simp] theorem ap_gTp (q : List D → Ev → Store → Res Ev) (ds : List D) : gTp q (.tup ds) ρ st = q ds ρ st := rfl
def evK (r : Res Ev) : SR := match r with
  | .ok ρ' st' => .nx ρ' st'
  | _ => .stuck
@[simp] theorem evK_ok : evK (.ok ρ st) = .nx ρ st := rfl
@[simp] theorem asgK_tp (q : List D → Ev → Store → Res Ev) (d : D) : asgK (gTp q) ρ d st = evK (gTp q d ρ st) := rfl
def kPar (i j : Nat) (ρ : Ev) (ds : List D) (st : Store) : SR := match ds with
  | [d, e] => .nx ((ρ.set i (some d)).set j (some e)) st
  | _ => .stuck
@[simp] theorem kPar_ (i j : Nat) (d e : D) : kPar i j ρ [d, e] st = .nx ((ρ.set i (some d)).set j (some e)) st := rfl
@[simp] theorem ap_sPar (i j : Nat) : sPar i j r ρ st = (r ρ st).toS ρ (kPar i j ρ) := rfl
def kPar3 (i j l : Nat) (ρ : Ev) (ds : List D) (st : Store) : SR := match ds with
  | [d, e, f] => .nx (((ρ.set i (some d)).set j (some e)).set l (some f)) st
  | _ => .stuck
@[simp] theorem kPar3_ (i j l : Nat) (d e f : D) : kPar3 i j l ρ [d, e, f] st = .nx (((ρ.set i (some d)).set j (some e)).set l (some f)) st := rfl
@[simp] theorem ap_sPar3 (i j l : Nat) : sPar3 i j l r ρ st = (r ρ st).toS ρ (kPar3 i j l ρ) := rfl
noncomputable def kFor (g : Fg) (b : Fs) (ρ : Ev) (p : List D × (Store → Prop)) (st : Store) : SR := forI p.2 g b p.1 ρ st
@[simp] theorem kFor_ (g : Fg) (ds : List D) (q : Store → Prop) : kFor g b ρ (ds, q) st = forI q g b ds ρ st := rfl
@[simp] theorem ap_sFor (fi : Fi) (g : Fg) : sFor fi g b ρ st = (fi ρ st).toS ρ (kFor g b ρ) := rfl
@[simp] theorem ap_xK (d : D) : xK d ρ st = .ok d st := rfl
def vr (o : Option (Option D)) (st : Store) : Res D := match o with | some (some d) => .ok d st | _ => .stuck
@[simp] theorem vr_ (d : D) : vr (some (some d)) st = .ok d st := rfl
@[simp] theorem ap_xVar (i : Nat) : xVar i ρ st = vr ρ[i]? st := rfl
@[simp] theorem ap_xUn (g : D → Store → Res D) : xUn g f ρ st = (f ρ st).bind g := rfl
def kB2 (g : D → D → Store → Res D) (a b : D) (st : Store) : Res D := g a b st
@[simp] theorem kB2_ (g : D → D → Store → Res D) (a b : D) : kB2 g a b st = g a b st := rfl
def kB1 (g : D → D → Store → Res D) (h : Fe) (ρ : Ev) (a : D) (st : Store) : Res D := (h ρ st).bind (kB2 g a)
@[simp] theorem kB1_ (g : D → D → Store → Res D) (a : D) : kB1 g h ρ a st = (h ρ st).bind (kB2 g a) := rfl
@[simp] theorem ap_xBin (g : D → D → Store → Res D) : xBin g f h ρ st = (f ρ st).bind (kB1 g h ρ) := rfl
@[simp] theorem ap_aNil : aNil ρ st = .ok [] st := rfl
def kC2 (a : D) (l : List D) (st : Store) : Res (List D) := .ok (a :: l) st
@[simp] theorem kC2_ (a : D) (l : List D) : kC2 a l st = .ok (a :: l) st := rfl
def kC1 (r : Fa) (ρ : Ev) (a : D) (st : Store) : Res (List D) := (r ρ st).bind (kC2 a)
@[simp] theorem kC1_ (a : D) : kC1 r ρ a st = (r ρ st).bind (kC2 a) := rfl
@[simp] theorem ap_aCons : aCons f r ρ st = (f ρ st).bind (kC1 r ρ) := rfl
def kTp (l : List D) (st : Store) : Res D := .ok (.tup l) st
@[simp] theorem kTp_ (l : List D) : kTp l st = .ok (.tup l) st := rfl
@[simp] theorem ap_xTup : xTup r ρ st = (r ρ st).bind kTp := rfl
@[simp] theorem ap_xLst : xLst r ρ st = (r ρ st).bind newLst := rfl
@[simp] theorem ap_tOf (g : D → Store → Res Bool) : tOf g f ρ st = (f ρ st).bind g := rfl
def kNot (b : Bool) (st : Store) : Res Bool := .ok (!b) st
@[simp] theorem kNot_ (b : Bool) : kNot b st = .ok (!b) st := rfl
@[simp] theorem ap_tNot : tNot t ρ st = (t ρ st).bind kNot := rfl
@[simp] theorem ap_tTrue : tTrue ρ st = .ok true st := rfl
def kAn (u : Ft) (ρ : Ev) (b : Bool) (st : Store) : Res Bool := if b then u ρ st else .ok false st
@[simp] theorem kAn_t : kAn u ρ true st = u ρ st := rfl
@[simp] theorem kAn_f : kAn u ρ false st = .ok false st := rfl
@[simp] theorem ap_tAnd : tAnd t u ρ st = (t ρ st).bind (kAn u ρ) := rfl
def kOr (u : Ft) (ρ : Ev) (b : Bool) (st : Store) : Res Bool := if b then .ok true st else u ρ st
@[simp] theorem kOr_t : kOr u ρ true st = .ok true st := rfl
@[simp] theorem kOr_f : kOr u ρ false st = u ρ st := rfl
@[simp] theorem ap_tOr : tOr t u ρ st = (t ρ st).bind (kOr u ρ) := rfl
def kTi (u v : Ft) (ρ : Ev) (b : Bool) (st : Store) : Res Bool := if b then u ρ st else v ρ st
@[simp] theorem kTi_t : kTi u v ρ true st = u ρ st := rfl
@[simp] theorem kTi_f : kTi u v ρ false st = v ρ st := rfl
@[simp] theorem ap_tIfE : tIfE t u v ρ st = (t ρ st).bind (kTi u v ρ) := rfl
def kEi (f h : Fe) (ρ : Ev) (b : Bool) (st : Store) : Res D := if b then f ρ st else h ρ st
@[simp] theorem kEi_t : kEi f h ρ true st = f ρ st := rfl
@[simp] theorem kEi_f : kEi f h ρ false st = h ρ st := rfl
@[simp] theorem ap_xIf : xIf t f h ρ st = (t ρ st).bind (kEi f h ρ) := rfl
def kN2 (b : Bool) (st : Store) : Res D := .ok (.bl (!b)) st
@[simp] theorem kN2_ (b : Bool) : kN2 b st = .ok (.bl (!b)) st := rfl
def kN1 (g : D → Store → Res Bool) (d : D) (st : Store) : Res D := (g d st).bind kN2
@[simp] theorem kN1_ (g : D → Store → Res Bool) (d : D) : kN1 g d st = (g d st).bind kN2 := rfl
@[simp] theorem ap_xNot (g : D → Store → Res Bool) : xNot g f ρ st = (f ρ st).bind (kN1 g) := rfl
def kA2 (h : Fe) (ρ : Ev) (d : D) (b : Bool) (st : Store) : Res D := if b then h ρ st else .ok d st
@[simp] theorem kA2_t (d : D) : kA2 h ρ d true st = h ρ st := rfl
@[simp] theorem kA2_f (d : D) : kA2 h ρ d false st = .ok d st := rfl
def kA1 (g : D → Store → Res Bool) (h : Fe) (ρ : Ev) (d : D) (st : Store) : Res D := (g d st).bind (kA2 h ρ d)
@[simp] theorem kA1_ (g : D → Store → Res Bool) (d : D) : kA1 g h ρ d st = (g d st).bind (kA2 h ρ d) := rfl
@[simp] theorem ap_xAnd (g : D → Store → Res Bool) : xAnd g f h ρ st = (f ρ st).bind (kA1 g h ρ) := rfl
def kO2 (h : Fe) (ρ : Ev) (d : D) (b : Bool) (st : Store) : Res D := if b then .ok d st else h ρ st
@[simp] theorem kO2_t (d : D) : kO2 h ρ d true st = .ok d st := rfl
@[simp] theorem kO2_f (d : D) : kO2 h ρ d false st = h ρ st := rfl
def kO1 (g : D → Store → Res Bool) (h : Fe) (ρ : Ev) (d : D) (st : Store) : Res D := (g d st).bind (kO2 h ρ d)
@[simp] theorem kO1_ (g : D → Store → Res Bool) (d : D) : kO1 g h ρ d st = (g d st).bind (kO2 h ρ d) := rfl
@[simp] theorem ap_xOr (g : D → Store → Res Bool) : xOr g f h ρ st = (f ρ st).bind (kO1 g h ρ) := rfl
def kH5 (g' : D → D → Store → Res D) (tr : D → Store → Res Bool) (b e : D) (st : Store) : Res Bool := (g' b e st).bind tr
@[simp] theorem kH5_ (g' : D → D → Store → Res D) (tr : D → Store → Res Bool) (b e : D) : kH5 g' tr b e st = (g' b e st).bind tr := rfl
def kH4 (g' : D → D → Store → Res D) (tr : D → Store → Res Bool) (k : Fe) (ρ : Ev) (b : D) (q : Bool) (st : Store) : Res Bool := if q then (k ρ st).bind (kH5 g' tr b) else .ok false st
@[simp] theorem kH4_t (g' : D → D → Store → Res D) (tr : D → Store → Res Bool) (b : D) : kH4 g' tr k ρ b true st = (k ρ st).bind (kH5 g' tr b) := rfl
@[simp] theorem kH4_f (g' : D → D → Store → Res D) (tr : D → Store → Res Bool) (b : D) : kH4 g' tr k ρ b false st = .ok false st := rfl
def kH3 (g' : D → D → Store → Res D) (tr : D → Store → Res Bool) (k : Fe) (ρ : Ev) (b : D) (c : D) (st : Store) : Res Bool := (tr c st).bind (kH4 g' tr k ρ b)
@[simp] theorem kH3_ (g' : D → D → Store → Res D) (tr : D → Store → Res Bool) (b c : D) : kH3 g' tr k ρ b c st = (tr c st).bind (kH4 g' tr k ρ b) := rfl
def kH2 (g g' : D → D → Store → Res D) (tr : D → Store → Res Bool) (k : Fe) (ρ : Ev) (a b : D) (st : Store) : Res Bool := (g a b st).bind (kH3 g' tr k ρ b)
@[simp] theorem kH2_ (g g' : D → D → Store → Res D) (tr : D → Store → Res Bool) (a b : D) : kH2 g g' tr k ρ a b st = (g a b st).bind (kH3 g' tr k ρ b) := rfl
def kH1 (g g' : D → D → Store → Res D) (tr : D → Store → Res Bool) (h k : Fe) (ρ : Ev) (a : D) (st : Store) : Res Bool := (h ρ st).bind (kH2 g g' tr k ρ a)
@[simp] theorem kH1_ (g g' : D → D → Store → Res D) (tr : D → Store → Res Bool) (a : D) : kH1 g g' tr h k ρ a st = (h ρ st).bind (kH2 g g' tr k ρ a) := rfl
@[simp] theorem ap_tChain (g g' : D → D → Store → Res D) (tr : D → Store → Res Bool) : tChain g g' tr f h k ρ st = (f ρ st).bind (kH1 g g' tr h k ρ) := rfl
@[simp] theorem ap_xCall (i : Nat) : xCall T c i r ρ st = (r ρ st).bind (callD T c i) := rfl
@[simp] theorem ap_xMk (i : Nat) : xMk T c i r ρ st = (r ρ st).bind (mkD T c i) := rfl
@[simp] theorem ap_xFld (g : Nat) : xFld T c g f ρ st = (f ρ st).bind (fldD T c g) := rfl
def kMe (T : Ls) (c : Fn) (g : Nat) (d : D) (es : List D) (st : Store) : Res D := callD T c g (d :: es) st
@[simp] theorem kMe_ (g : Nat) (d : D) (es : List D) : kMe T c g d es st = callD T c g (d :: es) st := rfl
def methK (T : Ls) (c : Fn) (m : Nat) (r : Fa) (ρ : Ev) (d : D) (st : Store) : Res D := match whoD T m d st with
  | some g => (r ρ st).bind (kMe T c g d)
  | none => .stuck
@[simp] theorem ap_xMethW (m : Nat) : xMethW T c m f r ρ st = (f ρ st).bind (methK T c m r ρ) := rfl
theorem methK_obj {m i g : Nat} {ds : List D} (hm : T.meth i m = some g) : methK T c m r ρ (.obj i ds) st = (r ρ st).bind (kMe T c g (.obj i ds)) := by
  unfold methK whoD
  simp only [hm]
def ciK (T : Ls) (c : Fn) (r : Fa) (ρ : Ev) (d : D) (st : Store) : Res D := match d with
  | .obj i _ => match T.meth i 36 with
    | some g => (r ρ st).bind (kMe T c g d)
    | none => .stuck
  | _ => .stuck
@[simp] theorem ap_xCallI : xCallI T c f r ρ st = (f ρ st).bind (ciK T c r ρ) := rfl
theorem ciK_obj {i g : Nat} {ds : List D} (hm : T.meth i 36 = some g) : ciK T c r ρ (.obj i ds) st = (r ρ st).bind (kMe T c g (.obj i ds)) := by
  unfold ciK
  simp only [hm]
def fldK (T : Ls) (g : Nat) (d : D) (ρ : Ev) (o : D) (st : Store) : SR := match setD T g d o st with
  | .ok st' _ => .nx ρ st'
  | _ => .stuck
def fldK1 (T : Ls) (g : Nat) (f : Fe) (ρ : Ev) (d : D) (st : Store) : SR := (f ρ st).toS ρ (fldK T g d ρ)
@[simp] theorem fldK1_ (g : Nat) (d : D) : fldK1 T g f ρ d st = (f ρ st).toS ρ (fldK T g d ρ) := rfl
@[simp] theorem ap_sFldD (g : Nat) : sFldD T g f h ρ st = (h ρ st).toS ρ (fldK1 T g f ρ) := rfl
@[simp] theorem ap_xBi (g : List D → Store → Res D) : xBi g r ρ st = (r ρ st).bind g := rfl
@[simp] theorem ap_xIso (j : Nat) : xIso T j f ρ st = (f ρ st).bind (isoD T j) := rfl
@[simp] theorem ap_xIst (s : String) : xIst T s f ρ st = (f ρ st).bind (istD T s) := rfl
@[simp] theorem tru_bl (q : Bool) : truD T c (.bl q) st = .ok q st := rfl
@[simp] theorem tru_int (i : Int) : truD T c (.int i) st = .ok (i != 0) st := rfl
@[simp] theorem tru_non : truD T c .non st = .ok false st := rfl
@[simp] theorem iso_obj (i j : Nat) (ds : List D) : isoD T j (.obj i ds) st = if T.isC i = true then .ok (.bl (T.sub i j)) st else .stuck := rfl
@[simp] theorem iso_int (j : Nat) (i : Int) : isoD T j (.int i) st = .ok (.bl false) st := rfl
@[simp] theorem iso_non (j : Nat) : isoD T j .non st = .ok (.bl false) st := rfl
@[simp] theorem iso_tup (j : Nat) (ds : List D) : isoD T j (.tup ds) st = .ok (.bl false) st := rfl
@[simp] theorem ist_int (s : String) (i : Int) : istD T s (.int i) st = .ok (.bl ("int" == s || ("int" == "bool" && s == "int"))) st := rfl
@[simp] theorem ist_obj (s : String) (i : Nat) (ds : List D) : istD T s (.obj i ds) st = if T.isC i = true then .ok (.bl false) st else .stuck := rfl
@[simp] theorem b_abs (i : Int) : bAbs [.int i] st = .ok (.int (if i < 0 then -i else i)) st := rfl
@[simp] theorem b_int (i : Int) : bInt [.int i] st = .ok (.int i) st := rfl
@[simp] theorem b_intb (q : Bool) : bInt [.bl q] st = .ok (.int (if q then 1 else 0)) st := rfl
@[simp] theorem bin_ii (op : Operator) (i j : Int) : binD T c op (.int i) (.int j) st = intBin op i j st := rfl
@[simp] theorem ib_add (i j : Int) : intBin .Add i j st = .ok (.int (i + j)) st := rfl
@[simp] theorem ib_sub (i j : Int) : intBin .Sub i j st = .ok (.int (i - j)) st := rfl
theorem ib_mul {i j : Int} (h : IntMulOk i j) : intBin .Mult i j st = .ok (.int (i * j)) st := if_pos h
theorem ib_fdiv {i j : Int} (h : j ≠ 0 ∧ j.natAbs.log2 < 9000) : intBin .FloorDiv i j st = .ok (.int (i.fdiv j)) st := if_pos h
theorem ib_mod {i j : Int} (h : j ≠ 0) : intBin .Mod i j st = .ok (.int (i.fmod j)) st := if_pos h
@[simp] theorem neg_int' (i : Int) : negD T c (.int i) st = .ok (.int (-i)) st := rfl
@[simp] theorem ord_ii (op : CmpOp) (i j : Int) : ordD T c op (.int i) (.int j) st = match ltI op i j with
      | some b => .ok (.bl b) st
      | none => .stuck := rfl
@[simp] theorem lt_lt (i j : Int) : ltI .Lt i j = some (decide (i < j)) := rfl
@[simp] theorem lt_le (i j : Int) : ltI .LtE i j = some (decide (i ≤ j)) := rfl
@[simp] theorem lt_gt (i j : Int) : ltI .Gt i j = some (decide (j < i)) := rfl
@[simp] theorem lt_ge (i j : Int) : ltI .GtE i j = some (decide (j ≤ i)) := rfl
@[simp] theorem eq_ii (neg : Bool) (i j : Int) : eqB T c neg (.int i) (.int j) st = .ok (.bl ((i == j) != neg)) st := rfl
@[simp] theorem isno_non (neg : Bool) : isNo neg .non .non st = .ok (.bl (!neg)) st := rfl
@[simp] theorem isno_int (neg : Bool) (i : Int) : isNo neg (.int i) .non st = .ok (.bl neg) st := rfl
@[simp] theorem isno_obj (neg : Bool) (i : Nat) (ds : List D) : isNo neg (.obj i ds) .non st = .ok (.bl neg) st := rfl
@[simp] theorem sub_tup (ds : List D) (i : Int) : subD (.tup ds) (.int i) st = optR (atI ds i) st := rfl
@[simp] theorem optR_some (d : D) : optR (some d) st = .ok d st := rfl
@[simp] theorem at0 (d : D) (ds : List D) : atI (d :: ds) 0 = some d := atI_nat (j := 0) rfl
@[simp] theorem at1 (d e : D) (ds : List D) : atI (d :: e :: ds) 1 = some e := atI_nat (j := 1) rfl
@[simp] theorem at2 (d e f : D) (ds : List D) : atI (d :: e :: f :: ds) 2 = some f := atI_nat (j := 2) rfl
end
/-- one def's run -/
theorem fnD_rt {n : Nat} {b : Fs} {ds : List D} {st : Store} {d : D} {st' : Store} (h : b (startE n ds) st = .rt d st') : fnD n b ds st = tidy st (.ok d st') := by
  unfold fnD runB
  rw [h]
theorem fnD_rt0 {n : Nat} {b : Fs} {ds : List D} {st : Store} {d : D} (h : b (startE n ds) st = .rt d st) (hd : noRef st.length d = true) : fnD n b ds st = .ok d st := by
  rw [fnD_rt h, tidy_same0 hd]
theorem fnD_nx {n : Nat} {b : Fs} {ds : List D} {st : Store} {ρ : Ev} {st' : Store} (h : b (startE n ds) st = .nx ρ st') : fnD n b ds st = tidy st (.ok .non st') := by
  unfold fnD runB
  rw [h]
end Gm
namespace Gm
open PySem PySem.Spec PyProof.Rows L2
/-! ### rationals and their sizes -/
/-- below b bits, above and below the line -/
def Sz (b : Nat) (q : Rat) : Prop := q.num.natAbs < 2 ^ b ∧ q.den < 2 ^ b
theorem Sz.mono {b b' : Nat} {q : Rat} (h : Sz b q) (hb : b ≤ b') : Sz b' q := ⟨Nat.lt_of_lt_of_le h.1 (Nat.pow_le_pow_right (by decide) hb), Nat.lt_of_lt_of_le h.2 (Nat.pow_le_pow_right (by decide) hb)⟩
theorem log2_lt {n b : Nat} (h : n < 2 ^ b) (hb : 0 < b) : n.log2 < b := by
  rcases Nat.eq_zero_or_pos n with rfl | hp
  · simpa using hb
  · exact (Nat.log2_lt (Nat.ne_of_gt hp)).mpr h
theorem mulOk {i j : Int} {b b' : Nat} (h1 : i.natAbs < 2 ^ b) (h2 : j.natAbs < 2 ^ b') (hb : b + b' ≤ 900000) : IntMulOk i j := by
  refine CMulW.ok ?_
  show i.natAbs.log2 + j.natAbs.log2 < 1000000
  have p1 := log2_lt (b := b + 1) (Nat.lt_of_lt_of_le h1 (Nat.pow_le_pow_right (by decide) (Nat.le_succ b))) (Nat.succ_pos b)
  have p2 := log2_lt (b := b' + 1) (Nat.lt_of_lt_of_le h2 (Nat.pow_le_pow_right (by decide) (Nat.le_succ b'))) (Nat.succ_pos b')
  omega
theorem mul_lt {i j : Int} {b b' : Nat} (h1 : i.natAbs < 2 ^ b) (h2 : j.natAbs < 2 ^ b') : (i * j).natAbs < 2 ^ (b + b') := by
  rw [Int.natAbs_mul, Nat.pow_add]
  exact Nat.mul_lt_mul'' h1 h2
theorem add_lt {i j : Int} {b b' : Nat} (h1 : i.natAbs < 2 ^ b) (h2 : j.natAbs < 2 ^ b') : (i + j).natAbs < 2 ^ (max b b' + 1) := by
  have p1 := Nat.lt_of_lt_of_le h1 (Nat.pow_le_pow_right (n := 2) (by decide) (Nat.le_max_left b b'))
  have p2 := Nat.lt_of_lt_of_le h2 (Nat.pow_le_pow_right (n := 2) (by decide) (Nat.le_max_right b b'))
  have : (i + j).natAbs ≤ i.natAbs + j.natAbs := Int.natAbs_add_le i j
  rw [Nat.pow_succ]
  omega
theorem sub_lt {i j : Int} {b b' : Nat} (h1 : i.natAbs < 2 ^ b) (h2 : j.natAbs < 2 ^ b') : (i - j).natAbs < 2 ^ (max b b' + 1) := by
  rw [Int.sub_eq_add_neg]
  exact add_lt h1 (by rw [Int.natAbs_neg]; exact h2)
/-- what cutting a fraction gives -/
def com (n d : Int) : Int := if d < 0 then -(Int.gcd n d : Int) else (Int.gcd n d : Int)
theorem com_dvd_left (n d : Int) : com n d ∣ n := by
  unfold com
  split
  · exact Int.neg_dvd.mpr (Int.gcd_dvd_left ..)
  · exact Int.gcd_dvd_left ..
theorem com_dvd_right (n d : Int) : com n d ∣ d := by
  unfold com
  split
  · exact Int.neg_dvd.mpr (Int.gcd_dvd_right ..)
  · exact Int.gcd_dvd_right ..
theorem com_ne {n d : Int} (hd : d ≠ 0) : com n d ≠ 0 := by
  have h : (Int.gcd n d : Int) ≠ 0 := by
    intro z
    have := Int.gcd_eq_zero_iff.mp (Int.ofNat_eq_zero.mp z)
    exact hd this.2
  unfold com
  split
  · intro z; exact h (by omega)
  · exact h
theorem com_le {n d : Int} (hd : d ≠ 0) : (com n d).natAbs ≤ d.natAbs := by
  have h : Int.gcd n d ≤ d.natAbs := Nat.le_of_dvd (Int.natAbs_pos.mpr hd) (Nat.gcd_dvd_right ..)
  unfold com
  split
  · rw [Int.natAbs_neg]; exact h
  · exact h
theorem cut_num {n d : Int} (hd : d ≠ 0) : n.fdiv (com n d) = (Rat.divInt n d).num := by
  rw [Int.fdiv_eq_ediv_of_dvd (com_dvd_left n d), Rat.num_divInt, Int.gcd_comm d n]
  unfold com
  rcases Int.lt_trichotomy d 0 with h | h | h
  · rw [if_pos h, Int.sign_eq_neg_one_of_neg h, Int.ediv_neg, Int.neg_mul, Int.one_mul, Int.neg_ediv_of_dvd (Int.gcd_dvd_left ..)]
  · exact absurd h hd
  · rw [if_neg (by omega), Int.sign_eq_one_of_pos h, Int.one_mul]
theorem cut_den {n d : Int} (hd : d ≠ 0) : d.fdiv (com n d) = ((Rat.divInt n d).den : Int) := by
  rw [Int.fdiv_eq_ediv_of_dvd (com_dvd_right n d), Rat.den_divInt, if_neg hd, Int.gcd_comm d n]
  unfold com
  rcases Int.lt_trichotomy d 0 with h | h | h
  · rw [if_pos h, Int.ediv_neg, ← Int.neg_ediv_of_dvd (Int.gcd_dvd_right ..)]
    have e : -d = (d.natAbs : Int) := by omega
    rw [e]
    exact (Int.natCast_ediv ..).symm
  · exact absurd h hd
  · rw [if_neg (by omega)]
    have e : d = (d.natAbs : Int) := by omega
    conv => lhs; rw [e]
    rw [show Int.gcd n (d.natAbs : Int) = Int.gcd n d by simp [Int.gcd]]
    exact (Int.natCast_ediv ..).symm
theorem Rat.den_pos' (q : Rat) : (0 : Int) < (q.den : Int) := by
  have := q.den_pos
  omega
theorem Rat.den_ne' (q : Rat) : (q.den : Int) ≠ 0 := by
  have := q.den_pos
  omega
theorem rat_add (p q : Rat) : Rat.divInt (p.num * q.den + q.num * p.den) (p.den * q.den) = p + q := by
  conv => rhs; rw [← Rat.num_divInt_den p, ← Rat.num_divInt_den q]
  rw [Rat.divInt_add_divInt _ _ (Rat.den_ne' p) (Rat.den_ne' q)]
theorem rat_mul (p q : Rat) : Rat.divInt (p.num * q.num) (p.den * q.den) = p * q := by
  conv => rhs; rw [← Rat.num_divInt_den p, ← Rat.num_divInt_den q]
  rw [Rat.divInt_mul_divInt]
theorem rat_neg (p : Rat) : Rat.divInt (-p.num) p.den = -p := by
  conv => rhs; rw [← Rat.num_divInt_den p]
  rw [Rat.neg_divInt]
theorem rat_sub (p q : Rat) : Rat.divInt (p.num * q.den - q.num * p.den) (p.den * q.den) = p - q := by
  have e : p - q = p + -q := Rat.sub_eq_add_neg p q
  rw [e, ← rat_add]
  congr 1
  · rw [Rat.neg_num, Rat.neg_den, Int.neg_mul, Int.sub_eq_add_neg]
theorem rat_int (n : Int) : Rat.divInt n 1 = (n : Rat) := by
  rw [show (1 : Int) = ((1 : Nat) : Int) from rfl, Rat.divInt_ofNat, Rat.mkRat_one]
/-! ### Euclid's steps -/
theorem gcd_step (a b : Nat) (hb : b ≠ 0) : Nat.gcd b (a % b) = Nat.gcd a b := by
  rw [Nat.gcd_comm a b, Nat.gcd_rec b a, Nat.gcd_comm]
theorem fmod_nat (a b : Nat) : (a : Int).fmod (b : Int) = ((a % b : Nat) : Int) := by
  rw [Int.fmod_eq_emod_of_nonneg _ (Int.natCast_nonneg b)]
  exact (Int.natCast_emod a b).symm
theorem abs_if (i : Int) : (if i < 0 then -i else i) = (i.natAbs : Int) := by
  split <;> omega
/-- below b bits -/
def Nb (b : Nat) (i : Int) : Prop := i.natAbs < 2 ^ b
theorem Nb.mono {b b' : Nat} {i : Int} (h : Nb b i) (hb : b ≤ b') : Nb b' i := Nat.lt_of_lt_of_le h (Nat.pow_le_pow_right (by decide) hb)
theorem Nb.mul {i j : Int} {b b' : Nat} (h1 : Nb b i) (h2 : Nb b' j) : Nb (b + b') (i * j) := mul_lt h1 h2
theorem Nb.add {i j : Int} {b b' : Nat} (h1 : Nb b i) (h2 : Nb b' j) : Nb (max b b' + 1) (i + j) := add_lt h1 h2
theorem Nb.sub {i j : Int} {b b' : Nat} (h1 : Nb b i) (h2 : Nb b' j) : Nb (max b b' + 1) (i - j) := sub_lt h1 h2
theorem Nb.neg {i : Int} {b : Nat} (h1 : Nb b i) : Nb b (-i) := by unfold Nb; rw [Int.natAbs_neg]; exact h1
theorem Nb.abs {i : Int} {b : Nat} (h1 : Nb b i) : Nb b (i.natAbs : Int) := h1
theorem Nb.ok {i j : Int} {b b' : Nat} (h1 : Nb b i) (h2 : Nb b' j) (hb : b + b' ≤ 900000) : IntMulOk i j := mulOk h1 h2 hb
theorem Sz.num {q : Rat} {b : Nat} (h : Sz b q) : Nb b q.num := h.1
theorem Sz.den {q : Rat} {b : Nat} (h : Sz b q) : Nb b (q.den : Int) := h.2
/-- a number told by n over d is no longer than both -/
theorem Sz.of {n d : Int} {b : Nat} (h1 : Nb b n) (h2 : Nb b d) (hd : d ≠ 0) : Sz b (Rat.divInt n d) := by
  have c := com_ne (n := n) hd
  have cd : ∀ k : Int, (k.fdiv (com n d)).natAbs ≤ k.natAbs ∨ ¬ com n d ∣ k := fun k => by
    by_cases hk : com n d ∣ k
    · refine .inl ?_
      rw [Int.fdiv_eq_ediv_of_dvd hk, Int.natAbs_ediv_of_dvd hk]
      exact Nat.div_le_self ..
    · exact .inr hk
  refine ⟨?_, ?_⟩
  · rw [← cut_num hd]
    rcases cd n with h | h
    · exact Nat.lt_of_le_of_lt h h1
    · exact absurd (com_dvd_left n d) h
  · have e := cut_den (n := n) hd
    rcases cd d with h | h
    · rw [e] at h
      exact Nat.lt_of_le_of_lt (by simpa using h) h2
    · exact absurd (com_dvd_right n d) h
theorem Sz.mul {p q : Rat} {b b' : Nat} (h1 : Sz b p) (h2 : Sz b' q) : Sz (b + b') (p * q) := by
  rw [← rat_mul]
  exact Sz.of (h1.num.mul h2.num) (h1.den.mul h2.den) (Int.mul_ne_zero (Rat.den_ne' p) (Rat.den_ne' q))
theorem Sz.add {p q : Rat} {b b' : Nat} (h1 : Sz b p) (h2 : Sz b' q) : Sz (b + b' + 1) (p + q) := by
  rw [← rat_add]
  exact Sz.of (((h1.num.mul h2.den).add (h2.num.mul h1.den)).mono (by omega)) ((h1.den.mul h2.den).mono (by omega)) (Int.mul_ne_zero (Rat.den_ne' p) (Rat.den_ne' q))
theorem Sz.neg {p : Rat} {b : Nat} (h1 : Sz b p) : Sz b (-p) := by
  unfold Sz
  rw [Rat.neg_num, Rat.neg_den, Int.natAbs_neg]
  exact h1
theorem Sz.sub {p q : Rat} {b b' : Nat} (h1 : Sz b p) (h2 : Sz b' q) : Sz (b + b' + 1) (p - q) := by
  rw [Rat.sub_eq_add_neg]
  exact h1.add h2.neg
theorem Sz.int {i : Int} {b : Nat} (h : Nb b i) (hb : 0 < b) : Sz b (i : Rat) := ⟨by simpa [Nb] using h, by
  rw [Rat.den_intCast]
  exact Nat.one_lt_two_pow (Nat.ne_of_gt hb)⟩
end Gm
namespace Gm
open PySem PySem.Spec PyProof.Rows L2
/-! ### instances: made, read, written -/
theorem at_end (st : Store) (x : Cell) : (st ++ [x])[st.length]? = some x := by simp
theorem set_end (st : Store) (x y : Cell) : (st ++ [x]).set st.length y = st ++ [y] := by
  rw [List.set_append_right _ _ (Nat.le_refl _)]
  simp
theorem mkD_new {T : Ls} {c : Fn} {i f : Nat} {ds : List D} {st : Store} {fs : List (Nat × D)} (hm : T.meth i 37 = some f) (hc : callD T c f (.ref st.length :: ds) (st ++ [.ins i []]) = .ok .non (st ++ [.ins i fs])) (hl : fs.map (·.1) = T.lay i)
    (hr : noRefs st.length (fs.map (·.2)) = true) : mkD T c i ds st = .ok (.obj i (fs.map (·.2))) st := by
  unfold mkD
  simp only [hm]
  unfold makeR
  rw [hc]
  unfold made
  simp only [at_end]
  rw [if_pos ⟨trivial, hl⟩, set_end]
  exact tidy_same (by rw [noRef_obj]; exact hr)
theorem fnD_init {n : Nat} {b : Fs} {ds : List D} {st : Store} {i : Nat} {fs : List (Nat × D)} {ρ : Ev} (h : b (startE n ds) (st ++ [.ins i []]) = .nx ρ (st ++ [.ins i fs])) (hr : noRefs (st.length + 1) (fs.map (·.2)) = true) :
    fnD n b ds (st ++ [.ins i []]) = .ok .non (st ++ [.ins i fs]) := by
  rw [fnD_nx h, ← set_end st (.ins i []) (.ins i fs)]
  refine tidy_set0 ?_ (by simp)
  rw [List.length_append]
  exact hr
theorem fk_new {T : Ls} {i g : Nat} {fs : List (Nat × D)} (d : D) (ρ : Ev) (st : Store) (h : (T.isC i && (T.atn i).contains g && decide (fs.length < 1000) && (fs.map (·.1)).all fun g => (T.atn i).contains g) = true) :
    fldK T g d ρ (.ref st.length) (st ++ [.ins i fs]) = .nx ρ (st ++ [.ins i (putC g d fs)]) := by
  simp only [Bool.and_eq_true, decide_eq_true_eq, List.all_eq_true, List.contains_iff_mem] at h
  obtain ⟨⟨⟨h1, h2⟩, h3⟩, h4⟩ := h
  unfold fldK setD
  simp only [at_end]
  rw [if_pos ⟨h1, h2, h3, fun p hp => h4 _ (List.mem_map_of_mem hp)⟩, set_end]
theorem fld_new {T : Ls} {c : Fn} {i g : Nat} {fs : List (Nat × D)} {d : D} (st : Store) (h : (T.isC i && (T.atn i).contains g && (fs.map (·.1)).all fun g => (T.atn i).contains g) = true) (hd : lookF g fs = some d) :
    fldD T c g (.ref st.length) (st ++ [.ins i fs]) = .ok d (st ++ [.ins i fs]) := by
  simp only [Bool.and_eq_true, List.all_eq_true, List.contains_iff_mem] at h
  obtain ⟨⟨h1, h2⟩, h4⟩ := h
  unfold fldD
  simp only [at_end]
  rw [if_pos ⟨h1, h2, fun p hp => h4 _ (List.mem_map_of_mem hp)⟩, hd]
theorem fld_obj {T : Ls} {c : Fn} {i g : Nat} {ds : List D} {d : D} (st : Store) (h : (T.isC i && (T.atn i).contains g) = true) (hd : lookF g ((T.lay i).zip ds) = some d) : fldD T c g (.obj i ds) st = .ok d st := by
  simp only [Bool.and_eq_true, List.contains_iff_mem] at h
  unfold fldD
  dsimp only
  rw [if_pos h, hd]
/-! ### operators of own classes -/
theorem bin_own {T : Ls} {c : Fn} {op : Operator} {i f : Nat} {ds es : List D} (st : Store) (hm : T.meth i (opn op) = some f) (ho : opn op ≠ 0) : binD T c op (.obj i ds) (.obj i es) st = callD T c f [.obj i ds, .obj i es] st := by
  unfold binD
  simp only [hm]
  exact if_pos ⟨ho, .inl trivial⟩
theorem bin_oi {T : Ls} {c : Fn} {op : Operator} {i f : Nat} {ds : List D} {j : Int} (st : Store) (hm : T.meth i (opn op) = some f) (ho : opn op ≠ 0) : binD T c op (.obj i ds) (.int j) st = callD T c f [.obj i ds, .int j] st := by
  unfold binD
  simp only [hm]
  exact if_pos ho
theorem bin_io {T : Ls} {c : Fn} {op : Operator} {i f g : Nat} {ds : List D} {j : Int} (st : Store) (hm : T.meth i (opr op) = some f) (hn : T.meth i (opn op) = some g) (ho : intLeft op = true) : binD T c op (.int j) (.obj i ds) st = callD T c f [.obj i ds, .int j] st := by
  unfold binD
  simp only [hm]
  exact if_pos ⟨ho, by rw [hn]; rfl⟩
theorem neg_own {T : Ls} {c : Fn} {i f : Nat} {ds : List D} (st : Store) (hm : T.meth i 31 = some f) : negD T c (.obj i ds) st = callD T c f [.obj i ds] st := by
  unfold negD
  simp only [hm]
theorem inv_own {T : Ls} {c : Fn} {i f : Nat} {ds : List D} (st : Store) (hm : T.meth i 32 = some f) : invD T c (.obj i ds) st = callD T c f [.obj i ds] st := by
  unfold invD
  simp only [hm]
theorem eqB_own {T : Ls} {c : Fn} {neg : Bool} {i f : Nat} {ds : List D} {d2 : D} {b : Bool} (st : Store) (hm : T.meth i 21 = some f) (hr : rhs T d2 = true) (hc : callD T c f [.obj i ds, d2] st = .ok (.bl b) st) : eqB T c neg (.obj i ds) d2 st = .ok (.bl (b != neg)) st := by
  unfold eqB eqD
  simp only [hm, hr, hc]
  rfl
theorem tru_own {T : Ls} {c : Fn} {i f : Nat} {ds : List D} {b : Bool} (st : Store) (hm : T.meth i 34 = some f) (hc : callD T c f [.obj i ds] st = .ok (.bl b) st) : truD T c (.obj i ds) st = .ok b st := by
  unfold truD
  simp only [hm, hc]
  rfl
end Gm
namespace Gm
open PySem PySem.Spec PyProof.Rows L2
/-! ### list comprehensions in spec proofs -/
theorem fnD_rtg {n : Nat} {b : Fs} {ds : List D} {st e : Store} {d : D} (h : b (startE n ds) st = .rt d (st ++ e)) (hd : noRef st.length d = true) : fnD n b ds st = .ok d st := by
  rw [fnD_rt h]
  exact tidy_same hd
inductive All2 (R : D → D → Prop) : List D → List D → Prop where
  | nil : All2 R [] []
  | cons {a b : D} {as bs : List D} : R a b → All2 R as bs → All2 R (a :: as) (b :: bs)
theorem mid_get (B e : Store) (x : Cell) : (B ++ x :: e)[B.length]? = some x := by simp
theorem mid_set (B e : Store) (x y : Cell) : (B ++ x :: e).set B.length y = B ++ y :: e := by
  rw [List.set_append_right _ _ (Nat.le_refl _)]
  simp
theorem lcI_gen {f : Fe} {i N : Nat} {ρ : Ev} {chk : Store → Prop} {R : D → D → Prop} {I : Nat → Store → Prop} (hN : ∀ k B, I k B → B.length = N) (hc : ∀ k B acc e, I k B → chk (B ++ .lst acc :: e)) :
    ∀ ds : List D, (∀ d ∈ ds, ∀ k B acc e, I (k + 1) B → ∃ B' y e', I k B' ∧ R d y ∧ f (ρ.set i (some d)) (B ++ .lst acc :: e) = .ok y (B' ++ .lst acc :: e')) →
      ∀ B acc e, I ds.length B → acc.length + ds.length ≤ sizeLine → ∃ B' ys e', I 0 B' ∧ All2 R ds ys ∧ lcI chk (gNm i) tTrue f N ds ρ (B ++ .lst acc :: e) = .ok (.ref N) (B' ++ .lst (acc ++ ys) :: e') := by
  intro ds
  induction ds with
  | nil =>
    intro hf B acc e hI hl
    refine ⟨B, [], e, hI, .nil, ?_⟩
    unfold lcI
    rw [if_pos (hc _ _ _ _ hI), List.append_nil]
  | cons d ds ih =>
    intro hf B acc e hI hl
    rw [List.length_cons] at hI hl
    obtain ⟨B', y, e', hI', hR, h⟩ := hf d (by simp) ds.length B acc e hI
    obtain ⟨B2, ys, e2, hI2, hR2, h2⟩ := ih (fun d hd => hf d (List.mem_cons_of_mem _ hd)) B' (acc ++ [y]) e' hI' (by rw [List.length_append, List.length_singleton]; omega)
    refine ⟨B2, y :: ys, e2, hI2, .cons hR hR2, ?_⟩
    unfold lcI
    rw [if_pos (hc _ _ _ _ hI)]
    simp only [ap_gNm, ap_tTrue, h]
    have hn : N = B'.length := (hN _ _ hI').symm
    rw [hn, mid_get]
    simp only []
    rw [if_pos (by omega), mid_set, ← hn, h2, List.append_assoc]
    rfl
/-- nothing of the store is changed -/
theorem lc_pg {fi : Fi} {f : Fe} {i : Nat} {vs : List Nat} {ρ : Ev} {st : Store} {ds : List D} {chk : Store → Prop} {F : D → D} (hi : fi ρ st = .ok (ds, chk) st) (hc : ∀ e, chk (st ++ e))
    (hf : ∀ d ∈ ds, ∀ e, ∃ e', f ((wipeE ρ vs).set i (some d)) (st ++ e) = .ok (F d) (st ++ e ++ e')) (hl : ds.length ≤ sizeLine) : ∃ e, xLc fi (gNm i) tTrue f vs ρ st = .ok (.ref st.length) (st ++ .lst (ds.map F) :: e) := by
  unfold xLc
  rw [hi, Res.bind_ok]
  obtain ⟨B, ys, e, hB, hR, h⟩ := lcI_gen (f := f) (i := i) (N := st.length) (ρ := wipeE ρ vs) (chk := chk) (R := fun d y => y = F d) (I := fun _ B => B = st) (fun _ _ h => by rw [h]) (fun _ _ acc e h => by rw [h]; exact hc _) ds
    (fun d hd k B acc e hB => by
      subst hB
      obtain ⟨e', he⟩ := hf d hd (.lst acc :: e)
      refine ⟨_, F d, e ++ e', rfl, rfl, ?_⟩
      rw [he, List.append_assoc]
      rfl) st [] [] rfl (by simpa using hl)
  have hy : ∀ {ds ys : List D}, All2 (fun d y => y = F d) ds ys → ys = ds.map F := by
    intro ds ys h
    induction h with
    | nil => rfl
    | cons h _ ih => rw [h, ih]; rfl
  refine ⟨e, ?_⟩
  dsimp only
  rw [h, hB, hy hR]
  rfl
theorem tup_lc {fi : Fi} {f : Fe} {i : Nat} {vs : List Nat} {ρ : Ev} {st : Store} {ds : List D} {chk : Store → Prop} {F : D → D} (hi : fi ρ st = .ok (ds, chk) st) (hc : ∀ e, chk (st ++ e))
    (hf : ∀ d ∈ ds, ∀ e, ∃ e', f ((wipeE ρ vs).set i (some d)) (st ++ e) = .ok (F d) (st ++ e ++ e')) (hl : ds.length ≤ sizeLine) : ∃ e, xBi bTuple (aCons (xLc fi (gNm i) tTrue f vs) aNil) ρ st = .ok (.tup (ds.map F)) (st ++ e) := by
  obtain ⟨e, h⟩ := lc_pg hi hc hf hl
  refine ⟨.lst (ds.map F) :: e, ?_⟩
  simp only [ap_xBi, ap_aCons, h, Res.bind_ok, kC1_, ap_aNil, kC2_]
  unfold bTuple seqOf
  simp
theorem iSeq_tup {f : Fe} {ρ : Ev} {st : Store} {ds : List D} (h : f ρ st = .ok (.tup ds) st) : iSeq f ρ st = .ok (ds, fun _ => True) st := by
  unfold iSeq
  rw [h]
  rfl
theorem iSeq_lst {f : Fe} {ρ : Ev} {st : Store} {ds : List D} {n : Nat} (h : f ρ st = .ok (.ref n) st) (hn : st[n]? = some (.lst ds)) : iSeq f ρ st = .ok (ds, fun st => st[n]? = some (.lst ds)) st := by
  unfold iSeq
  rw [h, Res.bind_ok]
  dsimp only
  rw [hn]
theorem get_ext {st e : Store} {n : Nat} {x : Cell} (h : st[n]? = some x) : (st ++ e)[n]? = some x := by
  have hl : n < st.length := (List.getElem?_eq_some_iff.mp h).1
  rw [List.getElem?_append_left hl, h]
end Gm
namespace Gm
open PySem PySem.Spec PyProof.Rows L2
/-! ### lists that grow, counted loops -/
def kAp2 (o d : D) (st : Store) : Res D := appD o d st
def kAp1 (fd : Fe) (ρ : Ev) (o : D) (st : Store) : Res D := match o with
  | .ref n => match st[n]? with
    | some (.lst _) => (fd ρ st).bind (kAp2 o)
    | _ => .stuck
  | _ => .stuck
@[simp] theorem ap_xApp (fo fd : Fe) (ρ : Ev) (st : Store) : xApp fo fd ρ st = (fo ρ st).bind (kAp1 fd ρ) := rfl
theorem kAp1_ {fd : Fe} {ρ : Ev} {n : Nat} {st : Store} {l : List D} (h : st[n]? = some (.lst l)) : kAp1 fd ρ (.ref n) st = (fd ρ st).bind (kAp2 (.ref n)) := by
  unfold kAp1
  simp only [h]
theorem kAp2_ {d : D} {n : Nat} {st : Store} {l : List D} (h : st[n]? = some (.lst l)) (hl : l.length < 100) : kAp2 (.ref n) d st = .ok .non (st.set n (.lst (l ++ [d]))) := by
  unfold kAp2 appD
  simp only [h]
  exact if_pos (Nat.lt_of_lt_of_le hl (by decide))
theorem get_0 (st e : Store) (x : Cell) : (st ++ x :: e)[st.length]? = some x := by simp
theorem get_1 (st e : Store) (x y : Cell) : (st ++ x :: y :: e)[st.length + 1]? = some y := by simp
theorem get_2 (st e : Store) (x y z : Cell) : (st ++ x :: y :: z :: e)[st.length + 2]? = some z := by simp
theorem set_0 (st e : Store) (x c : Cell) : (st ++ x :: e).set st.length c = st ++ c :: e := mid_set st e x c
theorem set_1 (st e : Store) (x y c : Cell) : (st ++ x :: y :: e).set (st.length + 1) c = st ++ x :: c :: e := by
  rw [List.set_append_right _ _ (by omega)]
  simp
theorem set_2 (st e : Store) (x y z c : Cell) : (st ++ x :: y :: z :: e).set (st.length + 2) c = st ++ x :: y :: c :: e := by
  rw [List.set_append_right _ _ (by omega)]
  simp
@[simp] theorem k1_0 (fd : Fe) (ρ : Ev) (st e : Store) (l : List D) : kAp1 fd ρ (.ref st.length) (st ++ .lst l :: e) = (fd ρ (st ++ .lst l :: e)).bind (kAp2 (.ref st.length)) := kAp1_ (get_0 ..)
@[simp] theorem k1_1 (fd : Fe) (ρ : Ev) (st e : Store) (x : Cell) (l : List D) : kAp1 fd ρ (.ref (st.length + 1)) (st ++ x :: .lst l :: e) = (fd ρ (st ++ x :: .lst l :: e)).bind (kAp2 (.ref (st.length + 1))) := kAp1_ (get_1 ..)
@[simp] theorem k1_2 (fd : Fe) (ρ : Ev) (st e : Store) (x y : Cell) (l : List D) : kAp1 fd ρ (.ref (st.length + 2)) (st ++ x :: y :: .lst l :: e) = (fd ρ (st ++ x :: y :: .lst l :: e)).bind (kAp2 (.ref (st.length + 2))) := kAp1_ (get_2 ..)
@[simp] theorem k2_0 (d : D) (st e : Store) (l : List D) (h : l.length < 100) : kAp2 (.ref st.length) d (st ++ .lst l :: e) = .ok .non (st ++ .lst (l ++ [d]) :: e) := by
  rw [kAp2_ (get_0 ..) h, set_0]
@[simp] theorem k2_1 (d : D) (st e : Store) (x : Cell) (l : List D) (h : l.length < 100) : kAp2 (.ref (st.length + 1)) d (st ++ x :: .lst l :: e) = .ok .non (st ++ x :: .lst (l ++ [d]) :: e) := by
  rw [kAp2_ (get_1 ..) h, set_1]
@[simp] theorem k2_2 (d : D) (st e : Store) (x y : Cell) (l : List D) (h : l.length < 100) : kAp2 (.ref (st.length + 2)) d (st ++ x :: y :: .lst l :: e) = .ok .non (st ++ x :: y :: .lst (l ++ [d]) :: e) := by
  rw [kAp2_ (get_2 ..) h, set_2]
theorem subR {n : Nat} {st : Store} {l : List D} {i : Int} (h : st[n]? = some (.lst l)) : subD (.ref n) (.int i) st = optR (atI l i) st := by
  unfold subD
  simp only [h]
@[simp] theorem sb_0 (i : Int) (st e : Store) (l : List D) : subD (.ref st.length) (.int i) (st ++ .lst l :: e) = optR (atI l i) (st ++ .lst l :: e) := subR (get_0 ..)
@[simp] theorem sb_1 (i : Int) (st e : Store) (x : Cell) (l : List D) : subD (.ref (st.length + 1)) (.int i) (st ++ x :: .lst l :: e) = optR (atI l i) (st ++ x :: .lst l :: e) := subR (get_1 ..)
theorem tupR {n : Nat} {st : Store} {l : List D} (h : st[n]? = some (.lst l)) : bTuple [.ref n] st = .ok (.tup l) st := by
  unfold bTuple seqOf
  simp only [h]
@[simp] theorem tp_0 (st e : Store) (l : List D) : bTuple [.ref st.length] (st ++ .lst l :: e) = .ok (.tup l) (st ++ .lst l :: e) := tupR (get_0 ..)
@[simp] theorem tp_1 (st e : Store) (x : Cell) (l : List D) : bTuple [.ref (st.length + 1)] (st ++ x :: .lst l :: e) = .ok (.tup l) (st ++ x :: .lst l :: e) := tupR (get_1 ..)
@[simp] theorem tp_2 (st e : Store) (x y : Cell) (l : List D) : bTuple [.ref (st.length + 2)] (st ++ x :: y :: .lst l :: e) = .ok (.tup l) (st ++ x :: y :: .lst l :: e) := tupR (get_2 ..)
@[simp] theorem tp_tup (st : Store) (l : List D) : bTuple [.tup l] st = .ok (.tup l) st := rfl
@[simp] theorem nl_ (l : List D) (st : Store) : newLst l st = .ok (.ref st.length) (st ++ [.lst l]) := rfl
theorem rng2 (ρ : Ev) (st : Store) : iRng (aCons (xK (.int 2)) aNil) ρ st = .ok ([.int 0, .int 1], fun _ => True) st := rfl
theorem rng9 (ρ : Ev) (st : Store) : iRng (aCons (xK (.int 9)) aNil) ρ st = .ok ([.int 0, .int 1, .int 2, .int 3, .int 4, .int 5, .int 6, .int 7, .int 8], fun _ => True) st := rfl
end Gm
namespace Gm
open PySem PySem.Spec PyProof.Rows L2
theorem lc2 {f h : Fe} {i : Nat} {vs : List Nat} {ρ : Ev} {st : Store} {d1 d2 y1 y2 : D} (hf : f ρ st = .ok (.tup [d1, d2]) st) (h1 : ∀ st, h ((wipeE ρ vs).set i (some d1)) st = .ok y1 st) (h2 : ∀ st, h ((wipeE ρ vs).set i (some d2)) st = .ok y2 st) :
    xLc (iSeq f) (gNm i) tTrue h vs ρ st = .ok (.ref st.length) (st ++ [.lst [y1, y2]]) := by
  unfold xLc
  rw [iSeq_tup hf, Res.bind_ok]
  simp only []
  unfold lcI
  rw [if_pos trivial]
  simp only [ap_gNm, ap_tTrue, h1, at_end]
  rw [if_pos (by decide), set_end]
  unfold lcI
  rw [if_pos trivial]
  simp only [ap_gNm, ap_tTrue, h2, at_end]
  rw [if_pos (show ([] ++ [y1] : List D).length < sizeLine from (by decide : 1 < sizeLine)), set_end]
  unfold lcI
  rw [if_pos trivial]
  rfl
theorem rng_lc2 {h : Fe} {i : Nat} {vs : List Nat} {ρ : Ev} {st : Store} {y1 y2 : D} (h1 : ∀ st, h ((wipeE ρ vs).set i (some (.int 0))) st = .ok y1 st) (h2 : ∀ st, h ((wipeE ρ vs).set i (some (.int 1))) st = .ok y2 st) :
    xLc (iRng (aCons (xK (.int 2)) aNil)) (gNm i) tTrue h vs ρ st = .ok (.ref st.length) (st ++ [.lst [y1, y2]]) := by
  unfold xLc
  rw [rng2, Res.bind_ok]
  simp only []
  unfold lcI
  rw [if_pos trivial]
  simp only [ap_gNm, ap_tTrue, h1, at_end]
  rw [if_pos (by decide), set_end]
  unfold lcI
  rw [if_pos trivial]
  simp only [ap_gNm, ap_tTrue, h2, at_end]
  rw [if_pos (show ([] ++ [y1] : List D).length < sizeLine from (by decide : 1 < sizeLine)), set_end]
  unfold lcI
  rw [if_pos trivial]
  rfl
end Gm
namespace Gm
open PySem PySem.Spec PyProof.Rows L2
/-- a list of two, with changes of the store in between -/
theorem lc2d {f h : Fe} {i : Nat} {vs : List Nat} {ρ : Ev} {st s1 s2 e1 e2 : Store} {d1 d2 y1 y2 : D} (hf : f ρ st = .ok (.tup [d1, d2]) st)
    (h1 : h ((wipeE ρ vs).set i (some d1)) (st ++ [.lst []]) = .ok y1 (s1 ++ Cell.lst [] :: e1)) (l1 : s1.length = st.length)
    (h2 : h ((wipeE ρ vs).set i (some d2)) (s1 ++ Cell.lst [y1] :: e1) = .ok y2 (s2 ++ Cell.lst [y1] :: e2)) (l2 : s2.length = st.length) :
    xLc (iSeq f) (gNm i) tTrue h vs ρ st = .ok (.ref st.length) (s2 ++ Cell.lst [y1, y2] :: e2) := by
  have g1 : (s1 ++ Cell.lst [] :: e1)[st.length]? = some (Cell.lst []) := by rw [← l1]; exact mid_get s1 e1 _
  have g2 : (s2 ++ Cell.lst [y1] :: e2)[st.length]? = some (Cell.lst [y1]) := by rw [← l2]; exact mid_get s2 e2 _
  have t1 : (s1 ++ Cell.lst [] :: e1).set st.length (.lst ([] ++ [y1])) = s1 ++ Cell.lst [y1] :: e1 := by rw [← l1]; exact mid_set s1 e1 _ _
  have t2 : (s2 ++ Cell.lst [y1] :: e2).set st.length (.lst ([y1] ++ [y2])) = s2 ++ Cell.lst [y1, y2] :: e2 := by rw [← l2]; exact mid_set s2 e2 _ _
  unfold xLc
  rw [iSeq_tup hf, Res.bind_ok]
  simp only []
  unfold lcI
  rw [if_pos trivial]
  simp only [ap_gNm, ap_tTrue, h1, g1]
  rw [if_pos (by decide), t1]
  unfold lcI
  rw [if_pos trivial]
  simp only [ap_gNm, ap_tTrue, h2, g2]
  rw [if_pos (show ([y1] : List D).length < sizeLine from (by decide : 1 < sizeLine)), t2]
  unfold lcI
  rw [if_pos trivial]
end Gm
/-! printed by gen.py from the law's text -/
namespace G39
open PySem PySem.Spec PyProof.Rows L2 Gm
def top (i : Nat) : Stmt := PySem.Challenge.pw_overfloors_k39_whole_motions_and_grounds.main.body.getD i (.Pass ⟨0, 0, 0, 0⟩)
abbrev s_0 : Stmt := top 8
abbrev s_1 : Stmt := top 9
abbrev s_2 : Stmt := top 10
abbrev s_3 : Stmt := top 12
abbrev s_4 : Stmt := top 16
abbrev s_5 : Stmt := top 20
abbrev s_6 : Stmt := top 21
abbrev s_7 : Stmt := top 22
abbrev s_8 : Stmt := top 23
abbrev s_9 : Stmt := top 25
abbrev s_10 : Stmt := top 26
abbrev s_11 : Stmt := top 30
abbrev s_12 : Stmt := top 31
abbrev s_13 : Stmt := top 32
abbrev s_14 : Stmt := top 33
abbrev s_15 : Stmt := top 34
abbrev s_16 : Stmt := top 35
abbrev s_17 : Stmt := top 36
abbrev s_18 : Stmt := top 37
abbrev s_19 : Stmt := top 38
abbrev s_20 : Stmt := top 39
abbrev s_21 : Stmt := top 40
abbrev s_22 : Stmt := top 41
abbrev s_23 : Stmt := top 42
abbrev s_24 : Stmt := top 43
abbrev s_25 : Stmt := top 44
abbrev s_26 : Stmt := top 45
abbrev s_27 : Stmt := top 46
abbrev s_28 : Stmt := top 47
abbrev s_29 : Stmt := top 48
abbrev s_30 : Stmt := top 49
abbrev s_31 : Stmt := top 50
abbrev s_32 : Stmt := top 51
abbrev s_33 : Stmt := top 52
abbrev s_34 : Stmt := top 53
abbrev s_35 : Stmt := top 54
abbrev s_36 : Stmt := top 55
abbrev s_37 : Stmt := top 56
abbrev s_38 : Stmt := top 57
abbrev s_39 : Stmt := top 58
abbrev s_40 : Stmt := inClass (top 11) 0
abbrev s_41 : Stmt := inClass (top 11) 1
abbrev s_42 : Stmt := inClass (top 11) 2
abbrev s_43 : Stmt := inClass (top 11) 3
abbrev s_44 : Stmt := inClass (top 11) 4
abbrev s_45 : Stmt := inClass (top 11) 5
abbrev s_46 : Stmt := inClass (top 11) 6
abbrev s_47 : Stmt := inClass (top 11) 7
abbrev s_48 : Stmt := inClass (top 11) 8
abbrev s_49 : Stmt := inClass (top 11) 9
abbrev s_50 : Stmt := inClass (top 11) 10
abbrev s_51 : Stmt := inClass (top 11) 11
abbrev s_52 : Stmt := inClass (top 11) 12
abbrev s_53 : Stmt := inClass (top 11) 13
abbrev s_54 : Stmt := inClass (top 11) 14
abbrev s_55 : Stmt := inClass (top 11) 15
abbrev s_56 : Stmt := inClass (top 11) 16
abbrev s_57 : Stmt := inClass (top 11) 17
abbrev s_58 : Stmt := inClass (top 11) 18
abbrev s_59 : Stmt := inClass (top 11) 19
abbrev s_60 : Stmt := inClass (top 11) 21
abbrev s_61 : Stmt := inClass (top 11) 22
abbrev s_62 : Stmt := inClass (top 14) 0
abbrev s_63 : Stmt := inClass (top 14) 1
abbrev s_64 : Stmt := inClass (top 14) 2
abbrev s_65 : Stmt := inClass (top 14) 3
abbrev s_66 : Stmt := inClass (top 14) 4
abbrev s_67 : Stmt := inClass (top 14) 5
abbrev s_68 : Stmt := inClass (top 14) 6
abbrev s_69 : Stmt := inClass (top 14) 7
abbrev s_70 : Stmt := inClass (top 24) 0
abbrev s_71 : Stmt := inClass (top 24) 1
abbrev s_72 : Stmt := inClass (top 24) 2
abbrev s_73 : Stmt := inClass (top 24) 3
abbrev s_74 : Stmt := inClass (top 24) 4
abbrev s_75 : Stmt := inClass (top 24) 5
abbrev s_76 : Stmt := inClass (top 24) 6
abbrev s_77 : Stmt := inClass (top 24) 8
abbrev s_78 : Stmt := inClass (top 24) 9
abbrev s_79 : Stmt := inClass (top 24) 10
abbrev s_80 : Stmt := inClass (top 24) 11
abbrev s_81 : Stmt := inClass (top 28) 0
abbrev s_82 : Stmt := inClass (top 28) 1
abbrev s_83 : Stmt := inClass (top 28) 2
abbrev s_84 : Stmt := inClass (top 28) 3
/-- is_number -/
def d_0 : He.DefD := ⟨("is_number", none), "is_number", "is_number", defArgs s_0, defBody s_0, defScope s_0, [], []⟩
/-- gcd_of -/
def d_1 : He.DefD := ⟨("gcd_of", none), "gcd_of", "gcd_of", defArgs s_1, defBody s_1, defScope s_1, [], []⟩
/-- raised -/
def d_2 : He.DefD := ⟨("raised", none), "raised", "raised", defArgs s_2, defBody s_2, defScope s_2, [], []⟩
/-- ratio_of -/
def d_3 : He.DefD := ⟨("ratio_of", none), "ratio_of", "ratio_of", defArgs s_3, defBody s_3, defScope s_3, [], []⟩
/-- is_integer -/
def d_4 : He.DefD := ⟨("is_integer", none), "is_integer", "is_integer", defArgs s_4, defBody s_4, defScope s_4, [], []⟩
/-- table_of -/
def d_5 : He.DefD := ⟨("table_of", none), "table_of", "table_of", defArgs s_5, defBody s_5, defScope s_5, [], []⟩
/-- factor_of -/
def d_6 : He.DefD := ⟨("factor_of", none), "factor_of", "factor_of", defArgs s_6, defBody s_6, defScope s_6, [], []⟩
/-- table_product -/
def d_7 : He.DefD := ⟨("table_product", none), "table_product", "table_product", defArgs s_7, defBody s_7, defScope s_7, [], []⟩
/-- led -/
def d_8 : He.DefD := ⟨("led", none), "led", "led", defArgs s_8, defBody s_8, defScope s_8, [], []⟩
/-- rest -/
def d_9 : He.DefD := ⟨("rest", none), "rest", "rest", defArgs s_9, defBody s_9, defScope s_9, [], []⟩
/-- shifting -/
def d_10 : He.DefD := ⟨("shifting", none), "shifting", "shifting", defArgs s_10, defBody s_10, defScope s_10, [], []⟩
/-- _law_pen -/
def d_11 : He.DefD := ⟨("_law_pen", none), "_law_pen", "_law_pen", defArgs s_11, defBody s_11, defScope s_11, [], []⟩
/-- _law_draw -/
def d_12 : He.DefD := ⟨("_law_draw", none), "_law_draw", "_law_draw", defArgs s_12, defBody s_12, defScope s_12, [], []⟩
/-- _law_pick -/
def d_13 : He.DefD := ⟨("_law_pick", none), "_law_pick", "_law_pick", defArgs s_13, defBody s_13, defScope s_13, [], []⟩
/-- _law_great -/
def d_14 : He.DefD := ⟨("_law_great", none), "_law_great", "_law_great", defArgs s_14, defBody s_14, defScope s_14, [], []⟩
/-- _law_gcd -/
def d_15 : He.DefD := ⟨("_law_gcd", none), "_law_gcd", "_law_gcd", defArgs s_15, defBody s_15, defScope s_15, [], []⟩
/-- _law_cut -/
def d_16 : He.DefD := ⟨("_law_cut", none), "_law_cut", "_law_cut", defArgs s_16, defBody s_16, defScope s_16, [], []⟩
/-- _law_sum -/
def d_17 : He.DefD := ⟨("_law_sum", none), "_law_sum", "_law_sum", defArgs s_17, defBody s_17, defScope s_17, [], []⟩
/-- _law_times -/
def d_18 : He.DefD := ⟨("_law_times", none), "_law_times", "_law_times", defArgs s_18, defBody s_18, defScope s_18, [], []⟩
/-- _law_fraction -/
def d_19 : He.DefD := ⟨("_law_fraction", none), "_law_fraction", "_law_fraction", defArgs s_19, defBody s_19, defScope s_19, [], []⟩
/-- _law_told -/
def d_20 : He.DefD := ⟨("_law_told", none), "_law_told", "_law_told", defArgs s_20, defBody s_20, defScope s_20, [], []⟩
/-- _law_given -/
def d_21 : He.DefD := ⟨("_law_given", none), "_law_given", "_law_given", defArgs s_21, defBody s_21, defScope s_21, [], []⟩
/-- _law_point -/
def d_22 : He.DefD := ⟨("_law_point", none), "_law_point", "_law_point", defArgs s_22, defBody s_22, defScope s_22, [], []⟩
/-- _law_spot -/
def d_23 : He.DefD := ⟨("_law_spot", none), "_law_spot", "_law_spot", defArgs s_23, defBody s_23, defScope s_23, [], []⟩
/-- _law_table -/
def d_24 : He.DefD := ⟨("_law_table", none), "_law_table", "_law_table", defArgs s_24, defBody s_24, defScope s_24, [], []⟩
/-- _law_factor -/
def d_25 : He.DefD := ⟨("_law_factor", none), "_law_factor", "_law_factor", defArgs s_25, defBody s_25, defScope s_25, [], []⟩
/-- _law_led -/
def d_26 : He.DefD := ⟨("_law_led", none), "_law_led", "_law_led", defArgs s_26, defBody s_26, defScope s_26, [], []⟩
/-- _law_motion -/
def d_27 : He.DefD := ⟨("_law_motion", none), "_law_motion", "_law_motion", defArgs s_27, defBody s_27, defScope s_27, [], []⟩
/-- _law_ground -/
def d_28 : He.DefD := ⟨("_law_ground", none), "_law_ground", "_law_ground", defArgs s_28, defBody s_28, defScope s_28, [], []⟩
/-- _law_measure -/
def d_29 : He.DefD := ⟨("_law_measure", none), "_law_measure", "_law_measure", defArgs s_29, defBody s_29, defScope s_29, [], []⟩
/-- _law_mirror_rows -/
def d_30 : He.DefD := ⟨("_law_mirror_rows", none), "_law_mirror_rows", "_law_mirror_rows", defArgs s_30, defBody s_30, defScope s_30, [], []⟩
/-- _law_product -/
def d_31 : He.DefD := ⟨("_law_product", none), "_law_product", "_law_product", defArgs s_31, defBody s_31, defScope s_31, [], []⟩
/-- _law_way -/
def d_32 : He.DefD := ⟨("_law_way", none), "_law_way", "_law_way", defArgs s_32, defBody s_32, defScope s_32, [], []⟩
/-- _law_length -/
def d_33 : He.DefD := ⟨("_law_length", none), "_law_length", "_law_length", defArgs s_33, defBody s_33, defScope s_33, [], []⟩
/-- _law_drawn -/
def d_34 : He.DefD := ⟨("_law_drawn", none), "_law_drawn", "_law_drawn", defArgs s_34, defBody s_34, defScope s_34, [], []⟩
/-- _law_undone -/
def d_35 : He.DefD := ⟨("_law_undone", none), "_law_undone", "_law_undone", defArgs s_35, defBody s_35, defScope s_35, [], []⟩
/-- _law_due_stretch -/
def d_36 : He.DefD := ⟨("_law_due_stretch", none), "_law_due_stretch", "_law_due_stretch", defArgs s_36, defBody s_36, defScope s_36, [], []⟩
/-- _law_due_kind -/
def d_37 : He.DefD := ⟨("_law_due_kind", none), "_law_due_kind", "_law_due_kind", defArgs s_37, defBody s_37, defScope s_37, [], []⟩
/-- _law_is_right -/
def d_38 : He.DefD := ⟨("_law_is_right", none), "_law_is_right", "_law_is_right", defArgs s_38, defBody s_38, defScope s_38, [], []⟩
/-- law -/
def d_39 : He.DefD := ⟨("law", none), "law", "law", defArgs s_39, defBody s_39, defScope s_39, [], []⟩
/-- Ratio.__init__ -/
def d_40 : He.DefD := ⟨("Ratio", some "__init__"), "__init__", "Ratio.__init__", defArgs s_40, defBody s_40, defScope s_40, [.int 1], []⟩
/-- Ratio.__eq__ -/
def d_41 : He.DefD := ⟨("Ratio", some "__eq__"), "__eq__", "Ratio.__eq__", defArgs s_41, defBody s_41, defScope s_41, [], []⟩
/-- Ratio.__lt__ -/
def d_42 : He.DefD := ⟨("Ratio", some "__lt__"), "__lt__", "Ratio.__lt__", defArgs s_42, defBody s_42, defScope s_42, [], []⟩
/-- Ratio.__le__ -/
def d_43 : He.DefD := ⟨("Ratio", some "__le__"), "__le__", "Ratio.__le__", defArgs s_43, defBody s_43, defScope s_43, [], []⟩
/-- Ratio.__gt__ -/
def d_44 : He.DefD := ⟨("Ratio", some "__gt__"), "__gt__", "Ratio.__gt__", defArgs s_44, defBody s_44, defScope s_44, [], []⟩
/-- Ratio.__ge__ -/
def d_45 : He.DefD := ⟨("Ratio", some "__ge__"), "__ge__", "Ratio.__ge__", defArgs s_45, defBody s_45, defScope s_45, [], []⟩
/-- Ratio.__add__ -/
def d_46 : He.DefD := ⟨("Ratio", some "__add__"), "__add__", "Ratio.__add__", defArgs s_46, defBody s_46, defScope s_46, [], []⟩
/-- Ratio.__radd__ -/
def d_47 : He.DefD := ⟨("Ratio", some "__radd__"), "__radd__", "Ratio.__radd__", defArgs s_47, defBody s_47, defScope s_47, [], []⟩
/-- Ratio.__sub__ -/
def d_48 : He.DefD := ⟨("Ratio", some "__sub__"), "__sub__", "Ratio.__sub__", defArgs s_48, defBody s_48, defScope s_48, [], []⟩
/-- Ratio.__rsub__ -/
def d_49 : He.DefD := ⟨("Ratio", some "__rsub__"), "__rsub__", "Ratio.__rsub__", defArgs s_49, defBody s_49, defScope s_49, [], []⟩
/-- Ratio.__mul__ -/
def d_50 : He.DefD := ⟨("Ratio", some "__mul__"), "__mul__", "Ratio.__mul__", defArgs s_50, defBody s_50, defScope s_50, [], []⟩
/-- Ratio.__rmul__ -/
def d_51 : He.DefD := ⟨("Ratio", some "__rmul__"), "__rmul__", "Ratio.__rmul__", defArgs s_51, defBody s_51, defScope s_51, [], []⟩
/-- Ratio.__floordiv__ -/
def d_52 : He.DefD := ⟨("Ratio", some "__floordiv__"), "__floordiv__", "Ratio.__floordiv__", defArgs s_52, defBody s_52, defScope s_52, [], []⟩
/-- Ratio.__rfloordiv__ -/
def d_53 : He.DefD := ⟨("Ratio", some "__rfloordiv__"), "__rfloordiv__", "Ratio.__rfloordiv__", defArgs s_53, defBody s_53, defScope s_53, [], []⟩
/-- Ratio.__mod__ -/
def d_54 : He.DefD := ⟨("Ratio", some "__mod__"), "__mod__", "Ratio.__mod__", defArgs s_54, defBody s_54, defScope s_54, [], []⟩
/-- Ratio.__rmod__ -/
def d_55 : He.DefD := ⟨("Ratio", some "__rmod__"), "__rmod__", "Ratio.__rmod__", defArgs s_55, defBody s_55, defScope s_55, [], []⟩
/-- Ratio.__pow__ -/
def d_56 : He.DefD := ⟨("Ratio", some "__pow__"), "__pow__", "Ratio.__pow__", defArgs s_56, defBody s_56, defScope s_56, [], []⟩
/-- Ratio.__neg__ -/
def d_57 : He.DefD := ⟨("Ratio", some "__neg__"), "__neg__", "Ratio.__neg__", defArgs s_57, defBody s_57, defScope s_57, [], []⟩
/-- Ratio.__abs__ -/
def d_58 : He.DefD := ⟨("Ratio", some "__abs__"), "__abs__", "Ratio.__abs__", defArgs s_58, defBody s_58, defScope s_58, [], []⟩
/-- Ratio.__bool__ -/
def d_59 : He.DefD := ⟨("Ratio", some "__bool__"), "__bool__", "Ratio.__bool__", defArgs s_59, defBody s_59, defScope s_59, [], []⟩
/-- Ratio.over -/
def d_60 : He.DefD := ⟨("Ratio", some "over"), "over", "Ratio.over", defArgs s_60, defBody s_60, defScope s_60, [], []⟩
/-- Ratio.floor -/
def d_61 : He.DefD := ⟨("Ratio", some "floor"), "floor", "Ratio.floor", defArgs s_61, defBody s_61, defScope s_61, [], []⟩
/-- Point.__init__ -/
def d_62 : He.DefD := ⟨("Point", some "__init__"), "__init__", "Point.__init__", defArgs s_62, defBody s_62, defScope s_62, [], []⟩
/-- Point.__eq__ -/
def d_63 : He.DefD := ⟨("Point", some "__eq__"), "__eq__", "Point.__eq__", defArgs s_63, defBody s_63, defScope s_63, [], []⟩
/-- Point.__add__ -/
def d_64 : He.DefD := ⟨("Point", some "__add__"), "__add__", "Point.__add__", defArgs s_64, defBody s_64, defScope s_64, [], []⟩
/-- Point.__sub__ -/
def d_65 : He.DefD := ⟨("Point", some "__sub__"), "__sub__", "Point.__sub__", defArgs s_65, defBody s_65, defScope s_65, [], []⟩
/-- Point.__mul__ -/
def d_66 : He.DefD := ⟨("Point", some "__mul__"), "__mul__", "Point.__mul__", defArgs s_66, defBody s_66, defScope s_66, [], []⟩
/-- Point.__rmul__ -/
def d_67 : He.DefD := ⟨("Point", some "__rmul__"), "__rmul__", "Point.__rmul__", defArgs s_67, defBody s_67, defScope s_67, [], []⟩
/-- Point.__neg__ -/
def d_68 : He.DefD := ⟨("Point", some "__neg__"), "__neg__", "Point.__neg__", defArgs s_68, defBody s_68, defScope s_68, [], []⟩
/-- Point.__bool__ -/
def d_69 : He.DefD := ⟨("Point", some "__bool__"), "__bool__", "Point.__bool__", defArgs s_69, defBody s_69, defScope s_69, [], []⟩
/-- Motion.__init__ -/
def d_70 : He.DefD := ⟨("Motion", some "__init__"), "__init__", "Motion.__init__", defArgs s_70, defBody s_70, defScope s_70, [.non], []⟩
/-- Motion.__eq__ -/
def d_71 : He.DefD := ⟨("Motion", some "__eq__"), "__eq__", "Motion.__eq__", defArgs s_71, defBody s_71, defScope s_71, [], []⟩
/-- Motion.__call__ -/
def d_72 : He.DefD := ⟨("Motion", some "__call__"), "__call__", "Motion.__call__", defArgs s_72, defBody s_72, defScope s_72, [], []⟩
/-- Motion.__mul__ -/
def d_73 : He.DefD := ⟨("Motion", some "__mul__"), "__mul__", "Motion.__mul__", defArgs s_73, defBody s_73, defScope s_73, [], []⟩
/-- Motion.__invert__ -/
def d_74 : He.DefD := ⟨("Motion", some "__invert__"), "__invert__", "Motion.__invert__", defArgs s_74, defBody s_74, defScope s_74, [], []⟩
/-- Motion.power -/
def d_75 : He.DefD := ⟨("Motion", some "power"), "power", "Motion.power", defArgs s_75, defBody s_75, defScope s_75, [], []⟩
/-- Motion.factor -/
def d_76 : He.DefD := ⟨("Motion", some "factor"), "factor", "Motion.factor", defArgs s_76, defBody s_76, defScope s_76, [], []⟩
/-- Motion.stretch -/
def d_77 : He.DefD := ⟨("Motion", some "stretch"), "stretch", "Motion.stretch", defArgs s_77, defBody s_77, defScope s_77, [], []⟩
/-- Motion.kind -/
def d_78 : He.DefD := ⟨("Motion", some "kind"), "kind", "Motion.kind", defArgs s_78, defBody s_78, defScope s_78, [], []⟩
/-- Motion.kept -/
def d_79 : He.DefD := ⟨("Motion", some "kept"), "kept", "Motion.kept", defArgs s_79, defBody s_79, defScope s_79, [], []⟩
/-- Motion.order -/
def d_80 : He.DefD := ⟨("Motion", some "order"), "order", "Motion.order", defArgs s_80, defBody s_80, defScope s_80, [], []⟩
/-- Ground.__init__ -/
def d_81 : He.DefD := ⟨("Ground", some "__init__"), "__init__", "Ground.__init__", defArgs s_81, defBody s_81, defScope s_81, [], []⟩
/-- Ground.__eq__ -/
def d_82 : He.DefD := ⟨("Ground", some "__eq__"), "__eq__", "Ground.__eq__", defArgs s_82, defBody s_82, defScope s_82, [], []⟩
/-- Ground.measure -/
def d_83 : He.DefD := ⟨("Ground", some "measure"), "measure", "Ground.measure", defArgs s_83, defBody s_83, defScope s_83, [], []⟩
/-- Ground.pair -/
def d_84 : He.DefD := ⟨("Ground", some "pair"), "pair", "Ground.pair", defArgs s_84, defBody s_84, defScope s_84, [], []⟩
def cls : List Cl := [⟨"Ratio", [40, 41], [40, 41], [(37, 40), (21, 41), (22, 42), (23, 43), (24, 44), (25, 45), (1, 46), (11, 47), (2, 48), (12, 49), (3, 50), (13, 51), (4, 52), (14, 53), (5, 54), (15, 55), (6, 56), (31, 57), (33, 58), (34, 59), (55, 60), (50, 61)]⟩, ⟨"Point", [42, 43], [42, 43], [(37, 62), (21, 63), (1, 64), (2, 65), (3, 66), (13, 67), (31, 68), (34, 69)]⟩, ⟨"Motion", [44, 45], [44, 45], [(37, 70), (21, 71), (36, 72), (3, 73), (32, 74), (57, 75), (49, 76), (58, 77), (52, 78), (51, 79), (54, 80)]⟩, ⟨"Ground", [46, 47, 48], [46, 47, 48], [(37, 81), (21, 82), (53, 83), (56, 84)]⟩]
def defs : List Df := [⟨d_0, ["value"]⟩, ⟨d_1, ["first", "second"]⟩, ⟨d_2, ["number", "times"]⟩, ⟨d_3, ["number"]⟩, ⟨d_4, ["value"]⟩, ⟨d_5, ["rows"]⟩, ⟨d_6, ["table"]⟩, ⟨d_7, ["one", "other"]⟩, ⟨d_8, ["table", "shift", "point"]⟩, ⟨d_9, []⟩, ⟨d_10, ["point"]⟩, ⟨d_11, ["script"]⟩, ⟨d_12, ["pen", "span"]⟩, ⟨d_13, ["pen", "items"]⟩, ⟨d_14, ["pen", "figures"]⟩, ⟨d_15, ["first", "second"]⟩, ⟨d_16, ["pair"]⟩, ⟨d_17, ["one", "other"]⟩, ⟨d_18, ["one", "other"]⟩, ⟨d_19, ["pen", "far"]⟩, ⟨d_20, ["number"]⟩, ⟨d_21, ["pen", "pair"]⟩, ⟨d_22, ["pen", "spot"]⟩, ⟨d_23, ["point"]⟩, ⟨d_24, ["pen", "far"]⟩, ⟨d_25, ["rows"]⟩, ⟨d_26, ["rows", "shift", "spot"]⟩, ⟨d_27, ["pen", "rows", "shift"]⟩, ⟨d_28, ["pen", "plain"]⟩, ⟨d_29, ["ground", "way"]⟩, ⟨d_30, ["ground", "way"]⟩, ⟨d_31, ["one", "other"]⟩, ⟨d_32, ["pen", "far"]⟩, ⟨d_33, ["ground", "spot"]⟩, ⟨d_34, ["pen", "ground"]⟩, ⟨d_35, ["rows"]⟩, ⟨d_36, ["ground", "rows"]⟩, ⟨d_37, ["ground", "rows", "shift"]⟩, ⟨d_38, ["pen", "ground", "rows", "shift"]⟩, ⟨d_39, ["script"]⟩, ⟨d_40, ["self", "top", "bottom"]⟩, ⟨d_41, ["self", "other"]⟩, ⟨d_42, ["self", "other"]⟩, ⟨d_43, ["self", "other"]⟩, ⟨d_44, ["self", "other"]⟩, ⟨d_45, ["self", "other"]⟩, ⟨d_46, ["self", "other"]⟩, ⟨d_47, ["self", "other"]⟩, ⟨d_48, ["self", "other"]⟩, ⟨d_49, ["self", "other"]⟩, ⟨d_50, ["self", "other"]⟩, ⟨d_51, ["self", "other"]⟩, ⟨d_52, ["self", "other"]⟩, ⟨d_53, ["self", "other"]⟩, ⟨d_54, ["self", "other"]⟩, ⟨d_55, ["self", "other"]⟩, ⟨d_56, ["self", "other"]⟩, ⟨d_57, ["self"]⟩, ⟨d_58, ["self"]⟩, ⟨d_59, ["self"]⟩, ⟨d_60, ["self", "number"]⟩, ⟨d_61, ["self"]⟩, ⟨d_62, ["self", "x", "y"]⟩, ⟨d_63, ["self", "other"]⟩, ⟨d_64, ["self", "other"]⟩, ⟨d_65, ["self", "other"]⟩, ⟨d_66, ["self", "other"]⟩, ⟨d_67, ["self", "other"]⟩, ⟨d_68, ["self"]⟩, ⟨d_69, ["self"]⟩, ⟨d_70, ["self", "table", "shift"]⟩, ⟨d_71, ["self", "other"]⟩, ⟨d_72, ["self", "point"]⟩, ⟨d_73, ["self", "other"]⟩, ⟨d_74, ["self"]⟩, ⟨d_75, ["self", "number"]⟩, ⟨d_76, ["self"]⟩, ⟨d_77, ["self", "ground"]⟩, ⟨d_78, ["self", "ground"]⟩, ⟨d_79, ["self"]⟩, ⟨d_80, ["self"]⟩, ⟨d_81, ["self", "a", "b", "c"]⟩, ⟨d_82, ["self", "other"]⟩, ⟨d_83, ["self", "point"]⟩, ⟨d_84, ["self", "one", "other"]⟩]
def nms : List Str := ["top", "bottom", "x", "y", "table", "shift", "a", "b", "c", "factor", "floor", "kept", "kind", "measure", "order", "over", "pair", "power", "stretch"]
def tb : Tb := ⟨cls, defs, nms⟩
abbrev T : Ls := tb.ls
/-! names: top 40, bottom 41, x 42, y 43, table 44, shift 45, a 46, b 47, c 48, factor 49, floor 50, kept 51, kind 52, measure 53, order 54, over 55, pair 56, power 57, stretch 58 -/
/-! classes: Ratio 0, Point 1, Motion 2, Ground 3 -/
/-- is_number(value); value 0 -/
noncomputable def B_0 (c : Fn) : Fs := (sRet (xOr (truD T c) (xIso T 0 (xVar 0)) (xAnd (truD T c) (xIst T "int" (xVar 0)) (xNot (truD T c) (xIst T "bool" (xVar 0))))))
/-- gcd_of(first, second); first 0 second 1 -/
noncomputable def B_1 (c : Fn) : Fs := (sSeq (sPar 0 1 (aCons (xBi bAbs (aCons (xVar 0) aNil)) (aCons (xBi bAbs (aCons (xVar 1) aNil)) aNil))) (sSeq (sWhile (tOf (truD T c) (xVar 1)) (sPar 0 1 (aCons (xVar 1) (aCons (xBin (binD T c .Mod) (xVar 0) (xVar 1)) aNil)))) (sRet (xVar 0))))
/-- raised(number, times); number 0 times 1 product 2 -/
noncomputable def B_2 (c : Fn) : Fs := (sSeq (sAsg (xK (.int 1)) (gNm 2)) (sSeq (sWhile (tOf (truD T c) (xVar 1)) (sSeq (sIf (tOf (truD T c) (xBin (binD T c .Mod) (xVar 1) (xK (.int 2)))) (sAsg (xBin (binD T c .Mult) (xVar 2) (xVar 0)) (gNm 2)) sNx) (sSeq (sAsg (xBin (binD T c .Mult) (xVar 0) (xVar 0)) (gNm 0)) (sAsg (xBin (binD T c .FloorDiv) (xVar 1) (xK (.int 2))) (gNm 1))))) (sRet (xVar 2))))
/-- ratio_of(number); number 0 -/
noncomputable def B_3 (c : Fn) : Fs := (sSeq (sIf (tOf (truD T c) (xIso T 0 (xVar 0))) (sRet (xVar 0)) sNx) (sSeq (sIf (tNot (tOf (truD T c) (xCall T c 0 (aCons (xVar 0) aNil)))) sNo sNx) (sRet (xMk T c 0 (aCons (xVar 0) aNil)))))
/-- is_integer(value); value 0 -/
noncomputable def B_4 (c : Fn) : Fs := (sRet (xAnd (truD T c) (xIst T "int" (xVar 0)) (xNot (truD T c) (xIst T "bool" (xVar 0)))))
/-- table_of(rows); rows 0 row 1 entry 2 -/
noncomputable def B_5 (c : Fn) : Fs := (sRet (xBi bTuple (aCons (xLc (iSeq (xVar 0)) (gNm 1) tTrue (xBi bTuple (aCons (xLc (iSeq (xVar 1)) (gNm 2) tTrue (xCall T c 3 (aCons (xVar 2) aNil)) [2]) aNil)) [1]) aNil)))
/-- factor_of(table); table 0 -/
noncomputable def B_6 (c : Fn) : Fs := (sRet (xBin (binD T c .Sub) (xBin (binD T c .Mult) (xBin subD (xBin subD (xVar 0) (xK (.int 0))) (xK (.int 0))) (xBin subD (xBin subD (xVar 0) (xK (.int 1))) (xK (.int 1)))) (xBin (binD T c .Mult) (xBin subD (xBin subD (xVar 0) (xK (.int 0))) (xK (.int 1))) (xBin subD (xBin subD (xVar 0) (xK (.int 1))) (xK (.int 0))))))
/-- table_product(one, other); one 0 other 1 row 2 column 3 -/
noncomputable def B_7 (c : Fn) : Fs := (sRet (xBi bTuple (aCons (xLc (iSeq (xTup (aCons (xK (.int 0)) (aCons (xK (.int 1)) aNil)))) (gNm 2) tTrue (xBi bTuple (aCons (xLc (iSeq (xTup (aCons (xK (.int 0)) (aCons (xK (.int 1)) aNil)))) (gNm 3) tTrue (xBin (binD T c .Add) (xBin (binD T c .Mult) (xBin subD (xBin subD (xVar 0) (xVar 2)) (xK (.int 0))) (xBin subD (xBin subD (xVar 1) (xK (.int 0))) (xVar 3))) (xBin (binD T c .Mult) (xBin subD (xBin subD (xVar 0) (xVar 2)) (xK (.int 1))) (xBin subD (xBin subD (xVar 1) (xK (.int 1))) (xVar 3)))) [3]) aNil)) [2]) aNil)))
/-- led(table, shift, point); table 0 shift 1 point 2 -/
noncomputable def B_8 (c : Fn) : Fs := (sRet (xMk T c 1 (aCons (xBin (binD T c .Add) (xBin (binD T c .Add) (xBin (binD T c .Mult) (xBin subD (xBin subD (xVar 0) (xK (.int 0))) (xK (.int 0))) (xFld T c 42 (xVar 2))) (xBin (binD T c .Mult) (xBin subD (xBin subD (xVar 0) (xK (.int 0))) (xK (.int 1))) (xFld T c 43 (xVar 2)))) (xFld T c 42 (xVar 1))) (aCons (xBin (binD T c .Add) (xBin (binD T c .Add) (xBin (binD T c .Mult) (xBin subD (xBin subD (xVar 0) (xK (.int 1))) (xK (.int 0))) (xFld T c 42 (xVar 2))) (xBin (binD T c .Mult) (xBin subD (xBin subD (xVar 0) (xK (.int 1))) (xK (.int 1))) (xFld T c 43 (xVar 2)))) (xFld T c 43 (xVar 1))) aNil))))
/-- rest();  -/
noncomputable def B_9 (c : Fn) : Fs := (sRet (xMk T c 2 (aCons (xTup (aCons (xTup (aCons (xK (.int 1)) (aCons (xK (.int 0)) aNil))) (aCons (xTup (aCons (xK (.int 0)) (aCons (xK (.int 1)) aNil))) aNil))) aNil)))
/-- shifting(point); point 0 -/
noncomputable def B_10 (c : Fn) : Fs := (sRet (xMk T c 2 (aCons (xTup (aCons (xTup (aCons (xK (.int 1)) (aCons (xK (.int 0)) aNil))) (aCons (xTup (aCons (xK (.int 0)) (aCons (xK (.int 1)) aNil))) aNil))) (aCons (xVar 0) aNil))))
/-- _law_pen(script); script 0 -/
noncomputable def B_11 (c : Fn) : Fs := (sRet (xDic ["cells", "at", "left"] (aCons (xBi bList (aCons (xSl (xVar 0) oNo (oSo (xK (.int 63)))) aNil)) (aCons (xK (.int 0)) (aCons (xK (.int 0)) aNil)))))
/-- _law_draw(pen, span); pen 0 span 1 digit 2 at 3 cell 4 mash 5 -/
noncomputable def B_12 (c : Fn) : Fs := (sSeq (sIf (tOf (truD T c) (xBin (ordD T c .GtE) (xBin subD (xVar 0) (xK (.str "left"))) (xVar 1))) (sSeq (sAsg (xBin (binD T c .Mod) (xBi bInt (aCons (xBin subD (xVar 0) (xK (.str "left"))) aNil)) (xVar 1)) (gNm 2)) (sSeq (sPut (xVar 0) (xK (.str "left")) (xBin (binD T c .FloorDiv) (xBin subD (xVar 0) (xK (.str "left"))) (xVar 1))) (sRet (xVar 2)))) sNx) (sSeq (sAsg (xBin subD (xVar 0) (xK (.str "at"))) (gNm 3)) (sSeq (sPut (xVar 0) (xK (.str "at")) (xBin (binD T c .Add) (xVar 3) (xK (.int 1)))) (sSeq (sAsg (xBin (binD T c .Add) (xBin (binD T c .Mult) (xK (.int 89)) (xVar 3)) (xK (.int 31))) (gNm 4)) (sSeq (sIf (tOf (truD T c) (xBin (eqB T c true) (xBin subD (xVar 0) (xK (.str "cells"))) (xLst aNil))) (sAsg (xBin subD (xBin subD (xVar 0) (xK (.str "cells"))) (xBin (binD T c .Mod) (xBi bInt (aCons (xVar 3) aNil)) (xBi bLen (aCons (xBin subD (xVar 0) (xK (.str "cells"))) aNil)))) (gNm 4)) sNx) (sSeq (sIf (tAnd (tOf (truD T c) (xBin (ordD T c .Lt) (xVar 3) (xBi bLen (aCons (xBin subD (xVar 0) (xK (.str "cells"))) aNil)))) (tOf (truD T c) (xBin (ordD T c .GtE) (xVar 4) (xBin (binD T c .Pow) (xK (.int 10)) (xK (.int 18)))))) (sSeq (sPut (xVar 0) (xK (.str "left")) (xBin (binD T c .FloorDiv) (xBin (binD T c .Sub) (xVar 4) (xBin (binD T c .Pow) (xK (.int 10)) (xK (.int 18)))) (xVar 1))) (sRet (xBin (binD T c .Mod) (xBi bInt (aCons (xBin (binD T c .Sub) (xVar 4) (xBin (binD T c .Pow) (xK (.int 10)) (xK (.int 18)))) aNil)) (xVar 1)))) sNx) (sSeq (sAsg (xBin (binD T c .Add) (xBin (binD T c .Mult) (xBin (binD T c .Mod) (xBi bInt (aCons (xVar 4) aNil)) (xK (.int 2147482661))) (xK (.int 47309))) (xBin (binD T c .Mult) (xBin (binD T c .Mult) (xK (.int 37049)) (xVar 3)) (xVar 3))) (gNm 5)) (sSeq (sAsg (xBin (binD T c .Mod) (xBi bInt (aCons (xBin (binD T c .Add) (xBin (binD T c .Add) (xVar 5) (xBin (binD T c .Mult) (xK (.int 113)) (xVar 3))) (xK (.int 29))) aNil)) (xK (.int 2147482697))) (gNm 5)) (sSeq (sAsg (xBin (binD T c .Mod) (xBi bInt (aCons (xBin (binD T c .Mult) (xVar 5) (xBin (binD T c .Add) (xVar 5) (xK (.int 80021)))) aNil)) (xK (.int 2147482739))) (gNm 5)) (sRet (xBin (binD T c .Mod) (xBi bInt (aCons (xBin (binD T c .FloorDiv) (xBin (binD T c .Mod) (xBi bInt (aCons (xBin (binD T c .Add) (xBin (binD T c .Mult) (xVar 5) (xVar 5)) (xBin (binD T c .Mult) (xK (.int 37)) (xVar 5))) aNil)) (xK (.int 2147482763))) (xK (.int 32))) aNil)) (xVar 1))))))))))))
/-- _law_pick(pen, items); pen 0 items 1 -/
noncomputable def B_13 (c : Fn) : Fs := (sRet (xBin subD (xVar 1) (xCall T c 12 (aCons (xVar 0) (aCons (xBi bLen (aCons (xVar 1) aNil)) aNil)))))
/-- _law_great(pen, figures); pen 0 figures 1 found 2 go 3 -/
noncomputable def B_14 (c : Fn) : Fs := (sSeq (sAsg (xK (.int 0)) (gNm 2)) (sSeq (sFor (iRng (aCons (xBin (binD T c .Add) (xK (.int 1)) (xCall T c 12 (aCons (xVar 0) (aCons (xBin (binD T c .FloorDiv) (xVar 1) (xK (.int 7))) aNil)))) aNil)) (gNm 3) (sAsg (xBin (binD T c .Add) (xBin (binD T c .Mult) (xVar 2) (xBin (binD T c .Pow) (xK (.int 10)) (xK (.int 7)))) (xCall T c 12 (aCons (xVar 0) (aCons (xBin (binD T c .Pow) (xK (.int 10)) (xK (.int 7))) aNil)))) (gNm 2))) (sRet (xVar 2))))
/-- _law_gcd(first, second); first 0 second 1 -/
noncomputable def B_15 (c : Fn) : Fs := (sSeq (sPar 0 1 (aCons (xBi bAbs (aCons (xVar 0) aNil)) (aCons (xBi bAbs (aCons (xVar 1) aNil)) aNil))) (sSeq (sWhile (tOf (truD T c) (xBin (ordD T c .Gt) (xVar 1) (xK (.int 0)))) (sPar 0 1 (aCons (xVar 1) (aCons (xBin (binD T c .Mod) (xBi bInt (aCons (xVar 0) aNil)) (xVar 1)) aNil)))) (sRet (xVar 0))))
/-- _law_cut(pair); pair 0 common 1 -/
noncomputable def B_16 (c : Fn) : Fs := (sSeq (sAsg (xCall T c 15 (aCons (xBin subD (xVar 0) (xK (.int 0))) (aCons (xBin subD (xVar 0) (xK (.int 1))) aNil))) (gNm 1)) (sSeq (sIf (tOf (truD T c) (xBin (ordD T c .Lt) (xBin subD (xVar 0) (xK (.int 1))) (xK (.int 0)))) (sAsg (xUn (negD T c) (xVar 1)) (gNm 1)) sNx) (sRet (xTup (aCons (xBin (binD T c .FloorDiv) (xBin subD (xVar 0) (xK (.int 0))) (xVar 1)) (aCons (xBin (binD T c .FloorDiv) (xBin subD (xVar 0) (xK (.int 1))) (xVar 1)) aNil))))))
/-- _law_sum(one, other); one 0 other 1 -/
noncomputable def B_17 (c : Fn) : Fs := (sRet (xCall T c 16 (aCons (xTup (aCons (xBin (binD T c .Add) (xBin (binD T c .Mult) (xBin subD (xVar 0) (xK (.int 0))) (xBin subD (xVar 1) (xK (.int 1)))) (xBin (binD T c .Mult) (xBin subD (xVar 1) (xK (.int 0))) (xBin subD (xVar 0) (xK (.int 1))))) (aCons (xBin (binD T c .Mult) (xBin subD (xVar 0) (xK (.int 1))) (xBin subD (xVar 1) (xK (.int 1)))) aNil))) aNil)))
/-- _law_times(one, other); one 0 other 1 -/
noncomputable def B_18 (c : Fn) : Fs := (sRet (xCall T c 16 (aCons (xTup (aCons (xBin (binD T c .Mult) (xBin subD (xVar 0) (xK (.int 0))) (xBin subD (xVar 1) (xK (.int 0)))) (aCons (xBin (binD T c .Mult) (xBin subD (xVar 0) (xK (.int 1))) (xBin subD (xVar 1) (xK (.int 1)))) aNil))) aNil)))
/-- _law_fraction(pen, far); pen 0 far 1 top 2 -/
noncomputable def B_19 (c : Fn) : Fs := (sSeq (sAsg (xBin (binD T c .Sub) (xCall T c 12 (aCons (xVar 0) (aCons (xK (.int 19)) aNil))) (xK (.int 9))) (gNm 2)) (sSeq (sIf (tAnd (tOf (truD T c) (xBin (ordD T c .Gt) (xVar 1) (xK (.int 0)))) (tOf (truD T c) (xBin (eqB T c false) (xCall T c 12 (aCons (xVar 0) (aCons (xK (.int 3)) aNil))) (xK (.int 0))))) (sAsg (xBin (binD T c .Sub) (xCall T c 14 (aCons (xVar 0) (aCons (xVar 1) aNil))) (xBin (binD T c .Pow) (xK (.int 10)) (xK (.int 6)))) (gNm 2)) sNx) (sRet (xCall T c 16 (aCons (xTup (aCons (xVar 2) (aCons (xCall T c 13 (aCons (xVar 0) (aCons (xLst (aCons (xK (.int 1)) (aCons (xK (.int 1)) (aCons (xK (.int 1)) (aCons (xK (.int 2)) (aCons (xK (.int 3)) (aCons (xK (.int 4)) (aCons (xK (.int 5)) (aCons (xK (.int 6)) (aCons (xK (.int 10)) aNil)))))))))) aNil))) aNil))) aNil)))))
/-- _law_told(number); number 0 -/
noncomputable def B_20 (c : Fn) : Fs := (sRet (xTup (aCons (xFld T c 40 (xVar 0)) (aCons (xFld T c 41 (xVar 0)) aNil))))
/-- _law_given(pen, pair); pen 0 pair 1 -/
noncomputable def B_21 (c : Fn) : Fs := (sSeq (sIf (tAnd (tOf (truD T c) (xBin (eqB T c false) (xBin subD (xVar 1) (xK (.int 1))) (xK (.int 1)))) (tOf (truD T c) (xBin (eqB T c false) (xCall T c 12 (aCons (xVar 0) (aCons (xK (.int 2)) aNil))) (xK (.int 0))))) (sRet (xBin subD (xVar 1) (xK (.int 0)))) sNx) (sRet (xMk T c 0 (aCons (xBin subD (xVar 1) (xK (.int 0))) (aCons (xBin subD (xVar 1) (xK (.int 1))) aNil)))))
/-- _law_point(pen, spot); pen 0 spot 1 -/
noncomputable def B_22 (c : Fn) : Fs := (sRet (xMk T c 1 (aCons (xCall T c 21 (aCons (xVar 0) (aCons (xBin subD (xVar 1) (xK (.int 0))) aNil))) (aCons (xCall T c 21 (aCons (xVar 0) (aCons (xBin subD (xVar 1) (xK (.int 1))) aNil))) aNil))))
/-- _law_spot(point); point 0 -/
noncomputable def B_23 (c : Fn) : Fs := (sRet (xTup (aCons (xCall T c 20 (aCons (xFld T c 42 (xVar 0)) aNil)) (aCons (xCall T c 20 (aCons (xFld T c 43 (xVar 0)) aNil)) aNil))))
/-- _law_table(pen, far); pen 0 far 1 go 2 rows 3 -/
noncomputable def B_24 (c : Fn) : Fs := (sSeq (sFor (iRng (aCons (xK (.int 9)) aNil)) (gNm 2) (sSeq (sAsg (xTup (aCons (xTup (aCons (xCall T c 19 (aCons (xVar 0) (aCons (xVar 1) aNil))) (aCons (xCall T c 19 (aCons (xVar 0) (aCons (xK (.int 0)) aNil))) aNil))) (aCons (xTup (aCons (xCall T c 19 (aCons (xVar 0) (aCons (xK (.int 0)) aNil))) (aCons (xCall T c 19 (aCons (xVar 0) (aCons (xVar 1) aNil))) aNil))) aNil))) (gNm 3)) (sIf (tOf (truD T c) (xBin (eqB T c true) (xBin subD (xCall T c 25 (aCons (xVar 3) aNil)) (xK (.int 0))) (xK (.int 0)))) (sRet (xVar 3)) sNx))) (sRet (xTup (aCons (xTup (aCons (xTup (aCons (xK (.int 2)) (aCons (xK (.int 1)) aNil))) (aCons (xTup (aCons (xK (.int 1)) (aCons (xK (.int 3)) aNil))) aNil))) (aCons (xTup (aCons (xTup (aCons (xK (.int 0)) (aCons (xK (.int 1)) aNil))) (aCons (xTup (aCons (xK (.int 1)) (aCons (xK (.int 1)) aNil))) aNil))) aNil)))))
/-- _law_factor(rows); rows 0 minus 1 -/
noncomputable def B_25 (c : Fn) : Fs := (sSeq (sAsg (xCall T c 18 (aCons (xBin subD (xBin subD (xVar 0) (xK (.int 0))) (xK (.int 1))) (aCons (xBin subD (xBin subD (xVar 0) (xK (.int 1))) (xK (.int 0))) aNil))) (gNm 1)) (sRet (xCall T c 17 (aCons (xCall T c 18 (aCons (xBin subD (xBin subD (xVar 0) (xK (.int 0))) (xK (.int 0))) (aCons (xBin subD (xBin subD (xVar 0) (xK (.int 1))) (xK (.int 1))) aNil))) (aCons (xTup (aCons (xUn (negD T c) (xBin subD (xVar 1) (xK (.int 0)))) (aCons (xBin subD (xVar 1) (xK (.int 1))) aNil))) aNil)))))
/-- _law_led(rows, shift, spot); rows 0 shift 1 spot 2 found 3 k 4 total 5 -/
noncomputable def B_26 (c : Fn) : Fs := (sSeq (sAsg (xLst aNil) (gNm 3)) (sSeq (sFor (iRng (aCons (xK (.int 2)) aNil)) (gNm 4) (sSeq (sAsg (xCall T c 17 (aCons (xCall T c 18 (aCons (xBin subD (xBin subD (xVar 0) (xVar 4)) (xK (.int 0))) (aCons (xBin subD (xVar 2) (xK (.int 0))) aNil))) (aCons (xCall T c 18 (aCons (xBin subD (xBin subD (xVar 0) (xVar 4)) (xK (.int 1))) (aCons (xBin subD (xVar 2) (xK (.int 1))) aNil))) aNil))) (gNm 5)) (sExpr (xApp (xVar 3) (xCall T c 17 (aCons (xVar 5) (aCons (xBin subD (xVar 1) (xVar 4)) aNil))))))) (sRet (xTup (aCons (xBin subD (xVar 3) (xK (.int 0))) (aCons (xBin subD (xVar 3) (xK (.int 1))) aNil))))))
/-- _law_motion(pen, rows, shift); pen 0 rows 1 shift 2 table 3 given 4 row 5 entry 6 -/
noncomputable def B_27 (c : Fn) : Fs := (sSeq (sAsg (xLc (iSeq (xVar 1)) (gNm 5) tTrue (xLc (iSeq (xVar 5)) (gNm 6) tTrue (xCall T c 21 (aCons (xVar 0) (aCons (xVar 6) aNil))) [6]) [5]) (gNm 3)) (sSeq (sAsg (xIf (tOf (truD T c) (xBin (eqB T c false) (xCall T c 12 (aCons (xVar 0) (aCons (xK (.int 2)) aNil))) (xK (.int 0)))) (xVar 3) (xBi bTuple (aCons (xLc (iSeq (xVar 3)) (gNm 5) tTrue (xBi bTuple (aCons (xVar 5) aNil)) [5]) aNil))) (gNm 4)) (sRet (xMk T c 2 (aCons (xVar 4) (aCons (xCall T c 22 (aCons (xVar 0) (aCons (xVar 2) aNil))) aNil))))))
/-- _law_ground(pen, plain); pen 0 plain 1 some 2 go 3 a 4 b 5 c 6 -/
noncomputable def B_28 (c : Fn) : Fs := (sSeq (sAsg (xLst (aCons (xTup (aCons (xK (.int 1)) (aCons (xK (.int 0)) (aCons (xK (.int 1)) aNil)))) (aCons (xTup (aCons (xK (.int 1)) (aCons (xK (.int 1)) (aCons (xK (.int 1)) aNil)))) (aCons (xTup (aCons (xK (.int 1)) (aCons (xK (.int 0)) (aCons (xK (.int 2)) aNil)))) (aCons (xTup (aCons (xK (.int 1)) (aCons (xK (.int 1)) (aCons (xK (.int 2)) aNil)))) (aCons (xTup (aCons (xK (.int 1)) (aCons (xK (.int 1)) (aCons (xK (.int 3)) aNil)))) (aCons (xTup (aCons (xK (.int 1)) (aCons (xK (.int 1)) (aCons (xK (.int 4)) aNil)))) (aCons (xTup (aCons (xK (.int 2)) (aCons (xK (.int 1)) (aCons (xK (.int 2)) aNil)))) (aCons (xTup (aCons (xK (.int 1)) (aCons (xK (.int 0)) (aCons (xK (.int 5)) aNil)))) (aCons (xTup (aCons (xK (.int 2)) (aCons (xK (.int 2)) (aCons (xK (.int 3)) aNil)))) aNil)))))))))) (gNm 2)) (sSeq (sAsg (xBin (binD T c .Add) (xVar 2) (xLst (aCons (xTup (aCons (xK (.int 1)) (aCons (xK (.int 1)) (aCons (xK (.int 6)) aNil)))) (aCons (xTup (aCons (xK (.int 2)) (aCons (xK (.int 1)) (aCons (xK (.int 3)) aNil)))) (aCons (xTup (aCons (xK (.int 2)) (aCons (xUn (negD T c) (xK (.int 1))) (aCons (xK (.int 3)) aNil)))) (aCons (xTup (aCons (xK (.int 2)) (aCons (xK (.int 0)) (aCons (xK (.int 3)) aNil)))) (aCons (xTup (aCons (xK (.int 1)) (aCons (xK (.int 1)) (aCons (xK (.int 8)) aNil)))) (aCons (xTup (aCons (xK (.int 2)) (aCons (xK (.int 1)) (aCons (xK (.int 4)) aNil)))) (aCons (xTup (aCons (xK (.int 3)) (aCons (xK (.int 2)) (aCons (xK (.int 5)) aNil)))) (aCons (xTup (aCons (xK (.int 3)) (aCons (xK (.int 1)) (aCons (xK (.int 5)) aNil)))) aNil)))))))))) (gNm 2)) (sSeq (sAsg (xBin (binD T c .Add) (xVar 2) (xLst (aCons (xTup (aCons (xK (.int 1)) (aCons (xUn (negD T c) (xK (.int 1))) (aCons (xK (.int 1)) aNil)))) (aCons (xTup (aCons (xK (.int 13)) (aCons (xK (.int 5)) (aCons (xK (.int 2)) aNil)))) aNil)))) (gNm 2)) (sSeq (sIf (tOr (tOf (truD T c) (xVar 1)) (tOf (truD T c) (xBin (ordD T c .Gt) (xCall T c 12 (aCons (xVar 0) (aCons (xK (.int 3)) aNil))) (xK (.int 0))))) (sRet (xCall T c 13 (aCons (xVar 0) (aCons (xVar 2) aNil)))) sNx) (sSeq (sFor (iRng (aCons (xK (.int 9)) aNil)) (gNm 3) (sSeq (sPar3 4 5 6 (aCons (xBin (binD T c .Add) (xK (.int 1)) (xCall T c 12 (aCons (xVar 0) (aCons (xK (.int 12)) aNil)))) (aCons (xBin (binD T c .Sub) (xCall T c 12 (aCons (xVar 0) (aCons (xK (.int 21)) aNil))) (xK (.int 10))) (aCons (xBin (binD T c .Add) (xK (.int 1)) (xCall T c 12 (aCons (xVar 0) (aCons (xK (.int 12)) aNil)))) aNil)))) (sIf (tOf (truD T c) (xBin (ordD T c .Gt) (xBin (binD T c .Mult) (xBin (binD T c .Mult) (xK (.int 4)) (xVar 4)) (xVar 6)) (xBin (binD T c .Mult) (xVar 5) (xVar 5)))) (sRet (xTup (aCons (xVar 4) (aCons (xVar 5) (aCons (xVar 6) aNil))))) sNx))) (sRet (xTup (aCons (xK (.int 2)) (aCons (xK (.int 1)) (aCons (xK (.int 3)) aNil))))))))))
/-- _law_measure(ground, way); ground 0 way 1 x 2 y 3 found 4 -/
noncomputable def B_29 (c : Fn) : Fs := (sSeq (sAsg (xVar 1) (gTp (gsCons (gNm 2) (gsCons (gNm 3) gsNil)))) (sSeq (sAsg (xBin (binD T c .Add) (xBin (binD T c .Mult) (xBin (binD T c .Mult) (xBin subD (xVar 0) (xK (.int 0))) (xVar 2)) (xVar 2)) (xBin (binD T c .Mult) (xBin (binD T c .Mult) (xBin subD (xVar 0) (xK (.int 1))) (xVar 2)) (xVar 3))) (gNm 4)) (sRet (xBin (binD T c .Add) (xVar 4) (xBin (binD T c .Mult) (xBin (binD T c .Mult) (xBin subD (xVar 0) (xK (.int 2))) (xVar 3)) (xVar 3))))))
/-- _law_mirror_rows(ground, way); ground 0 way 1 size 2 x 3 y 4 a 5 b 6 c 7 first 8 second 9 upper_row 10 -/
noncomputable def B_30 (c : Fn) : Fs := (sSeq (sAsg (xTup (aCons (xCall T c 29 (aCons (xVar 0) (aCons (xVar 1) aNil))) (aCons (xVar 1) (aCons (xVar 0) aNil)))) (gTp (gsCons (gNm 2) (gsCons (gTp (gsCons (gNm 3) (gsCons (gNm 4) gsNil))) (gsCons (gTp (gsCons (gNm 5) (gsCons (gNm 6) (gsCons (gNm 7) gsNil)))) gsNil))))) (sSeq (sPar 8 9 (aCons (xBin (binD T c .Add) (xBin (binD T c .Mult) (xBin (binD T c .Mult) (xK (.int 2)) (xVar 5)) (xVar 3)) (xBin (binD T c .Mult) (xVar 6) (xVar 4))) (aCons (xBin (binD T c .Add) (xBin (binD T c .Mult) (xVar 6) (xVar 3)) (xBin (binD T c .Mult) (xBin (binD T c .Mult) (xK (.int 2)) (xVar 7)) (xVar 4))) aNil))) (sSeq (sAsg (xTup (aCons (xCall T c 16 (aCons (xTup (aCons (xBin (binD T c .Sub) (xBin (binD T c .Mult) (xVar 8) (xVar 3)) (xVar 2)) (aCons (xVar 2) aNil))) aNil)) (aCons (xCall T c 16 (aCons (xTup (aCons (xBin (binD T c .Mult) (xVar 9) (xVar 3)) (aCons (xVar 2) aNil))) aNil)) aNil))) (gNm 10)) (sRet (xTup (aCons (xVar 10) (aCons (xTup (aCons (xCall T c 16 (aCons (xTup (aCons (xBin (binD T c .Mult) (xVar 8) (xVar 4)) (aCons (xVar 2) aNil))) aNil)) (aCons (xCall T c 16 (aCons (xTup (aCons (xBin (binD T c .Sub) (xBin (binD T c .Mult) (xVar 9) (xVar 4)) (xVar 2)) (aCons (xVar 2) aNil))) aNil)) aNil))) aNil)))))))
/-- _law_product(one, other); one 0 other 1 found 2 k 3 row 4 j 5 -/
noncomputable def B_31 (c : Fn) : Fs := (sSeq (sAsg (xLst aNil) (gNm 2)) (sSeq (sFor (iRng (aCons (xK (.int 2)) aNil)) (gNm 3) (sSeq (sAsg (xLst aNil) (gNm 4)) (sSeq (sFor (iRng (aCons (xK (.int 2)) aNil)) (gNm 5) (sExpr (xApp (xVar 4) (xCall T c 17 (aCons (xCall T c 18 (aCons (xBin subD (xBin subD (xVar 0) (xVar 3)) (xK (.int 0))) (aCons (xBin subD (xBin subD (xVar 1) (xK (.int 0))) (xVar 5)) aNil))) (aCons (xCall T c 18 (aCons (xBin subD (xBin subD (xVar 0) (xVar 3)) (xK (.int 1))) (aCons (xBin subD (xBin subD (xVar 1) (xK (.int 1))) (xVar 5)) aNil))) aNil)))))) (sExpr (xApp (xVar 2) (xBi bTuple (aCons (xVar 4) aNil))))))) (sRet (xBi bTuple (aCons (xVar 2) aNil)))))
/-- _law_way(pen, far); pen 0 far 1 go 2 x 3 y 4 common 5 -/
noncomputable def B_32 (c : Fn) : Fs := (sSeq (sFor (iRng (aCons (xK (.int 9)) aNil)) (gNm 2) (sSeq (sPar 3 4 (aCons (xBin (binD T c .Sub) (xCall T c 12 (aCons (xVar 0) (aCons (xK (.int 13)) aNil))) (xK (.int 6))) (aCons (xBin (binD T c .Sub) (xCall T c 12 (aCons (xVar 0) (aCons (xK (.int 13)) aNil))) (xK (.int 6))) aNil))) (sSeq (sIf (tOf (truD T c) (xBin (ordD T c .Gt) (xVar 1) (xK (.int 0)))) (sPar 3 4 (aCons (xBin (binD T c .Sub) (xCall T c 14 (aCons (xVar 0) (aCons (xVar 1) aNil))) (xCall T c 13 (aCons (xVar 0) (aCons (xLst (aCons (xK (.int 0)) (aCons (xBi bInt (aCons (xBin (binD T c .Add) (xK (.str "1")) (xBin (binD T c .Mult) (xK (.str "0")) (xVar 1))) aNil)) aNil))) aNil)))) (aCons (xCall T c 14 (aCons (xVar 0) (aCons (xVar 1) aNil))) aNil))) sNx) (sIf (tOf (truD T c) (xBin (eqB T c true) (xTup (aCons (xVar 3) (aCons (xVar 4) aNil))) (xTup (aCons (xK (.int 0)) (aCons (xK (.int 0)) aNil))))) (sSeq (sAsg (xCall T c 15 (aCons (xVar 3) (aCons (xVar 4) aNil))) (gNm 5)) (sRet (xTup (aCons (xBin (binD T c .FloorDiv) (xVar 3) (xVar 5)) (aCons (xBin (binD T c .FloorDiv) (xVar 4) (xVar 5)) aNil))))) sNx)))) (sRet (xTup (aCons (xK (.int 2)) (aCons (xK (.int 1)) aNil)))))
/-- _law_length(ground, spot); ground 0 spot 1 found 2 part 3 one 4 other 5 -/
noncomputable def B_33 (c : Fn) : Fs := (sSeq (sAsg (xTup (aCons (xK (.int 0)) (aCons (xK (.int 1)) aNil))) (gNm 2)) (sSeq (sFor (iSeq (xLst (aCons (xTup (aCons (xBin subD (xVar 0) (xK (.int 0))) (aCons (xK (.int 0)) (aCons (xK (.int 0)) aNil)))) (aCons (xTup (aCons (xBin subD (xVar 0) (xK (.int 1))) (aCons (xK (.int 0)) (aCons (xK (.int 1)) aNil)))) (aCons (xTup (aCons (xBin subD (xVar 0) (xK (.int 2))) (aCons (xK (.int 1)) (aCons (xK (.int 1)) aNil)))) aNil))))) (gTp (gsCons (gNm 3) (gsCons (gNm 4) (gsCons (gNm 5) gsNil)))) (sAsg (xCall T c 17 (aCons (xVar 2) (aCons (xCall T c 18 (aCons (xTup (aCons (xVar 3) (aCons (xK (.int 1)) aNil))) (aCons (xCall T c 18 (aCons (xBin subD (xVar 1) (xVar 4)) (aCons (xBin subD (xVar 1) (xVar 5)) aNil))) aNil))) aNil))) (gNm 2))) (sRet (xVar 2))))
/-- _law_drawn(pen, ground); pen 0 ground 1 shift 2 rows 3 path 4 x 5 y 6 low_row 7 base 8 quarter 9 row 10 entry 11 -/
noncomputable def B_34 (c : Fn) : Fs := (sSeq (sAsg (xTup (aCons (xCall T c 19 (aCons (xVar 0) (aCons (xK (.int 0)) aNil))) (aCons (xCall T c 19 (aCons (xVar 0) (aCons (xK (.int 0)) aNil))) aNil))) (gNm 2)) (sSeq (sAsg (xCall T c 30 (aCons (xVar 1) (aCons (xCall T c 32 (aCons (xVar 0) (aCons (xK (.int 0)) aNil))) aNil))) (gNm 3)) (sSeq (sAsg (xCall T c 12 (aCons (xVar 0) (aCons (xK (.int 7)) aNil))) (gNm 4)) (sSeq (sIf (tOf (truD T c) (xBin (eqB T c false) (xVar 4) (xK (.int 0)))) (sRet (xTup (aCons (xTup (aCons (xTup (aCons (xTup (aCons (xK (.int 1)) (aCons (xK (.int 1)) aNil))) (aCons (xTup (aCons (xK (.int 0)) (aCons (xK (.int 1)) aNil))) aNil))) (aCons (xTup (aCons (xTup (aCons (xK (.int 0)) (aCons (xK (.int 1)) aNil))) (aCons (xTup (aCons (xK (.int 1)) (aCons (xK (.int 1)) aNil))) aNil))) aNil))) (aCons (xCall T c 13 (aCons (xVar 0) (aCons (xLst (aCons (xVar 2) (aCons (xTup (aCons (xTup (aCons (xK (.int 0)) (aCons (xK (.int 1)) aNil))) (aCons (xTup (aCons (xK (.int 0)) (aCons (xK (.int 1)) aNil))) aNil))) aNil))) aNil))) aNil)))) sNx) (sSeq (sIf (tOf (truD T c) (xBin (eqB T c false) (xVar 4) (xK (.int 1)))) (sAsg (xCall T c 24 (aCons (xVar 0) (aCons (xK (.int 0)) aNil))) (gNm 3)) sNx) (sSeq (sIf (tOf (truD T c) (xBin (inD false) (xVar 4) (xTup (aCons (xK (.int 2)) (aCons (xK (.int 3)) aNil))))) (sAsg (xCall T c 31 (aCons (xVar 3) (aCons (xCall T c 30 (aCons (xVar 1) (aCons (xCall T c 32 (aCons (xVar 0) (aCons (xK (.int 0)) aNil))) aNil))) aNil))) (gNm 3)) sNx) (sSeq (sIf (tOf (truD T c) (xBin (eqB T c false) (xVar 4) (xK (.int 4)))) (sSeq (sAsg (xCall T c 32 (aCons (xVar 0) (aCons (xK (.int 0)) aNil))) (gTp (gsCons (gNm 5) (gsCons (gNm 6) gsNil)))) (sSeq (sAsg (xTup (aCons (xTup (aCons (xBin (binD T c .Mult) (xBin subD (xVar 1) (xK (.int 0))) (xVar 6)) (aCons (xK (.int 1)) aNil))) (aCons (xTup (aCons (xBin (binD T c .Add) (xVar 5) (xBin (binD T c .Mult) (xBin subD (xVar 1) (xK (.int 1))) (xVar 6))) (aCons (xK (.int 1)) aNil))) aNil))) (gNm 7)) (sAsg (xCall T c 31 (aCons (xVar 3) (aCons (xTup (aCons (xTup (aCons (xTup (aCons (xVar 5) (aCons (xK (.int 1)) aNil))) (aCons (xTup (aCons (xBin (binD T c .Mult) (xUn (negD T c) (xBin subD (xVar 1) (xK (.int 2)))) (xVar 6)) (aCons (xK (.int 1)) aNil))) aNil))) (aCons (xVar 7) aNil))) aNil))) (gNm 3)))) sNx) (sSeq (sIf (tOf (truD T c) (xBin (eqB T c false) (xVar 4) (xK (.int 5)))) (sSeq (sAsg (xCall T c 24 (aCons (xVar 0) (aCons (xK (.int 0)) aNil))) (gNm 8)) (sSeq (sAsg (xCall T c 13 (aCons (xVar 0) (aCons (xLst (aCons (xTup (aCons (xTup (aCons (xK (.int 0)) (aCons (xUn (negD T c) (xK (.int 1))) aNil))) (aCons (xTup (aCons (xK (.int 1)) (aCons (xK (.int 0)) aNil))) aNil))) (aCons (xTup (aCons (xTup (aCons (xK (.int 0)) (aCons (xUn (negD T c) (xK (.int 1))) aNil))) (aCons (xTup (aCons (xK (.int 1)) (aCons (xUn (negD T c) (xK (.int 1))) aNil))) aNil))) (aCons (xTup (aCons (xTup (aCons (xK (.int 1)) (aCons (xUn (negD T c) (xK (.int 1))) aNil))) (aCons (xTup (aCons (xK (.int 1)) (aCons (xK (.int 0)) aNil))) aNil))) aNil)))) aNil))) (gNm 9)) (sSeq (sAsg (xBi bTuple (aCons (xLc (iSeq (xVar 9)) (gNm 10) tTrue (xBi bTuple (aCons (xLc (iSeq (xVar 10)) (gNm 11) tTrue (xTup (aCons (xVar 11) (aCons (xK (.int 1)) aNil))) [11]) aNil)) [10]) aNil)) (gNm 9)) (sAsg (xCall T c 31 (aCons (xCall T c 31 (aCons (xVar 8) (aCons (xVar 9) aNil))) (aCons (xCall T c 35 (aCons (xVar 8) aNil)) aNil))) (gNm 3))))) sNx) (sRet (xTup (aCons (xVar 3) (aCons (xVar 2) aNil))))))))))))
/-- _law_undone(rows); rows 0 factor 1 size 2 found 3 row 4 entry 5 -/
noncomputable def B_35 (c : Fn) : Fs := (sSeq (sAsg (xCall T c 25 (aCons (xVar 0) aNil)) (gNm 1)) (sSeq (sAsg (xTup (aCons (xBin subD (xVar 1) (xK (.int 1))) (aCons (xBin subD (xVar 1) (xK (.int 0))) aNil))) (gNm 2)) (sSeq (sAsg (xLst aNil) (gNm 3)) (sSeq (sFor (iSeq (xLst (aCons (xTup (aCons (xBin subD (xBin subD (xVar 0) (xK (.int 1))) (xK (.int 1))) (aCons (xCall T c 18 (aCons (xTup (aCons (xUn (negD T c) (xK (.int 1))) (aCons (xK (.int 1)) aNil))) (aCons (xBin subD (xBin subD (xVar 0) (xK (.int 0))) (xK (.int 1))) aNil))) aNil))) (aCons (xTup (aCons (xCall T c 18 (aCons (xTup (aCons (xUn (negD T c) (xK (.int 1))) (aCons (xK (.int 1)) aNil))) (aCons (xBin subD (xBin subD (xVar 0) (xK (.int 1))) (xK (.int 0))) aNil))) (aCons (xBin subD (xBin subD (xVar 0) (xK (.int 0))) (xK (.int 0))) aNil))) aNil)))) (gNm 4) (sExpr (xApp (xVar 3) (xBi bTuple (aCons (xLc (iSeq (xVar 4)) (gNm 5) tTrue (xCall T c 18 (aCons (xVar 2) (aCons (xVar 5) aNil))) [5]) aNil))))) (sRet (xBi bTuple (aCons (xVar 3) aNil)))))))
/-- _law_due_stretch(ground, rows); ground 0 rows 1 nought 2 ends 3 spot 4 length 5 -/
noncomputable def B_36 (c : Fn) : Fs := (sSeq (sPar 2 3 (aCons (xTup (aCons (xTup (aCons (xK (.int 0)) (aCons (xK (.int 1)) aNil))) (aCons (xTup (aCons (xK (.int 0)) (aCons (xK (.int 1)) aNil))) aNil))) (aCons (xLst aNil) aNil))) (sSeq (sFor (iSeq (xLst (aCons (xTup (aCons (xTup (aCons (xK (.int 1)) (aCons (xK (.int 1)) aNil))) (aCons (xTup (aCons (xK (.int 0)) (aCons (xK (.int 1)) aNil))) aNil))) (aCons (xTup (aCons (xTup (aCons (xK (.int 0)) (aCons (xK (.int 1)) aNil))) (aCons (xTup (aCons (xK (.int 1)) (aCons (xK (.int 1)) aNil))) aNil))) (aCons (xTup (aCons (xTup (aCons (xK (.int 1)) (aCons (xK (.int 1)) aNil))) (aCons (xTup (aCons (xK (.int 1)) (aCons (xK (.int 1)) aNil))) aNil))) aNil))))) (gNm 4) (sSeq (sAsg (xCall T c 33 (aCons (xVar 0) (aCons (xCall T c 26 (aCons (xVar 1) (aCons (xVar 2) (aCons (xVar 4) aNil)))) aNil))) (gNm 5)) (sExpr (xApp (xVar 3) (xCall T c 18 (aCons (xVar 5) (aCons (xTup (aCons (xK (.int 1)) (aCons (xBin subD (xCall T c 33 (aCons (xVar 0) (aCons (xVar 4) aNil))) (xK (.int 0))) aNil))) aNil))))))) (sRet (xIf (tChain (eqB T c false) (eqB T c false) (truD T c) (xBin subD (xVar 3) (xK (.int 0))) (xBin subD (xVar 3) (xK (.int 1))) (xBin subD (xVar 3) (xK (.int 2)))) (xBin subD (xVar 3) (xK (.int 0))) (xK .non)))))
/-- _law_due_kind(ground, rows, shift); ground 0 rows 1 shift 2 nought 3 -/
noncomputable def B_37 (c : Fn) : Fs := (sSeq (sAsg (xTup (aCons (xTup (aCons (xK (.int 0)) (aCons (xK (.int 1)) aNil))) (aCons (xTup (aCons (xK (.int 0)) (aCons (xK (.int 1)) aNil))) aNil))) (gNm 3)) (sSeq (sIf (tOf (truD T c) (xBin (eqB T c true) (xCall T c 36 (aCons (xVar 0) (aCons (xVar 1) aNil))) (xTup (aCons (xK (.int 1)) (aCons (xK (.int 1)) aNil))))) (sRet (xK .non)) sNx) (sSeq (sIf (tOf (truD T c) (xBin (eqB T c false) (xVar 1) (xTup (aCons (xTup (aCons (xTup (aCons (xK (.int 1)) (aCons (xK (.int 1)) aNil))) (aCons (xTup (aCons (xK (.int 0)) (aCons (xK (.int 1)) aNil))) aNil))) (aCons (xTup (aCons (xTup (aCons (xK (.int 0)) (aCons (xK (.int 1)) aNil))) (aCons (xTup (aCons (xK (.int 1)) (aCons (xK (.int 1)) aNil))) aNil))) aNil))))) (sRet (xIf (tOf (truD T c) (xBin (eqB T c false) (xVar 2) (xVar 3))) (xK (.str "rest")) (xK (.str "shift")))) sNx) (sSeq (sIf (tOf (truD T c) (xBin (eqB T c false) (xCall T c 25 (aCons (xVar 1) aNil)) (xTup (aCons (xK (.int 1)) (aCons (xK (.int 1)) aNil))))) (sRet (xK (.str "turn"))) sNx) (sRet (xIf (tOf (truD T c) (xBin (eqB T c false) (xCall T c 26 (aCons (xVar 1) (aCons (xVar 2) (aCons (xVar 2) aNil)))) (xVar 3))) (xK (.str "mirror")) (xK (.str "glide"))))))))
/-- _law_is_right(pen, ground, rows, shift); pen 0 ground 1 rows 2 shift 3 motion 4 floor 5 due 6 stretch 7 one 8 other 9 away 10 apart 11 wide 12 minus 13 kept 14 done 15 often 16 go 17 -/
noncomputable def B_38 (c : Fn) : Fs := (sSeq (sPar 4 5 (aCons (xCall T c 27 (aCons (xVar 0) (aCons (xVar 2) (aCons (xVar 3) aNil)))) (aCons (xMk T c 3 (aCons (xBin subD (xVar 1) (xK (.int 0))) (aCons (xBin subD (xVar 1) (xK (.int 1))) (aCons (xBin subD (xVar 1) (xK (.int 2))) aNil)))) aNil))) (sSeq (sPar 6 7 (aCons (xCall T c 36 (aCons (xVar 1) (aCons (xVar 2) aNil))) (aCons (xMethW T c 58 (xVar 4) (aCons (xVar 5) aNil)) aNil))) (sSeq (sIf (tOr (tOf (truD T c) (xBin (eqB T c true) (xBin (isNo false) (xVar 7) (xK .non)) (xBin (isNo false) (xVar 6) (xK .non)))) (tAnd (tOf (truD T c) (xBin (isNo true) (xVar 7) (xK .non))) (tOf (truD T c) (xBin (eqB T c true) (xCall T c 20 (aCons (xVar 7) aNil)) (xVar 6))))) (sRet (xK (.bl false))) sNx) (sSeq (sIf (tOf (truD T c) (xBin (eqB T c true) (xMethW T c 52 (xVar 4) (aCons (xVar 5) aNil)) (xCall T c 37 (aCons (xVar 1) (aCons (xVar 2) (aCons (xVar 3) aNil)))))) (sRet (xK (.bl false))) sNx) (sSeq (sPar 8 9 (aCons (xTup (aCons (xCall T c 19 (aCons (xVar 0) (aCons (xK (.int 0)) aNil))) (aCons (xCall T c 19 (aCons (xVar 0) (aCons (xK (.int 0)) aNil))) aNil))) (aCons (xTup (aCons (xCall T c 19 (aCons (xVar 0) (aCons (xK (.int 0)) aNil))) (aCons (xCall T c 19 (aCons (xVar 0) (aCons (xK (.int 0)) aNil))) aNil))) aNil))) (sSeq (sAsg (xCall T c 23 (aCons (xBin (binD T c .Sub) (xCallI T c (xVar 4) (aCons (xCall T c 22 (aCons (xVar 0) (aCons (xVar 8) aNil))) aNil)) (xCallI T c (xVar 4) (aCons (xCall T c 22 (aCons (xVar 0) (aCons (xVar 9) aNil))) aNil))) aNil)) (gNm 10)) (sSeq (sAsg (xCall T c 23 (aCons (xBin (binD T c .Sub) (xCall T c 22 (aCons (xVar 0) (aCons (xVar 8) aNil))) (xCall T c 22 (aCons (xVar 0) (aCons (xVar 9) aNil)))) aNil)) (gNm 11)) (sSeq (sAsg (xCall T c 33 (aCons (xVar 1) (aCons (xVar 10) aNil))) (gNm 12)) (sSeq (sIf (tAnd (tOf (truD T c) (xBin (isNo true) (xVar 6) (xK .non))) (tOf (truD T c) (xBin (eqB T c true) (xVar 12) (xCall T c 18 (aCons (xVar 6) (aCons (xCall T c 33 (aCons (xVar 1) (aCons (xVar 11) aNil))) aNil)))))) (sRet (xK (.bl false))) sNx) (sSeq (sAsg (xCall T c 18 (aCons (xCall T c 17 (aCons (xBin subD (xBin subD (xVar 2) (xK (.int 0))) (xK (.int 0))) (aCons (xTup (aCons (xUn (negD T c) (xK (.int 1))) (aCons (xK (.int 1)) aNil))) aNil))) (aCons (xCall T c 17 (aCons (xBin subD (xBin subD (xVar 2) (xK (.int 1))) (xK (.int 1))) (aCons (xTup (aCons (xUn (negD T c) (xK (.int 1))) (aCons (xK (.int 1)) aNil))) aNil))) aNil))) (gNm 13)) (sSeq (sAsg (xCall T c 17 (aCons (xVar 13) (aCons (xCall T c 18 (aCons (xTup (aCons (xUn (negD T c) (xK (.int 1))) (aCons (xK (.int 1)) aNil))) (aCons (xCall T c 18 (aCons (xBin subD (xBin subD (xVar 2) (xK (.int 0))) (xK (.int 1))) (aCons (xBin subD (xBin subD (xVar 2) (xK (.int 1))) (xK (.int 0))) aNil))) aNil))) aNil))) (gNm 13)) (sSeq (sAsg (xMethW T c 51 (xVar 4) aNil) (gNm 14)) (sSeq (sIf (tOr (tOf (truD T c) (xBin (eqB T c true) (xBin (isNo false) (xVar 14) (xK .non)) (xBin (eqB T c false) (xBin subD (xVar 13) (xK (.int 0))) (xK (.int 0))))) (tAnd (tOf (truD T c) (xBin (isNo true) (xVar 14) (xK .non))) (tOf (truD T c) (xBin (eqB T c true) (xCallI T c (xVar 4) (aCons (xVar 14) aNil)) (xVar 14))))) (sRet (xK (.bl false))) sNx) (sSeq (sPar 15 16 (aCons (xCall T c 10 (aCons (xMk T c 1 (aCons (xK (.int 0)) (aCons (xK (.int 0)) aNil))) aNil)) (aCons (xK .non) aNil))) (sSeq (sFor (iRng (aCons (xK (.int 1)) (aCons (xK (.int 7)) aNil))) (gNm 17) (sSeq (sAsg (xBin (binD T c .Mult) (xVar 15) (xVar 4)) (gNm 15)) (sIf (tAnd (tOf (truD T c) (xBin (isNo false) (xVar 16) (xK .non))) (tOf (truD T c) (xBin (eqB T c false) (xVar 15) (xCall T c 10 (aCons (xMk T c 1 (aCons (xK (.int 0)) (aCons (xK (.int 0)) aNil))) aNil))))) (sAsg (xVar 17) (gNm 16)) sNx))) (sRet (xBin (eqB T c false) (xMethW T c 54 (xVar 4) aNil) (xVar 16))))))))))))))))))
/-- law(script); script 0 pen 1 lap 2 ground 3 rows 4 shift 5 spot 6 back 7 centred 8 k 9 -/
noncomputable def B_39 (c : Fn) : Fs := (sSeq (sAsg (xCall T c 11 (aCons (xVar 0) aNil)) (gNm 1)) (sSeq (sFor (iRng (aCons (xBin (binD T c .Add) (xK (.int 3)) (xBi bMin (aCons (xK (.int 4)) (aCons (xBi bLen (aCons (xVar 0) aNil)) aNil)))) aNil)) (gNm 2) (sSeq (sAsg (xCall T c 28 (aCons (xVar 1) (aCons (xK (.bl false)) aNil))) (gNm 3)) (sSeq (sAsg (xCall T c 34 (aCons (xVar 1) (aCons (xVar 3) aNil))) (gTp (gsCons (gNm 4) (gsCons (gNm 5) gsNil)))) (sSeq (sIf (tNot (tOf (truD T c) (xCall T c 38 (aCons (xVar 1) (aCons (xVar 3) (aCons (xVar 4) (aCons (xVar 5) aNil))))))) (sRet (xK (.bl false))) sNx) (sIf (tOf (truD T c) (xBin (eqB T c false) (xCall T c 12 (aCons (xVar 1) (aCons (xK (.int 2)) aNil))) (xK (.int 0)))) (sSeq (sAsg (xTup (aCons (xCall T c 19 (aCons (xVar 1) (aCons (xK (.int 0)) aNil))) (aCons (xCall T c 19 (aCons (xVar 1) (aCons (xK (.int 0)) aNil))) aNil))) (gNm 6)) (sSeq (sAsg (xCall T c 26 (aCons (xVar 4) (aCons (xTup (aCons (xTup (aCons (xK (.int 0)) (aCons (xK (.int 1)) aNil))) (aCons (xTup (aCons (xK (.int 0)) (aCons (xK (.int 1)) aNil))) aNil))) (aCons (xVar 6) aNil)))) (gNm 7)) (sSeq (sAsg (xLc (iRng (aCons (xK (.int 2)) aNil)) (gNm 9) tTrue (xCall T c 17 (aCons (xBin subD (xVar 6) (xVar 9)) (aCons (xCall T c 18 (aCons (xTup (aCons (xUn (negD T c) (xK (.int 1))) (aCons (xK (.int 1)) aNil))) (aCons (xBin subD (xVar 7) (xVar 9)) aNil))) aNil))) [9]) (gNm 8)) (sIf (tNot (tOf (truD T c) (xCall T c 38 (aCons (xVar 1) (aCons (xVar 3) (aCons (xVar 4) (aCons (xTup (aCons (xBin subD (xVar 8) (xK (.int 0))) (aCons (xBin subD (xVar 8) (xK (.int 1))) aNil))) aNil))))))) (sRet (xK (.bl false))) sNx)))) sNx))))) (sRet (xK (.bl true)))))
/-- Ratio.__init__(self, top, bottom); self 0 top 1 bottom 2 value 3 common 4 -/
noncomputable def B_40 (c : Fn) : Fs := (sSeq (sFor (iSeq (xTup (aCons (xVar 1) (aCons (xVar 2) aNil)))) (gNm 3) (sIf (tOr (tNot (tOf (truD T c) (xIst T "int" (xVar 3)))) (tOf (truD T c) (xIst T "bool" (xVar 3)))) sNo sNx)) (sSeq (sIf (tOf (truD T c) (xBin (eqB T c false) (xVar 2) (xK (.int 0)))) sNo sNx) (sSeq (sAsg (xCall T c 1 (aCons (xVar 1) (aCons (xVar 2) aNil))) (gNm 4)) (sSeq (sIf (tOf (truD T c) (xBin (ordD T c .Lt) (xVar 2) (xK (.int 0)))) (sAsg (xUn (negD T c) (xVar 4)) (gNm 4)) sNx) (sSeq (sFldD T 40 (xVar 0) (xBin (binD T c .FloorDiv) (xVar 1) (xVar 4))) (sFldD T 41 (xVar 0) (xBin (binD T c .FloorDiv) (xVar 2) (xVar 4))))))))
/-- Ratio.__eq__(self, other); self 0 other 1 -/
noncomputable def B_41 (c : Fn) : Fs := (sSeq (sIf (tNot (tOf (truD T c) (xCall T c 0 (aCons (xVar 1) aNil)))) (sRet (xK (.bl false))) sNx) (sSeq (sAsg (xCall T c 3 (aCons (xVar 1) aNil)) (gNm 1)) (sRet (xAnd (truD T c) (xBin (eqB T c false) (xFld T c 40 (xVar 0)) (xFld T c 40 (xVar 1))) (xBin (eqB T c false) (xFld T c 41 (xVar 0)) (xFld T c 41 (xVar 1)))))))
/-- Ratio.__lt__(self, other); self 0 other 1 -/
noncomputable def B_42 (c : Fn) : Fs := (sSeq (sIf (tNot (tOf (truD T c) (xCall T c 0 (aCons (xVar 1) aNil)))) sNo sNx) (sSeq (sAsg (xCall T c 3 (aCons (xVar 1) aNil)) (gNm 1)) (sRet (xBin (ordD T c .Lt) (xBin (binD T c .Mult) (xFld T c 40 (xVar 0)) (xFld T c 41 (xVar 1))) (xBin (binD T c .Mult) (xFld T c 40 (xVar 1)) (xFld T c 41 (xVar 0)))))))
/-- Ratio.__le__(self, other); self 0 other 1 -/
noncomputable def B_43 (c : Fn) : Fs := (sSeq (sIf (tNot (tOf (truD T c) (xCall T c 0 (aCons (xVar 1) aNil)))) sNo sNx) (sSeq (sAsg (xCall T c 3 (aCons (xVar 1) aNil)) (gNm 1)) (sRet (xBin (ordD T c .LtE) (xBin (binD T c .Mult) (xFld T c 40 (xVar 0)) (xFld T c 41 (xVar 1))) (xBin (binD T c .Mult) (xFld T c 40 (xVar 1)) (xFld T c 41 (xVar 0)))))))
/-- Ratio.__gt__(self, other); self 0 other 1 -/
noncomputable def B_44 (c : Fn) : Fs := (sSeq (sIf (tNot (tOf (truD T c) (xCall T c 0 (aCons (xVar 1) aNil)))) sNo sNx) (sSeq (sAsg (xCall T c 3 (aCons (xVar 1) aNil)) (gNm 1)) (sRet (xBin (ordD T c .Gt) (xBin (binD T c .Mult) (xFld T c 40 (xVar 0)) (xFld T c 41 (xVar 1))) (xBin (binD T c .Mult) (xFld T c 40 (xVar 1)) (xFld T c 41 (xVar 0)))))))
/-- Ratio.__ge__(self, other); self 0 other 1 -/
noncomputable def B_45 (c : Fn) : Fs := (sSeq (sIf (tNot (tOf (truD T c) (xCall T c 0 (aCons (xVar 1) aNil)))) sNo sNx) (sSeq (sAsg (xCall T c 3 (aCons (xVar 1) aNil)) (gNm 1)) (sRet (xBin (ordD T c .GtE) (xBin (binD T c .Mult) (xFld T c 40 (xVar 0)) (xFld T c 41 (xVar 1))) (xBin (binD T c .Mult) (xFld T c 40 (xVar 1)) (xFld T c 41 (xVar 0)))))))
/-- Ratio.__add__(self, other); self 0 other 1 -/
noncomputable def B_46 (c : Fn) : Fs := (sSeq (sIf (tNot (tOf (truD T c) (xCall T c 0 (aCons (xVar 1) aNil)))) sNo sNx) (sSeq (sAsg (xCall T c 3 (aCons (xVar 1) aNil)) (gNm 1)) (sRet (xMk T c 0 (aCons (xBin (binD T c .Add) (xBin (binD T c .Mult) (xFld T c 40 (xVar 0)) (xFld T c 41 (xVar 1))) (xBin (binD T c .Mult) (xFld T c 40 (xVar 1)) (xFld T c 41 (xVar 0)))) (aCons (xBin (binD T c .Mult) (xFld T c 41 (xVar 0)) (xFld T c 41 (xVar 1))) aNil))))))
/-- Ratio.__radd__(self, other); self 0 other 1 -/
noncomputable def B_47 (c : Fn) : Fs := (sSeq (sIf (tNot (tOf (truD T c) (xCall T c 0 (aCons (xVar 1) aNil)))) sNo sNx) (sRet (xMk T c 0 (aCons (xBin (binD T c .Add) (xFld T c 40 (xVar 0)) (xBin (binD T c .Mult) (xVar 1) (xFld T c 41 (xVar 0)))) (aCons (xFld T c 41 (xVar 0)) aNil)))))
/-- Ratio.__sub__(self, other); self 0 other 1 -/
noncomputable def B_48 (c : Fn) : Fs := (sSeq (sIf (tNot (tOf (truD T c) (xCall T c 0 (aCons (xVar 1) aNil)))) sNo sNx) (sSeq (sAsg (xCall T c 3 (aCons (xVar 1) aNil)) (gNm 1)) (sRet (xMk T c 0 (aCons (xBin (binD T c .Sub) (xBin (binD T c .Mult) (xFld T c 40 (xVar 0)) (xFld T c 41 (xVar 1))) (xBin (binD T c .Mult) (xFld T c 40 (xVar 1)) (xFld T c 41 (xVar 0)))) (aCons (xBin (binD T c .Mult) (xFld T c 41 (xVar 0)) (xFld T c 41 (xVar 1))) aNil))))))
/-- Ratio.__rsub__(self, other); self 0 other 1 -/
noncomputable def B_49 (c : Fn) : Fs := (sSeq (sIf (tNot (tOf (truD T c) (xCall T c 0 (aCons (xVar 1) aNil)))) sNo sNx) (sRet (xMk T c 0 (aCons (xBin (binD T c .Sub) (xBin (binD T c .Mult) (xVar 1) (xFld T c 41 (xVar 0))) (xFld T c 40 (xVar 0))) (aCons (xFld T c 41 (xVar 0)) aNil)))))
/-- Ratio.__mul__(self, other); self 0 other 1 -/
noncomputable def B_50 (c : Fn) : Fs := (sSeq (sIf (tNot (tOf (truD T c) (xCall T c 0 (aCons (xVar 1) aNil)))) sNo sNx) (sSeq (sAsg (xCall T c 3 (aCons (xVar 1) aNil)) (gNm 1)) (sRet (xMk T c 0 (aCons (xBin (binD T c .Mult) (xFld T c 40 (xVar 0)) (xFld T c 40 (xVar 1))) (aCons (xBin (binD T c .Mult) (xFld T c 41 (xVar 0)) (xFld T c 41 (xVar 1))) aNil))))))
/-- Ratio.__rmul__(self, other); self 0 other 1 -/
noncomputable def B_51 (c : Fn) : Fs := (sSeq (sIf (tNot (tOf (truD T c) (xCall T c 0 (aCons (xVar 1) aNil)))) sNo sNx) (sRet (xMk T c 0 (aCons (xBin (binD T c .Mult) (xVar 1) (xFld T c 40 (xVar 0))) (aCons (xFld T c 41 (xVar 0)) aNil)))))
/-- Ratio.__floordiv__(self, other); self 0 other 1 -/
noncomputable def B_52 (c : Fn) : Fs := (sSeq (sIf (tNot (tOf (truD T c) (xCall T c 0 (aCons (xVar 1) aNil)))) sNo sNx) (sRet (xMethW T c 50 (xMethW T c 55 (xVar 0) (aCons (xVar 1) aNil)) aNil)))
/-- Ratio.__rfloordiv__(self, other); self 0 other 1 -/
noncomputable def B_53 (c : Fn) : Fs := (sSeq (sIf (tNot (tOf (truD T c) (xCall T c 0 (aCons (xVar 1) aNil)))) sNo sNx) (sRet (xMethW T c 50 (xMethW T c 55 (xCall T c 3 (aCons (xVar 1) aNil)) (aCons (xVar 0) aNil)) aNil)))
/-- Ratio.__mod__(self, other); self 0 other 1 times 2 -/
noncomputable def B_54 (c : Fn) : Fs := (sSeq (sIf (tNot (tOf (truD T c) (xCall T c 0 (aCons (xVar 1) aNil)))) sNo sNx) (sSeq (sAsg (xMethW T c 50 (xMethW T c 55 (xVar 0) (aCons (xVar 1) aNil)) aNil) (gNm 2)) (sRet (xBin (binD T c .Sub) (xVar 0) (xBin (binD T c .Mult) (xVar 2) (xCall T c 3 (aCons (xVar 1) aNil)))))))
/-- Ratio.__rmod__(self, other); self 0 other 1 times 2 -/
noncomputable def B_55 (c : Fn) : Fs := (sSeq (sIf (tNot (tOf (truD T c) (xCall T c 0 (aCons (xVar 1) aNil)))) sNo sNx) (sSeq (sAsg (xMethW T c 50 (xMethW T c 55 (xCall T c 3 (aCons (xVar 1) aNil)) (aCons (xVar 0) aNil)) aNil) (gNm 2)) (sRet (xBin (binD T c .Sub) (xVar 1) (xBin (binD T c .Mult) (xVar 2) (xVar 0))))))
/-- Ratio.__pow__(self, other); self 0 other 1 -/
noncomputable def B_56 (c : Fn) : Fs := (sSeq (sIf (tOr (tNot (tOf (truD T c) (xIst T "int" (xVar 1)))) (tOf (truD T c) (xIst T "bool" (xVar 1)))) sNo sNx) (sRet (xMk T c 0 (aCons (xCall T c 2 (aCons (xFld T c 40 (xVar 0)) (aCons (xVar 1) aNil))) (aCons (xCall T c 2 (aCons (xFld T c 41 (xVar 0)) (aCons (xVar 1) aNil))) aNil)))))
/-- Ratio.__neg__(self); self 0 -/
noncomputable def B_57 (c : Fn) : Fs := (sRet (xMk T c 0 (aCons (xUn (negD T c) (xFld T c 40 (xVar 0))) (aCons (xFld T c 41 (xVar 0)) aNil))))
/-- Ratio.__abs__(self); self 0 -/
noncomputable def B_58 (c : Fn) : Fs := (sRet (xMk T c 0 (aCons (xBi bAbs (aCons (xFld T c 40 (xVar 0)) aNil)) (aCons (xFld T c 41 (xVar 0)) aNil))))
/-- Ratio.__bool__(self); self 0 -/
noncomputable def B_59 (c : Fn) : Fs := (sRet (xBi (bBool T c) (aCons (xFld T c 40 (xVar 0)) aNil)))
/-- Ratio.over(self, number); self 0 number 1 other 2 -/
noncomputable def B_60 (c : Fn) : Fs := (sSeq (sAsg (xCall T c 3 (aCons (xVar 1) aNil)) (gNm 2)) (sSeq (sIf (tOf (truD T c) (xBin (eqB T c false) (xFld T c 40 (xVar 2)) (xK (.int 0)))) sNo sNx) (sRet (xMk T c 0 (aCons (xBin (binD T c .Mult) (xFld T c 40 (xVar 0)) (xFld T c 41 (xVar 2))) (aCons (xBin (binD T c .Mult) (xFld T c 41 (xVar 0)) (xFld T c 40 (xVar 2))) aNil))))))
/-- Ratio.floor(self); self 0 -/
noncomputable def B_61 (c : Fn) : Fs := (sRet (xBin (binD T c .FloorDiv) (xFld T c 40 (xVar 0)) (xFld T c 41 (xVar 0))))
/-- Point.__init__(self, x, y); self 0 x 1 y 2 -/
noncomputable def B_62 (c : Fn) : Fs := (sSeq (sFldD T 42 (xVar 0) (xCall T c 3 (aCons (xVar 1) aNil))) (sFldD T 43 (xVar 0) (xCall T c 3 (aCons (xVar 2) aNil))))
/-- Point.__eq__(self, other); self 0 other 1 -/
noncomputable def B_63 (c : Fn) : Fs := (sRet (xAnd (truD T c) (xIso T 1 (xVar 1)) (xAnd (truD T c) (xBin (eqB T c false) (xFld T c 42 (xVar 0)) (xFld T c 42 (xVar 1))) (xBin (eqB T c false) (xFld T c 43 (xVar 0)) (xFld T c 43 (xVar 1))))))
/-- Point.__add__(self, other); self 0 other 1 -/
noncomputable def B_64 (c : Fn) : Fs := (sSeq (sIf (tNot (tOf (truD T c) (xIso T 1 (xVar 1)))) sNo sNx) (sRet (xMk T c 1 (aCons (xBin (binD T c .Add) (xFld T c 42 (xVar 0)) (xFld T c 42 (xVar 1))) (aCons (xBin (binD T c .Add) (xFld T c 43 (xVar 0)) (xFld T c 43 (xVar 1))) aNil)))))
/-- Point.__sub__(self, other); self 0 other 1 -/
noncomputable def B_65 (c : Fn) : Fs := (sSeq (sIf (tNot (tOf (truD T c) (xIso T 1 (xVar 1)))) sNo sNx) (sRet (xMk T c 1 (aCons (xBin (binD T c .Sub) (xFld T c 42 (xVar 0)) (xFld T c 42 (xVar 1))) (aCons (xBin (binD T c .Sub) (xFld T c 43 (xVar 0)) (xFld T c 43 (xVar 1))) aNil)))))
/-- Point.__mul__(self, other); self 0 other 1 -/
noncomputable def B_66 (c : Fn) : Fs := (sSeq (sIf (tNot (tOf (truD T c) (xCall T c 0 (aCons (xVar 1) aNil)))) sNo sNx) (sRet (xMk T c 1 (aCons (xBin (binD T c .Mult) (xFld T c 42 (xVar 0)) (xVar 1)) (aCons (xBin (binD T c .Mult) (xFld T c 43 (xVar 0)) (xVar 1)) aNil)))))
/-- Point.__rmul__(self, other); self 0 other 1 -/
noncomputable def B_67 (c : Fn) : Fs := (sSeq (sIf (tNot (tOf (truD T c) (xCall T c 0 (aCons (xVar 1) aNil)))) sNo sNx) (sRet (xMk T c 1 (aCons (xBin (binD T c .Mult) (xFld T c 42 (xVar 0)) (xVar 1)) (aCons (xBin (binD T c .Mult) (xFld T c 43 (xVar 0)) (xVar 1)) aNil)))))
/-- Point.__neg__(self); self 0 -/
noncomputable def B_68 (c : Fn) : Fs := (sRet (xMk T c 1 (aCons (xUn (negD T c) (xFld T c 42 (xVar 0))) (aCons (xUn (negD T c) (xFld T c 43 (xVar 0))) aNil))))
/-- Point.__bool__(self); self 0 -/
noncomputable def B_69 (c : Fn) : Fs := (sRet (xOr (truD T c) (xBi (bBool T c) (aCons (xFld T c 42 (xVar 0)) aNil)) (xBi (bBool T c) (aCons (xFld T c 43 (xVar 0)) aNil))))
/-- Motion.__init__(self, table, shift); self 0 table 1 shift 2 -/
noncomputable def B_70 (c : Fn) : Fs := (sSeq (sFldD T 44 (xVar 0) (xCall T c 5 (aCons (xVar 1) aNil))) (sSeq (sIf (tOf (truD T c) (xBin (eqB T c false) (xCall T c 6 (aCons (xFld T c 44 (xVar 0)) aNil)) (xK (.int 0)))) sNo sNx) (sFldD T 45 (xVar 0) (xIf (tOf (truD T c) (xBin (isNo false) (xVar 2) (xK .non))) (xMk T c 1 (aCons (xK (.int 0)) (aCons (xK (.int 0)) aNil))) (xVar 2)))))
/-- Motion.__eq__(self, other); self 0 other 1 -/
noncomputable def B_71 (c : Fn) : Fs := (sRet (xAnd (truD T c) (xIso T 2 (xVar 1)) (xAnd (truD T c) (xBin (eqB T c false) (xFld T c 44 (xVar 0)) (xFld T c 44 (xVar 1))) (xBin (eqB T c false) (xFld T c 45 (xVar 0)) (xFld T c 45 (xVar 1))))))
/-- Motion.__call__(self, point); self 0 point 1 -/
noncomputable def B_72 (c : Fn) : Fs := (sRet (xCall T c 8 (aCons (xFld T c 44 (xVar 0)) (aCons (xFld T c 45 (xVar 0)) (aCons (xVar 1) aNil)))))
/-- Motion.__mul__(self, other); self 0 other 1 -/
noncomputable def B_73 (c : Fn) : Fs := (sRet (xMk T c 2 (aCons (xCall T c 7 (aCons (xFld T c 44 (xVar 0)) (aCons (xFld T c 44 (xVar 1)) aNil))) (aCons (xCall T c 8 (aCons (xFld T c 44 (xVar 0)) (aCons (xFld T c 45 (xVar 0)) (aCons (xFld T c 45 (xVar 1)) aNil)))) aNil))))
/-- Motion.__invert__(self); self 0 factor 1 a 2 b 3 c 4 d 5 table 6 -/
noncomputable def B_74 (c : Fn) : Fs := (sSeq (sAsg (xCall T c 6 (aCons (xFld T c 44 (xVar 0)) aNil)) (gNm 1)) (sSeq (sAsg (xFld T c 44 (xVar 0)) (gTp (gsCons (gTp (gsCons (gNm 2) (gsCons (gNm 3) gsNil))) (gsCons (gTp (gsCons (gNm 4) (gsCons (gNm 5) gsNil))) gsNil)))) (sSeq (sAsg (xTup (aCons (xTup (aCons (xMethW T c 55 (xVar 5) (aCons (xVar 1) aNil)) (aCons (xMethW T c 55 (xUn (negD T c) (xVar 3)) (aCons (xVar 1) aNil)) aNil))) (aCons (xTup (aCons (xMethW T c 55 (xUn (negD T c) (xVar 4)) (aCons (xVar 1) aNil)) (aCons (xMethW T c 55 (xVar 2) (aCons (xVar 1) aNil)) aNil))) aNil))) (gNm 6)) (sRet (xMk T c 2 (aCons (xVar 6) (aCons (xUn (negD T c) (xCall T c 8 (aCons (xVar 6) (aCons (xMk T c 1 (aCons (xK (.int 0)) (aCons (xK (.int 0)) aNil))) (aCons (xFld T c 45 (xVar 0)) aNil))))) aNil)))))))
/-- Motion.power(self, number); self 0 number 1 base 2 found 3 left 4 -/
noncomputable def B_75 (c : Fn) : Fs := (sSeq (sIf (tOr (tNot (tOf (truD T c) (xCall T c 4 (aCons (xVar 1) aNil)))) (tNot (tChain (ordD T c .LtE) (ordD T c .LtE) (truD T c) (xUn (negD T c) (xK (.int 1000))) (xVar 1) (xK (.int 1000))))) sNo sNx) (sSeq (sAsg (xIf (tOf (truD T c) (xBin (ordD T c .GtE) (xVar 1) (xK (.int 0)))) (xVar 0) (xUn (invD T c) (xVar 0))) (gNm 2)) (sSeq (sPar 3 4 (aCons (xCall T c 9 aNil) (aCons (xBi bAbs (aCons (xVar 1) aNil)) aNil))) (sSeq (sWhile (tOf (truD T c) (xBin (ordD T c .Gt) (xVar 4) (xK (.int 0)))) (sSeq (sIf (tOf (truD T c) (xBin (eqB T c false) (xBin (binD T c .Mod) (xVar 4) (xK (.int 2))) (xK (.int 1)))) (sAsg (xBin (binD T c .Mult) (xVar 3) (xVar 2)) (gNm 3)) sNx) (sPar 2 4 (aCons (xBin (binD T c .Mult) (xVar 2) (xVar 2)) (aCons (xBin (binD T c .FloorDiv) (xVar 4) (xK (.int 2))) aNil))))) (sRet (xVar 3))))))
/-- Motion.factor(self); self 0 -/
noncomputable def B_76 (c : Fn) : Fs := (sRet (xCall T c 6 (aCons (xFld T c 44 (xVar 0)) aNil)))
/-- Motion.stretch(self, ground); self 0 ground 1 ends 2 found 3 -/
noncomputable def B_77 (c : Fn) : Fs := (sSeq (sAsg (xLst (aCons (xCall T c 8 (aCons (xFld T c 44 (xVar 0)) (aCons (xMk T c 1 (aCons (xK (.int 0)) (aCons (xK (.int 0)) aNil))) (aCons (xMk T c 1 (aCons (xK (.int 1)) (aCons (xK (.int 0)) aNil))) aNil)))) (aCons (xCall T c 8 (aCons (xFld T c 44 (xVar 0)) (aCons (xMk T c 1 (aCons (xK (.int 0)) (aCons (xK (.int 0)) aNil))) (aCons (xMk T c 1 (aCons (xK (.int 0)) (aCons (xK (.int 1)) aNil))) aNil)))) aNil))) (gNm 2)) (sSeq (sAsg (xMethW T c 55 (xMethW T c 53 (xVar 1) (aCons (xBin subD (xVar 2) (xK (.int 0))) aNil)) (aCons (xFld T c 46 (xVar 1)) aNil)) (gNm 3)) (sSeq (sIf (tOr (tOf (truD T c) (xBin (eqB T c true) (xMethW T c 53 (xVar 1) (aCons (xBin subD (xVar 2) (xK (.int 1))) aNil)) (xBin (binD T c .Mult) (xVar 3) (xFld T c 48 (xVar 1))))) (tOf (truD T c) (xBin (eqB T c true) (xMethW T c 56 (xVar 1) (aCons (xBin subD (xVar 2) (xK (.int 0))) (aCons (xBin subD (xVar 2) (xK (.int 1))) aNil))) (xBin (binD T c .Mult) (xVar 3) (xFld T c 47 (xVar 1)))))) (sRet (xK .non)) sNx) (sRet (xVar 3)))))
/-- Motion.kind(self, ground); self 0 ground 1 there 2 -/
noncomputable def B_78 (c : Fn) : Fs := (sSeq (sIf (tOf (truD T c) (xBin (eqB T c true) (xMethW T c 58 (xVar 0) (aCons (xVar 1) aNil)) (xK (.int 1)))) (sRet (xK .non)) sNx) (sSeq (sIf (tOf (truD T c) (xBin (eqB T c false) (xFld T c 44 (xVar 0)) (xFld T c 44 (xCall T c 9 aNil)))) (sRet (xIf (tOf (truD T c) (xFld T c 45 (xVar 0))) (xK (.str "shift")) (xK (.str "rest")))) sNx) (sSeq (sIf (tOf (truD T c) (xBin (eqB T c false) (xMethW T c 49 (xVar 0) aNil) (xK (.int 1)))) (sRet (xK (.str "turn"))) sNx) (sSeq (sAsg (xCall T c 8 (aCons (xFld T c 44 (xVar 0)) (aCons (xMk T c 1 (aCons (xK (.int 0)) (aCons (xK (.int 0)) aNil))) (aCons (xFld T c 45 (xVar 0)) aNil)))) (gNm 2)) (sRet (xIf (tOf (truD T c) (xBin (binD T c .Add) (xVar 2) (xFld T c 45 (xVar 0)))) (xK (.str "glide")) (xK (.str "mirror"))))))))
/-- Motion.kept(self); self 0 a 1 b 2 c 3 d 4 factor 5 -/
noncomputable def B_79 (c : Fn) : Fs := (sSeq (sAsg (xFld T c 44 (xVar 0)) (gTp (gsCons (gTp (gsCons (gNm 1) (gsCons (gNm 2) gsNil))) (gsCons (gTp (gsCons (gNm 3) (gsCons (gNm 4) gsNil))) gsNil)))) (sSeq (sAsg (xBin (binD T c .Sub) (xBin (binD T c .Mult) (xBin (binD T c .Sub) (xVar 1) (xK (.int 1))) (xBin (binD T c .Sub) (xVar 4) (xK (.int 1)))) (xBin (binD T c .Mult) (xVar 2) (xVar 3))) (gNm 5)) (sSeq (sIf (tOf (truD T c) (xBin (eqB T c false) (xVar 5) (xK (.int 0)))) (sRet (xK .non)) sNx) (sRet (xMk T c 1 (aCons (xMethW T c 55 (xBin (binD T c .Sub) (xBin (binD T c .Mult) (xVar 2) (xFld T c 43 (xFld T c 45 (xVar 0)))) (xBin (binD T c .Mult) (xBin (binD T c .Sub) (xVar 4) (xK (.int 1))) (xFld T c 42 (xFld T c 45 (xVar 0))))) (aCons (xVar 5) aNil)) (aCons (xMethW T c 55 (xBin (binD T c .Sub) (xBin (binD T c .Mult) (xVar 3) (xFld T c 42 (xFld T c 45 (xVar 0)))) (xBin (binD T c .Mult) (xBin (binD T c .Sub) (xVar 1) (xK (.int 1))) (xFld T c 43 (xFld T c 45 (xVar 0))))) (aCons (xVar 5) aNil)) aNil)))))))
/-- Motion.order(self); self 0 number 1 -/
noncomputable def B_80 (c : Fn) : Fs := (sSeq (sFor (iSeq (xK (.tup (([1, 2, 3, 4, 6] : List Int).map D.int)))) (gNm 1) (sIf (tOf (truD T c) (xBin (eqB T c false) (xMethW T c 57 (xVar 0) (aCons (xVar 1) aNil)) (xCall T c 9 aNil))) (sRet (xVar 1)) sNx)) (sRet (xK .non)))
/-- Ground.__init__(self, a, b, c); self 0 a 1 b 2 c 3 value 4 -/
noncomputable def B_81 (c : Fn) : Fs := (sSeq (sFor (iSeq (xTup (aCons (xVar 1) (aCons (xVar 2) (aCons (xVar 3) aNil))))) (gNm 4) (sIf (tOr (tNot (tOf (truD T c) (xIst T "int" (xVar 4)))) (tOf (truD T c) (xIst T "bool" (xVar 4)))) sNo sNx)) (sSeq (sIf (tOr (tOf (truD T c) (xBin (ordD T c .LtE) (xVar 1) (xK (.int 0)))) (tOf (truD T c) (xBin (ordD T c .LtE) (xBin (binD T c .Mult) (xBin (binD T c .Mult) (xK (.int 4)) (xVar 1)) (xVar 3)) (xBin (binD T c .Mult) (xVar 2) (xVar 2))))) sNo sNx) (sSeq (sFldD T 46 (xVar 0) (xVar 1)) (sSeq (sFldD T 47 (xVar 0) (xVar 2)) (sFldD T 48 (xVar 0) (xVar 3))))))
/-- Ground.__eq__(self, other); self 0 other 1 -/
noncomputable def B_82 (c : Fn) : Fs := (sRet (xAnd (truD T c) (xIso T 3 (xVar 1)) (xAnd (truD T c) (xBin (eqB T c false) (xFld T c 46 (xVar 0)) (xFld T c 46 (xVar 1))) (xAnd (truD T c) (xBin (eqB T c false) (xFld T c 47 (xVar 0)) (xFld T c 47 (xVar 1))) (xBin (eqB T c false) (xFld T c 48 (xVar 0)) (xFld T c 48 (xVar 1)))))))
/-- Ground.measure(self, point); self 0 point 1 -/
noncomputable def B_83 (c : Fn) : Fs := (sSeq (sIf (tNot (tOf (truD T c) (xIso T 1 (xVar 1)))) sNo sNx) (sRet (xBin (binD T c .Add) (xBin (binD T c .Mult) (xFld T c 42 (xVar 1)) (xBin (binD T c .Add) (xBin (binD T c .Mult) (xFld T c 46 (xVar 0)) (xFld T c 42 (xVar 1))) (xBin (binD T c .Mult) (xFld T c 47 (xVar 0)) (xFld T c 43 (xVar 1))))) (xBin (binD T c .Mult) (xBin (binD T c .Mult) (xFld T c 48 (xVar 0)) (xFld T c 43 (xVar 1))) (xFld T c 43 (xVar 1))))))
/-- Ground.pair(self, one, other); self 0 one 1 other 2 value 3 along 4 -/
noncomputable def B_84 (c : Fn) : Fs := (sSeq (sFor (iSeq (xTup (aCons (xVar 1) (aCons (xVar 2) aNil)))) (gNm 3) (sIf (tNot (tOf (truD T c) (xIso T 1 (xVar 3)))) sNo sNx)) (sSeq (sAsg (xBin (binD T c .Mult) (xFld T c 42 (xVar 1)) (xBin (binD T c .Add) (xBin (binD T c .Mult) (xBin (binD T c .Mult) (xK (.int 2)) (xFld T c 46 (xVar 0))) (xFld T c 42 (xVar 2))) (xBin (binD T c .Mult) (xFld T c 47 (xVar 0)) (xFld T c 43 (xVar 2))))) (gNm 4)) (sRet (xBin (binD T c .Add) (xVar 4) (xBin (binD T c .Mult) (xFld T c 43 (xVar 1)) (xBin (binD T c .Add) (xBin (binD T c .Mult) (xFld T c 47 (xVar 0)) (xFld T c 42 (xVar 2))) (xBin (binD T c .Mult) (xBin (binD T c .Mult) (xK (.int 2)) (xFld T c 48 (xVar 0))) (xFld T c 43 (xVar 2)))))))))
noncomputable def bodies (c : Fn) : List (List D → Store → Res D) := [fnD 1 (B_0 c), fnD 2 (B_1 c), fnD 3 (B_2 c), fnD 1 (B_3 c), fnD 1 (B_4 c), fnD 3 (B_5 c), fnD 1 (B_6 c), fnD 4 (B_7 c), fnD 3 (B_8 c), fnD 0 (B_9 c), fnD 1 (B_10 c), fnD 1 (B_11 c), fnD 6 (B_12 c), fnD 2 (B_13 c), fnD 4 (B_14 c), fnD 2 (B_15 c), fnD 2 (B_16 c), fnD 2 (B_17 c), fnD 2 (B_18 c), fnD 3 (B_19 c), fnD 1 (B_20 c), fnD 2 (B_21 c), fnD 2 (B_22 c), fnD 1 (B_23 c), fnD 4 (B_24 c), fnD 2 (B_25 c), fnD 6 (B_26 c), fnD 7 (B_27 c), fnD 7 (B_28 c), fnD 5 (B_29 c), fnD 11 (B_30 c), fnD 6 (B_31 c), fnD 6 (B_32 c), fnD 6 (B_33 c), fnD 12 (B_34 c), fnD 6 (B_35 c), fnD 6 (B_36 c), fnD 4 (B_37 c), fnD 18 (B_38 c), fnD 10 (B_39 c), fnD 5 (B_40 c), fnD 2 (B_41 c), fnD 2 (B_42 c), fnD 2 (B_43 c), fnD 2 (B_44 c), fnD 2 (B_45 c), fnD 2 (B_46 c), fnD 2 (B_47 c), fnD 2 (B_48 c), fnD 2 (B_49 c), fnD 2 (B_50 c), fnD 2 (B_51 c), fnD 2 (B_52 c), fnD 2 (B_53 c), fnD 3 (B_54 c), fnD 3 (B_55 c), fnD 2 (B_56 c), fnD 1 (B_57 c), fnD 1 (B_58 c), fnD 1 (B_59 c), fnD 3 (B_60 c), fnD 1 (B_61 c), fnD 3 (B_62 c), fnD 2 (B_63 c), fnD 2 (B_64 c), fnD 2 (B_65 c), fnD 2 (B_66 c), fnD 2 (B_67 c), fnD 1 (B_68 c), fnD 1 (B_69 c), fnD 3 (B_70 c), fnD 2 (B_71 c), fnD 2 (B_72 c), fnD 2 (B_73 c), fnD 7 (B_74 c), fnD 5 (B_75 c), fnD 1 (B_76 c), fnD 4 (B_77 c), fnD 3 (B_78 c), fnD 6 (B_79 c), fnD 2 (B_80 c), fnD 5 (B_81 c), fnD 2 (B_82 c), fnD 2 (B_83 c), fnD 5 (B_84 c)]
noncomputable def run : Nat → Fn
  | 0 => fun _ _ _ => .stuck
  | n + 1 => fun f => ((bodies (run n))[f]?).getD fun _ _ => .stuck
theorem run_0 (n : Nat) : run (n + 1) 0 = fnD 1 (B_0 (run n)) := rfl
theorem run_1 (n : Nat) : run (n + 1) 1 = fnD 2 (B_1 (run n)) := rfl
theorem run_2 (n : Nat) : run (n + 1) 2 = fnD 3 (B_2 (run n)) := rfl
theorem run_3 (n : Nat) : run (n + 1) 3 = fnD 1 (B_3 (run n)) := rfl
theorem run_4 (n : Nat) : run (n + 1) 4 = fnD 1 (B_4 (run n)) := rfl
theorem run_5 (n : Nat) : run (n + 1) 5 = fnD 3 (B_5 (run n)) := rfl
theorem run_6 (n : Nat) : run (n + 1) 6 = fnD 1 (B_6 (run n)) := rfl
theorem run_7 (n : Nat) : run (n + 1) 7 = fnD 4 (B_7 (run n)) := rfl
theorem run_8 (n : Nat) : run (n + 1) 8 = fnD 3 (B_8 (run n)) := rfl
theorem run_9 (n : Nat) : run (n + 1) 9 = fnD 0 (B_9 (run n)) := rfl
theorem run_10 (n : Nat) : run (n + 1) 10 = fnD 1 (B_10 (run n)) := rfl
theorem run_11 (n : Nat) : run (n + 1) 11 = fnD 1 (B_11 (run n)) := rfl
theorem run_12 (n : Nat) : run (n + 1) 12 = fnD 6 (B_12 (run n)) := rfl
theorem run_13 (n : Nat) : run (n + 1) 13 = fnD 2 (B_13 (run n)) := rfl
theorem run_14 (n : Nat) : run (n + 1) 14 = fnD 4 (B_14 (run n)) := rfl
theorem run_15 (n : Nat) : run (n + 1) 15 = fnD 2 (B_15 (run n)) := rfl
theorem run_16 (n : Nat) : run (n + 1) 16 = fnD 2 (B_16 (run n)) := rfl
theorem run_17 (n : Nat) : run (n + 1) 17 = fnD 2 (B_17 (run n)) := rfl
theorem run_18 (n : Nat) : run (n + 1) 18 = fnD 2 (B_18 (run n)) := rfl
theorem run_19 (n : Nat) : run (n + 1) 19 = fnD 3 (B_19 (run n)) := rfl
theorem run_20 (n : Nat) : run (n + 1) 20 = fnD 1 (B_20 (run n)) := rfl
theorem run_21 (n : Nat) : run (n + 1) 21 = fnD 2 (B_21 (run n)) := rfl
theorem run_22 (n : Nat) : run (n + 1) 22 = fnD 2 (B_22 (run n)) := rfl
theorem run_23 (n : Nat) : run (n + 1) 23 = fnD 1 (B_23 (run n)) := rfl
theorem run_24 (n : Nat) : run (n + 1) 24 = fnD 4 (B_24 (run n)) := rfl
theorem run_25 (n : Nat) : run (n + 1) 25 = fnD 2 (B_25 (run n)) := rfl
theorem run_26 (n : Nat) : run (n + 1) 26 = fnD 6 (B_26 (run n)) := rfl
theorem run_27 (n : Nat) : run (n + 1) 27 = fnD 7 (B_27 (run n)) := rfl
theorem run_28 (n : Nat) : run (n + 1) 28 = fnD 7 (B_28 (run n)) := rfl
theorem run_29 (n : Nat) : run (n + 1) 29 = fnD 5 (B_29 (run n)) := rfl
theorem run_30 (n : Nat) : run (n + 1) 30 = fnD 11 (B_30 (run n)) := rfl
theorem run_31 (n : Nat) : run (n + 1) 31 = fnD 6 (B_31 (run n)) := rfl
theorem run_32 (n : Nat) : run (n + 1) 32 = fnD 6 (B_32 (run n)) := rfl
theorem run_33 (n : Nat) : run (n + 1) 33 = fnD 6 (B_33 (run n)) := rfl
theorem run_34 (n : Nat) : run (n + 1) 34 = fnD 12 (B_34 (run n)) := rfl
theorem run_35 (n : Nat) : run (n + 1) 35 = fnD 6 (B_35 (run n)) := rfl
theorem run_36 (n : Nat) : run (n + 1) 36 = fnD 6 (B_36 (run n)) := rfl
theorem run_37 (n : Nat) : run (n + 1) 37 = fnD 4 (B_37 (run n)) := rfl
theorem run_38 (n : Nat) : run (n + 1) 38 = fnD 18 (B_38 (run n)) := rfl
theorem run_39 (n : Nat) : run (n + 1) 39 = fnD 10 (B_39 (run n)) := rfl
theorem run_40 (n : Nat) : run (n + 1) 40 = fnD 5 (B_40 (run n)) := rfl
theorem run_41 (n : Nat) : run (n + 1) 41 = fnD 2 (B_41 (run n)) := rfl
theorem run_42 (n : Nat) : run (n + 1) 42 = fnD 2 (B_42 (run n)) := rfl
theorem run_43 (n : Nat) : run (n + 1) 43 = fnD 2 (B_43 (run n)) := rfl
theorem run_44 (n : Nat) : run (n + 1) 44 = fnD 2 (B_44 (run n)) := rfl
theorem run_45 (n : Nat) : run (n + 1) 45 = fnD 2 (B_45 (run n)) := rfl
theorem run_46 (n : Nat) : run (n + 1) 46 = fnD 2 (B_46 (run n)) := rfl
theorem run_47 (n : Nat) : run (n + 1) 47 = fnD 2 (B_47 (run n)) := rfl
theorem run_48 (n : Nat) : run (n + 1) 48 = fnD 2 (B_48 (run n)) := rfl
theorem run_49 (n : Nat) : run (n + 1) 49 = fnD 2 (B_49 (run n)) := rfl
theorem run_50 (n : Nat) : run (n + 1) 50 = fnD 2 (B_50 (run n)) := rfl
theorem run_51 (n : Nat) : run (n + 1) 51 = fnD 2 (B_51 (run n)) := rfl
theorem run_52 (n : Nat) : run (n + 1) 52 = fnD 2 (B_52 (run n)) := rfl
theorem run_53 (n : Nat) : run (n + 1) 53 = fnD 2 (B_53 (run n)) := rfl
theorem run_54 (n : Nat) : run (n + 1) 54 = fnD 3 (B_54 (run n)) := rfl
theorem run_55 (n : Nat) : run (n + 1) 55 = fnD 3 (B_55 (run n)) := rfl
theorem run_56 (n : Nat) : run (n + 1) 56 = fnD 2 (B_56 (run n)) := rfl
theorem run_57 (n : Nat) : run (n + 1) 57 = fnD 1 (B_57 (run n)) := rfl
theorem run_58 (n : Nat) : run (n + 1) 58 = fnD 1 (B_58 (run n)) := rfl
theorem run_59 (n : Nat) : run (n + 1) 59 = fnD 1 (B_59 (run n)) := rfl
theorem run_60 (n : Nat) : run (n + 1) 60 = fnD 3 (B_60 (run n)) := rfl
theorem run_61 (n : Nat) : run (n + 1) 61 = fnD 1 (B_61 (run n)) := rfl
theorem run_62 (n : Nat) : run (n + 1) 62 = fnD 3 (B_62 (run n)) := rfl
theorem run_63 (n : Nat) : run (n + 1) 63 = fnD 2 (B_63 (run n)) := rfl
theorem run_64 (n : Nat) : run (n + 1) 64 = fnD 2 (B_64 (run n)) := rfl
theorem run_65 (n : Nat) : run (n + 1) 65 = fnD 2 (B_65 (run n)) := rfl
theorem run_66 (n : Nat) : run (n + 1) 66 = fnD 2 (B_66 (run n)) := rfl
theorem run_67 (n : Nat) : run (n + 1) 67 = fnD 2 (B_67 (run n)) := rfl
theorem run_68 (n : Nat) : run (n + 1) 68 = fnD 1 (B_68 (run n)) := rfl
theorem run_69 (n : Nat) : run (n + 1) 69 = fnD 1 (B_69 (run n)) := rfl
theorem run_70 (n : Nat) : run (n + 1) 70 = fnD 3 (B_70 (run n)) := rfl
theorem run_71 (n : Nat) : run (n + 1) 71 = fnD 2 (B_71 (run n)) := rfl
theorem run_72 (n : Nat) : run (n + 1) 72 = fnD 2 (B_72 (run n)) := rfl
theorem run_73 (n : Nat) : run (n + 1) 73 = fnD 2 (B_73 (run n)) := rfl
theorem run_74 (n : Nat) : run (n + 1) 74 = fnD 7 (B_74 (run n)) := rfl
theorem run_75 (n : Nat) : run (n + 1) 75 = fnD 5 (B_75 (run n)) := rfl
theorem run_76 (n : Nat) : run (n + 1) 76 = fnD 1 (B_76 (run n)) := rfl
theorem run_77 (n : Nat) : run (n + 1) 77 = fnD 4 (B_77 (run n)) := rfl
theorem run_78 (n : Nat) : run (n + 1) 78 = fnD 3 (B_78 (run n)) := rfl
theorem run_79 (n : Nat) : run (n + 1) 79 = fnD 6 (B_79 (run n)) := rfl
theorem run_80 (n : Nat) : run (n + 1) 80 = fnD 2 (B_80 (run n)) := rfl
theorem run_81 (n : Nat) : run (n + 1) 81 = fnD 5 (B_81 (run n)) := rfl
theorem run_82 (n : Nat) : run (n + 1) 82 = fnD 2 (B_82 (run n)) := rfl
theorem run_83 (n : Nat) : run (n + 1) 83 = fnD 2 (B_83 (run n)) := rfl
theorem run_84 (n : Nat) : run (n + 1) 84 = fnD 5 (B_84 (run n)) := rfl
@[simp] theorem cl_0_1 (c : Fn) (a0 : D) (st : Store) : callD T c 0 [a0] st = c 0 [a0] st := rfl
@[simp] theorem cl_1_2 (c : Fn) (a0 a1 : D) (st : Store) : callD T c 1 [a0, a1] st = c 1 [a0, a1] st := rfl
@[simp] theorem cl_2_2 (c : Fn) (a0 a1 : D) (st : Store) : callD T c 2 [a0, a1] st = c 2 [a0, a1] st := rfl
@[simp] theorem cl_3_1 (c : Fn) (a0 : D) (st : Store) : callD T c 3 [a0] st = c 3 [a0] st := rfl
@[simp] theorem cl_4_1 (c : Fn) (a0 : D) (st : Store) : callD T c 4 [a0] st = c 4 [a0] st := rfl
@[simp] theorem cl_5_1 (c : Fn) (a0 : D) (st : Store) : callD T c 5 [a0] st = c 5 [a0] st := rfl
@[simp] theorem cl_6_1 (c : Fn) (a0 : D) (st : Store) : callD T c 6 [a0] st = c 6 [a0] st := rfl
@[simp] theorem cl_7_2 (c : Fn) (a0 a1 : D) (st : Store) : callD T c 7 [a0, a1] st = c 7 [a0, a1] st := rfl
@[simp] theorem cl_8_3 (c : Fn) (a0 a1 a2 : D) (st : Store) : callD T c 8 [a0, a1, a2] st = c 8 [a0, a1, a2] st := rfl
@[simp] theorem cl_9_0 (c : Fn) (st : Store) : callD T c 9 [] st = c 9 [] st := rfl
@[simp] theorem cl_10_1 (c : Fn) (a0 : D) (st : Store) : callD T c 10 [a0] st = c 10 [a0] st := rfl
@[simp] theorem cl_11_1 (c : Fn) (a0 : D) (st : Store) : callD T c 11 [a0] st = c 11 [a0] st := rfl
@[simp] theorem cl_12_2 (c : Fn) (a0 a1 : D) (st : Store) : callD T c 12 [a0, a1] st = c 12 [a0, a1] st := rfl
@[simp] theorem cl_13_2 (c : Fn) (a0 a1 : D) (st : Store) : callD T c 13 [a0, a1] st = c 13 [a0, a1] st := rfl
@[simp] theorem cl_14_2 (c : Fn) (a0 a1 : D) (st : Store) : callD T c 14 [a0, a1] st = c 14 [a0, a1] st := rfl
@[simp] theorem cl_15_2 (c : Fn) (a0 a1 : D) (st : Store) : callD T c 15 [a0, a1] st = c 15 [a0, a1] st := rfl
@[simp] theorem cl_16_1 (c : Fn) (a0 : D) (st : Store) : callD T c 16 [a0] st = c 16 [a0] st := rfl
@[simp] theorem cl_17_2 (c : Fn) (a0 a1 : D) (st : Store) : callD T c 17 [a0, a1] st = c 17 [a0, a1] st := rfl
@[simp] theorem cl_18_2 (c : Fn) (a0 a1 : D) (st : Store) : callD T c 18 [a0, a1] st = c 18 [a0, a1] st := rfl
@[simp] theorem cl_19_2 (c : Fn) (a0 a1 : D) (st : Store) : callD T c 19 [a0, a1] st = c 19 [a0, a1] st := rfl
@[simp] theorem cl_20_1 (c : Fn) (a0 : D) (st : Store) : callD T c 20 [a0] st = c 20 [a0] st := rfl
@[simp] theorem cl_21_2 (c : Fn) (a0 a1 : D) (st : Store) : callD T c 21 [a0, a1] st = c 21 [a0, a1] st := rfl
@[simp] theorem cl_22_2 (c : Fn) (a0 a1 : D) (st : Store) : callD T c 22 [a0, a1] st = c 22 [a0, a1] st := rfl
@[simp] theorem cl_23_1 (c : Fn) (a0 : D) (st : Store) : callD T c 23 [a0] st = c 23 [a0] st := rfl
@[simp] theorem cl_24_2 (c : Fn) (a0 a1 : D) (st : Store) : callD T c 24 [a0, a1] st = c 24 [a0, a1] st := rfl
@[simp] theorem cl_25_1 (c : Fn) (a0 : D) (st : Store) : callD T c 25 [a0] st = c 25 [a0] st := rfl
@[simp] theorem cl_26_3 (c : Fn) (a0 a1 a2 : D) (st : Store) : callD T c 26 [a0, a1, a2] st = c 26 [a0, a1, a2] st := rfl
@[simp] theorem cl_27_3 (c : Fn) (a0 a1 a2 : D) (st : Store) : callD T c 27 [a0, a1, a2] st = c 27 [a0, a1, a2] st := rfl
@[simp] theorem cl_28_2 (c : Fn) (a0 a1 : D) (st : Store) : callD T c 28 [a0, a1] st = c 28 [a0, a1] st := rfl
@[simp] theorem cl_29_2 (c : Fn) (a0 a1 : D) (st : Store) : callD T c 29 [a0, a1] st = c 29 [a0, a1] st := rfl
@[simp] theorem cl_30_2 (c : Fn) (a0 a1 : D) (st : Store) : callD T c 30 [a0, a1] st = c 30 [a0, a1] st := rfl
@[simp] theorem cl_31_2 (c : Fn) (a0 a1 : D) (st : Store) : callD T c 31 [a0, a1] st = c 31 [a0, a1] st := rfl
@[simp] theorem cl_32_2 (c : Fn) (a0 a1 : D) (st : Store) : callD T c 32 [a0, a1] st = c 32 [a0, a1] st := rfl
@[simp] theorem cl_33_2 (c : Fn) (a0 a1 : D) (st : Store) : callD T c 33 [a0, a1] st = c 33 [a0, a1] st := rfl
@[simp] theorem cl_34_2 (c : Fn) (a0 a1 : D) (st : Store) : callD T c 34 [a0, a1] st = c 34 [a0, a1] st := rfl
@[simp] theorem cl_35_1 (c : Fn) (a0 : D) (st : Store) : callD T c 35 [a0] st = c 35 [a0] st := rfl
@[simp] theorem cl_36_2 (c : Fn) (a0 a1 : D) (st : Store) : callD T c 36 [a0, a1] st = c 36 [a0, a1] st := rfl
@[simp] theorem cl_37_3 (c : Fn) (a0 a1 a2 : D) (st : Store) : callD T c 37 [a0, a1, a2] st = c 37 [a0, a1, a2] st := rfl
@[simp] theorem cl_38_4 (c : Fn) (a0 a1 a2 a3 : D) (st : Store) : callD T c 38 [a0, a1, a2, a3] st = c 38 [a0, a1, a2, a3] st := rfl
@[simp] theorem cl_39_1 (c : Fn) (a0 : D) (st : Store) : callD T c 39 [a0] st = c 39 [a0] st := rfl
@[simp] theorem cl_40_2 (c : Fn) (a0 a1 : D) (st : Store) : callD T c 40 [a0, a1] st = c 40 [a0, a1, .int 1] st := rfl
@[simp] theorem cl_40_3 (c : Fn) (a0 a1 a2 : D) (st : Store) : callD T c 40 [a0, a1, a2] st = c 40 [a0, a1, a2] st := rfl
@[simp] theorem cl_41_2 (c : Fn) (a0 a1 : D) (st : Store) : callD T c 41 [a0, a1] st = c 41 [a0, a1] st := rfl
@[simp] theorem cl_42_2 (c : Fn) (a0 a1 : D) (st : Store) : callD T c 42 [a0, a1] st = c 42 [a0, a1] st := rfl
@[simp] theorem cl_43_2 (c : Fn) (a0 a1 : D) (st : Store) : callD T c 43 [a0, a1] st = c 43 [a0, a1] st := rfl
@[simp] theorem cl_44_2 (c : Fn) (a0 a1 : D) (st : Store) : callD T c 44 [a0, a1] st = c 44 [a0, a1] st := rfl
@[simp] theorem cl_45_2 (c : Fn) (a0 a1 : D) (st : Store) : callD T c 45 [a0, a1] st = c 45 [a0, a1] st := rfl
@[simp] theorem cl_46_2 (c : Fn) (a0 a1 : D) (st : Store) : callD T c 46 [a0, a1] st = c 46 [a0, a1] st := rfl
@[simp] theorem cl_47_2 (c : Fn) (a0 a1 : D) (st : Store) : callD T c 47 [a0, a1] st = c 47 [a0, a1] st := rfl
@[simp] theorem cl_48_2 (c : Fn) (a0 a1 : D) (st : Store) : callD T c 48 [a0, a1] st = c 48 [a0, a1] st := rfl
@[simp] theorem cl_49_2 (c : Fn) (a0 a1 : D) (st : Store) : callD T c 49 [a0, a1] st = c 49 [a0, a1] st := rfl
@[simp] theorem cl_50_2 (c : Fn) (a0 a1 : D) (st : Store) : callD T c 50 [a0, a1] st = c 50 [a0, a1] st := rfl
@[simp] theorem cl_51_2 (c : Fn) (a0 a1 : D) (st : Store) : callD T c 51 [a0, a1] st = c 51 [a0, a1] st := rfl
@[simp] theorem cl_52_2 (c : Fn) (a0 a1 : D) (st : Store) : callD T c 52 [a0, a1] st = c 52 [a0, a1] st := rfl
@[simp] theorem cl_53_2 (c : Fn) (a0 a1 : D) (st : Store) : callD T c 53 [a0, a1] st = c 53 [a0, a1] st := rfl
@[simp] theorem cl_54_2 (c : Fn) (a0 a1 : D) (st : Store) : callD T c 54 [a0, a1] st = c 54 [a0, a1] st := rfl
@[simp] theorem cl_55_2 (c : Fn) (a0 a1 : D) (st : Store) : callD T c 55 [a0, a1] st = c 55 [a0, a1] st := rfl
@[simp] theorem cl_56_2 (c : Fn) (a0 a1 : D) (st : Store) : callD T c 56 [a0, a1] st = c 56 [a0, a1] st := rfl
@[simp] theorem cl_57_1 (c : Fn) (a0 : D) (st : Store) : callD T c 57 [a0] st = c 57 [a0] st := rfl
@[simp] theorem cl_58_1 (c : Fn) (a0 : D) (st : Store) : callD T c 58 [a0] st = c 58 [a0] st := rfl
@[simp] theorem cl_59_1 (c : Fn) (a0 : D) (st : Store) : callD T c 59 [a0] st = c 59 [a0] st := rfl
@[simp] theorem cl_60_2 (c : Fn) (a0 a1 : D) (st : Store) : callD T c 60 [a0, a1] st = c 60 [a0, a1] st := rfl
@[simp] theorem cl_61_1 (c : Fn) (a0 : D) (st : Store) : callD T c 61 [a0] st = c 61 [a0] st := rfl
@[simp] theorem cl_62_3 (c : Fn) (a0 a1 a2 : D) (st : Store) : callD T c 62 [a0, a1, a2] st = c 62 [a0, a1, a2] st := rfl
@[simp] theorem cl_63_2 (c : Fn) (a0 a1 : D) (st : Store) : callD T c 63 [a0, a1] st = c 63 [a0, a1] st := rfl
@[simp] theorem cl_64_2 (c : Fn) (a0 a1 : D) (st : Store) : callD T c 64 [a0, a1] st = c 64 [a0, a1] st := rfl
@[simp] theorem cl_65_2 (c : Fn) (a0 a1 : D) (st : Store) : callD T c 65 [a0, a1] st = c 65 [a0, a1] st := rfl
@[simp] theorem cl_66_2 (c : Fn) (a0 a1 : D) (st : Store) : callD T c 66 [a0, a1] st = c 66 [a0, a1] st := rfl
@[simp] theorem cl_67_2 (c : Fn) (a0 a1 : D) (st : Store) : callD T c 67 [a0, a1] st = c 67 [a0, a1] st := rfl
@[simp] theorem cl_68_1 (c : Fn) (a0 : D) (st : Store) : callD T c 68 [a0] st = c 68 [a0] st := rfl
@[simp] theorem cl_69_1 (c : Fn) (a0 : D) (st : Store) : callD T c 69 [a0] st = c 69 [a0] st := rfl
@[simp] theorem cl_70_2 (c : Fn) (a0 a1 : D) (st : Store) : callD T c 70 [a0, a1] st = c 70 [a0, a1, .non] st := rfl
@[simp] theorem cl_70_3 (c : Fn) (a0 a1 a2 : D) (st : Store) : callD T c 70 [a0, a1, a2] st = c 70 [a0, a1, a2] st := rfl
@[simp] theorem cl_71_2 (c : Fn) (a0 a1 : D) (st : Store) : callD T c 71 [a0, a1] st = c 71 [a0, a1] st := rfl
@[simp] theorem cl_72_2 (c : Fn) (a0 a1 : D) (st : Store) : callD T c 72 [a0, a1] st = c 72 [a0, a1] st := rfl
@[simp] theorem cl_73_2 (c : Fn) (a0 a1 : D) (st : Store) : callD T c 73 [a0, a1] st = c 73 [a0, a1] st := rfl
@[simp] theorem cl_74_1 (c : Fn) (a0 : D) (st : Store) : callD T c 74 [a0] st = c 74 [a0] st := rfl
@[simp] theorem cl_75_2 (c : Fn) (a0 a1 : D) (st : Store) : callD T c 75 [a0, a1] st = c 75 [a0, a1] st := rfl
@[simp] theorem cl_76_1 (c : Fn) (a0 : D) (st : Store) : callD T c 76 [a0] st = c 76 [a0] st := rfl
@[simp] theorem cl_77_2 (c : Fn) (a0 a1 : D) (st : Store) : callD T c 77 [a0, a1] st = c 77 [a0, a1] st := rfl
@[simp] theorem cl_78_2 (c : Fn) (a0 a1 : D) (st : Store) : callD T c 78 [a0, a1] st = c 78 [a0, a1] st := rfl
@[simp] theorem cl_79_1 (c : Fn) (a0 : D) (st : Store) : callD T c 79 [a0] st = c 79 [a0] st := rfl
@[simp] theorem cl_80_1 (c : Fn) (a0 : D) (st : Store) : callD T c 80 [a0] st = c 80 [a0] st := rfl
@[simp] theorem cl_81_4 (c : Fn) (a0 a1 a2 a3 : D) (st : Store) : callD T c 81 [a0, a1, a2, a3] st = c 81 [a0, a1, a2, a3] st := rfl
@[simp] theorem cl_82_2 (c : Fn) (a0 a1 : D) (st : Store) : callD T c 82 [a0, a1] st = c 82 [a0, a1] st := rfl
@[simp] theorem cl_83_2 (c : Fn) (a0 a1 : D) (st : Store) : callD T c 83 [a0, a1] st = c 83 [a0, a1] st := rfl
@[simp] theorem cl_84_3 (c : Fn) (a0 a1 a2 : D) (st : Store) : callD T c 84 [a0, a1, a2] st = c 84 [a0, a1, a2] st := rfl
@[simp] theorem isC_0 : T.isC 0 = true := rfl
@[simp] theorem lay_0 : T.lay 0 = [40, 41] := rfl
@[simp] theorem atn_0 : T.atn 0 = [40, 41] := rfl
@[simp] theorem sub_0_0 : T.sub 0 0 = true := rfl
@[simp] theorem sub_0_1 : T.sub 0 1 = false := rfl
@[simp] theorem sub_0_2 : T.sub 0 2 = false := rfl
@[simp] theorem sub_0_3 : T.sub 0 3 = false := rfl
@[simp] theorem me_0_37 : T.meth 0 37 = some 40 := rfl
@[simp] theorem me_0_21 : T.meth 0 21 = some 41 := rfl
@[simp] theorem me_0_22 : T.meth 0 22 = some 42 := rfl
@[simp] theorem me_0_23 : T.meth 0 23 = some 43 := rfl
@[simp] theorem me_0_24 : T.meth 0 24 = some 44 := rfl
@[simp] theorem me_0_25 : T.meth 0 25 = some 45 := rfl
@[simp] theorem me_0_1 : T.meth 0 1 = some 46 := rfl
@[simp] theorem me_0_11 : T.meth 0 11 = some 47 := rfl
@[simp] theorem me_0_2 : T.meth 0 2 = some 48 := rfl
@[simp] theorem me_0_12 : T.meth 0 12 = some 49 := rfl
@[simp] theorem me_0_3 : T.meth 0 3 = some 50 := rfl
@[simp] theorem me_0_13 : T.meth 0 13 = some 51 := rfl
@[simp] theorem me_0_4 : T.meth 0 4 = some 52 := rfl
@[simp] theorem me_0_14 : T.meth 0 14 = some 53 := rfl
@[simp] theorem me_0_5 : T.meth 0 5 = some 54 := rfl
@[simp] theorem me_0_15 : T.meth 0 15 = some 55 := rfl
@[simp] theorem me_0_6 : T.meth 0 6 = some 56 := rfl
@[simp] theorem me_0_31 : T.meth 0 31 = some 57 := rfl
@[simp] theorem me_0_33 : T.meth 0 33 = some 58 := rfl
@[simp] theorem me_0_34 : T.meth 0 34 = some 59 := rfl
@[simp] theorem me_0_55 : T.meth 0 55 = some 60 := rfl
@[simp] theorem me_0_50 : T.meth 0 50 = some 61 := rfl
@[simp] theorem isC_1 : T.isC 1 = true := rfl
@[simp] theorem lay_1 : T.lay 1 = [42, 43] := rfl
@[simp] theorem atn_1 : T.atn 1 = [42, 43] := rfl
@[simp] theorem sub_1_0 : T.sub 1 0 = false := rfl
@[simp] theorem sub_1_1 : T.sub 1 1 = true := rfl
@[simp] theorem sub_1_2 : T.sub 1 2 = false := rfl
@[simp] theorem sub_1_3 : T.sub 1 3 = false := rfl
@[simp] theorem me_1_37 : T.meth 1 37 = some 62 := rfl
@[simp] theorem me_1_21 : T.meth 1 21 = some 63 := rfl
@[simp] theorem me_1_1 : T.meth 1 1 = some 64 := rfl
@[simp] theorem me_1_2 : T.meth 1 2 = some 65 := rfl
@[simp] theorem me_1_3 : T.meth 1 3 = some 66 := rfl
@[simp] theorem me_1_13 : T.meth 1 13 = some 67 := rfl
@[simp] theorem me_1_31 : T.meth 1 31 = some 68 := rfl
@[simp] theorem me_1_34 : T.meth 1 34 = some 69 := rfl
@[simp] theorem isC_2 : T.isC 2 = true := rfl
@[simp] theorem lay_2 : T.lay 2 = [44, 45] := rfl
@[simp] theorem atn_2 : T.atn 2 = [44, 45] := rfl
@[simp] theorem sub_2_0 : T.sub 2 0 = false := rfl
@[simp] theorem sub_2_1 : T.sub 2 1 = false := rfl
@[simp] theorem sub_2_2 : T.sub 2 2 = true := rfl
@[simp] theorem sub_2_3 : T.sub 2 3 = false := rfl
@[simp] theorem me_2_37 : T.meth 2 37 = some 70 := rfl
@[simp] theorem me_2_21 : T.meth 2 21 = some 71 := rfl
@[simp] theorem me_2_36 : T.meth 2 36 = some 72 := rfl
@[simp] theorem me_2_3 : T.meth 2 3 = some 73 := rfl
@[simp] theorem me_2_32 : T.meth 2 32 = some 74 := rfl
@[simp] theorem me_2_57 : T.meth 2 57 = some 75 := rfl
@[simp] theorem me_2_49 : T.meth 2 49 = some 76 := rfl
@[simp] theorem me_2_58 : T.meth 2 58 = some 77 := rfl
@[simp] theorem me_2_52 : T.meth 2 52 = some 78 := rfl
@[simp] theorem me_2_51 : T.meth 2 51 = some 79 := rfl
@[simp] theorem me_2_54 : T.meth 2 54 = some 80 := rfl
@[simp] theorem isC_3 : T.isC 3 = true := rfl
@[simp] theorem lay_3 : T.lay 3 = [46, 47, 48] := rfl
@[simp] theorem atn_3 : T.atn 3 = [46, 47, 48] := rfl
@[simp] theorem sub_3_0 : T.sub 3 0 = false := rfl
@[simp] theorem sub_3_1 : T.sub 3 1 = false := rfl
@[simp] theorem sub_3_2 : T.sub 3 2 = false := rfl
@[simp] theorem sub_3_3 : T.sub 3 3 = true := rfl
@[simp] theorem me_3_37 : T.meth 3 37 = some 81 := rfl
@[simp] theorem me_3_21 : T.meth 3 21 = some 82 := rfl
@[simp] theorem me_3_53 : T.meth 3 53 = some 83 := rfl
@[simp] theorem me_3_56 : T.meth 3 56 = some 84 := rfl
/-- what the module's names are -/
structure Nam (K : PySem.W.Frag) (mg : Str → Option Value) : Prop where
  g_Ratio : mg "Ratio" = some (.ref (tb.cad K 0))
  g_is_number : mg "is_number" = some (.ref (tb.fad K 0))
  g_ratio_of : mg "ratio_of" = some (.ref (tb.fad K 3))
  g_Point : mg "Point" = some (.ref (tb.cad K 1))
  g_Motion : mg "Motion" = some (.ref (tb.cad K 2))
  g__law_draw : mg "_law_draw" = some (.ref (tb.fad K 12))
  g__law_gcd : mg "_law_gcd" = some (.ref (tb.fad K 15))
  g__law_cut : mg "_law_cut" = some (.ref (tb.fad K 16))
  g__law_great : mg "_law_great" = some (.ref (tb.fad K 14))
  g__law_pick : mg "_law_pick" = some (.ref (tb.fad K 13))
  g__law_given : mg "_law_given" = some (.ref (tb.fad K 21))
  g__law_told : mg "_law_told" = some (.ref (tb.fad K 20))
  g__law_fraction : mg "_law_fraction" = some (.ref (tb.fad K 19))
  g__law_factor : mg "_law_factor" = some (.ref (tb.fad K 25))
  g__law_times : mg "_law_times" = some (.ref (tb.fad K 18))
  g__law_sum : mg "_law_sum" = some (.ref (tb.fad K 17))
  g__law_point : mg "_law_point" = some (.ref (tb.fad K 22))
  g__law_measure : mg "_law_measure" = some (.ref (tb.fad K 29))
  g__law_way : mg "_law_way" = some (.ref (tb.fad K 32))
  g__law_mirror_rows : mg "_law_mirror_rows" = some (.ref (tb.fad K 30))
  g__law_table : mg "_law_table" = some (.ref (tb.fad K 24))
  g__law_product : mg "_law_product" = some (.ref (tb.fad K 31))
  g__law_undone : mg "_law_undone" = some (.ref (tb.fad K 35))
  g__law_led : mg "_law_led" = some (.ref (tb.fad K 26))
  g__law_length : mg "_law_length" = some (.ref (tb.fad K 33))
  g__law_due_stretch : mg "_law_due_stretch" = some (.ref (tb.fad K 36))
  g_Ground : mg "Ground" = some (.ref (tb.cad K 3))
  g__law_motion : mg "_law_motion" = some (.ref (tb.fad K 27))
  g__law_due_kind : mg "_law_due_kind" = some (.ref (tb.fad K 37))
  g__law_spot : mg "_law_spot" = some (.ref (tb.fad K 23))
  g_shifting : mg "shifting" = some (.ref (tb.fad K 10))
  g__law_pen : mg "_law_pen" = some (.ref (tb.fad K 11))
  g__law_ground : mg "_law_ground" = some (.ref (tb.fad K 28))
  g__law_drawn : mg "_law_drawn" = some (.ref (tb.fad K 34))
  g__law_is_right : mg "_law_is_right" = some (.ref (tb.fad K 38))
  g_gcd_of : mg "gcd_of" = some (.ref (tb.fad K 1))
  g_raised : mg "raised" = some (.ref (tb.fad K 2))
  g_table_of : mg "table_of" = some (.ref (tb.fad K 5))
  g_factor_of : mg "factor_of" = some (.ref (tb.fad K 6))
  g_led : mg "led" = some (.ref (tb.fad K 8))
  g_table_product : mg "table_product" = some (.ref (tb.fad K 7))
  g_is_integer : mg "is_integer" = some (.ref (tb.fad K 4))
  g_rest : mg "rest" = some (.ref (tb.fad K 9))
  b_isinstance : mg "isinstance" = none
  b_int : mg "int" = none
  b_bool : mg "bool" = none
  b_abs : mg "abs" = none
  b_tuple : mg "tuple" = none
  b_list : mg "list" = none
  b_len : mg "len" = none
  b_range : mg "range" = none
  b_min : mg "min" = none
  c_MOST_POWER : ∃ t, mg "MOST_POWER" = some (.int 1000 t)
  c_ORDERS : mg "ORDERS" = some (.ref (He.ga K "ORDERS")) ∧ ∀ H, SqT K H (He.ga K "ORDERS") (([1, 2, 3, 4, 6] : List Int).map V.int)
section
variable {P : Program} {w : World} {K : PySem.W.Frag} {mg : Str → Option Value} {base : Heap} {k : Nat} {c : Fn}
theorem sc_0 : FnScope ["value"] ["value"] (defScope s_0) := ⟨rfl, rfl, rfl, by decide +kernel, rfl, by decide +kernel, by decide +kernel⟩
theorem rb_0 {f : Addr} {X : Cx} {Wx : WX} (N : Nam K mg) (hX : ∃ (cdv : Value) (A : Around) (outer : List Env) (s : Shared) (H : Hp) (E : XK), X = cxOf (L2.CX P w) P w K mg base ["value"] d_0.qual (defScope s_0) f cdv A outer s H E) (G : Gd (tb.lw K) X Wx k c) : RSs (tb.lw K) X Wx (defBody s_0) (B_0 c) := by
  obtain ⟨cdv, A, outer, s, H, E, rfl⟩ := hX
  exact (rss_one (rs_ret (re_or (rtv_tru G) (re_iso (j := 0) G rfl (ev 0) rfl N.b_isinstance rfl N.g_Ratio) (re_one (re_and (rtv_tru G) (re_ist (t := "int") G (by decide) (ev 0) rfl N.b_isinstance rfl N.b_int bb_int) (re_one (re_not (rtv_tru G) (re_ist (t := "bool") G (by decide) (ev 0) rfl N.b_isinstance rfl N.b_bool bb_bool))))))))
theorem ok_0 {fd : FuncData} (N : Nam K mg) (F : FunD K d_0.name d_0.qual d_0.params d_0.body d_0.scope (d_0.dvs K) (d_0.kws K) (He.fAd K d_0.at_) fd) (fo : FOk (tb.lw K) P w K mg base k c) : FnOk P w K mg base (L2.CX P w) (k + 10) ((tb.lw K).fad 0) ((tb.lw K).fdt 0) ((tb.lw K).fps 0) (spM K (tb.lw K) ((tb.lw K).fps 0).length (fnD 1 (B_0 c))) :=
  fn_rule (N := ["value"]) (funG_of F rfl rfl rfl) sc_0 fo (fun _ _ _ _ _ _ => rfl) fun X Wx hX G => rb_0 N hX G
theorem sc_1 : FnScope ["first", "second"] ["first", "second"] (defScope s_1) := ⟨rfl, rfl, rfl, by decide +kernel, rfl, by decide +kernel, by decide +kernel⟩
theorem rb_1 {f : Addr} {X : Cx} {Wx : WX} (N : Nam K mg) (hX : ∃ (cdv : Value) (A : Around) (outer : List Env) (s : Shared) (H : Hp) (E : XK), X = cxOf (L2.CX P w) P w K mg base ["first", "second"] d_1.qual (defScope s_1) f cdv A outer s H E) (G : Gd (tb.lw K) X Wx k c) : RSs (tb.lw K) X Wx (defBody s_1) (B_1 c) := by
  obtain ⟨cdv, A, outer, s, H, E, rfl⟩ := hX
  exact (rss_cons (pr2 0 1 G (ra_cons (re_bfn (rc_abs) rfl N.b_abs bb_abs (ra_cons (ev 0) ra_nil)) (ra_cons (re_bfn (rc_abs) rfl N.b_abs bb_abs (ra_cons (ev 1) ra_nil)) ra_nil))) (rss_cons (rs_while G.po (rt_of (rtv_tru G) (ev 1)) (rss_one (pr2 0 1 G (ra_cons (ev 1) (ra_cons (re_bin (r2_bin G .Mod) (ev 0) (ev 1)) ra_nil))))) (rss_one (rs_ret (ev 0)))))
theorem ok_1 {fd : FuncData} (N : Nam K mg) (F : FunD K d_1.name d_1.qual d_1.params d_1.body d_1.scope (d_1.dvs K) (d_1.kws K) (He.fAd K d_1.at_) fd) (fo : FOk (tb.lw K) P w K mg base k c) : FnOk P w K mg base (L2.CX P w) (k + 10) ((tb.lw K).fad 1) ((tb.lw K).fdt 1) ((tb.lw K).fps 1) (spM K (tb.lw K) ((tb.lw K).fps 1).length (fnD 2 (B_1 c))) :=
  fn_rule (N := ["first", "second"]) (funG_of F rfl rfl rfl) sc_1 fo (fun _ _ _ _ _ _ => rfl) fun X Wx hX G => rb_1 N hX G
theorem sc_2 : FnScope ["number", "times", "product"] ["number", "times"] (defScope s_2) := ⟨rfl, rfl, rfl, by decide +kernel, rfl, by decide +kernel, by decide +kernel⟩
theorem rb_2 {f : Addr} {X : Cx} {Wx : WX} (N : Nam K mg) (hX : ∃ (cdv : Value) (A : Around) (outer : List Env) (s : Shared) (H : Hp) (E : XK), X = cxOf (L2.CX P w) P w K mg base ["number", "times", "product"] d_2.qual (defScope s_2) f cdv A outer s H E) (G : Gd (tb.lw K) X Wx k c) : RSs (tb.lw K) X Wx (defBody s_2) (B_2 c) := by
  obtain ⟨cdv, A, outer, s, H, E, rfl⟩ := hX
  exact (rss_cons (sv 2 G re_int) (rss_cons (rs_while G.po (rt_of (rtv_tru G) (ev 1)) (rss_cons (rs_if (rt_of (rtv_tru G) (re_bin (r2_bin G .Mod) (ev 1) re_int)) (rss_one (sv 2 G (re_bin (r2_bin G .Mult) (ev 2) (ev 0)))) rss_nil) (rss_cons (sv 0 G (re_bin (r2_bin G .Mult) (ev 0) (ev 0))) (rss_one (sv 1 G (re_bin (r2_bin G .FloorDiv) (ev 1) re_int)))))) (rss_one (rs_ret (ev 2)))))
theorem ok_2 {fd : FuncData} (N : Nam K mg) (F : FunD K d_2.name d_2.qual d_2.params d_2.body d_2.scope (d_2.dvs K) (d_2.kws K) (He.fAd K d_2.at_) fd) (fo : FOk (tb.lw K) P w K mg base k c) : FnOk P w K mg base (L2.CX P w) (k + 10) ((tb.lw K).fad 2) ((tb.lw K).fdt 2) ((tb.lw K).fps 2) (spM K (tb.lw K) ((tb.lw K).fps 2).length (fnD 3 (B_2 c))) :=
  fn_rule (N := ["number", "times", "product"]) (funG_of F rfl rfl rfl) sc_2 fo (fun _ _ _ _ _ _ => rfl) fun X Wx hX G => rb_2 N hX G
theorem sc_3 : FnScope ["number"] ["number"] (defScope s_3) := ⟨rfl, rfl, rfl, by decide +kernel, rfl, by decide +kernel, by decide +kernel⟩
theorem rb_3 {f : Addr} {X : Cx} {Wx : WX} (N : Nam K mg) (hX : ∃ (cdv : Value) (A : Around) (outer : List Env) (s : Shared) (H : Hp) (E : XK), X = cxOf (L2.CX P w) P w K mg base ["number"] d_3.qual (defScope s_3) f cdv A outer s H E) (G : Gd (tb.lw K) X Wx k c) : RSs (tb.lw K) X Wx (defBody s_3) (B_3 c) := by
  obtain ⟨cdv, A, outer, s, H, E, rfl⟩ := hX
  exact (rss_cons (rs_if (rt_of (rtv_tru G) (re_iso (j := 0) G rfl (ev 0) rfl N.b_isinstance rfl N.g_Ratio)) (rss_one (rs_ret (ev 0))) rss_nil) (rss_cons (rs_if (rt_not (rt_of (rtv_tru G) (re_call (i := 0) G rfl rfl N.g_is_number (ra_cons (ev 0) ra_nil)))) (rss_one rs_no) rss_nil) (rss_one (rs_ret (re_mk (i := 0) (f := 40) G rfl rfl N.g_Ratio (ra_cons (ev 0) ra_nil))))))
theorem ok_3 {fd : FuncData} (N : Nam K mg) (F : FunD K d_3.name d_3.qual d_3.params d_3.body d_3.scope (d_3.dvs K) (d_3.kws K) (He.fAd K d_3.at_) fd) (fo : FOk (tb.lw K) P w K mg base k c) : FnOk P w K mg base (L2.CX P w) (k + 10) ((tb.lw K).fad 3) ((tb.lw K).fdt 3) ((tb.lw K).fps 3) (spM K (tb.lw K) ((tb.lw K).fps 3).length (fnD 1 (B_3 c))) :=
  fn_rule (N := ["number"]) (funG_of F rfl rfl rfl) sc_3 fo (fun _ _ _ _ _ _ => rfl) fun X Wx hX G => rb_3 N hX G
theorem sc_4 : FnScope ["value"] ["value"] (defScope s_4) := ⟨rfl, rfl, rfl, by decide +kernel, rfl, by decide +kernel, by decide +kernel⟩
theorem rb_4 {f : Addr} {X : Cx} {Wx : WX} (N : Nam K mg) (hX : ∃ (cdv : Value) (A : Around) (outer : List Env) (s : Shared) (H : Hp) (E : XK), X = cxOf (L2.CX P w) P w K mg base ["value"] d_4.qual (defScope s_4) f cdv A outer s H E) (G : Gd (tb.lw K) X Wx k c) : RSs (tb.lw K) X Wx (defBody s_4) (B_4 c) := by
  obtain ⟨cdv, A, outer, s, H, E, rfl⟩ := hX
  exact (rss_one (rs_ret (re_and (rtv_tru G) (re_ist (t := "int") G (by decide) (ev 0) rfl N.b_isinstance rfl N.b_int bb_int) (re_one (re_not (rtv_tru G) (re_ist (t := "bool") G (by decide) (ev 0) rfl N.b_isinstance rfl N.b_bool bb_bool))))))
theorem ok_4 {fd : FuncData} (N : Nam K mg) (F : FunD K d_4.name d_4.qual d_4.params d_4.body d_4.scope (d_4.dvs K) (d_4.kws K) (He.fAd K d_4.at_) fd) (fo : FOk (tb.lw K) P w K mg base k c) : FnOk P w K mg base (L2.CX P w) (k + 10) ((tb.lw K).fad 4) ((tb.lw K).fdt 4) ((tb.lw K).fps 4) (spM K (tb.lw K) ((tb.lw K).fps 4).length (fnD 1 (B_4 c))) :=
  fn_rule (N := ["value"]) (funG_of F rfl rfl rfl) sc_4 fo (fun _ _ _ _ _ _ => rfl) fun X Wx hX G => rb_4 N hX G
theorem sc_5 : FnScope ["rows", "row", "entry"] ["rows"] (defScope s_5) := ⟨rfl, rfl, rfl, by decide +kernel, rfl, by decide +kernel, by decide +kernel⟩
theorem rb_5 {f : Addr} {X : Cx} {Wx : WX} (N : Nam K mg) (hX : ∃ (cdv : Value) (A : Around) (outer : List Env) (s : Shared) (H : Hp) (E : XK), X = cxOf (L2.CX P w) P w K mg base ["rows", "row", "entry"] d_5.qual (defScope s_5) f cdv A outer s H E) (G : Gd (tb.lw K) X Wx k c) : RSs (tb.lw K) X Wx (defBody s_5) (B_5 c) := by
  obtain ⟨cdv, A, outer, s, H, E, rfl⟩ := hX
  exact (rss_one (rs_ret (re_bty rc_tuple rfl N.b_tuple bb_tuple (ra_cons (re_lc G (ri_seq (ev 0)) (blkOk_by (own := [("row", 1)]) (by kernel_rfl)) (fun s1 H1 C1 cl1 fp1 => (gv 1 (G.blk s1 H1 _ _ fp1))) (fun s1 H1 C1 cl1 fp1 => rts_nil) (fun s1 H1 C1 cl1 fp1 => (re_bty rc_tuple rfl N.b_tuple bb_tuple (ra_cons (re_lc (G.blk s1 H1 _ _ fp1) (ri_seq (ev 1)) (blkOk_by (own := [("entry", 2)]) (by kernel_rfl)) (fun s2 H2 C2 cl2 fp2 => (gv 2 ((G.blk s1 H1 _ _ fp1).blk s2 H2 _ _ fp2))) (fun s2 H2 C2 cl2 fp2 => rts_nil) (fun s2 H2 C2 cl2 fp2 => (re_call (i := 3) ((G.blk s1 H1 _ _ fp1).blk s2 H2 _ _ fp2) rfl rfl N.g_ratio_of (ra_cons (ev 2) ra_nil))) (by decide)) ra_nil))) (by decide)) ra_nil))))
theorem ok_5 {fd : FuncData} (N : Nam K mg) (F : FunD K d_5.name d_5.qual d_5.params d_5.body d_5.scope (d_5.dvs K) (d_5.kws K) (He.fAd K d_5.at_) fd) (fo : FOk (tb.lw K) P w K mg base k c) : FnOk P w K mg base (L2.CX P w) (k + 10) ((tb.lw K).fad 5) ((tb.lw K).fdt 5) ((tb.lw K).fps 5) (spM K (tb.lw K) ((tb.lw K).fps 5).length (fnD 3 (B_5 c))) :=
  fn_rule (N := ["rows", "row", "entry"]) (funG_of F rfl rfl rfl) sc_5 fo (fun _ _ _ _ _ _ => rfl) fun X Wx hX G => rb_5 N hX G
theorem sc_6 : FnScope ["table"] ["table"] (defScope s_6) := ⟨rfl, rfl, rfl, by decide +kernel, rfl, by decide +kernel, by decide +kernel⟩
theorem rb_6 {f : Addr} {X : Cx} {Wx : WX} (N : Nam K mg) (hX : ∃ (cdv : Value) (A : Around) (outer : List Env) (s : Shared) (H : Hp) (E : XK), X = cxOf (L2.CX P w) P w K mg base ["table"] d_6.qual (defScope s_6) f cdv A outer s H E) (G : Gd (tb.lw K) X Wx k c) : RSs (tb.lw K) X Wx (defBody s_6) (B_6 c) := by
  obtain ⟨cdv, A, outer, s, H, E, rfl⟩ := hX
  exact (rss_one (rs_ret (re_bin (r2_bin G .Sub) (re_bin (r2_bin G .Mult) (re_ix G (re_ix G (ev 0) re_int) re_int) (re_ix G (re_ix G (ev 0) re_int) re_int)) (re_bin (r2_bin G .Mult) (re_ix G (re_ix G (ev 0) re_int) re_int) (re_ix G (re_ix G (ev 0) re_int) re_int)))))
theorem ok_6 {fd : FuncData} (N : Nam K mg) (F : FunD K d_6.name d_6.qual d_6.params d_6.body d_6.scope (d_6.dvs K) (d_6.kws K) (He.fAd K d_6.at_) fd) (fo : FOk (tb.lw K) P w K mg base k c) : FnOk P w K mg base (L2.CX P w) (k + 10) ((tb.lw K).fad 6) ((tb.lw K).fdt 6) ((tb.lw K).fps 6) (spM K (tb.lw K) ((tb.lw K).fps 6).length (fnD 1 (B_6 c))) :=
  fn_rule (N := ["table"]) (funG_of F rfl rfl rfl) sc_6 fo (fun _ _ _ _ _ _ => rfl) fun X Wx hX G => rb_6 N hX G
theorem sc_7 : FnScope ["one", "other", "row", "column"] ["one", "other"] (defScope s_7) := ⟨rfl, rfl, rfl, by decide +kernel, rfl, by decide +kernel, by decide +kernel⟩
theorem rb_7 {f : Addr} {X : Cx} {Wx : WX} (N : Nam K mg) (hX : ∃ (cdv : Value) (A : Around) (outer : List Env) (s : Shared) (H : Hp) (E : XK), X = cxOf (L2.CX P w) P w K mg base ["one", "other", "row", "column"] d_7.qual (defScope s_7) f cdv A outer s H E) (G : Gd (tb.lw K) X Wx k c) : RSs (tb.lw K) X Wx (defBody s_7) (B_7 c) := by
  obtain ⟨cdv, A, outer, s, H, E, rfl⟩ := hX
  exact (rss_one (rs_ret (re_bty rc_tuple rfl N.b_tuple bb_tuple (ra_cons (re_lc G (ri_seq (re_tup (ra_cons re_int (ra_cons re_int ra_nil)))) (blkOk_by (own := [("row", 2)]) (by kernel_rfl)) (fun s1 H1 C1 cl1 fp1 => (gv 2 (G.blk s1 H1 _ _ fp1))) (fun s1 H1 C1 cl1 fp1 => rts_nil) (fun s1 H1 C1 cl1 fp1 => (re_bty rc_tuple rfl N.b_tuple bb_tuple (ra_cons (re_lc (G.blk s1 H1 _ _ fp1) (ri_seq (re_tup (ra_cons re_int (ra_cons re_int ra_nil)))) (blkOk_by (own := [("column", 3)]) (by kernel_rfl)) (fun s2 H2 C2 cl2 fp2 => (gv 3 ((G.blk s1 H1 _ _ fp1).blk s2 H2 _ _ fp2))) (fun s2 H2 C2 cl2 fp2 => rts_nil) (fun s2 H2 C2 cl2 fp2 => (re_bin (r2_bin ((G.blk s1 H1 _ _ fp1).blk s2 H2 _ _ fp2) .Add) (re_bin (r2_bin ((G.blk s1 H1 _ _ fp1).blk s2 H2 _ _ fp2) .Mult) (re_ix ((G.blk s1 H1 _ _ fp1).blk s2 H2 _ _ fp2) (re_ix ((G.blk s1 H1 _ _ fp1).blk s2 H2 _ _ fp2) (ev 0) (ev 2)) re_int) (re_ix ((G.blk s1 H1 _ _ fp1).blk s2 H2 _ _ fp2) (re_ix ((G.blk s1 H1 _ _ fp1).blk s2 H2 _ _ fp2) (ev 1) re_int) (ev 3))) (re_bin (r2_bin ((G.blk s1 H1 _ _ fp1).blk s2 H2 _ _ fp2) .Mult) (re_ix ((G.blk s1 H1 _ _ fp1).blk s2 H2 _ _ fp2) (re_ix ((G.blk s1 H1 _ _ fp1).blk s2 H2 _ _ fp2) (ev 0) (ev 2)) re_int) (re_ix ((G.blk s1 H1 _ _ fp1).blk s2 H2 _ _ fp2) (re_ix ((G.blk s1 H1 _ _ fp1).blk s2 H2 _ _ fp2) (ev 1) re_int) (ev 3))))) (by decide)) ra_nil))) (by decide)) ra_nil))))
theorem ok_7 {fd : FuncData} (N : Nam K mg) (F : FunD K d_7.name d_7.qual d_7.params d_7.body d_7.scope (d_7.dvs K) (d_7.kws K) (He.fAd K d_7.at_) fd) (fo : FOk (tb.lw K) P w K mg base k c) : FnOk P w K mg base (L2.CX P w) (k + 10) ((tb.lw K).fad 7) ((tb.lw K).fdt 7) ((tb.lw K).fps 7) (spM K (tb.lw K) ((tb.lw K).fps 7).length (fnD 4 (B_7 c))) :=
  fn_rule (N := ["one", "other", "row", "column"]) (funG_of F rfl rfl rfl) sc_7 fo (fun _ _ _ _ _ _ => rfl) fun X Wx hX G => rb_7 N hX G
theorem sc_8 : FnScope ["table", "shift", "point"] ["table", "shift", "point"] (defScope s_8) := ⟨rfl, rfl, rfl, by decide +kernel, rfl, by decide +kernel, by decide +kernel⟩
theorem rb_8 {f : Addr} {X : Cx} {Wx : WX} (N : Nam K mg) (hX : ∃ (cdv : Value) (A : Around) (outer : List Env) (s : Shared) (H : Hp) (E : XK), X = cxOf (L2.CX P w) P w K mg base ["table", "shift", "point"] d_8.qual (defScope s_8) f cdv A outer s H E) (G : Gd (tb.lw K) X Wx k c) : RSs (tb.lw K) X Wx (defBody s_8) (B_8 c) := by
  obtain ⟨cdv, A, outer, s, H, E, rfl⟩ := hX
  exact (rss_one (rs_ret (re_mk (i := 1) (f := 62) G rfl rfl N.g_Point (ra_cons (re_bin (r2_bin G .Add) (re_bin (r2_bin G .Add) (re_bin (r2_bin G .Mult) (re_ix G (re_ix G (ev 0) re_int) re_int) (re_fld (g := 42) G (ev 2))) (re_bin (r2_bin G .Mult) (re_ix G (re_ix G (ev 0) re_int) re_int) (re_fld (g := 43) G (ev 2)))) (re_fld (g := 42) G (ev 1))) (ra_cons (re_bin (r2_bin G .Add) (re_bin (r2_bin G .Add) (re_bin (r2_bin G .Mult) (re_ix G (re_ix G (ev 0) re_int) re_int) (re_fld (g := 42) G (ev 2))) (re_bin (r2_bin G .Mult) (re_ix G (re_ix G (ev 0) re_int) re_int) (re_fld (g := 43) G (ev 2)))) (re_fld (g := 43) G (ev 1))) ra_nil)))))
theorem ok_8 {fd : FuncData} (N : Nam K mg) (F : FunD K d_8.name d_8.qual d_8.params d_8.body d_8.scope (d_8.dvs K) (d_8.kws K) (He.fAd K d_8.at_) fd) (fo : FOk (tb.lw K) P w K mg base k c) : FnOk P w K mg base (L2.CX P w) (k + 10) ((tb.lw K).fad 8) ((tb.lw K).fdt 8) ((tb.lw K).fps 8) (spM K (tb.lw K) ((tb.lw K).fps 8).length (fnD 3 (B_8 c))) :=
  fn_rule (N := ["table", "shift", "point"]) (funG_of F rfl rfl rfl) sc_8 fo (fun _ _ _ _ _ _ => rfl) fun X Wx hX G => rb_8 N hX G
theorem sc_9 : FnScope [] [] (defScope s_9) := ⟨rfl, rfl, rfl, by decide +kernel, rfl, by decide +kernel, by decide +kernel⟩
theorem rb_9 {f : Addr} {X : Cx} {Wx : WX} (N : Nam K mg) (hX : ∃ (cdv : Value) (A : Around) (outer : List Env) (s : Shared) (H : Hp) (E : XK), X = cxOf (L2.CX P w) P w K mg base [] d_9.qual (defScope s_9) f cdv A outer s H E) (G : Gd (tb.lw K) X Wx k c) : RSs (tb.lw K) X Wx (defBody s_9) (B_9 c) := by
  obtain ⟨cdv, A, outer, s, H, E, rfl⟩ := hX
  exact (rss_one (rs_ret (re_mk (i := 2) (f := 70) G rfl rfl N.g_Motion (ra_cons (re_tup (ra_cons (re_tup (ra_cons re_int (ra_cons re_int ra_nil))) (ra_cons (re_tup (ra_cons re_int (ra_cons re_int ra_nil))) ra_nil))) ra_nil))))
theorem ok_9 {fd : FuncData} (N : Nam K mg) (F : FunD K d_9.name d_9.qual d_9.params d_9.body d_9.scope (d_9.dvs K) (d_9.kws K) (He.fAd K d_9.at_) fd) (fo : FOk (tb.lw K) P w K mg base k c) : FnOk P w K mg base (L2.CX P w) (k + 10) ((tb.lw K).fad 9) ((tb.lw K).fdt 9) ((tb.lw K).fps 9) (spM K (tb.lw K) ((tb.lw K).fps 9).length (fnD 0 (B_9 c))) :=
  fn_rule (N := []) (funG_of F rfl rfl rfl) sc_9 fo (fun _ _ _ _ _ _ => rfl) fun X Wx hX G => rb_9 N hX G
theorem sc_10 : FnScope ["point"] ["point"] (defScope s_10) := ⟨rfl, rfl, rfl, by decide +kernel, rfl, by decide +kernel, by decide +kernel⟩
theorem rb_10 {f : Addr} {X : Cx} {Wx : WX} (N : Nam K mg) (hX : ∃ (cdv : Value) (A : Around) (outer : List Env) (s : Shared) (H : Hp) (E : XK), X = cxOf (L2.CX P w) P w K mg base ["point"] d_10.qual (defScope s_10) f cdv A outer s H E) (G : Gd (tb.lw K) X Wx k c) : RSs (tb.lw K) X Wx (defBody s_10) (B_10 c) := by
  obtain ⟨cdv, A, outer, s, H, E, rfl⟩ := hX
  exact (rss_one (rs_ret (re_mk (i := 2) (f := 70) G rfl rfl N.g_Motion (ra_cons (re_tup (ra_cons (re_tup (ra_cons re_int (ra_cons re_int ra_nil))) (ra_cons (re_tup (ra_cons re_int (ra_cons re_int ra_nil))) ra_nil))) (ra_cons (ev 0) ra_nil)))))
theorem ok_10 {fd : FuncData} (N : Nam K mg) (F : FunD K d_10.name d_10.qual d_10.params d_10.body d_10.scope (d_10.dvs K) (d_10.kws K) (He.fAd K d_10.at_) fd) (fo : FOk (tb.lw K) P w K mg base k c) : FnOk P w K mg base (L2.CX P w) (k + 10) ((tb.lw K).fad 10) ((tb.lw K).fdt 10) ((tb.lw K).fps 10) (spM K (tb.lw K) ((tb.lw K).fps 10).length (fnD 1 (B_10 c))) :=
  fn_rule (N := ["point"]) (funG_of F rfl rfl rfl) sc_10 fo (fun _ _ _ _ _ _ => rfl) fun X Wx hX G => rb_10 N hX G
theorem sc_11 : FnScope ["script"] ["script"] (defScope s_11) := ⟨rfl, rfl, rfl, by decide +kernel, rfl, by decide +kernel, by decide +kernel⟩
theorem rb_11 {f : Addr} {X : Cx} {Wx : WX} (N : Nam K mg) (hX : ∃ (cdv : Value) (A : Around) (outer : List Env) (s : Shared) (H : Hp) (E : XK), X = cxOf (L2.CX P w) P w K mg base ["script"] d_11.qual (defScope s_11) f cdv A outer s H E) (G : Gd (tb.lw K) X Wx k c) : RSs (tb.lw K) X Wx (defBody s_11) (B_11 c) := by
  obtain ⟨cdv, A, outer, s, H, E, rfl⟩ := hX
  exact (rss_one (rs_ret (re_dic (ks := ["cells", "at", "left"]) (RPs.cons (re_bty rc_list rfl N.b_list bb_list (ra_cons (re_sl (ev 0) ro_no (ro_so re_int)) ra_nil)) (RPs.cons re_int (RPs.cons re_int RPs.nil))) (by simp) (by decide))))
theorem ok_11 {fd : FuncData} (N : Nam K mg) (F : FunD K d_11.name d_11.qual d_11.params d_11.body d_11.scope (d_11.dvs K) (d_11.kws K) (He.fAd K d_11.at_) fd) (fo : FOk (tb.lw K) P w K mg base k c) : FnOk P w K mg base (L2.CX P w) (k + 10) ((tb.lw K).fad 11) ((tb.lw K).fdt 11) ((tb.lw K).fps 11) (spM K (tb.lw K) ((tb.lw K).fps 11).length (fnD 1 (B_11 c))) :=
  fn_rule (N := ["script"]) (funG_of F rfl rfl rfl) sc_11 fo (fun _ _ _ _ _ _ => rfl) fun X Wx hX G => rb_11 N hX G
theorem sc_12 : FnScope ["pen", "span", "digit", "at", "cell", "mash"] ["pen", "span"] (defScope s_12) := ⟨rfl, rfl, rfl, by decide +kernel, rfl, by decide +kernel, by decide +kernel⟩
theorem rb_12 {f : Addr} {X : Cx} {Wx : WX} (N : Nam K mg) (hX : ∃ (cdv : Value) (A : Around) (outer : List Env) (s : Shared) (H : Hp) (E : XK), X = cxOf (L2.CX P w) P w K mg base ["pen", "span", "digit", "at", "cell", "mash"] d_12.qual (defScope s_12) f cdv A outer s H E) (G : Gd (tb.lw K) X Wx k c) : RSs (tb.lw K) X Wx (defBody s_12) (B_12 c) := by
  obtain ⟨cdv, A, outer, s, H, E, rfl⟩ := hX
  exact (rss_cons (rs_if (rt_cmp (rtv_tru G) (r2_ord G .GtE) (re_ix G (ev 0) re_str) (ev 1) rfl) (rss_cons (sv 2 G (re_bin (r2_bin G .Mod) (re_bty rc_int rfl N.b_int bb_int (ra_cons (re_ix G (ev 0) re_str) ra_nil)) (ev 1))) (rss_cons (rs_sput G (ev 0) re_str (re_bin (r2_bin G .FloorDiv) (re_ix G (ev 0) re_str) (ev 1))) (rss_one (rs_ret (ev 2))))) rss_nil) (rss_cons (sv 3 G (re_ix G (ev 0) re_str)) (rss_cons (rs_sput G (ev 0) re_str (re_bin (r2_bin G .Add) (ev 3) re_int)) (rss_cons (sv 4 G (re_bin (r2_bin G .Add) (re_bin (r2_bin G .Mult) re_int (ev 3)) re_int)) (rss_cons (rs_if (rt_cmp (rtv_tru G) (r2_ne G) (re_ix G (ev 0) re_str) (re_lst ra_nil) rfl) (rss_one (sv 4 G (re_ix G (re_ix G (ev 0) re_str) (re_bin (r2_bin G .Mod) (re_bty rc_int rfl N.b_int bb_int (ra_cons (ev 3) ra_nil)) (re_bfn (rc_len) rfl N.b_len bb_len (ra_cons (re_ix G (ev 0) re_str) ra_nil)))))) rss_nil) (rss_cons (rs_if (RW.rt (rw_and (rt_cmp (rtv_tru G) (r2_ord G .Lt) (ev 3) (re_bfn (rc_len) rfl N.b_len bb_len (ra_cons (re_ix G (ev 0) re_str) ra_nil)) rfl) (rw_and1 (rt_cmp (rtv_tru G) (r2_ord G .GtE) (ev 4) (re_bin (r2_bin G .Pow) re_int re_int) rfl)))) (rss_cons (rs_sput G (ev 0) re_str (re_bin (r2_bin G .FloorDiv) (re_bin (r2_bin G .Sub) (ev 4) (re_bin (r2_bin G .Pow) re_int re_int)) (ev 1))) (rss_one (rs_ret (re_bin (r2_bin G .Mod) (re_bty rc_int rfl N.b_int bb_int (ra_cons (re_bin (r2_bin G .Sub) (ev 4) (re_bin (r2_bin G .Pow) re_int re_int)) ra_nil)) (ev 1))))) rss_nil) (rss_cons (sv 5 G (re_bin (r2_bin G .Add) (re_bin (r2_bin G .Mult) (re_bin (r2_bin G .Mod) (re_bty rc_int rfl N.b_int bb_int (ra_cons (ev 4) ra_nil)) re_int) re_int) (re_bin (r2_bin G .Mult) (re_bin (r2_bin G .Mult) re_int (ev 3)) (ev 3)))) (rss_cons (sv 5 G (re_bin (r2_bin G .Mod) (re_bty rc_int rfl N.b_int bb_int (ra_cons (re_bin (r2_bin G .Add) (re_bin (r2_bin G .Add) (ev 5) (re_bin (r2_bin G .Mult) re_int (ev 3))) re_int) ra_nil)) re_int)) (rss_cons (sv 5 G (re_bin (r2_bin G .Mod) (re_bty rc_int rfl N.b_int bb_int (ra_cons (re_bin (r2_bin G .Mult) (ev 5) (re_bin (r2_bin G .Add) (ev 5) re_int)) ra_nil)) re_int)) (rss_one (rs_ret (re_bin (r2_bin G .Mod) (re_bty rc_int rfl N.b_int bb_int (ra_cons (re_bin (r2_bin G .FloorDiv) (re_bin (r2_bin G .Mod) (re_bty rc_int rfl N.b_int bb_int (ra_cons (re_bin (r2_bin G .Add) (re_bin (r2_bin G .Mult) (ev 5) (ev 5)) (re_bin (r2_bin G .Mult) re_int (ev 5))) ra_nil)) re_int) re_int) ra_nil)) (ev 1)))))))))))))
theorem ok_12 {fd : FuncData} (N : Nam K mg) (F : FunD K d_12.name d_12.qual d_12.params d_12.body d_12.scope (d_12.dvs K) (d_12.kws K) (He.fAd K d_12.at_) fd) (fo : FOk (tb.lw K) P w K mg base k c) : FnOk P w K mg base (L2.CX P w) (k + 10) ((tb.lw K).fad 12) ((tb.lw K).fdt 12) ((tb.lw K).fps 12) (spM K (tb.lw K) ((tb.lw K).fps 12).length (fnD 6 (B_12 c))) :=
  fn_rule (N := ["pen", "span", "digit", "at", "cell", "mash"]) (funG_of F rfl rfl rfl) sc_12 fo (fun _ _ _ _ _ _ => rfl) fun X Wx hX G => rb_12 N hX G
theorem sc_13 : FnScope ["pen", "items"] ["pen", "items"] (defScope s_13) := ⟨rfl, rfl, rfl, by decide +kernel, rfl, by decide +kernel, by decide +kernel⟩
theorem rb_13 {f : Addr} {X : Cx} {Wx : WX} (N : Nam K mg) (hX : ∃ (cdv : Value) (A : Around) (outer : List Env) (s : Shared) (H : Hp) (E : XK), X = cxOf (L2.CX P w) P w K mg base ["pen", "items"] d_13.qual (defScope s_13) f cdv A outer s H E) (G : Gd (tb.lw K) X Wx k c) : RSs (tb.lw K) X Wx (defBody s_13) (B_13 c) := by
  obtain ⟨cdv, A, outer, s, H, E, rfl⟩ := hX
  exact (rss_one (rs_ret (re_ix G (ev 1) (re_call (i := 12) G rfl rfl N.g__law_draw (ra_cons (ev 0) (ra_cons (re_bfn (rc_len) rfl N.b_len bb_len (ra_cons (ev 1) ra_nil)) ra_nil))))))
theorem ok_13 {fd : FuncData} (N : Nam K mg) (F : FunD K d_13.name d_13.qual d_13.params d_13.body d_13.scope (d_13.dvs K) (d_13.kws K) (He.fAd K d_13.at_) fd) (fo : FOk (tb.lw K) P w K mg base k c) : FnOk P w K mg base (L2.CX P w) (k + 10) ((tb.lw K).fad 13) ((tb.lw K).fdt 13) ((tb.lw K).fps 13) (spM K (tb.lw K) ((tb.lw K).fps 13).length (fnD 2 (B_13 c))) :=
  fn_rule (N := ["pen", "items"]) (funG_of F rfl rfl rfl) sc_13 fo (fun _ _ _ _ _ _ => rfl) fun X Wx hX G => rb_13 N hX G
theorem sc_14 : FnScope ["pen", "figures", "found", "go"] ["pen", "figures"] (defScope s_14) := ⟨rfl, rfl, rfl, by decide +kernel, rfl, by decide +kernel, by decide +kernel⟩
theorem rb_14 {f : Addr} {X : Cx} {Wx : WX} (N : Nam K mg) (hX : ∃ (cdv : Value) (A : Around) (outer : List Env) (s : Shared) (H : Hp) (E : XK), X = cxOf (L2.CX P w) P w K mg base ["pen", "figures", "found", "go"] d_14.qual (defScope s_14) f cdv A outer s H E) (G : Gd (tb.lw K) X Wx k c) : RSs (tb.lw K) X Wx (defBody s_14) (B_14 c) := by
  obtain ⟨cdv, A, outer, s, H, E, rfl⟩ := hX
  exact (rss_cons (sv 2 G re_int) (rss_cons (rs_for G.po G.calm (ri_range1 rfl N.b_range (ra_cons (re_bin (r2_bin G .Add) re_int (re_call (i := 12) G rfl rfl N.g__law_draw (ra_cons (ev 0) (ra_cons (re_bin (r2_bin G .FloorDiv) (ev 1) re_int) ra_nil)))) ra_nil)) (gv 3 G) (rss_one (sv 2 G (re_bin (r2_bin G .Add) (re_bin (r2_bin G .Mult) (ev 2) (re_bin (r2_bin G .Pow) re_int re_int)) (re_call (i := 12) G rfl rfl N.g__law_draw (ra_cons (ev 0) (ra_cons (re_bin (r2_bin G .Pow) re_int re_int) ra_nil))))))) (rss_one (rs_ret (ev 2)))))
theorem ok_14 {fd : FuncData} (N : Nam K mg) (F : FunD K d_14.name d_14.qual d_14.params d_14.body d_14.scope (d_14.dvs K) (d_14.kws K) (He.fAd K d_14.at_) fd) (fo : FOk (tb.lw K) P w K mg base k c) : FnOk P w K mg base (L2.CX P w) (k + 10) ((tb.lw K).fad 14) ((tb.lw K).fdt 14) ((tb.lw K).fps 14) (spM K (tb.lw K) ((tb.lw K).fps 14).length (fnD 4 (B_14 c))) :=
  fn_rule (N := ["pen", "figures", "found", "go"]) (funG_of F rfl rfl rfl) sc_14 fo (fun _ _ _ _ _ _ => rfl) fun X Wx hX G => rb_14 N hX G
theorem sc_15 : FnScope ["first", "second"] ["first", "second"] (defScope s_15) := ⟨rfl, rfl, rfl, by decide +kernel, rfl, by decide +kernel, by decide +kernel⟩
theorem rb_15 {f : Addr} {X : Cx} {Wx : WX} (N : Nam K mg) (hX : ∃ (cdv : Value) (A : Around) (outer : List Env) (s : Shared) (H : Hp) (E : XK), X = cxOf (L2.CX P w) P w K mg base ["first", "second"] d_15.qual (defScope s_15) f cdv A outer s H E) (G : Gd (tb.lw K) X Wx k c) : RSs (tb.lw K) X Wx (defBody s_15) (B_15 c) := by
  obtain ⟨cdv, A, outer, s, H, E, rfl⟩ := hX
  exact (rss_cons (pr2 0 1 G (ra_cons (re_bfn (rc_abs) rfl N.b_abs bb_abs (ra_cons (ev 0) ra_nil)) (ra_cons (re_bfn (rc_abs) rfl N.b_abs bb_abs (ra_cons (ev 1) ra_nil)) ra_nil))) (rss_cons (rs_while G.po (rt_cmp (rtv_tru G) (r2_ord G .Gt) (ev 1) re_int rfl) (rss_one (pr2 0 1 G (ra_cons (ev 1) (ra_cons (re_bin (r2_bin G .Mod) (re_bty rc_int rfl N.b_int bb_int (ra_cons (ev 0) ra_nil)) (ev 1)) ra_nil))))) (rss_one (rs_ret (ev 0)))))
theorem ok_15 {fd : FuncData} (N : Nam K mg) (F : FunD K d_15.name d_15.qual d_15.params d_15.body d_15.scope (d_15.dvs K) (d_15.kws K) (He.fAd K d_15.at_) fd) (fo : FOk (tb.lw K) P w K mg base k c) : FnOk P w K mg base (L2.CX P w) (k + 10) ((tb.lw K).fad 15) ((tb.lw K).fdt 15) ((tb.lw K).fps 15) (spM K (tb.lw K) ((tb.lw K).fps 15).length (fnD 2 (B_15 c))) :=
  fn_rule (N := ["first", "second"]) (funG_of F rfl rfl rfl) sc_15 fo (fun _ _ _ _ _ _ => rfl) fun X Wx hX G => rb_15 N hX G
theorem sc_16 : FnScope ["pair", "common"] ["pair"] (defScope s_16) := ⟨rfl, rfl, rfl, by decide +kernel, rfl, by decide +kernel, by decide +kernel⟩
theorem rb_16 {f : Addr} {X : Cx} {Wx : WX} (N : Nam K mg) (hX : ∃ (cdv : Value) (A : Around) (outer : List Env) (s : Shared) (H : Hp) (E : XK), X = cxOf (L2.CX P w) P w K mg base ["pair", "common"] d_16.qual (defScope s_16) f cdv A outer s H E) (G : Gd (tb.lw K) X Wx k c) : RSs (tb.lw K) X Wx (defBody s_16) (B_16 c) := by
  obtain ⟨cdv, A, outer, s, H, E, rfl⟩ := hX
  exact (rss_cons (sv 1 G (re_call (i := 15) G rfl rfl N.g__law_gcd (ra_cons (re_ix G (ev 0) re_int) (ra_cons (re_ix G (ev 0) re_int) ra_nil)))) (rss_cons (rs_if (rt_cmp (rtv_tru G) (r2_ord G .Lt) (re_ix G (ev 0) re_int) re_int rfl) (rss_one (sv 1 G (re_un (r1_neg G) (ev 1)))) rss_nil) (rss_one (rs_ret (re_tup (ra_cons (re_bin (r2_bin G .FloorDiv) (re_ix G (ev 0) re_int) (ev 1)) (ra_cons (re_bin (r2_bin G .FloorDiv) (re_ix G (ev 0) re_int) (ev 1)) ra_nil)))))))
theorem ok_16 {fd : FuncData} (N : Nam K mg) (F : FunD K d_16.name d_16.qual d_16.params d_16.body d_16.scope (d_16.dvs K) (d_16.kws K) (He.fAd K d_16.at_) fd) (fo : FOk (tb.lw K) P w K mg base k c) : FnOk P w K mg base (L2.CX P w) (k + 10) ((tb.lw K).fad 16) ((tb.lw K).fdt 16) ((tb.lw K).fps 16) (spM K (tb.lw K) ((tb.lw K).fps 16).length (fnD 2 (B_16 c))) :=
  fn_rule (N := ["pair", "common"]) (funG_of F rfl rfl rfl) sc_16 fo (fun _ _ _ _ _ _ => rfl) fun X Wx hX G => rb_16 N hX G
theorem sc_17 : FnScope ["one", "other"] ["one", "other"] (defScope s_17) := ⟨rfl, rfl, rfl, by decide +kernel, rfl, by decide +kernel, by decide +kernel⟩
theorem rb_17 {f : Addr} {X : Cx} {Wx : WX} (N : Nam K mg) (hX : ∃ (cdv : Value) (A : Around) (outer : List Env) (s : Shared) (H : Hp) (E : XK), X = cxOf (L2.CX P w) P w K mg base ["one", "other"] d_17.qual (defScope s_17) f cdv A outer s H E) (G : Gd (tb.lw K) X Wx k c) : RSs (tb.lw K) X Wx (defBody s_17) (B_17 c) := by
  obtain ⟨cdv, A, outer, s, H, E, rfl⟩ := hX
  exact (rss_one (rs_ret (re_call (i := 16) G rfl rfl N.g__law_cut (ra_cons (re_tup (ra_cons (re_bin (r2_bin G .Add) (re_bin (r2_bin G .Mult) (re_ix G (ev 0) re_int) (re_ix G (ev 1) re_int)) (re_bin (r2_bin G .Mult) (re_ix G (ev 1) re_int) (re_ix G (ev 0) re_int))) (ra_cons (re_bin (r2_bin G .Mult) (re_ix G (ev 0) re_int) (re_ix G (ev 1) re_int)) ra_nil))) ra_nil))))
theorem ok_17 {fd : FuncData} (N : Nam K mg) (F : FunD K d_17.name d_17.qual d_17.params d_17.body d_17.scope (d_17.dvs K) (d_17.kws K) (He.fAd K d_17.at_) fd) (fo : FOk (tb.lw K) P w K mg base k c) : FnOk P w K mg base (L2.CX P w) (k + 10) ((tb.lw K).fad 17) ((tb.lw K).fdt 17) ((tb.lw K).fps 17) (spM K (tb.lw K) ((tb.lw K).fps 17).length (fnD 2 (B_17 c))) :=
  fn_rule (N := ["one", "other"]) (funG_of F rfl rfl rfl) sc_17 fo (fun _ _ _ _ _ _ => rfl) fun X Wx hX G => rb_17 N hX G
theorem sc_18 : FnScope ["one", "other"] ["one", "other"] (defScope s_18) := ⟨rfl, rfl, rfl, by decide +kernel, rfl, by decide +kernel, by decide +kernel⟩
theorem rb_18 {f : Addr} {X : Cx} {Wx : WX} (N : Nam K mg) (hX : ∃ (cdv : Value) (A : Around) (outer : List Env) (s : Shared) (H : Hp) (E : XK), X = cxOf (L2.CX P w) P w K mg base ["one", "other"] d_18.qual (defScope s_18) f cdv A outer s H E) (G : Gd (tb.lw K) X Wx k c) : RSs (tb.lw K) X Wx (defBody s_18) (B_18 c) := by
  obtain ⟨cdv, A, outer, s, H, E, rfl⟩ := hX
  exact (rss_one (rs_ret (re_call (i := 16) G rfl rfl N.g__law_cut (ra_cons (re_tup (ra_cons (re_bin (r2_bin G .Mult) (re_ix G (ev 0) re_int) (re_ix G (ev 1) re_int)) (ra_cons (re_bin (r2_bin G .Mult) (re_ix G (ev 0) re_int) (re_ix G (ev 1) re_int)) ra_nil))) ra_nil))))
theorem ok_18 {fd : FuncData} (N : Nam K mg) (F : FunD K d_18.name d_18.qual d_18.params d_18.body d_18.scope (d_18.dvs K) (d_18.kws K) (He.fAd K d_18.at_) fd) (fo : FOk (tb.lw K) P w K mg base k c) : FnOk P w K mg base (L2.CX P w) (k + 10) ((tb.lw K).fad 18) ((tb.lw K).fdt 18) ((tb.lw K).fps 18) (spM K (tb.lw K) ((tb.lw K).fps 18).length (fnD 2 (B_18 c))) :=
  fn_rule (N := ["one", "other"]) (funG_of F rfl rfl rfl) sc_18 fo (fun _ _ _ _ _ _ => rfl) fun X Wx hX G => rb_18 N hX G
theorem sc_19 : FnScope ["pen", "far", "top"] ["pen", "far"] (defScope s_19) := ⟨rfl, rfl, rfl, by decide +kernel, rfl, by decide +kernel, by decide +kernel⟩
theorem rb_19 {f : Addr} {X : Cx} {Wx : WX} (N : Nam K mg) (hX : ∃ (cdv : Value) (A : Around) (outer : List Env) (s : Shared) (H : Hp) (E : XK), X = cxOf (L2.CX P w) P w K mg base ["pen", "far", "top"] d_19.qual (defScope s_19) f cdv A outer s H E) (G : Gd (tb.lw K) X Wx k c) : RSs (tb.lw K) X Wx (defBody s_19) (B_19 c) := by
  obtain ⟨cdv, A, outer, s, H, E, rfl⟩ := hX
  exact (rss_cons (sv 2 G (re_bin (r2_bin G .Sub) (re_call (i := 12) G rfl rfl N.g__law_draw (ra_cons (ev 0) (ra_cons re_int ra_nil))) re_int)) (rss_cons (rs_if (RW.rt (rw_and (rt_cmp (rtv_tru G) (r2_ord G .Gt) (ev 1) re_int rfl) (rw_and1 (rt_cmp (rtv_tru G) (r2_eq G) (re_call (i := 12) G rfl rfl N.g__law_draw (ra_cons (ev 0) (ra_cons re_int ra_nil))) re_int rfl)))) (rss_one (sv 2 G (re_bin (r2_bin G .Sub) (re_call (i := 14) G rfl rfl N.g__law_great (ra_cons (ev 0) (ra_cons (ev 1) ra_nil))) (re_bin (r2_bin G .Pow) re_int re_int)))) rss_nil) (rss_one (rs_ret (re_call (i := 16) G rfl rfl N.g__law_cut (ra_cons (re_tup (ra_cons (ev 2) (ra_cons (re_call (i := 13) G rfl rfl N.g__law_pick (ra_cons (ev 0) (ra_cons (re_lst (ra_cons re_int (ra_cons re_int (ra_cons re_int (ra_cons re_int (ra_cons re_int (ra_cons re_int (ra_cons re_int (ra_cons re_int (ra_cons re_int ra_nil)))))))))) ra_nil))) ra_nil))) ra_nil))))))
theorem ok_19 {fd : FuncData} (N : Nam K mg) (F : FunD K d_19.name d_19.qual d_19.params d_19.body d_19.scope (d_19.dvs K) (d_19.kws K) (He.fAd K d_19.at_) fd) (fo : FOk (tb.lw K) P w K mg base k c) : FnOk P w K mg base (L2.CX P w) (k + 10) ((tb.lw K).fad 19) ((tb.lw K).fdt 19) ((tb.lw K).fps 19) (spM K (tb.lw K) ((tb.lw K).fps 19).length (fnD 3 (B_19 c))) :=
  fn_rule (N := ["pen", "far", "top"]) (funG_of F rfl rfl rfl) sc_19 fo (fun _ _ _ _ _ _ => rfl) fun X Wx hX G => rb_19 N hX G
theorem sc_20 : FnScope ["number"] ["number"] (defScope s_20) := ⟨rfl, rfl, rfl, by decide +kernel, rfl, by decide +kernel, by decide +kernel⟩
theorem rb_20 {f : Addr} {X : Cx} {Wx : WX} (N : Nam K mg) (hX : ∃ (cdv : Value) (A : Around) (outer : List Env) (s : Shared) (H : Hp) (E : XK), X = cxOf (L2.CX P w) P w K mg base ["number"] d_20.qual (defScope s_20) f cdv A outer s H E) (G : Gd (tb.lw K) X Wx k c) : RSs (tb.lw K) X Wx (defBody s_20) (B_20 c) := by
  obtain ⟨cdv, A, outer, s, H, E, rfl⟩ := hX
  exact (rss_one (rs_ret (re_tup (ra_cons (re_fld (g := 40) G (ev 0)) (ra_cons (re_fld (g := 41) G (ev 0)) ra_nil)))))
theorem ok_20 {fd : FuncData} (N : Nam K mg) (F : FunD K d_20.name d_20.qual d_20.params d_20.body d_20.scope (d_20.dvs K) (d_20.kws K) (He.fAd K d_20.at_) fd) (fo : FOk (tb.lw K) P w K mg base k c) : FnOk P w K mg base (L2.CX P w) (k + 10) ((tb.lw K).fad 20) ((tb.lw K).fdt 20) ((tb.lw K).fps 20) (spM K (tb.lw K) ((tb.lw K).fps 20).length (fnD 1 (B_20 c))) :=
  fn_rule (N := ["number"]) (funG_of F rfl rfl rfl) sc_20 fo (fun _ _ _ _ _ _ => rfl) fun X Wx hX G => rb_20 N hX G
theorem sc_21 : FnScope ["pen", "pair"] ["pen", "pair"] (defScope s_21) := ⟨rfl, rfl, rfl, by decide +kernel, rfl, by decide +kernel, by decide +kernel⟩
theorem rb_21 {f : Addr} {X : Cx} {Wx : WX} (N : Nam K mg) (hX : ∃ (cdv : Value) (A : Around) (outer : List Env) (s : Shared) (H : Hp) (E : XK), X = cxOf (L2.CX P w) P w K mg base ["pen", "pair"] d_21.qual (defScope s_21) f cdv A outer s H E) (G : Gd (tb.lw K) X Wx k c) : RSs (tb.lw K) X Wx (defBody s_21) (B_21 c) := by
  obtain ⟨cdv, A, outer, s, H, E, rfl⟩ := hX
  exact (rss_cons (rs_if (RW.rt (rw_and (rt_cmp (rtv_tru G) (r2_eq G) (re_ix G (ev 1) re_int) re_int rfl) (rw_and1 (rt_cmp (rtv_tru G) (r2_eq G) (re_call (i := 12) G rfl rfl N.g__law_draw (ra_cons (ev 0) (ra_cons re_int ra_nil))) re_int rfl)))) (rss_one (rs_ret (re_ix G (ev 1) re_int))) rss_nil) (rss_one (rs_ret (re_mk (i := 0) (f := 40) G rfl rfl N.g_Ratio (ra_cons (re_ix G (ev 1) re_int) (ra_cons (re_ix G (ev 1) re_int) ra_nil))))))
theorem ok_21 {fd : FuncData} (N : Nam K mg) (F : FunD K d_21.name d_21.qual d_21.params d_21.body d_21.scope (d_21.dvs K) (d_21.kws K) (He.fAd K d_21.at_) fd) (fo : FOk (tb.lw K) P w K mg base k c) : FnOk P w K mg base (L2.CX P w) (k + 10) ((tb.lw K).fad 21) ((tb.lw K).fdt 21) ((tb.lw K).fps 21) (spM K (tb.lw K) ((tb.lw K).fps 21).length (fnD 2 (B_21 c))) :=
  fn_rule (N := ["pen", "pair"]) (funG_of F rfl rfl rfl) sc_21 fo (fun _ _ _ _ _ _ => rfl) fun X Wx hX G => rb_21 N hX G
theorem sc_22 : FnScope ["pen", "spot"] ["pen", "spot"] (defScope s_22) := ⟨rfl, rfl, rfl, by decide +kernel, rfl, by decide +kernel, by decide +kernel⟩
theorem rb_22 {f : Addr} {X : Cx} {Wx : WX} (N : Nam K mg) (hX : ∃ (cdv : Value) (A : Around) (outer : List Env) (s : Shared) (H : Hp) (E : XK), X = cxOf (L2.CX P w) P w K mg base ["pen", "spot"] d_22.qual (defScope s_22) f cdv A outer s H E) (G : Gd (tb.lw K) X Wx k c) : RSs (tb.lw K) X Wx (defBody s_22) (B_22 c) := by
  obtain ⟨cdv, A, outer, s, H, E, rfl⟩ := hX
  exact (rss_one (rs_ret (re_mk (i := 1) (f := 62) G rfl rfl N.g_Point (ra_cons (re_call (i := 21) G rfl rfl N.g__law_given (ra_cons (ev 0) (ra_cons (re_ix G (ev 1) re_int) ra_nil))) (ra_cons (re_call (i := 21) G rfl rfl N.g__law_given (ra_cons (ev 0) (ra_cons (re_ix G (ev 1) re_int) ra_nil))) ra_nil)))))
theorem ok_22 {fd : FuncData} (N : Nam K mg) (F : FunD K d_22.name d_22.qual d_22.params d_22.body d_22.scope (d_22.dvs K) (d_22.kws K) (He.fAd K d_22.at_) fd) (fo : FOk (tb.lw K) P w K mg base k c) : FnOk P w K mg base (L2.CX P w) (k + 10) ((tb.lw K).fad 22) ((tb.lw K).fdt 22) ((tb.lw K).fps 22) (spM K (tb.lw K) ((tb.lw K).fps 22).length (fnD 2 (B_22 c))) :=
  fn_rule (N := ["pen", "spot"]) (funG_of F rfl rfl rfl) sc_22 fo (fun _ _ _ _ _ _ => rfl) fun X Wx hX G => rb_22 N hX G
theorem sc_23 : FnScope ["point"] ["point"] (defScope s_23) := ⟨rfl, rfl, rfl, by decide +kernel, rfl, by decide +kernel, by decide +kernel⟩
theorem rb_23 {f : Addr} {X : Cx} {Wx : WX} (N : Nam K mg) (hX : ∃ (cdv : Value) (A : Around) (outer : List Env) (s : Shared) (H : Hp) (E : XK), X = cxOf (L2.CX P w) P w K mg base ["point"] d_23.qual (defScope s_23) f cdv A outer s H E) (G : Gd (tb.lw K) X Wx k c) : RSs (tb.lw K) X Wx (defBody s_23) (B_23 c) := by
  obtain ⟨cdv, A, outer, s, H, E, rfl⟩ := hX
  exact (rss_one (rs_ret (re_tup (ra_cons (re_call (i := 20) G rfl rfl N.g__law_told (ra_cons (re_fld (g := 42) G (ev 0)) ra_nil)) (ra_cons (re_call (i := 20) G rfl rfl N.g__law_told (ra_cons (re_fld (g := 43) G (ev 0)) ra_nil)) ra_nil)))))
theorem ok_23 {fd : FuncData} (N : Nam K mg) (F : FunD K d_23.name d_23.qual d_23.params d_23.body d_23.scope (d_23.dvs K) (d_23.kws K) (He.fAd K d_23.at_) fd) (fo : FOk (tb.lw K) P w K mg base k c) : FnOk P w K mg base (L2.CX P w) (k + 10) ((tb.lw K).fad 23) ((tb.lw K).fdt 23) ((tb.lw K).fps 23) (spM K (tb.lw K) ((tb.lw K).fps 23).length (fnD 1 (B_23 c))) :=
  fn_rule (N := ["point"]) (funG_of F rfl rfl rfl) sc_23 fo (fun _ _ _ _ _ _ => rfl) fun X Wx hX G => rb_23 N hX G
theorem sc_24 : FnScope ["pen", "far", "go", "rows"] ["pen", "far"] (defScope s_24) := ⟨rfl, rfl, rfl, by decide +kernel, rfl, by decide +kernel, by decide +kernel⟩
theorem rb_24 {f : Addr} {X : Cx} {Wx : WX} (N : Nam K mg) (hX : ∃ (cdv : Value) (A : Around) (outer : List Env) (s : Shared) (H : Hp) (E : XK), X = cxOf (L2.CX P w) P w K mg base ["pen", "far", "go", "rows"] d_24.qual (defScope s_24) f cdv A outer s H E) (G : Gd (tb.lw K) X Wx k c) : RSs (tb.lw K) X Wx (defBody s_24) (B_24 c) := by
  obtain ⟨cdv, A, outer, s, H, E, rfl⟩ := hX
  exact (rss_cons (rs_for G.po G.calm (ri_range1 rfl N.b_range (ra_cons re_int ra_nil)) (gv 2 G) (rss_cons (sv 3 G (re_tup (ra_cons (re_tup (ra_cons (re_call (i := 19) G rfl rfl N.g__law_fraction (ra_cons (ev 0) (ra_cons (ev 1) ra_nil))) (ra_cons (re_call (i := 19) G rfl rfl N.g__law_fraction (ra_cons (ev 0) (ra_cons re_int ra_nil))) ra_nil))) (ra_cons (re_tup (ra_cons (re_call (i := 19) G rfl rfl N.g__law_fraction (ra_cons (ev 0) (ra_cons re_int ra_nil))) (ra_cons (re_call (i := 19) G rfl rfl N.g__law_fraction (ra_cons (ev 0) (ra_cons (ev 1) ra_nil))) ra_nil))) ra_nil)))) (rss_one (rs_if (rt_cmp (rtv_tru G) (r2_ne G) (re_ix G (re_call (i := 25) G rfl rfl N.g__law_factor (ra_cons (ev 3) ra_nil)) re_int) re_int rfl) (rss_one (rs_ret (ev 3))) rss_nil)))) (rss_one (rs_ret (re_tup (ra_cons (re_tup (ra_cons (re_tup (ra_cons re_int (ra_cons re_int ra_nil))) (ra_cons (re_tup (ra_cons re_int (ra_cons re_int ra_nil))) ra_nil))) (ra_cons (re_tup (ra_cons (re_tup (ra_cons re_int (ra_cons re_int ra_nil))) (ra_cons (re_tup (ra_cons re_int (ra_cons re_int ra_nil))) ra_nil))) ra_nil))))))
theorem ok_24 {fd : FuncData} (N : Nam K mg) (F : FunD K d_24.name d_24.qual d_24.params d_24.body d_24.scope (d_24.dvs K) (d_24.kws K) (He.fAd K d_24.at_) fd) (fo : FOk (tb.lw K) P w K mg base k c) : FnOk P w K mg base (L2.CX P w) (k + 10) ((tb.lw K).fad 24) ((tb.lw K).fdt 24) ((tb.lw K).fps 24) (spM K (tb.lw K) ((tb.lw K).fps 24).length (fnD 4 (B_24 c))) :=
  fn_rule (N := ["pen", "far", "go", "rows"]) (funG_of F rfl rfl rfl) sc_24 fo (fun _ _ _ _ _ _ => rfl) fun X Wx hX G => rb_24 N hX G
theorem sc_25 : FnScope ["rows", "minus"] ["rows"] (defScope s_25) := ⟨rfl, rfl, rfl, by decide +kernel, rfl, by decide +kernel, by decide +kernel⟩
theorem rb_25 {f : Addr} {X : Cx} {Wx : WX} (N : Nam K mg) (hX : ∃ (cdv : Value) (A : Around) (outer : List Env) (s : Shared) (H : Hp) (E : XK), X = cxOf (L2.CX P w) P w K mg base ["rows", "minus"] d_25.qual (defScope s_25) f cdv A outer s H E) (G : Gd (tb.lw K) X Wx k c) : RSs (tb.lw K) X Wx (defBody s_25) (B_25 c) := by
  obtain ⟨cdv, A, outer, s, H, E, rfl⟩ := hX
  exact (rss_cons (sv 1 G (re_call (i := 18) G rfl rfl N.g__law_times (ra_cons (re_ix G (re_ix G (ev 0) re_int) re_int) (ra_cons (re_ix G (re_ix G (ev 0) re_int) re_int) ra_nil)))) (rss_one (rs_ret (re_call (i := 17) G rfl rfl N.g__law_sum (ra_cons (re_call (i := 18) G rfl rfl N.g__law_times (ra_cons (re_ix G (re_ix G (ev 0) re_int) re_int) (ra_cons (re_ix G (re_ix G (ev 0) re_int) re_int) ra_nil))) (ra_cons (re_tup (ra_cons (re_un (r1_neg G) (re_ix G (ev 1) re_int)) (ra_cons (re_ix G (ev 1) re_int) ra_nil))) ra_nil))))))
theorem ok_25 {fd : FuncData} (N : Nam K mg) (F : FunD K d_25.name d_25.qual d_25.params d_25.body d_25.scope (d_25.dvs K) (d_25.kws K) (He.fAd K d_25.at_) fd) (fo : FOk (tb.lw K) P w K mg base k c) : FnOk P w K mg base (L2.CX P w) (k + 10) ((tb.lw K).fad 25) ((tb.lw K).fdt 25) ((tb.lw K).fps 25) (spM K (tb.lw K) ((tb.lw K).fps 25).length (fnD 2 (B_25 c))) :=
  fn_rule (N := ["rows", "minus"]) (funG_of F rfl rfl rfl) sc_25 fo (fun _ _ _ _ _ _ => rfl) fun X Wx hX G => rb_25 N hX G
theorem sc_26 : FnScope ["rows", "shift", "spot", "found", "k", "total"] ["rows", "shift", "spot"] (defScope s_26) := ⟨rfl, rfl, rfl, by decide +kernel, rfl, by decide +kernel, by decide +kernel⟩
theorem rb_26 {f : Addr} {X : Cx} {Wx : WX} (N : Nam K mg) (hX : ∃ (cdv : Value) (A : Around) (outer : List Env) (s : Shared) (H : Hp) (E : XK), X = cxOf (L2.CX P w) P w K mg base ["rows", "shift", "spot", "found", "k", "total"] d_26.qual (defScope s_26) f cdv A outer s H E) (G : Gd (tb.lw K) X Wx k c) : RSs (tb.lw K) X Wx (defBody s_26) (B_26 c) := by
  obtain ⟨cdv, A, outer, s, H, E, rfl⟩ := hX
  exact (rss_cons (sv 3 G (re_lst ra_nil)) (rss_cons (rs_for G.po G.calm (ri_range1 rfl N.b_range (ra_cons re_int ra_nil)) (gv 4 G) (rss_cons (sv 5 G (re_call (i := 17) G rfl rfl N.g__law_sum (ra_cons (re_call (i := 18) G rfl rfl N.g__law_times (ra_cons (re_ix G (re_ix G (ev 0) (ev 4)) re_int) (ra_cons (re_ix G (ev 2) re_int) ra_nil))) (ra_cons (re_call (i := 18) G rfl rfl N.g__law_times (ra_cons (re_ix G (re_ix G (ev 0) (ev 4)) re_int) (ra_cons (re_ix G (ev 2) re_int) ra_nil))) ra_nil)))) (rss_one (rs_expr (re_app (ev 3) (re_call (i := 17) G rfl rfl N.g__law_sum (ra_cons (ev 5) (ra_cons (re_ix G (ev 1) (ev 4)) ra_nil)))))))) (rss_one (rs_ret (re_tup (ra_cons (re_ix G (ev 3) re_int) (ra_cons (re_ix G (ev 3) re_int) ra_nil)))))))
theorem ok_26 {fd : FuncData} (N : Nam K mg) (F : FunD K d_26.name d_26.qual d_26.params d_26.body d_26.scope (d_26.dvs K) (d_26.kws K) (He.fAd K d_26.at_) fd) (fo : FOk (tb.lw K) P w K mg base k c) : FnOk P w K mg base (L2.CX P w) (k + 10) ((tb.lw K).fad 26) ((tb.lw K).fdt 26) ((tb.lw K).fps 26) (spM K (tb.lw K) ((tb.lw K).fps 26).length (fnD 6 (B_26 c))) :=
  fn_rule (N := ["rows", "shift", "spot", "found", "k", "total"]) (funG_of F rfl rfl rfl) sc_26 fo (fun _ _ _ _ _ _ => rfl) fun X Wx hX G => rb_26 N hX G
theorem sc_27 : FnScope ["pen", "rows", "shift", "table", "given", "row", "entry"] ["pen", "rows", "shift"] (defScope s_27) := ⟨rfl, rfl, rfl, by decide +kernel, rfl, by decide +kernel, by decide +kernel⟩
theorem rb_27 {f : Addr} {X : Cx} {Wx : WX} (N : Nam K mg) (hX : ∃ (cdv : Value) (A : Around) (outer : List Env) (s : Shared) (H : Hp) (E : XK), X = cxOf (L2.CX P w) P w K mg base ["pen", "rows", "shift", "table", "given", "row", "entry"] d_27.qual (defScope s_27) f cdv A outer s H E) (G : Gd (tb.lw K) X Wx k c) : RSs (tb.lw K) X Wx (defBody s_27) (B_27 c) := by
  obtain ⟨cdv, A, outer, s, H, E, rfl⟩ := hX
  exact (rss_cons (rs_setLc (i := 3) G rfl rfl (sw_true rfl rfl rfl rfl) (ri_seq (ev 1)) (blkOk_by (own := [("row", 5)]) (by kernel_rfl)) (fun s1 H1 C1 cl1 fp1 => (gv 5 (G.blk s1 H1 _ _ fp1))) (fun s1 H1 C1 cl1 fp1 => rts_nil) (fun s1 H1 C1 cl1 fp1 => (re_lc (G.blk s1 H1 _ _ fp1) (ri_seq (ev 5)) (blkOk_by (own := [("entry", 6)]) (by kernel_rfl)) (fun s2 H2 C2 cl2 fp2 => (gv 6 ((G.blk s1 H1 _ _ fp1).blk s2 H2 _ _ fp2))) (fun s2 H2 C2 cl2 fp2 => rts_nil) (fun s2 H2 C2 cl2 fp2 => (re_call (i := 21) ((G.blk s1 H1 _ _ fp1).blk s2 H2 _ _ fp2) rfl rfl N.g__law_given (ra_cons (ev 0) (ra_cons (ev 6) ra_nil)))) (by decide))) (by decide)) (rss_cons (sv 4 G (re_ifExp (rt_cmp (rtv_tru G) (r2_eq G) (re_call (i := 12) G rfl rfl N.g__law_draw (ra_cons (ev 0) (ra_cons re_int ra_nil))) re_int rfl) (ev 3) (re_bty rc_tuple rfl N.b_tuple bb_tuple (ra_cons (re_lc G (ri_seq (ev 3)) (blkOk_by (own := [("row", 5)]) (by kernel_rfl)) (fun s1 H1 C1 cl1 fp1 => (gv 5 (G.blk s1 H1 _ _ fp1))) (fun s1 H1 C1 cl1 fp1 => rts_nil) (fun s1 H1 C1 cl1 fp1 => (re_bty rc_tuple rfl N.b_tuple bb_tuple (ra_cons (ev 5) ra_nil))) (by decide)) ra_nil)))) (rss_one (rs_ret (re_mk (i := 2) (f := 70) G rfl rfl N.g_Motion (ra_cons (ev 4) (ra_cons (re_call (i := 22) G rfl rfl N.g__law_point (ra_cons (ev 0) (ra_cons (ev 2) ra_nil))) ra_nil)))))))
theorem ok_27 {fd : FuncData} (N : Nam K mg) (F : FunD K d_27.name d_27.qual d_27.params d_27.body d_27.scope (d_27.dvs K) (d_27.kws K) (He.fAd K d_27.at_) fd) (fo : FOk (tb.lw K) P w K mg base k c) : FnOk P w K mg base (L2.CX P w) (k + 10) ((tb.lw K).fad 27) ((tb.lw K).fdt 27) ((tb.lw K).fps 27) (spM K (tb.lw K) ((tb.lw K).fps 27).length (fnD 7 (B_27 c))) :=
  fn_rule (N := ["pen", "rows", "shift", "table", "given", "row", "entry"]) (funG_of F rfl rfl rfl) sc_27 fo (fun _ _ _ _ _ _ => rfl) fun X Wx hX G => rb_27 N hX G
theorem sc_28 : FnScope ["pen", "plain", "some", "go", "a", "b", "c"] ["pen", "plain"] (defScope s_28) := ⟨rfl, rfl, rfl, by decide +kernel, rfl, by decide +kernel, by decide +kernel⟩
theorem rb_28 {f : Addr} {X : Cx} {Wx : WX} (N : Nam K mg) (hX : ∃ (cdv : Value) (A : Around) (outer : List Env) (s : Shared) (H : Hp) (E : XK), X = cxOf (L2.CX P w) P w K mg base ["pen", "plain", "some", "go", "a", "b", "c"] d_28.qual (defScope s_28) f cdv A outer s H E) (G : Gd (tb.lw K) X Wx k c) : RSs (tb.lw K) X Wx (defBody s_28) (B_28 c) := by
  obtain ⟨cdv, A, outer, s, H, E, rfl⟩ := hX
  exact (rss_cons (sv 2 G (re_lst (ra_cons (re_tup (ra_cons re_int (ra_cons re_int (ra_cons re_int ra_nil)))) (ra_cons (re_tup (ra_cons re_int (ra_cons re_int (ra_cons re_int ra_nil)))) (ra_cons (re_tup (ra_cons re_int (ra_cons re_int (ra_cons re_int ra_nil)))) (ra_cons (re_tup (ra_cons re_int (ra_cons re_int (ra_cons re_int ra_nil)))) (ra_cons (re_tup (ra_cons re_int (ra_cons re_int (ra_cons re_int ra_nil)))) (ra_cons (re_tup (ra_cons re_int (ra_cons re_int (ra_cons re_int ra_nil)))) (ra_cons (re_tup (ra_cons re_int (ra_cons re_int (ra_cons re_int ra_nil)))) (ra_cons (re_tup (ra_cons re_int (ra_cons re_int (ra_cons re_int ra_nil)))) (ra_cons (re_tup (ra_cons re_int (ra_cons re_int (ra_cons re_int ra_nil)))) ra_nil))))))))))) (rss_cons (sv 2 G (re_bin (r2_bin G .Add) (ev 2) (re_lst (ra_cons (re_tup (ra_cons re_int (ra_cons re_int (ra_cons re_int ra_nil)))) (ra_cons (re_tup (ra_cons re_int (ra_cons re_int (ra_cons re_int ra_nil)))) (ra_cons (re_tup (ra_cons re_int (ra_cons (re_un (r1_neg G) re_int) (ra_cons re_int ra_nil)))) (ra_cons (re_tup (ra_cons re_int (ra_cons re_int (ra_cons re_int ra_nil)))) (ra_cons (re_tup (ra_cons re_int (ra_cons re_int (ra_cons re_int ra_nil)))) (ra_cons (re_tup (ra_cons re_int (ra_cons re_int (ra_cons re_int ra_nil)))) (ra_cons (re_tup (ra_cons re_int (ra_cons re_int (ra_cons re_int ra_nil)))) (ra_cons (re_tup (ra_cons re_int (ra_cons re_int (ra_cons re_int ra_nil)))) ra_nil))))))))))) (rss_cons (sv 2 G (re_bin (r2_bin G .Add) (ev 2) (re_lst (ra_cons (re_tup (ra_cons re_int (ra_cons (re_un (r1_neg G) re_int) (ra_cons re_int ra_nil)))) (ra_cons (re_tup (ra_cons re_int (ra_cons re_int (ra_cons re_int ra_nil)))) ra_nil))))) (rss_cons (rs_if (RW.rt (rw_or (rt_of (rtv_tru G) (ev 1)) (rw_or1 (rt_cmp (rtv_tru G) (r2_ord G .Gt) (re_call (i := 12) G rfl rfl N.g__law_draw (ra_cons (ev 0) (ra_cons re_int ra_nil))) re_int rfl)))) (rss_one (rs_ret (re_call (i := 13) G rfl rfl N.g__law_pick (ra_cons (ev 0) (ra_cons (ev 2) ra_nil))))) rss_nil) (rss_cons (rs_for G.po G.calm (ri_range1 rfl N.b_range (ra_cons re_int ra_nil)) (gv 3 G) (rss_cons (pr3 4 5 6 G (ra_cons (re_bin (r2_bin G .Add) re_int (re_call (i := 12) G rfl rfl N.g__law_draw (ra_cons (ev 0) (ra_cons re_int ra_nil)))) (ra_cons (re_bin (r2_bin G .Sub) (re_call (i := 12) G rfl rfl N.g__law_draw (ra_cons (ev 0) (ra_cons re_int ra_nil))) re_int) (ra_cons (re_bin (r2_bin G .Add) re_int (re_call (i := 12) G rfl rfl N.g__law_draw (ra_cons (ev 0) (ra_cons re_int ra_nil)))) ra_nil)))) (rss_one (rs_if (rt_cmp (rtv_tru G) (r2_ord G .Gt) (re_bin (r2_bin G .Mult) (re_bin (r2_bin G .Mult) re_int (ev 4)) (ev 6)) (re_bin (r2_bin G .Mult) (ev 5) (ev 5)) rfl) (rss_one (rs_ret (re_tup (ra_cons (ev 4) (ra_cons (ev 5) (ra_cons (ev 6) ra_nil)))))) rss_nil)))) (rss_one (rs_ret (re_tup (ra_cons re_int (ra_cons re_int (ra_cons re_int ra_nil)))))))))))
theorem ok_28 {fd : FuncData} (N : Nam K mg) (F : FunD K d_28.name d_28.qual d_28.params d_28.body d_28.scope (d_28.dvs K) (d_28.kws K) (He.fAd K d_28.at_) fd) (fo : FOk (tb.lw K) P w K mg base k c) : FnOk P w K mg base (L2.CX P w) (k + 10) ((tb.lw K).fad 28) ((tb.lw K).fdt 28) ((tb.lw K).fps 28) (spM K (tb.lw K) ((tb.lw K).fps 28).length (fnD 7 (B_28 c))) :=
  fn_rule (N := ["pen", "plain", "some", "go", "a", "b", "c"]) (funG_of F rfl rfl rfl) sc_28 fo (fun _ _ _ _ _ _ => rfl) fun X Wx hX G => rb_28 N hX G
theorem sc_29 : FnScope ["ground", "way", "x", "y", "found"] ["ground", "way"] (defScope s_29) := ⟨rfl, rfl, rfl, by decide +kernel, rfl, by decide +kernel, by decide +kernel⟩
theorem rb_29 {f : Addr} {X : Cx} {Wx : WX} (N : Nam K mg) (hX : ∃ (cdv : Value) (A : Around) (outer : List Env) (s : Shared) (H : Hp) (E : XK), X = cxOf (L2.CX P w) P w K mg base ["ground", "way", "x", "y", "found"] d_29.qual (defScope s_29) f cdv A outer s H E) (G : Gd (tb.lw K) X Wx k c) : RSs (tb.lw K) X Wx (defBody s_29) (B_29 c) := by
  obtain ⟨cdv, A, outer, s, H, E, rfl⟩ := hX
  exact (rss_cons (rs_asg (ev 1) (gt G (rgs_cons (gv 2 G) (rgs_cons (gv 3 G) rgs_nil)))) (rss_cons (sv 4 G (re_bin (r2_bin G .Add) (re_bin (r2_bin G .Mult) (re_bin (r2_bin G .Mult) (re_ix G (ev 0) re_int) (ev 2)) (ev 2)) (re_bin (r2_bin G .Mult) (re_bin (r2_bin G .Mult) (re_ix G (ev 0) re_int) (ev 2)) (ev 3)))) (rss_one (rs_ret (re_bin (r2_bin G .Add) (ev 4) (re_bin (r2_bin G .Mult) (re_bin (r2_bin G .Mult) (re_ix G (ev 0) re_int) (ev 3)) (ev 3)))))))
theorem ok_29 {fd : FuncData} (N : Nam K mg) (F : FunD K d_29.name d_29.qual d_29.params d_29.body d_29.scope (d_29.dvs K) (d_29.kws K) (He.fAd K d_29.at_) fd) (fo : FOk (tb.lw K) P w K mg base k c) : FnOk P w K mg base (L2.CX P w) (k + 10) ((tb.lw K).fad 29) ((tb.lw K).fdt 29) ((tb.lw K).fps 29) (spM K (tb.lw K) ((tb.lw K).fps 29).length (fnD 5 (B_29 c))) :=
  fn_rule (N := ["ground", "way", "x", "y", "found"]) (funG_of F rfl rfl rfl) sc_29 fo (fun _ _ _ _ _ _ => rfl) fun X Wx hX G => rb_29 N hX G
theorem sc_30 : FnScope ["ground", "way", "size", "x", "y", "a", "b", "c", "first", "second", "upper_row"] ["ground", "way"] (defScope s_30) := ⟨rfl, rfl, rfl, by decide +kernel, rfl, by decide +kernel, by decide +kernel⟩
theorem rb_30 {f : Addr} {X : Cx} {Wx : WX} (N : Nam K mg) (hX : ∃ (cdv : Value) (A : Around) (outer : List Env) (s : Shared) (H : Hp) (E : XK), X = cxOf (L2.CX P w) P w K mg base ["ground", "way", "size", "x", "y", "a", "b", "c", "first", "second", "upper_row"] d_30.qual (defScope s_30) f cdv A outer s H E) (G : Gd (tb.lw K) X Wx k c) : RSs (tb.lw K) X Wx (defBody s_30) (B_30 c) := by
  obtain ⟨cdv, A, outer, s, H, E, rfl⟩ := hX
  exact (rss_cons (rs_asg (re_tup (ra_cons (re_call (i := 29) G rfl rfl N.g__law_measure (ra_cons (ev 0) (ra_cons (ev 1) ra_nil))) (ra_cons (ev 1) (ra_cons (ev 0) ra_nil)))) (gt G (rgs_cons (gv 2 G) (rgs_cons (gt G (rgs_cons (gv 3 G) (rgs_cons (gv 4 G) rgs_nil))) (rgs_cons (gt G (rgs_cons (gv 5 G) (rgs_cons (gv 6 G) (rgs_cons (gv 7 G) rgs_nil)))) rgs_nil))))) (rss_cons (pr2 8 9 G (ra_cons (re_bin (r2_bin G .Add) (re_bin (r2_bin G .Mult) (re_bin (r2_bin G .Mult) re_int (ev 5)) (ev 3)) (re_bin (r2_bin G .Mult) (ev 6) (ev 4))) (ra_cons (re_bin (r2_bin G .Add) (re_bin (r2_bin G .Mult) (ev 6) (ev 3)) (re_bin (r2_bin G .Mult) (re_bin (r2_bin G .Mult) re_int (ev 7)) (ev 4))) ra_nil))) (rss_cons (sv 10 G (re_tup (ra_cons (re_call (i := 16) G rfl rfl N.g__law_cut (ra_cons (re_tup (ra_cons (re_bin (r2_bin G .Sub) (re_bin (r2_bin G .Mult) (ev 8) (ev 3)) (ev 2)) (ra_cons (ev 2) ra_nil))) ra_nil)) (ra_cons (re_call (i := 16) G rfl rfl N.g__law_cut (ra_cons (re_tup (ra_cons (re_bin (r2_bin G .Mult) (ev 9) (ev 3)) (ra_cons (ev 2) ra_nil))) ra_nil)) ra_nil)))) (rss_one (rs_ret (re_tup (ra_cons (ev 10) (ra_cons (re_tup (ra_cons (re_call (i := 16) G rfl rfl N.g__law_cut (ra_cons (re_tup (ra_cons (re_bin (r2_bin G .Mult) (ev 8) (ev 4)) (ra_cons (ev 2) ra_nil))) ra_nil)) (ra_cons (re_call (i := 16) G rfl rfl N.g__law_cut (ra_cons (re_tup (ra_cons (re_bin (r2_bin G .Sub) (re_bin (r2_bin G .Mult) (ev 9) (ev 4)) (ev 2)) (ra_cons (ev 2) ra_nil))) ra_nil)) ra_nil))) ra_nil))))))))
theorem ok_30 {fd : FuncData} (N : Nam K mg) (F : FunD K d_30.name d_30.qual d_30.params d_30.body d_30.scope (d_30.dvs K) (d_30.kws K) (He.fAd K d_30.at_) fd) (fo : FOk (tb.lw K) P w K mg base k c) : FnOk P w K mg base (L2.CX P w) (k + 10) ((tb.lw K).fad 30) ((tb.lw K).fdt 30) ((tb.lw K).fps 30) (spM K (tb.lw K) ((tb.lw K).fps 30).length (fnD 11 (B_30 c))) :=
  fn_rule (N := ["ground", "way", "size", "x", "y", "a", "b", "c", "first", "second", "upper_row"]) (funG_of F rfl rfl rfl) sc_30 fo (fun _ _ _ _ _ _ => rfl) fun X Wx hX G => rb_30 N hX G
theorem sc_31 : FnScope ["one", "other", "found", "k", "row", "j"] ["one", "other"] (defScope s_31) := ⟨rfl, rfl, rfl, by decide +kernel, rfl, by decide +kernel, by decide +kernel⟩
theorem rb_31 {f : Addr} {X : Cx} {Wx : WX} (N : Nam K mg) (hX : ∃ (cdv : Value) (A : Around) (outer : List Env) (s : Shared) (H : Hp) (E : XK), X = cxOf (L2.CX P w) P w K mg base ["one", "other", "found", "k", "row", "j"] d_31.qual (defScope s_31) f cdv A outer s H E) (G : Gd (tb.lw K) X Wx k c) : RSs (tb.lw K) X Wx (defBody s_31) (B_31 c) := by
  obtain ⟨cdv, A, outer, s, H, E, rfl⟩ := hX
  exact (rss_cons (sv 2 G (re_lst ra_nil)) (rss_cons (rs_for G.po G.calm (ri_range1 rfl N.b_range (ra_cons re_int ra_nil)) (gv 3 G) (rss_cons (sv 4 G (re_lst ra_nil)) (rss_cons (rs_for G.po G.calm (ri_range1 rfl N.b_range (ra_cons re_int ra_nil)) (gv 5 G) (rss_one (rs_expr (re_app (ev 4) (re_call (i := 17) G rfl rfl N.g__law_sum (ra_cons (re_call (i := 18) G rfl rfl N.g__law_times (ra_cons (re_ix G (re_ix G (ev 0) (ev 3)) re_int) (ra_cons (re_ix G (re_ix G (ev 1) re_int) (ev 5)) ra_nil))) (ra_cons (re_call (i := 18) G rfl rfl N.g__law_times (ra_cons (re_ix G (re_ix G (ev 0) (ev 3)) re_int) (ra_cons (re_ix G (re_ix G (ev 1) re_int) (ev 5)) ra_nil))) ra_nil))))))) (rss_one (rs_expr (re_app (ev 2) (re_bty rc_tuple rfl N.b_tuple bb_tuple (ra_cons (ev 4) ra_nil)))))))) (rss_one (rs_ret (re_bty rc_tuple rfl N.b_tuple bb_tuple (ra_cons (ev 2) ra_nil))))))
theorem ok_31 {fd : FuncData} (N : Nam K mg) (F : FunD K d_31.name d_31.qual d_31.params d_31.body d_31.scope (d_31.dvs K) (d_31.kws K) (He.fAd K d_31.at_) fd) (fo : FOk (tb.lw K) P w K mg base k c) : FnOk P w K mg base (L2.CX P w) (k + 10) ((tb.lw K).fad 31) ((tb.lw K).fdt 31) ((tb.lw K).fps 31) (spM K (tb.lw K) ((tb.lw K).fps 31).length (fnD 6 (B_31 c))) :=
  fn_rule (N := ["one", "other", "found", "k", "row", "j"]) (funG_of F rfl rfl rfl) sc_31 fo (fun _ _ _ _ _ _ => rfl) fun X Wx hX G => rb_31 N hX G
theorem sc_32 : FnScope ["pen", "far", "go", "x", "y", "common"] ["pen", "far"] (defScope s_32) := ⟨rfl, rfl, rfl, by decide +kernel, rfl, by decide +kernel, by decide +kernel⟩
theorem rb_32 {f : Addr} {X : Cx} {Wx : WX} (N : Nam K mg) (hX : ∃ (cdv : Value) (A : Around) (outer : List Env) (s : Shared) (H : Hp) (E : XK), X = cxOf (L2.CX P w) P w K mg base ["pen", "far", "go", "x", "y", "common"] d_32.qual (defScope s_32) f cdv A outer s H E) (G : Gd (tb.lw K) X Wx k c) : RSs (tb.lw K) X Wx (defBody s_32) (B_32 c) := by
  obtain ⟨cdv, A, outer, s, H, E, rfl⟩ := hX
  exact (rss_cons (rs_for G.po G.calm (ri_range1 rfl N.b_range (ra_cons re_int ra_nil)) (gv 2 G) (rss_cons (pr2 3 4 G (ra_cons (re_bin (r2_bin G .Sub) (re_call (i := 12) G rfl rfl N.g__law_draw (ra_cons (ev 0) (ra_cons re_int ra_nil))) re_int) (ra_cons (re_bin (r2_bin G .Sub) (re_call (i := 12) G rfl rfl N.g__law_draw (ra_cons (ev 0) (ra_cons re_int ra_nil))) re_int) ra_nil))) (rss_cons (rs_if (rt_cmp (rtv_tru G) (r2_ord G .Gt) (ev 1) re_int rfl) (rss_one (pr2 3 4 G (ra_cons (re_bin (r2_bin G .Sub) (re_call (i := 14) G rfl rfl N.g__law_great (ra_cons (ev 0) (ra_cons (ev 1) ra_nil))) (re_call (i := 13) G rfl rfl N.g__law_pick (ra_cons (ev 0) (ra_cons (re_lst (ra_cons re_int (ra_cons (re_bty rc_int rfl N.b_int bb_int (ra_cons (re_bin (r2_bin G .Add) re_str (re_bin (r2_bin G .Mult) re_str (ev 1))) ra_nil)) ra_nil))) ra_nil)))) (ra_cons (re_call (i := 14) G rfl rfl N.g__law_great (ra_cons (ev 0) (ra_cons (ev 1) ra_nil))) ra_nil)))) rss_nil) (rss_one (rs_if (rt_cmp (rtv_tru G) (r2_ne G) (re_tup (ra_cons (ev 3) (ra_cons (ev 4) ra_nil))) (re_tup (ra_cons re_int (ra_cons re_int ra_nil))) rfl) (rss_cons (sv 5 G (re_call (i := 15) G rfl rfl N.g__law_gcd (ra_cons (ev 3) (ra_cons (ev 4) ra_nil)))) (rss_one (rs_ret (re_tup (ra_cons (re_bin (r2_bin G .FloorDiv) (ev 3) (ev 5)) (ra_cons (re_bin (r2_bin G .FloorDiv) (ev 4) (ev 5)) ra_nil)))))) rss_nil))))) (rss_one (rs_ret (re_tup (ra_cons re_int (ra_cons re_int ra_nil))))))
theorem ok_32 {fd : FuncData} (N : Nam K mg) (F : FunD K d_32.name d_32.qual d_32.params d_32.body d_32.scope (d_32.dvs K) (d_32.kws K) (He.fAd K d_32.at_) fd) (fo : FOk (tb.lw K) P w K mg base k c) : FnOk P w K mg base (L2.CX P w) (k + 10) ((tb.lw K).fad 32) ((tb.lw K).fdt 32) ((tb.lw K).fps 32) (spM K (tb.lw K) ((tb.lw K).fps 32).length (fnD 6 (B_32 c))) :=
  fn_rule (N := ["pen", "far", "go", "x", "y", "common"]) (funG_of F rfl rfl rfl) sc_32 fo (fun _ _ _ _ _ _ => rfl) fun X Wx hX G => rb_32 N hX G
theorem sc_33 : FnScope ["ground", "spot", "found", "part", "one", "other"] ["ground", "spot"] (defScope s_33) := ⟨rfl, rfl, rfl, by decide +kernel, rfl, by decide +kernel, by decide +kernel⟩
theorem rb_33 {f : Addr} {X : Cx} {Wx : WX} (N : Nam K mg) (hX : ∃ (cdv : Value) (A : Around) (outer : List Env) (s : Shared) (H : Hp) (E : XK), X = cxOf (L2.CX P w) P w K mg base ["ground", "spot", "found", "part", "one", "other"] d_33.qual (defScope s_33) f cdv A outer s H E) (G : Gd (tb.lw K) X Wx k c) : RSs (tb.lw K) X Wx (defBody s_33) (B_33 c) := by
  obtain ⟨cdv, A, outer, s, H, E, rfl⟩ := hX
  exact (rss_cons (sv 2 G (re_tup (ra_cons re_int (ra_cons re_int ra_nil)))) (rss_cons (rs_for G.po G.calm (ri_seq (re_lst (ra_cons (re_tup (ra_cons (re_ix G (ev 0) re_int) (ra_cons re_int (ra_cons re_int ra_nil)))) (ra_cons (re_tup (ra_cons (re_ix G (ev 0) re_int) (ra_cons re_int (ra_cons re_int ra_nil)))) (ra_cons (re_tup (ra_cons (re_ix G (ev 0) re_int) (ra_cons re_int (ra_cons re_int ra_nil)))) ra_nil))))) (gt G (rgs_cons (gv 3 G) (rgs_cons (gv 4 G) (rgs_cons (gv 5 G) rgs_nil)))) (rss_one (sv 2 G (re_call (i := 17) G rfl rfl N.g__law_sum (ra_cons (ev 2) (ra_cons (re_call (i := 18) G rfl rfl N.g__law_times (ra_cons (re_tup (ra_cons (ev 3) (ra_cons re_int ra_nil))) (ra_cons (re_call (i := 18) G rfl rfl N.g__law_times (ra_cons (re_ix G (ev 1) (ev 4)) (ra_cons (re_ix G (ev 1) (ev 5)) ra_nil))) ra_nil))) ra_nil)))))) (rss_one (rs_ret (ev 2)))))
theorem ok_33 {fd : FuncData} (N : Nam K mg) (F : FunD K d_33.name d_33.qual d_33.params d_33.body d_33.scope (d_33.dvs K) (d_33.kws K) (He.fAd K d_33.at_) fd) (fo : FOk (tb.lw K) P w K mg base k c) : FnOk P w K mg base (L2.CX P w) (k + 10) ((tb.lw K).fad 33) ((tb.lw K).fdt 33) ((tb.lw K).fps 33) (spM K (tb.lw K) ((tb.lw K).fps 33).length (fnD 6 (B_33 c))) :=
  fn_rule (N := ["ground", "spot", "found", "part", "one", "other"]) (funG_of F rfl rfl rfl) sc_33 fo (fun _ _ _ _ _ _ => rfl) fun X Wx hX G => rb_33 N hX G
theorem sc_34 : FnScope ["pen", "ground", "shift", "rows", "path", "x", "y", "low_row", "base", "quarter", "row", "entry"] ["pen", "ground"] (defScope s_34) := ⟨rfl, rfl, rfl, by decide +kernel, rfl, by decide +kernel, by decide +kernel⟩
theorem rb_34 {f : Addr} {X : Cx} {Wx : WX} (N : Nam K mg) (hX : ∃ (cdv : Value) (A : Around) (outer : List Env) (s : Shared) (H : Hp) (E : XK), X = cxOf (L2.CX P w) P w K mg base ["pen", "ground", "shift", "rows", "path", "x", "y", "low_row", "base", "quarter", "row", "entry"] d_34.qual (defScope s_34) f cdv A outer s H E) (G : Gd (tb.lw K) X Wx k c) : RSs (tb.lw K) X Wx (defBody s_34) (B_34 c) := by
  obtain ⟨cdv, A, outer, s, H, E, rfl⟩ := hX
  exact (rss_cons (sv 2 G (re_tup (ra_cons (re_call (i := 19) G rfl rfl N.g__law_fraction (ra_cons (ev 0) (ra_cons re_int ra_nil))) (ra_cons (re_call (i := 19) G rfl rfl N.g__law_fraction (ra_cons (ev 0) (ra_cons re_int ra_nil))) ra_nil)))) (rss_cons (sv 3 G (re_call (i := 30) G rfl rfl N.g__law_mirror_rows (ra_cons (ev 1) (ra_cons (re_call (i := 32) G rfl rfl N.g__law_way (ra_cons (ev 0) (ra_cons re_int ra_nil))) ra_nil)))) (rss_cons (sv 4 G (re_call (i := 12) G rfl rfl N.g__law_draw (ra_cons (ev 0) (ra_cons re_int ra_nil)))) (rss_cons (rs_if (rt_cmp (rtv_tru G) (r2_eq G) (ev 4) re_int rfl) (rss_one (rs_ret (re_tup (ra_cons (re_tup (ra_cons (re_tup (ra_cons (re_tup (ra_cons re_int (ra_cons re_int ra_nil))) (ra_cons (re_tup (ra_cons re_int (ra_cons re_int ra_nil))) ra_nil))) (ra_cons (re_tup (ra_cons (re_tup (ra_cons re_int (ra_cons re_int ra_nil))) (ra_cons (re_tup (ra_cons re_int (ra_cons re_int ra_nil))) ra_nil))) ra_nil))) (ra_cons (re_call (i := 13) G rfl rfl N.g__law_pick (ra_cons (ev 0) (ra_cons (re_lst (ra_cons (ev 2) (ra_cons (re_tup (ra_cons (re_tup (ra_cons re_int (ra_cons re_int ra_nil))) (ra_cons (re_tup (ra_cons re_int (ra_cons re_int ra_nil))) ra_nil))) ra_nil))) ra_nil))) ra_nil))))) rss_nil) (rss_cons (rs_if (rt_cmp (rtv_tru G) (r2_eq G) (ev 4) re_int rfl) (rss_one (sv 3 G (re_call (i := 24) G rfl rfl N.g__law_table (ra_cons (ev 0) (ra_cons re_int ra_nil))))) rss_nil) (rss_cons (rs_if (rt_cmp (rtv_tru G) (r2_in G) (ev 4) (re_tup (ra_cons re_int (ra_cons re_int ra_nil))) rfl) (rss_one (sv 3 G (re_call (i := 31) G rfl rfl N.g__law_product (ra_cons (ev 3) (ra_cons (re_call (i := 30) G rfl rfl N.g__law_mirror_rows (ra_cons (ev 1) (ra_cons (re_call (i := 32) G rfl rfl N.g__law_way (ra_cons (ev 0) (ra_cons re_int ra_nil))) ra_nil))) ra_nil))))) rss_nil) (rss_cons (rs_if (rt_cmp (rtv_tru G) (r2_eq G) (ev 4) re_int rfl) (rss_cons (rs_asg (re_call (i := 32) G rfl rfl N.g__law_way (ra_cons (ev 0) (ra_cons re_int ra_nil))) (gt G (rgs_cons (gv 5 G) (rgs_cons (gv 6 G) rgs_nil)))) (rss_cons (sv 7 G (re_tup (ra_cons (re_tup (ra_cons (re_bin (r2_bin G .Mult) (re_ix G (ev 1) re_int) (ev 6)) (ra_cons re_int ra_nil))) (ra_cons (re_tup (ra_cons (re_bin (r2_bin G .Add) (ev 5) (re_bin (r2_bin G .Mult) (re_ix G (ev 1) re_int) (ev 6))) (ra_cons re_int ra_nil))) ra_nil)))) (rss_one (sv 3 G (re_call (i := 31) G rfl rfl N.g__law_product (ra_cons (ev 3) (ra_cons (re_tup (ra_cons (re_tup (ra_cons (re_tup (ra_cons (ev 5) (ra_cons re_int ra_nil))) (ra_cons (re_tup (ra_cons (re_bin (r2_bin G .Mult) (re_un (r1_neg G) (re_ix G (ev 1) re_int)) (ev 6)) (ra_cons re_int ra_nil))) ra_nil))) (ra_cons (ev 7) ra_nil))) ra_nil))))))) rss_nil) (rss_cons (rs_if (rt_cmp (rtv_tru G) (r2_eq G) (ev 4) re_int rfl) (rss_cons (sv 8 G (re_call (i := 24) G rfl rfl N.g__law_table (ra_cons (ev 0) (ra_cons re_int ra_nil)))) (rss_cons (sv 9 G (re_call (i := 13) G rfl rfl N.g__law_pick (ra_cons (ev 0) (ra_cons (re_lst (ra_cons (re_tup (ra_cons (re_tup (ra_cons re_int (ra_cons (re_un (r1_neg G) re_int) ra_nil))) (ra_cons (re_tup (ra_cons re_int (ra_cons re_int ra_nil))) ra_nil))) (ra_cons (re_tup (ra_cons (re_tup (ra_cons re_int (ra_cons (re_un (r1_neg G) re_int) ra_nil))) (ra_cons (re_tup (ra_cons re_int (ra_cons (re_un (r1_neg G) re_int) ra_nil))) ra_nil))) (ra_cons (re_tup (ra_cons (re_tup (ra_cons re_int (ra_cons (re_un (r1_neg G) re_int) ra_nil))) (ra_cons (re_tup (ra_cons re_int (ra_cons re_int ra_nil))) ra_nil))) ra_nil)))) ra_nil)))) (rss_cons (sv 9 G (re_bty rc_tuple rfl N.b_tuple bb_tuple (ra_cons (re_lc G (ri_seq (ev 9)) (blkOk_by (own := [("row", 10)]) (by kernel_rfl)) (fun s1 H1 C1 cl1 fp1 => (gv 10 (G.blk s1 H1 _ _ fp1))) (fun s1 H1 C1 cl1 fp1 => rts_nil) (fun s1 H1 C1 cl1 fp1 => (re_bty rc_tuple rfl N.b_tuple bb_tuple (ra_cons (re_lc (G.blk s1 H1 _ _ fp1) (ri_seq (ev 10)) (blkOk_by (own := [("entry", 11)]) (by kernel_rfl)) (fun s2 H2 C2 cl2 fp2 => (gv 11 ((G.blk s1 H1 _ _ fp1).blk s2 H2 _ _ fp2))) (fun s2 H2 C2 cl2 fp2 => rts_nil) (fun s2 H2 C2 cl2 fp2 => (re_tup (ra_cons (ev 11) (ra_cons re_int ra_nil)))) (by decide)) ra_nil))) (by decide)) ra_nil))) (rss_one (sv 3 G (re_call (i := 31) G rfl rfl N.g__law_product (ra_cons (re_call (i := 31) G rfl rfl N.g__law_product (ra_cons (ev 8) (ra_cons (ev 9) ra_nil))) (ra_cons (re_call (i := 35) G rfl rfl N.g__law_undone (ra_cons (ev 8) ra_nil)) ra_nil)))))))) rss_nil) (rss_one (rs_ret (re_tup (ra_cons (ev 3) (ra_cons (ev 2) ra_nil)))))))))))))
theorem ok_34 {fd : FuncData} (N : Nam K mg) (F : FunD K d_34.name d_34.qual d_34.params d_34.body d_34.scope (d_34.dvs K) (d_34.kws K) (He.fAd K d_34.at_) fd) (fo : FOk (tb.lw K) P w K mg base k c) : FnOk P w K mg base (L2.CX P w) (k + 10) ((tb.lw K).fad 34) ((tb.lw K).fdt 34) ((tb.lw K).fps 34) (spM K (tb.lw K) ((tb.lw K).fps 34).length (fnD 12 (B_34 c))) :=
  fn_rule (N := ["pen", "ground", "shift", "rows", "path", "x", "y", "low_row", "base", "quarter", "row", "entry"]) (funG_of F rfl rfl rfl) sc_34 fo (fun _ _ _ _ _ _ => rfl) fun X Wx hX G => rb_34 N hX G
theorem sc_35 : FnScope ["rows", "factor", "size", "found", "row", "entry"] ["rows"] (defScope s_35) := ⟨rfl, rfl, rfl, by decide +kernel, rfl, by decide +kernel, by decide +kernel⟩
theorem rb_35 {f : Addr} {X : Cx} {Wx : WX} (N : Nam K mg) (hX : ∃ (cdv : Value) (A : Around) (outer : List Env) (s : Shared) (H : Hp) (E : XK), X = cxOf (L2.CX P w) P w K mg base ["rows", "factor", "size", "found", "row", "entry"] d_35.qual (defScope s_35) f cdv A outer s H E) (G : Gd (tb.lw K) X Wx k c) : RSs (tb.lw K) X Wx (defBody s_35) (B_35 c) := by
  obtain ⟨cdv, A, outer, s, H, E, rfl⟩ := hX
  exact (rss_cons (sv 1 G (re_call (i := 25) G rfl rfl N.g__law_factor (ra_cons (ev 0) ra_nil))) (rss_cons (sv 2 G (re_tup (ra_cons (re_ix G (ev 1) re_int) (ra_cons (re_ix G (ev 1) re_int) ra_nil)))) (rss_cons (sv 3 G (re_lst ra_nil)) (rss_cons (rs_for G.po G.calm (ri_seq (re_lst (ra_cons (re_tup (ra_cons (re_ix G (re_ix G (ev 0) re_int) re_int) (ra_cons (re_call (i := 18) G rfl rfl N.g__law_times (ra_cons (re_tup (ra_cons (re_un (r1_neg G) re_int) (ra_cons re_int ra_nil))) (ra_cons (re_ix G (re_ix G (ev 0) re_int) re_int) ra_nil))) ra_nil))) (ra_cons (re_tup (ra_cons (re_call (i := 18) G rfl rfl N.g__law_times (ra_cons (re_tup (ra_cons (re_un (r1_neg G) re_int) (ra_cons re_int ra_nil))) (ra_cons (re_ix G (re_ix G (ev 0) re_int) re_int) ra_nil))) (ra_cons (re_ix G (re_ix G (ev 0) re_int) re_int) ra_nil))) ra_nil)))) (gv 4 G) (rss_one (rs_expr (re_app (ev 3) (re_bty rc_tuple rfl N.b_tuple bb_tuple (ra_cons (re_lc G (ri_seq (ev 4)) (blkOk_by (own := [("entry", 5)]) (by kernel_rfl)) (fun s1 H1 C1 cl1 fp1 => (gv 5 (G.blk s1 H1 _ _ fp1))) (fun s1 H1 C1 cl1 fp1 => rts_nil) (fun s1 H1 C1 cl1 fp1 => (re_call (i := 18) (G.blk s1 H1 _ _ fp1) rfl rfl N.g__law_times (ra_cons (ev 2) (ra_cons (ev 5) ra_nil)))) (by decide)) ra_nil)))))) (rss_one (rs_ret (re_bty rc_tuple rfl N.b_tuple bb_tuple (ra_cons (ev 3) ra_nil))))))))
theorem ok_35 {fd : FuncData} (N : Nam K mg) (F : FunD K d_35.name d_35.qual d_35.params d_35.body d_35.scope (d_35.dvs K) (d_35.kws K) (He.fAd K d_35.at_) fd) (fo : FOk (tb.lw K) P w K mg base k c) : FnOk P w K mg base (L2.CX P w) (k + 10) ((tb.lw K).fad 35) ((tb.lw K).fdt 35) ((tb.lw K).fps 35) (spM K (tb.lw K) ((tb.lw K).fps 35).length (fnD 6 (B_35 c))) :=
  fn_rule (N := ["rows", "factor", "size", "found", "row", "entry"]) (funG_of F rfl rfl rfl) sc_35 fo (fun _ _ _ _ _ _ => rfl) fun X Wx hX G => rb_35 N hX G
theorem sc_36 : FnScope ["ground", "rows", "nought", "ends", "spot", "length"] ["ground", "rows"] (defScope s_36) := ⟨rfl, rfl, rfl, by decide +kernel, rfl, by decide +kernel, by decide +kernel⟩
theorem rb_36 {f : Addr} {X : Cx} {Wx : WX} (N : Nam K mg) (hX : ∃ (cdv : Value) (A : Around) (outer : List Env) (s : Shared) (H : Hp) (E : XK), X = cxOf (L2.CX P w) P w K mg base ["ground", "rows", "nought", "ends", "spot", "length"] d_36.qual (defScope s_36) f cdv A outer s H E) (G : Gd (tb.lw K) X Wx k c) : RSs (tb.lw K) X Wx (defBody s_36) (B_36 c) := by
  obtain ⟨cdv, A, outer, s, H, E, rfl⟩ := hX
  exact (rss_cons (pr2 2 3 G (ra_cons (re_tup (ra_cons (re_tup (ra_cons re_int (ra_cons re_int ra_nil))) (ra_cons (re_tup (ra_cons re_int (ra_cons re_int ra_nil))) ra_nil))) (ra_cons (re_lst ra_nil) ra_nil))) (rss_cons (rs_for G.po G.calm (ri_seq (re_lst (ra_cons (re_tup (ra_cons (re_tup (ra_cons re_int (ra_cons re_int ra_nil))) (ra_cons (re_tup (ra_cons re_int (ra_cons re_int ra_nil))) ra_nil))) (ra_cons (re_tup (ra_cons (re_tup (ra_cons re_int (ra_cons re_int ra_nil))) (ra_cons (re_tup (ra_cons re_int (ra_cons re_int ra_nil))) ra_nil))) (ra_cons (re_tup (ra_cons (re_tup (ra_cons re_int (ra_cons re_int ra_nil))) (ra_cons (re_tup (ra_cons re_int (ra_cons re_int ra_nil))) ra_nil))) ra_nil))))) (gv 4 G) (rss_cons (sv 5 G (re_call (i := 33) G rfl rfl N.g__law_length (ra_cons (ev 0) (ra_cons (re_call (i := 26) G rfl rfl N.g__law_led (ra_cons (ev 1) (ra_cons (ev 2) (ra_cons (ev 4) ra_nil)))) ra_nil)))) (rss_one (rs_expr (re_app (ev 3) (re_call (i := 18) G rfl rfl N.g__law_times (ra_cons (ev 5) (ra_cons (re_tup (ra_cons re_int (ra_cons (re_ix G (re_call (i := 33) G rfl rfl N.g__law_length (ra_cons (ev 0) (ra_cons (ev 4) ra_nil))) re_int) ra_nil))) ra_nil)))))))) (rss_one (rs_ret (re_ifExp (rt_chain (rtv_tru G) (r2_eq G) (r2_eq G) (re_ix G (ev 3) re_int) (re_ix G (ev 3) re_int) (re_ix G (ev 3) re_int)) (re_ix G (ev 3) re_int) re_non)))))
theorem ok_36 {fd : FuncData} (N : Nam K mg) (F : FunD K d_36.name d_36.qual d_36.params d_36.body d_36.scope (d_36.dvs K) (d_36.kws K) (He.fAd K d_36.at_) fd) (fo : FOk (tb.lw K) P w K mg base k c) : FnOk P w K mg base (L2.CX P w) (k + 10) ((tb.lw K).fad 36) ((tb.lw K).fdt 36) ((tb.lw K).fps 36) (spM K (tb.lw K) ((tb.lw K).fps 36).length (fnD 6 (B_36 c))) :=
  fn_rule (N := ["ground", "rows", "nought", "ends", "spot", "length"]) (funG_of F rfl rfl rfl) sc_36 fo (fun _ _ _ _ _ _ => rfl) fun X Wx hX G => rb_36 N hX G
theorem sc_37 : FnScope ["ground", "rows", "shift", "nought"] ["ground", "rows", "shift"] (defScope s_37) := ⟨rfl, rfl, rfl, by decide +kernel, rfl, by decide +kernel, by decide +kernel⟩
theorem rb_37 {f : Addr} {X : Cx} {Wx : WX} (N : Nam K mg) (hX : ∃ (cdv : Value) (A : Around) (outer : List Env) (s : Shared) (H : Hp) (E : XK), X = cxOf (L2.CX P w) P w K mg base ["ground", "rows", "shift", "nought"] d_37.qual (defScope s_37) f cdv A outer s H E) (G : Gd (tb.lw K) X Wx k c) : RSs (tb.lw K) X Wx (defBody s_37) (B_37 c) := by
  obtain ⟨cdv, A, outer, s, H, E, rfl⟩ := hX
  exact (rss_cons (sv 3 G (re_tup (ra_cons (re_tup (ra_cons re_int (ra_cons re_int ra_nil))) (ra_cons (re_tup (ra_cons re_int (ra_cons re_int ra_nil))) ra_nil)))) (rss_cons (rs_if (rt_cmp (rtv_tru G) (r2_ne G) (re_call (i := 36) G rfl rfl N.g__law_due_stretch (ra_cons (ev 0) (ra_cons (ev 1) ra_nil))) (re_tup (ra_cons re_int (ra_cons re_int ra_nil))) rfl) (rss_one (rs_ret re_non)) rss_nil) (rss_cons (rs_if (rt_cmp (rtv_tru G) (r2_eq G) (ev 1) (re_tup (ra_cons (re_tup (ra_cons (re_tup (ra_cons re_int (ra_cons re_int ra_nil))) (ra_cons (re_tup (ra_cons re_int (ra_cons re_int ra_nil))) ra_nil))) (ra_cons (re_tup (ra_cons (re_tup (ra_cons re_int (ra_cons re_int ra_nil))) (ra_cons (re_tup (ra_cons re_int (ra_cons re_int ra_nil))) ra_nil))) ra_nil))) rfl) (rss_one (rs_ret (re_ifExp (rt_cmp (rtv_tru G) (r2_eq G) (ev 2) (ev 3) rfl) re_str re_str))) rss_nil) (rss_cons (rs_if (rt_cmp (rtv_tru G) (r2_eq G) (re_call (i := 25) G rfl rfl N.g__law_factor (ra_cons (ev 1) ra_nil)) (re_tup (ra_cons re_int (ra_cons re_int ra_nil))) rfl) (rss_one (rs_ret re_str)) rss_nil) (rss_one (rs_ret (re_ifExp (rt_cmp (rtv_tru G) (r2_eq G) (re_call (i := 26) G rfl rfl N.g__law_led (ra_cons (ev 1) (ra_cons (ev 2) (ra_cons (ev 2) ra_nil)))) (ev 3) rfl) re_str re_str)))))))
theorem ok_37 {fd : FuncData} (N : Nam K mg) (F : FunD K d_37.name d_37.qual d_37.params d_37.body d_37.scope (d_37.dvs K) (d_37.kws K) (He.fAd K d_37.at_) fd) (fo : FOk (tb.lw K) P w K mg base k c) : FnOk P w K mg base (L2.CX P w) (k + 10) ((tb.lw K).fad 37) ((tb.lw K).fdt 37) ((tb.lw K).fps 37) (spM K (tb.lw K) ((tb.lw K).fps 37).length (fnD 4 (B_37 c))) :=
  fn_rule (N := ["ground", "rows", "shift", "nought"]) (funG_of F rfl rfl rfl) sc_37 fo (fun _ _ _ _ _ _ => rfl) fun X Wx hX G => rb_37 N hX G
theorem sc_38 : FnScope ["pen", "ground", "rows", "shift", "motion", "floor", "due", "stretch", "one", "other", "away", "apart", "wide", "minus", "kept", "done", "often", "go"] ["pen", "ground", "rows", "shift"] (defScope s_38) := ⟨rfl, rfl, rfl, by decide +kernel, rfl, by decide +kernel, by decide +kernel⟩
theorem rb_38 {f : Addr} {X : Cx} {Wx : WX} (N : Nam K mg) (hX : ∃ (cdv : Value) (A : Around) (outer : List Env) (s : Shared) (H : Hp) (E : XK), X = cxOf (L2.CX P w) P w K mg base ["pen", "ground", "rows", "shift", "motion", "floor", "due", "stretch", "one", "other", "away", "apart", "wide", "minus", "kept", "done", "often", "go"] d_38.qual (defScope s_38) f cdv A outer s H E) (G : Gd (tb.lw K) X Wx k c) : RSs (tb.lw K) X Wx (defBody s_38) (B_38 c) := by
  obtain ⟨cdv, A, outer, s, H, E, rfl⟩ := hX
  exact (rss_cons (pr2 4 5 G (ra_cons (re_call (i := 27) G rfl rfl N.g__law_motion (ra_cons (ev 0) (ra_cons (ev 2) (ra_cons (ev 3) ra_nil)))) (ra_cons (re_mk (i := 3) (f := 81) G rfl rfl N.g_Ground (ra_cons (re_ix G (ev 1) re_int) (ra_cons (re_ix G (ev 1) re_int) (ra_cons (re_ix G (ev 1) re_int) ra_nil)))) ra_nil))) (rss_cons (pr2 6 7 G (ra_cons (re_call (i := 36) G rfl rfl N.g__law_due_stretch (ra_cons (ev 1) (ra_cons (ev 2) ra_nil))) (ra_cons (re_meth (i := 58) G (ev 4) (ra_cons (ev 5) ra_nil)) ra_nil))) (rss_cons (rs_if (RW.rt (rw_or (rt_cmp (rtv_tru G) (r2_ne G) (re_cmp r2_is (ev 7) re_non rfl) (re_cmp r2_is (ev 6) re_non rfl) rfl) (rw_or1 (RW.rt (rw_and (rt_cmp (rtv_tru G) r2_isnot (ev 7) re_non rfl) (rw_and1 (rt_cmp (rtv_tru G) (r2_ne G) (re_call (i := 20) G rfl rfl N.g__law_told (ra_cons (ev 7) ra_nil)) (ev 6) rfl))))))) (rss_one (rs_ret re_bl)) rss_nil) (rss_cons (rs_if (rt_cmp (rtv_tru G) (r2_ne G) (re_meth (i := 52) G (ev 4) (ra_cons (ev 5) ra_nil)) (re_call (i := 37) G rfl rfl N.g__law_due_kind (ra_cons (ev 1) (ra_cons (ev 2) (ra_cons (ev 3) ra_nil)))) rfl) (rss_one (rs_ret re_bl)) rss_nil) (rss_cons (pr2 8 9 G (ra_cons (re_tup (ra_cons (re_call (i := 19) G rfl rfl N.g__law_fraction (ra_cons (ev 0) (ra_cons re_int ra_nil))) (ra_cons (re_call (i := 19) G rfl rfl N.g__law_fraction (ra_cons (ev 0) (ra_cons re_int ra_nil))) ra_nil))) (ra_cons (re_tup (ra_cons (re_call (i := 19) G rfl rfl N.g__law_fraction (ra_cons (ev 0) (ra_cons re_int ra_nil))) (ra_cons (re_call (i := 19) G rfl rfl N.g__law_fraction (ra_cons (ev 0) (ra_cons re_int ra_nil))) ra_nil))) ra_nil))) (rss_cons (sv 10 G (re_call (i := 23) G rfl rfl N.g__law_spot (ra_cons (re_bin (r2_bin G .Sub) (re_callI G (ev 4) (ra_cons (re_call (i := 22) G rfl rfl N.g__law_point (ra_cons (ev 0) (ra_cons (ev 8) ra_nil))) ra_nil)) (re_callI G (ev 4) (ra_cons (re_call (i := 22) G rfl rfl N.g__law_point (ra_cons (ev 0) (ra_cons (ev 9) ra_nil))) ra_nil))) ra_nil))) (rss_cons (sv 11 G (re_call (i := 23) G rfl rfl N.g__law_spot (ra_cons (re_bin (r2_bin G .Sub) (re_call (i := 22) G rfl rfl N.g__law_point (ra_cons (ev 0) (ra_cons (ev 8) ra_nil))) (re_call (i := 22) G rfl rfl N.g__law_point (ra_cons (ev 0) (ra_cons (ev 9) ra_nil)))) ra_nil))) (rss_cons (sv 12 G (re_call (i := 33) G rfl rfl N.g__law_length (ra_cons (ev 1) (ra_cons (ev 10) ra_nil)))) (rss_cons (rs_if (RW.rt (rw_and (rt_cmp (rtv_tru G) r2_isnot (ev 6) re_non rfl) (rw_and1 (rt_cmp (rtv_tru G) (r2_ne G) (ev 12) (re_call (i := 18) G rfl rfl N.g__law_times (ra_cons (ev 6) (ra_cons (re_call (i := 33) G rfl rfl N.g__law_length (ra_cons (ev 1) (ra_cons (ev 11) ra_nil))) ra_nil))) rfl)))) (rss_one (rs_ret re_bl)) rss_nil) (rss_cons (sv 13 G (re_call (i := 18) G rfl rfl N.g__law_times (ra_cons (re_call (i := 17) G rfl rfl N.g__law_sum (ra_cons (re_ix G (re_ix G (ev 2) re_int) re_int) (ra_cons (re_tup (ra_cons (re_un (r1_neg G) re_int) (ra_cons re_int ra_nil))) ra_nil))) (ra_cons (re_call (i := 17) G rfl rfl N.g__law_sum (ra_cons (re_ix G (re_ix G (ev 2) re_int) re_int) (ra_cons (re_tup (ra_cons (re_un (r1_neg G) re_int) (ra_cons re_int ra_nil))) ra_nil))) ra_nil)))) (rss_cons (sv 13 G (re_call (i := 17) G rfl rfl N.g__law_sum (ra_cons (ev 13) (ra_cons (re_call (i := 18) G rfl rfl N.g__law_times (ra_cons (re_tup (ra_cons (re_un (r1_neg G) re_int) (ra_cons re_int ra_nil))) (ra_cons (re_call (i := 18) G rfl rfl N.g__law_times (ra_cons (re_ix G (re_ix G (ev 2) re_int) re_int) (ra_cons (re_ix G (re_ix G (ev 2) re_int) re_int) ra_nil))) ra_nil))) ra_nil)))) (rss_cons (sv 14 G (re_meth0 (i := 51) G (ev 4))) (rss_cons (rs_if (RW.rt (rw_or (rt_cmp (rtv_tru G) (r2_ne G) (re_cmp r2_is (ev 14) re_non rfl) (re_cmp (r2_eq G) (re_ix G (ev 13) re_int) re_int rfl) rfl) (rw_or1 (RW.rt (rw_and (rt_cmp (rtv_tru G) r2_isnot (ev 14) re_non rfl) (rw_and1 (rt_cmp (rtv_tru G) (r2_ne G) (re_callI G (ev 4) (ra_cons (ev 14) ra_nil)) (ev 14) rfl))))))) (rss_one (rs_ret re_bl)) rss_nil) (rss_cons (pr2 15 16 G (ra_cons (re_call (i := 10) G rfl rfl N.g_shifting (ra_cons (re_mk (i := 1) (f := 62) G rfl rfl N.g_Point (ra_cons re_int (ra_cons re_int ra_nil))) ra_nil)) (ra_cons re_non ra_nil))) (rss_cons (rs_for G.po G.calm (ri_range2 rfl N.b_range (ra_cons re_int (ra_cons re_int ra_nil))) (gv 17 G) (rss_cons (sv 15 G (re_bin (r2_bin G .Mult) (ev 15) (ev 4))) (rss_one (rs_if (RW.rt (rw_and (rt_cmp (rtv_tru G) r2_is (ev 16) re_non rfl) (rw_and1 (rt_cmp (rtv_tru G) (r2_eq G) (ev 15) (re_call (i := 10) G rfl rfl N.g_shifting (ra_cons (re_mk (i := 1) (f := 62) G rfl rfl N.g_Point (ra_cons re_int (ra_cons re_int ra_nil))) ra_nil)) rfl)))) (rss_one (sv 16 G (ev 17))) rss_nil)))) (rss_one (rs_ret (re_cmp (r2_eq G) (re_meth0 (i := 54) G (ev 4)) (ev 16) rfl))))))))))))))))))
theorem ok_38 {fd : FuncData} (N : Nam K mg) (F : FunD K d_38.name d_38.qual d_38.params d_38.body d_38.scope (d_38.dvs K) (d_38.kws K) (He.fAd K d_38.at_) fd) (fo : FOk (tb.lw K) P w K mg base k c) : FnOk P w K mg base (L2.CX P w) (k + 10) ((tb.lw K).fad 38) ((tb.lw K).fdt 38) ((tb.lw K).fps 38) (spM K (tb.lw K) ((tb.lw K).fps 38).length (fnD 18 (B_38 c))) :=
  fn_rule (N := ["pen", "ground", "rows", "shift", "motion", "floor", "due", "stretch", "one", "other", "away", "apart", "wide", "minus", "kept", "done", "often", "go"]) (funG_of F rfl rfl rfl) sc_38 fo (fun _ _ _ _ _ _ => rfl) fun X Wx hX G => rb_38 N hX G
theorem sc_39 : FnScope ["script", "pen", "lap", "ground", "rows", "shift", "spot", "back", "centred", "k"] ["script"] (defScope s_39) := ⟨rfl, rfl, rfl, by decide +kernel, rfl, by decide +kernel, by decide +kernel⟩
theorem rb_39 {f : Addr} {X : Cx} {Wx : WX} (N : Nam K mg) (hX : ∃ (cdv : Value) (A : Around) (outer : List Env) (s : Shared) (H : Hp) (E : XK), X = cxOf (L2.CX P w) P w K mg base ["script", "pen", "lap", "ground", "rows", "shift", "spot", "back", "centred", "k"] d_39.qual (defScope s_39) f cdv A outer s H E) (G : Gd (tb.lw K) X Wx k c) : RSs (tb.lw K) X Wx (defBody s_39) (B_39 c) := by
  obtain ⟨cdv, A, outer, s, H, E, rfl⟩ := hX
  exact (rss_cons (sv 1 G (re_call (i := 11) G rfl rfl N.g__law_pen (ra_cons (ev 0) ra_nil))) (rss_cons (rs_for G.po G.calm (ri_range1 rfl N.b_range (ra_cons (re_bin (r2_bin G .Add) re_int (re_bfn (rc_min G.calm) rfl N.b_min bb_min (ra_cons re_int (ra_cons (re_bfn (rc_len) rfl N.b_len bb_len (ra_cons (ev 0) ra_nil)) ra_nil)))) ra_nil)) (gv 2 G) (rss_cons (sv 3 G (re_call (i := 28) G rfl rfl N.g__law_ground (ra_cons (ev 1) (ra_cons re_bl ra_nil)))) (rss_cons (rs_asg (re_call (i := 34) G rfl rfl N.g__law_drawn (ra_cons (ev 1) (ra_cons (ev 3) ra_nil))) (gt G (rgs_cons (gv 4 G) (rgs_cons (gv 5 G) rgs_nil)))) (rss_cons (rs_if (rt_not (rt_of (rtv_tru G) (re_call (i := 38) G rfl rfl N.g__law_is_right (ra_cons (ev 1) (ra_cons (ev 3) (ra_cons (ev 4) (ra_cons (ev 5) ra_nil))))))) (rss_one (rs_ret re_bl)) rss_nil) (rss_one (rs_if (rt_cmp (rtv_tru G) (r2_eq G) (re_call (i := 12) G rfl rfl N.g__law_draw (ra_cons (ev 1) (ra_cons re_int ra_nil))) re_int rfl) (rss_cons (sv 6 G (re_tup (ra_cons (re_call (i := 19) G rfl rfl N.g__law_fraction (ra_cons (ev 1) (ra_cons re_int ra_nil))) (ra_cons (re_call (i := 19) G rfl rfl N.g__law_fraction (ra_cons (ev 1) (ra_cons re_int ra_nil))) ra_nil)))) (rss_cons (sv 7 G (re_call (i := 26) G rfl rfl N.g__law_led (ra_cons (ev 4) (ra_cons (re_tup (ra_cons (re_tup (ra_cons re_int (ra_cons re_int ra_nil))) (ra_cons (re_tup (ra_cons re_int (ra_cons re_int ra_nil))) ra_nil))) (ra_cons (ev 6) ra_nil))))) (rss_cons (rs_setLc (i := 8) G rfl rfl (sw_true rfl rfl rfl rfl) (ri_range1 rfl N.b_range (ra_cons re_int ra_nil)) (blkOk_by (own := [("k", 9)]) (by kernel_rfl)) (fun s1 H1 C1 cl1 fp1 => (gv 9 (G.blk s1 H1 _ _ fp1))) (fun s1 H1 C1 cl1 fp1 => rts_nil) (fun s1 H1 C1 cl1 fp1 => (re_call (i := 17) (G.blk s1 H1 _ _ fp1) rfl rfl N.g__law_sum (ra_cons (re_ix (G.blk s1 H1 _ _ fp1) (ev 6) (ev 9)) (ra_cons (re_call (i := 18) (G.blk s1 H1 _ _ fp1) rfl rfl N.g__law_times (ra_cons (re_tup (ra_cons (re_un (r1_neg (G.blk s1 H1 _ _ fp1)) re_int) (ra_cons re_int ra_nil))) (ra_cons (re_ix (G.blk s1 H1 _ _ fp1) (ev 7) (ev 9)) ra_nil))) ra_nil)))) (by decide)) (rss_one (rs_if (rt_not (rt_of (rtv_tru G) (re_call (i := 38) G rfl rfl N.g__law_is_right (ra_cons (ev 1) (ra_cons (ev 3) (ra_cons (ev 4) (ra_cons (re_tup (ra_cons (re_ix G (ev 8) re_int) (ra_cons (re_ix G (ev 8) re_int) ra_nil))) ra_nil))))))) (rss_one (rs_ret re_bl)) rss_nil))))) rss_nil)))))) (rss_one (rs_ret re_bl))))
theorem ok_39 {fd : FuncData} (N : Nam K mg) (F : FunD K d_39.name d_39.qual d_39.params d_39.body d_39.scope (d_39.dvs K) (d_39.kws K) (He.fAd K d_39.at_) fd) (fo : FOk (tb.lw K) P w K mg base k c) : FnOk P w K mg base (L2.CX P w) (k + 10) ((tb.lw K).fad 39) ((tb.lw K).fdt 39) ((tb.lw K).fps 39) (spM K (tb.lw K) ((tb.lw K).fps 39).length (fnD 10 (B_39 c))) :=
  fn_rule (N := ["script", "pen", "lap", "ground", "rows", "shift", "spot", "back", "centred", "k"]) (funG_of F rfl rfl rfl) sc_39 fo (fun _ _ _ _ _ _ => rfl) fun X Wx hX G => rb_39 N hX G
theorem sc_40 : FnScope ["self", "top", "bottom", "value", "common"] ["self", "top", "bottom"] (defScope s_40) := ⟨rfl, rfl, rfl, by decide +kernel, rfl, by decide +kernel, by decide +kernel⟩
theorem rb_40 {f : Addr} {X : Cx} {Wx : WX} (N : Nam K mg) (hX : ∃ (cdv : Value) (A : Around) (outer : List Env) (s : Shared) (H : Hp) (E : XK), X = cxOf (L2.CX P w) P w K mg base ["self", "top", "bottom", "value", "common"] d_40.qual (defScope s_40) f cdv A outer s H E) (G : Gd (tb.lw K) X Wx k c) : RSs (tb.lw K) X Wx (defBody s_40) (B_40 c) := by
  obtain ⟨cdv, A, outer, s, H, E, rfl⟩ := hX
  exact (rss_cons (rs_for G.po G.calm (ri_seq (re_tup (ra_cons (ev 1) (ra_cons (ev 2) ra_nil)))) (gv 3 G) (rss_one (rs_if (RW.rt (rw_or (rt_not (rt_of (rtv_tru G) (re_ist (t := "int") G (by decide) (ev 3) rfl N.b_isinstance rfl N.b_int bb_int))) (rw_or1 (rt_of (rtv_tru G) (re_ist (t := "bool") G (by decide) (ev 3) rfl N.b_isinstance rfl N.b_bool bb_bool))))) (rss_one rs_no) rss_nil))) (rss_cons (rs_if (rt_cmp (rtv_tru G) (r2_eq G) (ev 2) re_int rfl) (rss_one rs_no) rss_nil) (rss_cons (sv 4 G (re_call (i := 1) G rfl rfl N.g_gcd_of (ra_cons (ev 1) (ra_cons (ev 2) ra_nil)))) (rss_cons (rs_if (rt_cmp (rtv_tru G) (r2_ord G .Lt) (ev 2) re_int rfl) (rss_one (sv 4 G (re_un (r1_neg G) (ev 4)))) rss_nil) (rss_cons (rs_fld (g := 40) G (ev 0) (re_bin (r2_bin G .FloorDiv) (ev 1) (ev 4))) (rss_one (rs_fld (g := 41) G (ev 0) (re_bin (r2_bin G .FloorDiv) (ev 2) (ev 4)))))))))
theorem ok_40 {fd : FuncData} (N : Nam K mg) (F : FunD K d_40.name d_40.qual d_40.params d_40.body d_40.scope (d_40.dvs K) (d_40.kws K) (He.fAd K d_40.at_) fd) (fo : FOk (tb.lw K) P w K mg base k c) : FnOk P w K mg base (L2.CX P w) (k + 10) ((tb.lw K).fad 40) ((tb.lw K).fdt 40) ((tb.lw K).fps 40) (spM K (tb.lw K) ((tb.lw K).fps 40).length (fnD 5 (B_40 c))) :=
  fn_rule (N := ["self", "top", "bottom", "value", "common"]) (funG_of F rfl rfl rfl) sc_40 fo (fun _ _ _ _ _ _ => rfl) fun X Wx hX G => rb_40 N hX G
theorem sc_41 : FnScope ["self", "other"] ["self", "other"] (defScope s_41) := ⟨rfl, rfl, rfl, by decide +kernel, rfl, by decide +kernel, by decide +kernel⟩
theorem rb_41 {f : Addr} {X : Cx} {Wx : WX} (N : Nam K mg) (hX : ∃ (cdv : Value) (A : Around) (outer : List Env) (s : Shared) (H : Hp) (E : XK), X = cxOf (L2.CX P w) P w K mg base ["self", "other"] d_41.qual (defScope s_41) f cdv A outer s H E) (G : Gd (tb.lw K) X Wx k c) : RSs (tb.lw K) X Wx (defBody s_41) (B_41 c) := by
  obtain ⟨cdv, A, outer, s, H, E, rfl⟩ := hX
  exact (rss_cons (rs_if (rt_not (rt_of (rtv_tru G) (re_call (i := 0) G rfl rfl N.g_is_number (ra_cons (ev 1) ra_nil)))) (rss_one (rs_ret re_bl)) rss_nil) (rss_cons (sv 1 G (re_call (i := 3) G rfl rfl N.g_ratio_of (ra_cons (ev 1) ra_nil))) (rss_one (rs_ret (re_and (rtv_tru G) (re_cmp (r2_eq G) (re_fld (g := 40) G (ev 0)) (re_fld (g := 40) G (ev 1)) rfl) (re_one (re_cmp (r2_eq G) (re_fld (g := 41) G (ev 0)) (re_fld (g := 41) G (ev 1)) rfl)))))))
theorem ok_41 {fd : FuncData} (N : Nam K mg) (F : FunD K d_41.name d_41.qual d_41.params d_41.body d_41.scope (d_41.dvs K) (d_41.kws K) (He.fAd K d_41.at_) fd) (fo : FOk (tb.lw K) P w K mg base k c) : FnOk P w K mg base (L2.CX P w) (k + 10) ((tb.lw K).fad 41) ((tb.lw K).fdt 41) ((tb.lw K).fps 41) (spM K (tb.lw K) ((tb.lw K).fps 41).length (fnD 2 (B_41 c))) :=
  fn_rule (N := ["self", "other"]) (funG_of F rfl rfl rfl) sc_41 fo (fun _ _ _ _ _ _ => rfl) fun X Wx hX G => rb_41 N hX G
theorem sc_42 : FnScope ["self", "other"] ["self", "other"] (defScope s_42) := ⟨rfl, rfl, rfl, by decide +kernel, rfl, by decide +kernel, by decide +kernel⟩
theorem rb_42 {f : Addr} {X : Cx} {Wx : WX} (N : Nam K mg) (hX : ∃ (cdv : Value) (A : Around) (outer : List Env) (s : Shared) (H : Hp) (E : XK), X = cxOf (L2.CX P w) P w K mg base ["self", "other"] d_42.qual (defScope s_42) f cdv A outer s H E) (G : Gd (tb.lw K) X Wx k c) : RSs (tb.lw K) X Wx (defBody s_42) (B_42 c) := by
  obtain ⟨cdv, A, outer, s, H, E, rfl⟩ := hX
  exact (rss_cons (rs_if (rt_not (rt_of (rtv_tru G) (re_call (i := 0) G rfl rfl N.g_is_number (ra_cons (ev 1) ra_nil)))) (rss_one rs_no) rss_nil) (rss_cons (sv 1 G (re_call (i := 3) G rfl rfl N.g_ratio_of (ra_cons (ev 1) ra_nil))) (rss_one (rs_ret (re_cmp (r2_ord G .Lt) (re_bin (r2_bin G .Mult) (re_fld (g := 40) G (ev 0)) (re_fld (g := 41) G (ev 1))) (re_bin (r2_bin G .Mult) (re_fld (g := 40) G (ev 1)) (re_fld (g := 41) G (ev 0))) rfl)))))
theorem ok_42 {fd : FuncData} (N : Nam K mg) (F : FunD K d_42.name d_42.qual d_42.params d_42.body d_42.scope (d_42.dvs K) (d_42.kws K) (He.fAd K d_42.at_) fd) (fo : FOk (tb.lw K) P w K mg base k c) : FnOk P w K mg base (L2.CX P w) (k + 10) ((tb.lw K).fad 42) ((tb.lw K).fdt 42) ((tb.lw K).fps 42) (spM K (tb.lw K) ((tb.lw K).fps 42).length (fnD 2 (B_42 c))) :=
  fn_rule (N := ["self", "other"]) (funG_of F rfl rfl rfl) sc_42 fo (fun _ _ _ _ _ _ => rfl) fun X Wx hX G => rb_42 N hX G
theorem sc_43 : FnScope ["self", "other"] ["self", "other"] (defScope s_43) := ⟨rfl, rfl, rfl, by decide +kernel, rfl, by decide +kernel, by decide +kernel⟩
theorem rb_43 {f : Addr} {X : Cx} {Wx : WX} (N : Nam K mg) (hX : ∃ (cdv : Value) (A : Around) (outer : List Env) (s : Shared) (H : Hp) (E : XK), X = cxOf (L2.CX P w) P w K mg base ["self", "other"] d_43.qual (defScope s_43) f cdv A outer s H E) (G : Gd (tb.lw K) X Wx k c) : RSs (tb.lw K) X Wx (defBody s_43) (B_43 c) := by
  obtain ⟨cdv, A, outer, s, H, E, rfl⟩ := hX
  exact (rss_cons (rs_if (rt_not (rt_of (rtv_tru G) (re_call (i := 0) G rfl rfl N.g_is_number (ra_cons (ev 1) ra_nil)))) (rss_one rs_no) rss_nil) (rss_cons (sv 1 G (re_call (i := 3) G rfl rfl N.g_ratio_of (ra_cons (ev 1) ra_nil))) (rss_one (rs_ret (re_cmp (r2_ord G .LtE) (re_bin (r2_bin G .Mult) (re_fld (g := 40) G (ev 0)) (re_fld (g := 41) G (ev 1))) (re_bin (r2_bin G .Mult) (re_fld (g := 40) G (ev 1)) (re_fld (g := 41) G (ev 0))) rfl)))))
theorem ok_43 {fd : FuncData} (N : Nam K mg) (F : FunD K d_43.name d_43.qual d_43.params d_43.body d_43.scope (d_43.dvs K) (d_43.kws K) (He.fAd K d_43.at_) fd) (fo : FOk (tb.lw K) P w K mg base k c) : FnOk P w K mg base (L2.CX P w) (k + 10) ((tb.lw K).fad 43) ((tb.lw K).fdt 43) ((tb.lw K).fps 43) (spM K (tb.lw K) ((tb.lw K).fps 43).length (fnD 2 (B_43 c))) :=
  fn_rule (N := ["self", "other"]) (funG_of F rfl rfl rfl) sc_43 fo (fun _ _ _ _ _ _ => rfl) fun X Wx hX G => rb_43 N hX G
theorem sc_44 : FnScope ["self", "other"] ["self", "other"] (defScope s_44) := ⟨rfl, rfl, rfl, by decide +kernel, rfl, by decide +kernel, by decide +kernel⟩
theorem rb_44 {f : Addr} {X : Cx} {Wx : WX} (N : Nam K mg) (hX : ∃ (cdv : Value) (A : Around) (outer : List Env) (s : Shared) (H : Hp) (E : XK), X = cxOf (L2.CX P w) P w K mg base ["self", "other"] d_44.qual (defScope s_44) f cdv A outer s H E) (G : Gd (tb.lw K) X Wx k c) : RSs (tb.lw K) X Wx (defBody s_44) (B_44 c) := by
  obtain ⟨cdv, A, outer, s, H, E, rfl⟩ := hX
  exact (rss_cons (rs_if (rt_not (rt_of (rtv_tru G) (re_call (i := 0) G rfl rfl N.g_is_number (ra_cons (ev 1) ra_nil)))) (rss_one rs_no) rss_nil) (rss_cons (sv 1 G (re_call (i := 3) G rfl rfl N.g_ratio_of (ra_cons (ev 1) ra_nil))) (rss_one (rs_ret (re_cmp (r2_ord G .Gt) (re_bin (r2_bin G .Mult) (re_fld (g := 40) G (ev 0)) (re_fld (g := 41) G (ev 1))) (re_bin (r2_bin G .Mult) (re_fld (g := 40) G (ev 1)) (re_fld (g := 41) G (ev 0))) rfl)))))
theorem ok_44 {fd : FuncData} (N : Nam K mg) (F : FunD K d_44.name d_44.qual d_44.params d_44.body d_44.scope (d_44.dvs K) (d_44.kws K) (He.fAd K d_44.at_) fd) (fo : FOk (tb.lw K) P w K mg base k c) : FnOk P w K mg base (L2.CX P w) (k + 10) ((tb.lw K).fad 44) ((tb.lw K).fdt 44) ((tb.lw K).fps 44) (spM K (tb.lw K) ((tb.lw K).fps 44).length (fnD 2 (B_44 c))) :=
  fn_rule (N := ["self", "other"]) (funG_of F rfl rfl rfl) sc_44 fo (fun _ _ _ _ _ _ => rfl) fun X Wx hX G => rb_44 N hX G
theorem sc_45 : FnScope ["self", "other"] ["self", "other"] (defScope s_45) := ⟨rfl, rfl, rfl, by decide +kernel, rfl, by decide +kernel, by decide +kernel⟩
theorem rb_45 {f : Addr} {X : Cx} {Wx : WX} (N : Nam K mg) (hX : ∃ (cdv : Value) (A : Around) (outer : List Env) (s : Shared) (H : Hp) (E : XK), X = cxOf (L2.CX P w) P w K mg base ["self", "other"] d_45.qual (defScope s_45) f cdv A outer s H E) (G : Gd (tb.lw K) X Wx k c) : RSs (tb.lw K) X Wx (defBody s_45) (B_45 c) := by
  obtain ⟨cdv, A, outer, s, H, E, rfl⟩ := hX
  exact (rss_cons (rs_if (rt_not (rt_of (rtv_tru G) (re_call (i := 0) G rfl rfl N.g_is_number (ra_cons (ev 1) ra_nil)))) (rss_one rs_no) rss_nil) (rss_cons (sv 1 G (re_call (i := 3) G rfl rfl N.g_ratio_of (ra_cons (ev 1) ra_nil))) (rss_one (rs_ret (re_cmp (r2_ord G .GtE) (re_bin (r2_bin G .Mult) (re_fld (g := 40) G (ev 0)) (re_fld (g := 41) G (ev 1))) (re_bin (r2_bin G .Mult) (re_fld (g := 40) G (ev 1)) (re_fld (g := 41) G (ev 0))) rfl)))))
theorem ok_45 {fd : FuncData} (N : Nam K mg) (F : FunD K d_45.name d_45.qual d_45.params d_45.body d_45.scope (d_45.dvs K) (d_45.kws K) (He.fAd K d_45.at_) fd) (fo : FOk (tb.lw K) P w K mg base k c) : FnOk P w K mg base (L2.CX P w) (k + 10) ((tb.lw K).fad 45) ((tb.lw K).fdt 45) ((tb.lw K).fps 45) (spM K (tb.lw K) ((tb.lw K).fps 45).length (fnD 2 (B_45 c))) :=
  fn_rule (N := ["self", "other"]) (funG_of F rfl rfl rfl) sc_45 fo (fun _ _ _ _ _ _ => rfl) fun X Wx hX G => rb_45 N hX G
theorem sc_46 : FnScope ["self", "other"] ["self", "other"] (defScope s_46) := ⟨rfl, rfl, rfl, by decide +kernel, rfl, by decide +kernel, by decide +kernel⟩
theorem rb_46 {f : Addr} {X : Cx} {Wx : WX} (N : Nam K mg) (hX : ∃ (cdv : Value) (A : Around) (outer : List Env) (s : Shared) (H : Hp) (E : XK), X = cxOf (L2.CX P w) P w K mg base ["self", "other"] d_46.qual (defScope s_46) f cdv A outer s H E) (G : Gd (tb.lw K) X Wx k c) : RSs (tb.lw K) X Wx (defBody s_46) (B_46 c) := by
  obtain ⟨cdv, A, outer, s, H, E, rfl⟩ := hX
  exact (rss_cons (rs_if (rt_not (rt_of (rtv_tru G) (re_call (i := 0) G rfl rfl N.g_is_number (ra_cons (ev 1) ra_nil)))) (rss_one rs_no) rss_nil) (rss_cons (sv 1 G (re_call (i := 3) G rfl rfl N.g_ratio_of (ra_cons (ev 1) ra_nil))) (rss_one (rs_ret (re_mk (i := 0) (f := 40) G rfl rfl N.g_Ratio (ra_cons (re_bin (r2_bin G .Add) (re_bin (r2_bin G .Mult) (re_fld (g := 40) G (ev 0)) (re_fld (g := 41) G (ev 1))) (re_bin (r2_bin G .Mult) (re_fld (g := 40) G (ev 1)) (re_fld (g := 41) G (ev 0)))) (ra_cons (re_bin (r2_bin G .Mult) (re_fld (g := 41) G (ev 0)) (re_fld (g := 41) G (ev 1))) ra_nil)))))))
theorem ok_46 {fd : FuncData} (N : Nam K mg) (F : FunD K d_46.name d_46.qual d_46.params d_46.body d_46.scope (d_46.dvs K) (d_46.kws K) (He.fAd K d_46.at_) fd) (fo : FOk (tb.lw K) P w K mg base k c) : FnOk P w K mg base (L2.CX P w) (k + 10) ((tb.lw K).fad 46) ((tb.lw K).fdt 46) ((tb.lw K).fps 46) (spM K (tb.lw K) ((tb.lw K).fps 46).length (fnD 2 (B_46 c))) :=
  fn_rule (N := ["self", "other"]) (funG_of F rfl rfl rfl) sc_46 fo (fun _ _ _ _ _ _ => rfl) fun X Wx hX G => rb_46 N hX G
theorem sc_47 : FnScope ["self", "other"] ["self", "other"] (defScope s_47) := ⟨rfl, rfl, rfl, by decide +kernel, rfl, by decide +kernel, by decide +kernel⟩
theorem rb_47 {f : Addr} {X : Cx} {Wx : WX} (N : Nam K mg) (hX : ∃ (cdv : Value) (A : Around) (outer : List Env) (s : Shared) (H : Hp) (E : XK), X = cxOf (L2.CX P w) P w K mg base ["self", "other"] d_47.qual (defScope s_47) f cdv A outer s H E) (G : Gd (tb.lw K) X Wx k c) : RSs (tb.lw K) X Wx (defBody s_47) (B_47 c) := by
  obtain ⟨cdv, A, outer, s, H, E, rfl⟩ := hX
  exact (rss_cons (rs_if (rt_not (rt_of (rtv_tru G) (re_call (i := 0) G rfl rfl N.g_is_number (ra_cons (ev 1) ra_nil)))) (rss_one rs_no) rss_nil) (rss_one (rs_ret (re_mk (i := 0) (f := 40) G rfl rfl N.g_Ratio (ra_cons (re_bin (r2_bin G .Add) (re_fld (g := 40) G (ev 0)) (re_bin (r2_bin G .Mult) (ev 1) (re_fld (g := 41) G (ev 0)))) (ra_cons (re_fld (g := 41) G (ev 0)) ra_nil))))))
theorem ok_47 {fd : FuncData} (N : Nam K mg) (F : FunD K d_47.name d_47.qual d_47.params d_47.body d_47.scope (d_47.dvs K) (d_47.kws K) (He.fAd K d_47.at_) fd) (fo : FOk (tb.lw K) P w K mg base k c) : FnOk P w K mg base (L2.CX P w) (k + 10) ((tb.lw K).fad 47) ((tb.lw K).fdt 47) ((tb.lw K).fps 47) (spM K (tb.lw K) ((tb.lw K).fps 47).length (fnD 2 (B_47 c))) :=
  fn_rule (N := ["self", "other"]) (funG_of F rfl rfl rfl) sc_47 fo (fun _ _ _ _ _ _ => rfl) fun X Wx hX G => rb_47 N hX G
theorem sc_48 : FnScope ["self", "other"] ["self", "other"] (defScope s_48) := ⟨rfl, rfl, rfl, by decide +kernel, rfl, by decide +kernel, by decide +kernel⟩
theorem rb_48 {f : Addr} {X : Cx} {Wx : WX} (N : Nam K mg) (hX : ∃ (cdv : Value) (A : Around) (outer : List Env) (s : Shared) (H : Hp) (E : XK), X = cxOf (L2.CX P w) P w K mg base ["self", "other"] d_48.qual (defScope s_48) f cdv A outer s H E) (G : Gd (tb.lw K) X Wx k c) : RSs (tb.lw K) X Wx (defBody s_48) (B_48 c) := by
  obtain ⟨cdv, A, outer, s, H, E, rfl⟩ := hX
  exact (rss_cons (rs_if (rt_not (rt_of (rtv_tru G) (re_call (i := 0) G rfl rfl N.g_is_number (ra_cons (ev 1) ra_nil)))) (rss_one rs_no) rss_nil) (rss_cons (sv 1 G (re_call (i := 3) G rfl rfl N.g_ratio_of (ra_cons (ev 1) ra_nil))) (rss_one (rs_ret (re_mk (i := 0) (f := 40) G rfl rfl N.g_Ratio (ra_cons (re_bin (r2_bin G .Sub) (re_bin (r2_bin G .Mult) (re_fld (g := 40) G (ev 0)) (re_fld (g := 41) G (ev 1))) (re_bin (r2_bin G .Mult) (re_fld (g := 40) G (ev 1)) (re_fld (g := 41) G (ev 0)))) (ra_cons (re_bin (r2_bin G .Mult) (re_fld (g := 41) G (ev 0)) (re_fld (g := 41) G (ev 1))) ra_nil)))))))
theorem ok_48 {fd : FuncData} (N : Nam K mg) (F : FunD K d_48.name d_48.qual d_48.params d_48.body d_48.scope (d_48.dvs K) (d_48.kws K) (He.fAd K d_48.at_) fd) (fo : FOk (tb.lw K) P w K mg base k c) : FnOk P w K mg base (L2.CX P w) (k + 10) ((tb.lw K).fad 48) ((tb.lw K).fdt 48) ((tb.lw K).fps 48) (spM K (tb.lw K) ((tb.lw K).fps 48).length (fnD 2 (B_48 c))) :=
  fn_rule (N := ["self", "other"]) (funG_of F rfl rfl rfl) sc_48 fo (fun _ _ _ _ _ _ => rfl) fun X Wx hX G => rb_48 N hX G
theorem sc_49 : FnScope ["self", "other"] ["self", "other"] (defScope s_49) := ⟨rfl, rfl, rfl, by decide +kernel, rfl, by decide +kernel, by decide +kernel⟩
theorem rb_49 {f : Addr} {X : Cx} {Wx : WX} (N : Nam K mg) (hX : ∃ (cdv : Value) (A : Around) (outer : List Env) (s : Shared) (H : Hp) (E : XK), X = cxOf (L2.CX P w) P w K mg base ["self", "other"] d_49.qual (defScope s_49) f cdv A outer s H E) (G : Gd (tb.lw K) X Wx k c) : RSs (tb.lw K) X Wx (defBody s_49) (B_49 c) := by
  obtain ⟨cdv, A, outer, s, H, E, rfl⟩ := hX
  exact (rss_cons (rs_if (rt_not (rt_of (rtv_tru G) (re_call (i := 0) G rfl rfl N.g_is_number (ra_cons (ev 1) ra_nil)))) (rss_one rs_no) rss_nil) (rss_one (rs_ret (re_mk (i := 0) (f := 40) G rfl rfl N.g_Ratio (ra_cons (re_bin (r2_bin G .Sub) (re_bin (r2_bin G .Mult) (ev 1) (re_fld (g := 41) G (ev 0))) (re_fld (g := 40) G (ev 0))) (ra_cons (re_fld (g := 41) G (ev 0)) ra_nil))))))
theorem ok_49 {fd : FuncData} (N : Nam K mg) (F : FunD K d_49.name d_49.qual d_49.params d_49.body d_49.scope (d_49.dvs K) (d_49.kws K) (He.fAd K d_49.at_) fd) (fo : FOk (tb.lw K) P w K mg base k c) : FnOk P w K mg base (L2.CX P w) (k + 10) ((tb.lw K).fad 49) ((tb.lw K).fdt 49) ((tb.lw K).fps 49) (spM K (tb.lw K) ((tb.lw K).fps 49).length (fnD 2 (B_49 c))) :=
  fn_rule (N := ["self", "other"]) (funG_of F rfl rfl rfl) sc_49 fo (fun _ _ _ _ _ _ => rfl) fun X Wx hX G => rb_49 N hX G
theorem sc_50 : FnScope ["self", "other"] ["self", "other"] (defScope s_50) := ⟨rfl, rfl, rfl, by decide +kernel, rfl, by decide +kernel, by decide +kernel⟩
theorem rb_50 {f : Addr} {X : Cx} {Wx : WX} (N : Nam K mg) (hX : ∃ (cdv : Value) (A : Around) (outer : List Env) (s : Shared) (H : Hp) (E : XK), X = cxOf (L2.CX P w) P w K mg base ["self", "other"] d_50.qual (defScope s_50) f cdv A outer s H E) (G : Gd (tb.lw K) X Wx k c) : RSs (tb.lw K) X Wx (defBody s_50) (B_50 c) := by
  obtain ⟨cdv, A, outer, s, H, E, rfl⟩ := hX
  exact (rss_cons (rs_if (rt_not (rt_of (rtv_tru G) (re_call (i := 0) G rfl rfl N.g_is_number (ra_cons (ev 1) ra_nil)))) (rss_one rs_no) rss_nil) (rss_cons (sv 1 G (re_call (i := 3) G rfl rfl N.g_ratio_of (ra_cons (ev 1) ra_nil))) (rss_one (rs_ret (re_mk (i := 0) (f := 40) G rfl rfl N.g_Ratio (ra_cons (re_bin (r2_bin G .Mult) (re_fld (g := 40) G (ev 0)) (re_fld (g := 40) G (ev 1))) (ra_cons (re_bin (r2_bin G .Mult) (re_fld (g := 41) G (ev 0)) (re_fld (g := 41) G (ev 1))) ra_nil)))))))
theorem ok_50 {fd : FuncData} (N : Nam K mg) (F : FunD K d_50.name d_50.qual d_50.params d_50.body d_50.scope (d_50.dvs K) (d_50.kws K) (He.fAd K d_50.at_) fd) (fo : FOk (tb.lw K) P w K mg base k c) : FnOk P w K mg base (L2.CX P w) (k + 10) ((tb.lw K).fad 50) ((tb.lw K).fdt 50) ((tb.lw K).fps 50) (spM K (tb.lw K) ((tb.lw K).fps 50).length (fnD 2 (B_50 c))) :=
  fn_rule (N := ["self", "other"]) (funG_of F rfl rfl rfl) sc_50 fo (fun _ _ _ _ _ _ => rfl) fun X Wx hX G => rb_50 N hX G
theorem sc_51 : FnScope ["self", "other"] ["self", "other"] (defScope s_51) := ⟨rfl, rfl, rfl, by decide +kernel, rfl, by decide +kernel, by decide +kernel⟩
theorem rb_51 {f : Addr} {X : Cx} {Wx : WX} (N : Nam K mg) (hX : ∃ (cdv : Value) (A : Around) (outer : List Env) (s : Shared) (H : Hp) (E : XK), X = cxOf (L2.CX P w) P w K mg base ["self", "other"] d_51.qual (defScope s_51) f cdv A outer s H E) (G : Gd (tb.lw K) X Wx k c) : RSs (tb.lw K) X Wx (defBody s_51) (B_51 c) := by
  obtain ⟨cdv, A, outer, s, H, E, rfl⟩ := hX
  exact (rss_cons (rs_if (rt_not (rt_of (rtv_tru G) (re_call (i := 0) G rfl rfl N.g_is_number (ra_cons (ev 1) ra_nil)))) (rss_one rs_no) rss_nil) (rss_one (rs_ret (re_mk (i := 0) (f := 40) G rfl rfl N.g_Ratio (ra_cons (re_bin (r2_bin G .Mult) (ev 1) (re_fld (g := 40) G (ev 0))) (ra_cons (re_fld (g := 41) G (ev 0)) ra_nil))))))
theorem ok_51 {fd : FuncData} (N : Nam K mg) (F : FunD K d_51.name d_51.qual d_51.params d_51.body d_51.scope (d_51.dvs K) (d_51.kws K) (He.fAd K d_51.at_) fd) (fo : FOk (tb.lw K) P w K mg base k c) : FnOk P w K mg base (L2.CX P w) (k + 10) ((tb.lw K).fad 51) ((tb.lw K).fdt 51) ((tb.lw K).fps 51) (spM K (tb.lw K) ((tb.lw K).fps 51).length (fnD 2 (B_51 c))) :=
  fn_rule (N := ["self", "other"]) (funG_of F rfl rfl rfl) sc_51 fo (fun _ _ _ _ _ _ => rfl) fun X Wx hX G => rb_51 N hX G
theorem sc_52 : FnScope ["self", "other"] ["self", "other"] (defScope s_52) := ⟨rfl, rfl, rfl, by decide +kernel, rfl, by decide +kernel, by decide +kernel⟩
theorem rb_52 {f : Addr} {X : Cx} {Wx : WX} (N : Nam K mg) (hX : ∃ (cdv : Value) (A : Around) (outer : List Env) (s : Shared) (H : Hp) (E : XK), X = cxOf (L2.CX P w) P w K mg base ["self", "other"] d_52.qual (defScope s_52) f cdv A outer s H E) (G : Gd (tb.lw K) X Wx k c) : RSs (tb.lw K) X Wx (defBody s_52) (B_52 c) := by
  obtain ⟨cdv, A, outer, s, H, E, rfl⟩ := hX
  exact (rss_cons (rs_if (rt_not (rt_of (rtv_tru G) (re_call (i := 0) G rfl rfl N.g_is_number (ra_cons (ev 1) ra_nil)))) (rss_one rs_no) rss_nil) (rss_one (rs_ret (re_meth0 (i := 50) G (re_meth (i := 55) G (ev 0) (ra_cons (ev 1) ra_nil))))))
theorem ok_52 {fd : FuncData} (N : Nam K mg) (F : FunD K d_52.name d_52.qual d_52.params d_52.body d_52.scope (d_52.dvs K) (d_52.kws K) (He.fAd K d_52.at_) fd) (fo : FOk (tb.lw K) P w K mg base k c) : FnOk P w K mg base (L2.CX P w) (k + 10) ((tb.lw K).fad 52) ((tb.lw K).fdt 52) ((tb.lw K).fps 52) (spM K (tb.lw K) ((tb.lw K).fps 52).length (fnD 2 (B_52 c))) :=
  fn_rule (N := ["self", "other"]) (funG_of F rfl rfl rfl) sc_52 fo (fun _ _ _ _ _ _ => rfl) fun X Wx hX G => rb_52 N hX G
theorem sc_53 : FnScope ["self", "other"] ["self", "other"] (defScope s_53) := ⟨rfl, rfl, rfl, by decide +kernel, rfl, by decide +kernel, by decide +kernel⟩
theorem rb_53 {f : Addr} {X : Cx} {Wx : WX} (N : Nam K mg) (hX : ∃ (cdv : Value) (A : Around) (outer : List Env) (s : Shared) (H : Hp) (E : XK), X = cxOf (L2.CX P w) P w K mg base ["self", "other"] d_53.qual (defScope s_53) f cdv A outer s H E) (G : Gd (tb.lw K) X Wx k c) : RSs (tb.lw K) X Wx (defBody s_53) (B_53 c) := by
  obtain ⟨cdv, A, outer, s, H, E, rfl⟩ := hX
  exact (rss_cons (rs_if (rt_not (rt_of (rtv_tru G) (re_call (i := 0) G rfl rfl N.g_is_number (ra_cons (ev 1) ra_nil)))) (rss_one rs_no) rss_nil) (rss_one (rs_ret (re_meth0 (i := 50) G (re_meth (i := 55) G (re_call (i := 3) G rfl rfl N.g_ratio_of (ra_cons (ev 1) ra_nil)) (ra_cons (ev 0) ra_nil))))))
theorem ok_53 {fd : FuncData} (N : Nam K mg) (F : FunD K d_53.name d_53.qual d_53.params d_53.body d_53.scope (d_53.dvs K) (d_53.kws K) (He.fAd K d_53.at_) fd) (fo : FOk (tb.lw K) P w K mg base k c) : FnOk P w K mg base (L2.CX P w) (k + 10) ((tb.lw K).fad 53) ((tb.lw K).fdt 53) ((tb.lw K).fps 53) (spM K (tb.lw K) ((tb.lw K).fps 53).length (fnD 2 (B_53 c))) :=
  fn_rule (N := ["self", "other"]) (funG_of F rfl rfl rfl) sc_53 fo (fun _ _ _ _ _ _ => rfl) fun X Wx hX G => rb_53 N hX G
theorem sc_54 : FnScope ["self", "other", "times"] ["self", "other"] (defScope s_54) := ⟨rfl, rfl, rfl, by decide +kernel, rfl, by decide +kernel, by decide +kernel⟩
theorem rb_54 {f : Addr} {X : Cx} {Wx : WX} (N : Nam K mg) (hX : ∃ (cdv : Value) (A : Around) (outer : List Env) (s : Shared) (H : Hp) (E : XK), X = cxOf (L2.CX P w) P w K mg base ["self", "other", "times"] d_54.qual (defScope s_54) f cdv A outer s H E) (G : Gd (tb.lw K) X Wx k c) : RSs (tb.lw K) X Wx (defBody s_54) (B_54 c) := by
  obtain ⟨cdv, A, outer, s, H, E, rfl⟩ := hX
  exact (rss_cons (rs_if (rt_not (rt_of (rtv_tru G) (re_call (i := 0) G rfl rfl N.g_is_number (ra_cons (ev 1) ra_nil)))) (rss_one rs_no) rss_nil) (rss_cons (sv 2 G (re_meth0 (i := 50) G (re_meth (i := 55) G (ev 0) (ra_cons (ev 1) ra_nil)))) (rss_one (rs_ret (re_bin (r2_bin G .Sub) (ev 0) (re_bin (r2_bin G .Mult) (ev 2) (re_call (i := 3) G rfl rfl N.g_ratio_of (ra_cons (ev 1) ra_nil))))))))
theorem ok_54 {fd : FuncData} (N : Nam K mg) (F : FunD K d_54.name d_54.qual d_54.params d_54.body d_54.scope (d_54.dvs K) (d_54.kws K) (He.fAd K d_54.at_) fd) (fo : FOk (tb.lw K) P w K mg base k c) : FnOk P w K mg base (L2.CX P w) (k + 10) ((tb.lw K).fad 54) ((tb.lw K).fdt 54) ((tb.lw K).fps 54) (spM K (tb.lw K) ((tb.lw K).fps 54).length (fnD 3 (B_54 c))) :=
  fn_rule (N := ["self", "other", "times"]) (funG_of F rfl rfl rfl) sc_54 fo (fun _ _ _ _ _ _ => rfl) fun X Wx hX G => rb_54 N hX G
theorem sc_55 : FnScope ["self", "other", "times"] ["self", "other"] (defScope s_55) := ⟨rfl, rfl, rfl, by decide +kernel, rfl, by decide +kernel, by decide +kernel⟩
theorem rb_55 {f : Addr} {X : Cx} {Wx : WX} (N : Nam K mg) (hX : ∃ (cdv : Value) (A : Around) (outer : List Env) (s : Shared) (H : Hp) (E : XK), X = cxOf (L2.CX P w) P w K mg base ["self", "other", "times"] d_55.qual (defScope s_55) f cdv A outer s H E) (G : Gd (tb.lw K) X Wx k c) : RSs (tb.lw K) X Wx (defBody s_55) (B_55 c) := by
  obtain ⟨cdv, A, outer, s, H, E, rfl⟩ := hX
  exact (rss_cons (rs_if (rt_not (rt_of (rtv_tru G) (re_call (i := 0) G rfl rfl N.g_is_number (ra_cons (ev 1) ra_nil)))) (rss_one rs_no) rss_nil) (rss_cons (sv 2 G (re_meth0 (i := 50) G (re_meth (i := 55) G (re_call (i := 3) G rfl rfl N.g_ratio_of (ra_cons (ev 1) ra_nil)) (ra_cons (ev 0) ra_nil)))) (rss_one (rs_ret (re_bin (r2_bin G .Sub) (ev 1) (re_bin (r2_bin G .Mult) (ev 2) (ev 0)))))))
theorem ok_55 {fd : FuncData} (N : Nam K mg) (F : FunD K d_55.name d_55.qual d_55.params d_55.body d_55.scope (d_55.dvs K) (d_55.kws K) (He.fAd K d_55.at_) fd) (fo : FOk (tb.lw K) P w K mg base k c) : FnOk P w K mg base (L2.CX P w) (k + 10) ((tb.lw K).fad 55) ((tb.lw K).fdt 55) ((tb.lw K).fps 55) (spM K (tb.lw K) ((tb.lw K).fps 55).length (fnD 3 (B_55 c))) :=
  fn_rule (N := ["self", "other", "times"]) (funG_of F rfl rfl rfl) sc_55 fo (fun _ _ _ _ _ _ => rfl) fun X Wx hX G => rb_55 N hX G
theorem sc_56 : FnScope ["self", "other"] ["self", "other"] (defScope s_56) := ⟨rfl, rfl, rfl, by decide +kernel, rfl, by decide +kernel, by decide +kernel⟩
theorem rb_56 {f : Addr} {X : Cx} {Wx : WX} (N : Nam K mg) (hX : ∃ (cdv : Value) (A : Around) (outer : List Env) (s : Shared) (H : Hp) (E : XK), X = cxOf (L2.CX P w) P w K mg base ["self", "other"] d_56.qual (defScope s_56) f cdv A outer s H E) (G : Gd (tb.lw K) X Wx k c) : RSs (tb.lw K) X Wx (defBody s_56) (B_56 c) := by
  obtain ⟨cdv, A, outer, s, H, E, rfl⟩ := hX
  exact (rss_cons (rs_if (RW.rt (rw_or (rt_not (rt_of (rtv_tru G) (re_ist (t := "int") G (by decide) (ev 1) rfl N.b_isinstance rfl N.b_int bb_int))) (rw_or1 (rt_of (rtv_tru G) (re_ist (t := "bool") G (by decide) (ev 1) rfl N.b_isinstance rfl N.b_bool bb_bool))))) (rss_one rs_no) rss_nil) (rss_one (rs_ret (re_mk (i := 0) (f := 40) G rfl rfl N.g_Ratio (ra_cons (re_call (i := 2) G rfl rfl N.g_raised (ra_cons (re_fld (g := 40) G (ev 0)) (ra_cons (ev 1) ra_nil))) (ra_cons (re_call (i := 2) G rfl rfl N.g_raised (ra_cons (re_fld (g := 41) G (ev 0)) (ra_cons (ev 1) ra_nil))) ra_nil))))))
theorem ok_56 {fd : FuncData} (N : Nam K mg) (F : FunD K d_56.name d_56.qual d_56.params d_56.body d_56.scope (d_56.dvs K) (d_56.kws K) (He.fAd K d_56.at_) fd) (fo : FOk (tb.lw K) P w K mg base k c) : FnOk P w K mg base (L2.CX P w) (k + 10) ((tb.lw K).fad 56) ((tb.lw K).fdt 56) ((tb.lw K).fps 56) (spM K (tb.lw K) ((tb.lw K).fps 56).length (fnD 2 (B_56 c))) :=
  fn_rule (N := ["self", "other"]) (funG_of F rfl rfl rfl) sc_56 fo (fun _ _ _ _ _ _ => rfl) fun X Wx hX G => rb_56 N hX G
theorem sc_57 : FnScope ["self"] ["self"] (defScope s_57) := ⟨rfl, rfl, rfl, by decide +kernel, rfl, by decide +kernel, by decide +kernel⟩
theorem rb_57 {f : Addr} {X : Cx} {Wx : WX} (N : Nam K mg) (hX : ∃ (cdv : Value) (A : Around) (outer : List Env) (s : Shared) (H : Hp) (E : XK), X = cxOf (L2.CX P w) P w K mg base ["self"] d_57.qual (defScope s_57) f cdv A outer s H E) (G : Gd (tb.lw K) X Wx k c) : RSs (tb.lw K) X Wx (defBody s_57) (B_57 c) := by
  obtain ⟨cdv, A, outer, s, H, E, rfl⟩ := hX
  exact (rss_one (rs_ret (re_mk (i := 0) (f := 40) G rfl rfl N.g_Ratio (ra_cons (re_un (r1_neg G) (re_fld (g := 40) G (ev 0))) (ra_cons (re_fld (g := 41) G (ev 0)) ra_nil)))))
theorem ok_57 {fd : FuncData} (N : Nam K mg) (F : FunD K d_57.name d_57.qual d_57.params d_57.body d_57.scope (d_57.dvs K) (d_57.kws K) (He.fAd K d_57.at_) fd) (fo : FOk (tb.lw K) P w K mg base k c) : FnOk P w K mg base (L2.CX P w) (k + 10) ((tb.lw K).fad 57) ((tb.lw K).fdt 57) ((tb.lw K).fps 57) (spM K (tb.lw K) ((tb.lw K).fps 57).length (fnD 1 (B_57 c))) :=
  fn_rule (N := ["self"]) (funG_of F rfl rfl rfl) sc_57 fo (fun _ _ _ _ _ _ => rfl) fun X Wx hX G => rb_57 N hX G
theorem sc_58 : FnScope ["self"] ["self"] (defScope s_58) := ⟨rfl, rfl, rfl, by decide +kernel, rfl, by decide +kernel, by decide +kernel⟩
theorem rb_58 {f : Addr} {X : Cx} {Wx : WX} (N : Nam K mg) (hX : ∃ (cdv : Value) (A : Around) (outer : List Env) (s : Shared) (H : Hp) (E : XK), X = cxOf (L2.CX P w) P w K mg base ["self"] d_58.qual (defScope s_58) f cdv A outer s H E) (G : Gd (tb.lw K) X Wx k c) : RSs (tb.lw K) X Wx (defBody s_58) (B_58 c) := by
  obtain ⟨cdv, A, outer, s, H, E, rfl⟩ := hX
  exact (rss_one (rs_ret (re_mk (i := 0) (f := 40) G rfl rfl N.g_Ratio (ra_cons (re_bfn (rc_abs) rfl N.b_abs bb_abs (ra_cons (re_fld (g := 40) G (ev 0)) ra_nil)) (ra_cons (re_fld (g := 41) G (ev 0)) ra_nil)))))
theorem ok_58 {fd : FuncData} (N : Nam K mg) (F : FunD K d_58.name d_58.qual d_58.params d_58.body d_58.scope (d_58.dvs K) (d_58.kws K) (He.fAd K d_58.at_) fd) (fo : FOk (tb.lw K) P w K mg base k c) : FnOk P w K mg base (L2.CX P w) (k + 10) ((tb.lw K).fad 58) ((tb.lw K).fdt 58) ((tb.lw K).fps 58) (spM K (tb.lw K) ((tb.lw K).fps 58).length (fnD 1 (B_58 c))) :=
  fn_rule (N := ["self"]) (funG_of F rfl rfl rfl) sc_58 fo (fun _ _ _ _ _ _ => rfl) fun X Wx hX G => rb_58 N hX G
theorem sc_59 : FnScope ["self"] ["self"] (defScope s_59) := ⟨rfl, rfl, rfl, by decide +kernel, rfl, by decide +kernel, by decide +kernel⟩
theorem rb_59 {f : Addr} {X : Cx} {Wx : WX} (N : Nam K mg) (hX : ∃ (cdv : Value) (A : Around) (outer : List Env) (s : Shared) (H : Hp) (E : XK), X = cxOf (L2.CX P w) P w K mg base ["self"] d_59.qual (defScope s_59) f cdv A outer s H E) (G : Gd (tb.lw K) X Wx k c) : RSs (tb.lw K) X Wx (defBody s_59) (B_59 c) := by
  obtain ⟨cdv, A, outer, s, H, E, rfl⟩ := hX
  exact (rss_one (rs_ret (re_bty (rc_bool G) rfl N.b_bool bb_bool (ra_cons (re_fld (g := 40) G (ev 0)) ra_nil))))
theorem ok_59 {fd : FuncData} (N : Nam K mg) (F : FunD K d_59.name d_59.qual d_59.params d_59.body d_59.scope (d_59.dvs K) (d_59.kws K) (He.fAd K d_59.at_) fd) (fo : FOk (tb.lw K) P w K mg base k c) : FnOk P w K mg base (L2.CX P w) (k + 10) ((tb.lw K).fad 59) ((tb.lw K).fdt 59) ((tb.lw K).fps 59) (spM K (tb.lw K) ((tb.lw K).fps 59).length (fnD 1 (B_59 c))) :=
  fn_rule (N := ["self"]) (funG_of F rfl rfl rfl) sc_59 fo (fun _ _ _ _ _ _ => rfl) fun X Wx hX G => rb_59 N hX G
theorem sc_60 : FnScope ["self", "number", "other"] ["self", "number"] (defScope s_60) := ⟨rfl, rfl, rfl, by decide +kernel, rfl, by decide +kernel, by decide +kernel⟩
theorem rb_60 {f : Addr} {X : Cx} {Wx : WX} (N : Nam K mg) (hX : ∃ (cdv : Value) (A : Around) (outer : List Env) (s : Shared) (H : Hp) (E : XK), X = cxOf (L2.CX P w) P w K mg base ["self", "number", "other"] d_60.qual (defScope s_60) f cdv A outer s H E) (G : Gd (tb.lw K) X Wx k c) : RSs (tb.lw K) X Wx (defBody s_60) (B_60 c) := by
  obtain ⟨cdv, A, outer, s, H, E, rfl⟩ := hX
  exact (rss_cons (sv 2 G (re_call (i := 3) G rfl rfl N.g_ratio_of (ra_cons (ev 1) ra_nil))) (rss_cons (rs_if (rt_cmp (rtv_tru G) (r2_eq G) (re_fld (g := 40) G (ev 2)) re_int rfl) (rss_one rs_no) rss_nil) (rss_one (rs_ret (re_mk (i := 0) (f := 40) G rfl rfl N.g_Ratio (ra_cons (re_bin (r2_bin G .Mult) (re_fld (g := 40) G (ev 0)) (re_fld (g := 41) G (ev 2))) (ra_cons (re_bin (r2_bin G .Mult) (re_fld (g := 41) G (ev 0)) (re_fld (g := 40) G (ev 2))) ra_nil)))))))
theorem ok_60 {fd : FuncData} (N : Nam K mg) (F : FunD K d_60.name d_60.qual d_60.params d_60.body d_60.scope (d_60.dvs K) (d_60.kws K) (He.fAd K d_60.at_) fd) (fo : FOk (tb.lw K) P w K mg base k c) : FnOk P w K mg base (L2.CX P w) (k + 10) ((tb.lw K).fad 60) ((tb.lw K).fdt 60) ((tb.lw K).fps 60) (spM K (tb.lw K) ((tb.lw K).fps 60).length (fnD 3 (B_60 c))) :=
  fn_rule (N := ["self", "number", "other"]) (funG_of F rfl rfl rfl) sc_60 fo (fun _ _ _ _ _ _ => rfl) fun X Wx hX G => rb_60 N hX G
theorem sc_61 : FnScope ["self"] ["self"] (defScope s_61) := ⟨rfl, rfl, rfl, by decide +kernel, rfl, by decide +kernel, by decide +kernel⟩
theorem rb_61 {f : Addr} {X : Cx} {Wx : WX} (N : Nam K mg) (hX : ∃ (cdv : Value) (A : Around) (outer : List Env) (s : Shared) (H : Hp) (E : XK), X = cxOf (L2.CX P w) P w K mg base ["self"] d_61.qual (defScope s_61) f cdv A outer s H E) (G : Gd (tb.lw K) X Wx k c) : RSs (tb.lw K) X Wx (defBody s_61) (B_61 c) := by
  obtain ⟨cdv, A, outer, s, H, E, rfl⟩ := hX
  exact (rss_one (rs_ret (re_bin (r2_bin G .FloorDiv) (re_fld (g := 40) G (ev 0)) (re_fld (g := 41) G (ev 0)))))
theorem ok_61 {fd : FuncData} (N : Nam K mg) (F : FunD K d_61.name d_61.qual d_61.params d_61.body d_61.scope (d_61.dvs K) (d_61.kws K) (He.fAd K d_61.at_) fd) (fo : FOk (tb.lw K) P w K mg base k c) : FnOk P w K mg base (L2.CX P w) (k + 10) ((tb.lw K).fad 61) ((tb.lw K).fdt 61) ((tb.lw K).fps 61) (spM K (tb.lw K) ((tb.lw K).fps 61).length (fnD 1 (B_61 c))) :=
  fn_rule (N := ["self"]) (funG_of F rfl rfl rfl) sc_61 fo (fun _ _ _ _ _ _ => rfl) fun X Wx hX G => rb_61 N hX G
theorem sc_62 : FnScope ["self", "x", "y"] ["self", "x", "y"] (defScope s_62) := ⟨rfl, rfl, rfl, by decide +kernel, rfl, by decide +kernel, by decide +kernel⟩
theorem rb_62 {f : Addr} {X : Cx} {Wx : WX} (N : Nam K mg) (hX : ∃ (cdv : Value) (A : Around) (outer : List Env) (s : Shared) (H : Hp) (E : XK), X = cxOf (L2.CX P w) P w K mg base ["self", "x", "y"] d_62.qual (defScope s_62) f cdv A outer s H E) (G : Gd (tb.lw K) X Wx k c) : RSs (tb.lw K) X Wx (defBody s_62) (B_62 c) := by
  obtain ⟨cdv, A, outer, s, H, E, rfl⟩ := hX
  exact (rss_cons (rs_fld (g := 42) G (ev 0) (re_call (i := 3) G rfl rfl N.g_ratio_of (ra_cons (ev 1) ra_nil))) (rss_one (rs_fld (g := 43) G (ev 0) (re_call (i := 3) G rfl rfl N.g_ratio_of (ra_cons (ev 2) ra_nil)))))
theorem ok_62 {fd : FuncData} (N : Nam K mg) (F : FunD K d_62.name d_62.qual d_62.params d_62.body d_62.scope (d_62.dvs K) (d_62.kws K) (He.fAd K d_62.at_) fd) (fo : FOk (tb.lw K) P w K mg base k c) : FnOk P w K mg base (L2.CX P w) (k + 10) ((tb.lw K).fad 62) ((tb.lw K).fdt 62) ((tb.lw K).fps 62) (spM K (tb.lw K) ((tb.lw K).fps 62).length (fnD 3 (B_62 c))) :=
  fn_rule (N := ["self", "x", "y"]) (funG_of F rfl rfl rfl) sc_62 fo (fun _ _ _ _ _ _ => rfl) fun X Wx hX G => rb_62 N hX G
theorem sc_63 : FnScope ["self", "other"] ["self", "other"] (defScope s_63) := ⟨rfl, rfl, rfl, by decide +kernel, rfl, by decide +kernel, by decide +kernel⟩
theorem rb_63 {f : Addr} {X : Cx} {Wx : WX} (N : Nam K mg) (hX : ∃ (cdv : Value) (A : Around) (outer : List Env) (s : Shared) (H : Hp) (E : XK), X = cxOf (L2.CX P w) P w K mg base ["self", "other"] d_63.qual (defScope s_63) f cdv A outer s H E) (G : Gd (tb.lw K) X Wx k c) : RSs (tb.lw K) X Wx (defBody s_63) (B_63 c) := by
  obtain ⟨cdv, A, outer, s, H, E, rfl⟩ := hX
  exact (rss_one (rs_ret (re_and (rtv_tru G) (re_iso (j := 1) G rfl (ev 1) rfl N.b_isinstance rfl N.g_Point) (re_and (rtv_tru G) (re_cmp (r2_eq G) (re_fld (g := 42) G (ev 0)) (re_fld (g := 42) G (ev 1)) rfl) (re_one (re_cmp (r2_eq G) (re_fld (g := 43) G (ev 0)) (re_fld (g := 43) G (ev 1)) rfl))))))
theorem ok_63 {fd : FuncData} (N : Nam K mg) (F : FunD K d_63.name d_63.qual d_63.params d_63.body d_63.scope (d_63.dvs K) (d_63.kws K) (He.fAd K d_63.at_) fd) (fo : FOk (tb.lw K) P w K mg base k c) : FnOk P w K mg base (L2.CX P w) (k + 10) ((tb.lw K).fad 63) ((tb.lw K).fdt 63) ((tb.lw K).fps 63) (spM K (tb.lw K) ((tb.lw K).fps 63).length (fnD 2 (B_63 c))) :=
  fn_rule (N := ["self", "other"]) (funG_of F rfl rfl rfl) sc_63 fo (fun _ _ _ _ _ _ => rfl) fun X Wx hX G => rb_63 N hX G
theorem sc_64 : FnScope ["self", "other"] ["self", "other"] (defScope s_64) := ⟨rfl, rfl, rfl, by decide +kernel, rfl, by decide +kernel, by decide +kernel⟩
theorem rb_64 {f : Addr} {X : Cx} {Wx : WX} (N : Nam K mg) (hX : ∃ (cdv : Value) (A : Around) (outer : List Env) (s : Shared) (H : Hp) (E : XK), X = cxOf (L2.CX P w) P w K mg base ["self", "other"] d_64.qual (defScope s_64) f cdv A outer s H E) (G : Gd (tb.lw K) X Wx k c) : RSs (tb.lw K) X Wx (defBody s_64) (B_64 c) := by
  obtain ⟨cdv, A, outer, s, H, E, rfl⟩ := hX
  exact (rss_cons (rs_if (rt_not (rt_of (rtv_tru G) (re_iso (j := 1) G rfl (ev 1) rfl N.b_isinstance rfl N.g_Point))) (rss_one rs_no) rss_nil) (rss_one (rs_ret (re_mk (i := 1) (f := 62) G rfl rfl N.g_Point (ra_cons (re_bin (r2_bin G .Add) (re_fld (g := 42) G (ev 0)) (re_fld (g := 42) G (ev 1))) (ra_cons (re_bin (r2_bin G .Add) (re_fld (g := 43) G (ev 0)) (re_fld (g := 43) G (ev 1))) ra_nil))))))
theorem ok_64 {fd : FuncData} (N : Nam K mg) (F : FunD K d_64.name d_64.qual d_64.params d_64.body d_64.scope (d_64.dvs K) (d_64.kws K) (He.fAd K d_64.at_) fd) (fo : FOk (tb.lw K) P w K mg base k c) : FnOk P w K mg base (L2.CX P w) (k + 10) ((tb.lw K).fad 64) ((tb.lw K).fdt 64) ((tb.lw K).fps 64) (spM K (tb.lw K) ((tb.lw K).fps 64).length (fnD 2 (B_64 c))) :=
  fn_rule (N := ["self", "other"]) (funG_of F rfl rfl rfl) sc_64 fo (fun _ _ _ _ _ _ => rfl) fun X Wx hX G => rb_64 N hX G
theorem sc_65 : FnScope ["self", "other"] ["self", "other"] (defScope s_65) := ⟨rfl, rfl, rfl, by decide +kernel, rfl, by decide +kernel, by decide +kernel⟩
theorem rb_65 {f : Addr} {X : Cx} {Wx : WX} (N : Nam K mg) (hX : ∃ (cdv : Value) (A : Around) (outer : List Env) (s : Shared) (H : Hp) (E : XK), X = cxOf (L2.CX P w) P w K mg base ["self", "other"] d_65.qual (defScope s_65) f cdv A outer s H E) (G : Gd (tb.lw K) X Wx k c) : RSs (tb.lw K) X Wx (defBody s_65) (B_65 c) := by
  obtain ⟨cdv, A, outer, s, H, E, rfl⟩ := hX
  exact (rss_cons (rs_if (rt_not (rt_of (rtv_tru G) (re_iso (j := 1) G rfl (ev 1) rfl N.b_isinstance rfl N.g_Point))) (rss_one rs_no) rss_nil) (rss_one (rs_ret (re_mk (i := 1) (f := 62) G rfl rfl N.g_Point (ra_cons (re_bin (r2_bin G .Sub) (re_fld (g := 42) G (ev 0)) (re_fld (g := 42) G (ev 1))) (ra_cons (re_bin (r2_bin G .Sub) (re_fld (g := 43) G (ev 0)) (re_fld (g := 43) G (ev 1))) ra_nil))))))
theorem ok_65 {fd : FuncData} (N : Nam K mg) (F : FunD K d_65.name d_65.qual d_65.params d_65.body d_65.scope (d_65.dvs K) (d_65.kws K) (He.fAd K d_65.at_) fd) (fo : FOk (tb.lw K) P w K mg base k c) : FnOk P w K mg base (L2.CX P w) (k + 10) ((tb.lw K).fad 65) ((tb.lw K).fdt 65) ((tb.lw K).fps 65) (spM K (tb.lw K) ((tb.lw K).fps 65).length (fnD 2 (B_65 c))) :=
  fn_rule (N := ["self", "other"]) (funG_of F rfl rfl rfl) sc_65 fo (fun _ _ _ _ _ _ => rfl) fun X Wx hX G => rb_65 N hX G
theorem sc_66 : FnScope ["self", "other"] ["self", "other"] (defScope s_66) := ⟨rfl, rfl, rfl, by decide +kernel, rfl, by decide +kernel, by decide +kernel⟩
theorem rb_66 {f : Addr} {X : Cx} {Wx : WX} (N : Nam K mg) (hX : ∃ (cdv : Value) (A : Around) (outer : List Env) (s : Shared) (H : Hp) (E : XK), X = cxOf (L2.CX P w) P w K mg base ["self", "other"] d_66.qual (defScope s_66) f cdv A outer s H E) (G : Gd (tb.lw K) X Wx k c) : RSs (tb.lw K) X Wx (defBody s_66) (B_66 c) := by
  obtain ⟨cdv, A, outer, s, H, E, rfl⟩ := hX
  exact (rss_cons (rs_if (rt_not (rt_of (rtv_tru G) (re_call (i := 0) G rfl rfl N.g_is_number (ra_cons (ev 1) ra_nil)))) (rss_one rs_no) rss_nil) (rss_one (rs_ret (re_mk (i := 1) (f := 62) G rfl rfl N.g_Point (ra_cons (re_bin (r2_bin G .Mult) (re_fld (g := 42) G (ev 0)) (ev 1)) (ra_cons (re_bin (r2_bin G .Mult) (re_fld (g := 43) G (ev 0)) (ev 1)) ra_nil))))))
theorem ok_66 {fd : FuncData} (N : Nam K mg) (F : FunD K d_66.name d_66.qual d_66.params d_66.body d_66.scope (d_66.dvs K) (d_66.kws K) (He.fAd K d_66.at_) fd) (fo : FOk (tb.lw K) P w K mg base k c) : FnOk P w K mg base (L2.CX P w) (k + 10) ((tb.lw K).fad 66) ((tb.lw K).fdt 66) ((tb.lw K).fps 66) (spM K (tb.lw K) ((tb.lw K).fps 66).length (fnD 2 (B_66 c))) :=
  fn_rule (N := ["self", "other"]) (funG_of F rfl rfl rfl) sc_66 fo (fun _ _ _ _ _ _ => rfl) fun X Wx hX G => rb_66 N hX G
theorem sc_67 : FnScope ["self", "other"] ["self", "other"] (defScope s_67) := ⟨rfl, rfl, rfl, by decide +kernel, rfl, by decide +kernel, by decide +kernel⟩
theorem rb_67 {f : Addr} {X : Cx} {Wx : WX} (N : Nam K mg) (hX : ∃ (cdv : Value) (A : Around) (outer : List Env) (s : Shared) (H : Hp) (E : XK), X = cxOf (L2.CX P w) P w K mg base ["self", "other"] d_67.qual (defScope s_67) f cdv A outer s H E) (G : Gd (tb.lw K) X Wx k c) : RSs (tb.lw K) X Wx (defBody s_67) (B_67 c) := by
  obtain ⟨cdv, A, outer, s, H, E, rfl⟩ := hX
  exact (rss_cons (rs_if (rt_not (rt_of (rtv_tru G) (re_call (i := 0) G rfl rfl N.g_is_number (ra_cons (ev 1) ra_nil)))) (rss_one rs_no) rss_nil) (rss_one (rs_ret (re_mk (i := 1) (f := 62) G rfl rfl N.g_Point (ra_cons (re_bin (r2_bin G .Mult) (re_fld (g := 42) G (ev 0)) (ev 1)) (ra_cons (re_bin (r2_bin G .Mult) (re_fld (g := 43) G (ev 0)) (ev 1)) ra_nil))))))
theorem ok_67 {fd : FuncData} (N : Nam K mg) (F : FunD K d_67.name d_67.qual d_67.params d_67.body d_67.scope (d_67.dvs K) (d_67.kws K) (He.fAd K d_67.at_) fd) (fo : FOk (tb.lw K) P w K mg base k c) : FnOk P w K mg base (L2.CX P w) (k + 10) ((tb.lw K).fad 67) ((tb.lw K).fdt 67) ((tb.lw K).fps 67) (spM K (tb.lw K) ((tb.lw K).fps 67).length (fnD 2 (B_67 c))) :=
  fn_rule (N := ["self", "other"]) (funG_of F rfl rfl rfl) sc_67 fo (fun _ _ _ _ _ _ => rfl) fun X Wx hX G => rb_67 N hX G
theorem sc_68 : FnScope ["self"] ["self"] (defScope s_68) := ⟨rfl, rfl, rfl, by decide +kernel, rfl, by decide +kernel, by decide +kernel⟩
theorem rb_68 {f : Addr} {X : Cx} {Wx : WX} (N : Nam K mg) (hX : ∃ (cdv : Value) (A : Around) (outer : List Env) (s : Shared) (H : Hp) (E : XK), X = cxOf (L2.CX P w) P w K mg base ["self"] d_68.qual (defScope s_68) f cdv A outer s H E) (G : Gd (tb.lw K) X Wx k c) : RSs (tb.lw K) X Wx (defBody s_68) (B_68 c) := by
  obtain ⟨cdv, A, outer, s, H, E, rfl⟩ := hX
  exact (rss_one (rs_ret (re_mk (i := 1) (f := 62) G rfl rfl N.g_Point (ra_cons (re_un (r1_neg G) (re_fld (g := 42) G (ev 0))) (ra_cons (re_un (r1_neg G) (re_fld (g := 43) G (ev 0))) ra_nil)))))
theorem ok_68 {fd : FuncData} (N : Nam K mg) (F : FunD K d_68.name d_68.qual d_68.params d_68.body d_68.scope (d_68.dvs K) (d_68.kws K) (He.fAd K d_68.at_) fd) (fo : FOk (tb.lw K) P w K mg base k c) : FnOk P w K mg base (L2.CX P w) (k + 10) ((tb.lw K).fad 68) ((tb.lw K).fdt 68) ((tb.lw K).fps 68) (spM K (tb.lw K) ((tb.lw K).fps 68).length (fnD 1 (B_68 c))) :=
  fn_rule (N := ["self"]) (funG_of F rfl rfl rfl) sc_68 fo (fun _ _ _ _ _ _ => rfl) fun X Wx hX G => rb_68 N hX G
theorem sc_69 : FnScope ["self"] ["self"] (defScope s_69) := ⟨rfl, rfl, rfl, by decide +kernel, rfl, by decide +kernel, by decide +kernel⟩
theorem rb_69 {f : Addr} {X : Cx} {Wx : WX} (N : Nam K mg) (hX : ∃ (cdv : Value) (A : Around) (outer : List Env) (s : Shared) (H : Hp) (E : XK), X = cxOf (L2.CX P w) P w K mg base ["self"] d_69.qual (defScope s_69) f cdv A outer s H E) (G : Gd (tb.lw K) X Wx k c) : RSs (tb.lw K) X Wx (defBody s_69) (B_69 c) := by
  obtain ⟨cdv, A, outer, s, H, E, rfl⟩ := hX
  exact (rss_one (rs_ret (re_or (rtv_tru G) (re_bty (rc_bool G) rfl N.b_bool bb_bool (ra_cons (re_fld (g := 42) G (ev 0)) ra_nil)) (re_one (re_bty (rc_bool G) rfl N.b_bool bb_bool (ra_cons (re_fld (g := 43) G (ev 0)) ra_nil))))))
theorem ok_69 {fd : FuncData} (N : Nam K mg) (F : FunD K d_69.name d_69.qual d_69.params d_69.body d_69.scope (d_69.dvs K) (d_69.kws K) (He.fAd K d_69.at_) fd) (fo : FOk (tb.lw K) P w K mg base k c) : FnOk P w K mg base (L2.CX P w) (k + 10) ((tb.lw K).fad 69) ((tb.lw K).fdt 69) ((tb.lw K).fps 69) (spM K (tb.lw K) ((tb.lw K).fps 69).length (fnD 1 (B_69 c))) :=
  fn_rule (N := ["self"]) (funG_of F rfl rfl rfl) sc_69 fo (fun _ _ _ _ _ _ => rfl) fun X Wx hX G => rb_69 N hX G
theorem sc_70 : FnScope ["self", "table", "shift"] ["self", "table", "shift"] (defScope s_70) := ⟨rfl, rfl, rfl, by decide +kernel, rfl, by decide +kernel, by decide +kernel⟩
theorem rb_70 {f : Addr} {X : Cx} {Wx : WX} (N : Nam K mg) (hX : ∃ (cdv : Value) (A : Around) (outer : List Env) (s : Shared) (H : Hp) (E : XK), X = cxOf (L2.CX P w) P w K mg base ["self", "table", "shift"] d_70.qual (defScope s_70) f cdv A outer s H E) (G : Gd (tb.lw K) X Wx k c) : RSs (tb.lw K) X Wx (defBody s_70) (B_70 c) := by
  obtain ⟨cdv, A, outer, s, H, E, rfl⟩ := hX
  exact (rss_cons (rs_fld (g := 44) G (ev 0) (re_call (i := 5) G rfl rfl N.g_table_of (ra_cons (ev 1) ra_nil))) (rss_cons (rs_if (rt_cmp (rtv_tru G) (r2_eq G) (re_call (i := 6) G rfl rfl N.g_factor_of (ra_cons (re_fld (g := 44) G (ev 0)) ra_nil)) re_int rfl) (rss_one rs_no) rss_nil) (rss_one (rs_fld (g := 45) G (ev 0) (re_ifExp (rt_cmp (rtv_tru G) r2_is (ev 2) re_non rfl) (re_mk (i := 1) (f := 62) G rfl rfl N.g_Point (ra_cons re_int (ra_cons re_int ra_nil))) (ev 2))))))
theorem ok_70 {fd : FuncData} (N : Nam K mg) (F : FunD K d_70.name d_70.qual d_70.params d_70.body d_70.scope (d_70.dvs K) (d_70.kws K) (He.fAd K d_70.at_) fd) (fo : FOk (tb.lw K) P w K mg base k c) : FnOk P w K mg base (L2.CX P w) (k + 10) ((tb.lw K).fad 70) ((tb.lw K).fdt 70) ((tb.lw K).fps 70) (spM K (tb.lw K) ((tb.lw K).fps 70).length (fnD 3 (B_70 c))) :=
  fn_rule (N := ["self", "table", "shift"]) (funG_of F rfl rfl rfl) sc_70 fo (fun _ _ _ _ _ _ => rfl) fun X Wx hX G => rb_70 N hX G
theorem sc_71 : FnScope ["self", "other"] ["self", "other"] (defScope s_71) := ⟨rfl, rfl, rfl, by decide +kernel, rfl, by decide +kernel, by decide +kernel⟩
theorem rb_71 {f : Addr} {X : Cx} {Wx : WX} (N : Nam K mg) (hX : ∃ (cdv : Value) (A : Around) (outer : List Env) (s : Shared) (H : Hp) (E : XK), X = cxOf (L2.CX P w) P w K mg base ["self", "other"] d_71.qual (defScope s_71) f cdv A outer s H E) (G : Gd (tb.lw K) X Wx k c) : RSs (tb.lw K) X Wx (defBody s_71) (B_71 c) := by
  obtain ⟨cdv, A, outer, s, H, E, rfl⟩ := hX
  exact (rss_one (rs_ret (re_and (rtv_tru G) (re_iso (j := 2) G rfl (ev 1) rfl N.b_isinstance rfl N.g_Motion) (re_and (rtv_tru G) (re_cmp (r2_eq G) (re_fld (g := 44) G (ev 0)) (re_fld (g := 44) G (ev 1)) rfl) (re_one (re_cmp (r2_eq G) (re_fld (g := 45) G (ev 0)) (re_fld (g := 45) G (ev 1)) rfl))))))
theorem ok_71 {fd : FuncData} (N : Nam K mg) (F : FunD K d_71.name d_71.qual d_71.params d_71.body d_71.scope (d_71.dvs K) (d_71.kws K) (He.fAd K d_71.at_) fd) (fo : FOk (tb.lw K) P w K mg base k c) : FnOk P w K mg base (L2.CX P w) (k + 10) ((tb.lw K).fad 71) ((tb.lw K).fdt 71) ((tb.lw K).fps 71) (spM K (tb.lw K) ((tb.lw K).fps 71).length (fnD 2 (B_71 c))) :=
  fn_rule (N := ["self", "other"]) (funG_of F rfl rfl rfl) sc_71 fo (fun _ _ _ _ _ _ => rfl) fun X Wx hX G => rb_71 N hX G
theorem sc_72 : FnScope ["self", "point"] ["self", "point"] (defScope s_72) := ⟨rfl, rfl, rfl, by decide +kernel, rfl, by decide +kernel, by decide +kernel⟩
theorem rb_72 {f : Addr} {X : Cx} {Wx : WX} (N : Nam K mg) (hX : ∃ (cdv : Value) (A : Around) (outer : List Env) (s : Shared) (H : Hp) (E : XK), X = cxOf (L2.CX P w) P w K mg base ["self", "point"] d_72.qual (defScope s_72) f cdv A outer s H E) (G : Gd (tb.lw K) X Wx k c) : RSs (tb.lw K) X Wx (defBody s_72) (B_72 c) := by
  obtain ⟨cdv, A, outer, s, H, E, rfl⟩ := hX
  exact (rss_one (rs_ret (re_call (i := 8) G rfl rfl N.g_led (ra_cons (re_fld (g := 44) G (ev 0)) (ra_cons (re_fld (g := 45) G (ev 0)) (ra_cons (ev 1) ra_nil))))))
theorem ok_72 {fd : FuncData} (N : Nam K mg) (F : FunD K d_72.name d_72.qual d_72.params d_72.body d_72.scope (d_72.dvs K) (d_72.kws K) (He.fAd K d_72.at_) fd) (fo : FOk (tb.lw K) P w K mg base k c) : FnOk P w K mg base (L2.CX P w) (k + 10) ((tb.lw K).fad 72) ((tb.lw K).fdt 72) ((tb.lw K).fps 72) (spM K (tb.lw K) ((tb.lw K).fps 72).length (fnD 2 (B_72 c))) :=
  fn_rule (N := ["self", "point"]) (funG_of F rfl rfl rfl) sc_72 fo (fun _ _ _ _ _ _ => rfl) fun X Wx hX G => rb_72 N hX G
theorem sc_73 : FnScope ["self", "other"] ["self", "other"] (defScope s_73) := ⟨rfl, rfl, rfl, by decide +kernel, rfl, by decide +kernel, by decide +kernel⟩
theorem rb_73 {f : Addr} {X : Cx} {Wx : WX} (N : Nam K mg) (hX : ∃ (cdv : Value) (A : Around) (outer : List Env) (s : Shared) (H : Hp) (E : XK), X = cxOf (L2.CX P w) P w K mg base ["self", "other"] d_73.qual (defScope s_73) f cdv A outer s H E) (G : Gd (tb.lw K) X Wx k c) : RSs (tb.lw K) X Wx (defBody s_73) (B_73 c) := by
  obtain ⟨cdv, A, outer, s, H, E, rfl⟩ := hX
  exact (rss_one (rs_ret (re_mk (i := 2) (f := 70) G rfl rfl N.g_Motion (ra_cons (re_call (i := 7) G rfl rfl N.g_table_product (ra_cons (re_fld (g := 44) G (ev 0)) (ra_cons (re_fld (g := 44) G (ev 1)) ra_nil))) (ra_cons (re_call (i := 8) G rfl rfl N.g_led (ra_cons (re_fld (g := 44) G (ev 0)) (ra_cons (re_fld (g := 45) G (ev 0)) (ra_cons (re_fld (g := 45) G (ev 1)) ra_nil)))) ra_nil)))))
theorem ok_73 {fd : FuncData} (N : Nam K mg) (F : FunD K d_73.name d_73.qual d_73.params d_73.body d_73.scope (d_73.dvs K) (d_73.kws K) (He.fAd K d_73.at_) fd) (fo : FOk (tb.lw K) P w K mg base k c) : FnOk P w K mg base (L2.CX P w) (k + 10) ((tb.lw K).fad 73) ((tb.lw K).fdt 73) ((tb.lw K).fps 73) (spM K (tb.lw K) ((tb.lw K).fps 73).length (fnD 2 (B_73 c))) :=
  fn_rule (N := ["self", "other"]) (funG_of F rfl rfl rfl) sc_73 fo (fun _ _ _ _ _ _ => rfl) fun X Wx hX G => rb_73 N hX G
theorem sc_74 : FnScope ["self", "factor", "a", "b", "c", "d", "table"] ["self"] (defScope s_74) := ⟨rfl, rfl, rfl, by decide +kernel, rfl, by decide +kernel, by decide +kernel⟩
theorem rb_74 {f : Addr} {X : Cx} {Wx : WX} (N : Nam K mg) (hX : ∃ (cdv : Value) (A : Around) (outer : List Env) (s : Shared) (H : Hp) (E : XK), X = cxOf (L2.CX P w) P w K mg base ["self", "factor", "a", "b", "c", "d", "table"] d_74.qual (defScope s_74) f cdv A outer s H E) (G : Gd (tb.lw K) X Wx k c) : RSs (tb.lw K) X Wx (defBody s_74) (B_74 c) := by
  obtain ⟨cdv, A, outer, s, H, E, rfl⟩ := hX
  exact (rss_cons (sv 1 G (re_call (i := 6) G rfl rfl N.g_factor_of (ra_cons (re_fld (g := 44) G (ev 0)) ra_nil))) (rss_cons (rs_asg (re_fld (g := 44) G (ev 0)) (gt G (rgs_cons (gt G (rgs_cons (gv 2 G) (rgs_cons (gv 3 G) rgs_nil))) (rgs_cons (gt G (rgs_cons (gv 4 G) (rgs_cons (gv 5 G) rgs_nil))) rgs_nil)))) (rss_cons (sv 6 G (re_tup (ra_cons (re_tup (ra_cons (re_meth (i := 55) G (ev 5) (ra_cons (ev 1) ra_nil)) (ra_cons (re_meth (i := 55) G (re_un (r1_neg G) (ev 3)) (ra_cons (ev 1) ra_nil)) ra_nil))) (ra_cons (re_tup (ra_cons (re_meth (i := 55) G (re_un (r1_neg G) (ev 4)) (ra_cons (ev 1) ra_nil)) (ra_cons (re_meth (i := 55) G (ev 2) (ra_cons (ev 1) ra_nil)) ra_nil))) ra_nil)))) (rss_one (rs_ret (re_mk (i := 2) (f := 70) G rfl rfl N.g_Motion (ra_cons (ev 6) (ra_cons (re_un (r1_neg G) (re_call (i := 8) G rfl rfl N.g_led (ra_cons (ev 6) (ra_cons (re_mk (i := 1) (f := 62) G rfl rfl N.g_Point (ra_cons re_int (ra_cons re_int ra_nil))) (ra_cons (re_fld (g := 45) G (ev 0)) ra_nil))))) ra_nil))))))))
theorem ok_74 {fd : FuncData} (N : Nam K mg) (F : FunD K d_74.name d_74.qual d_74.params d_74.body d_74.scope (d_74.dvs K) (d_74.kws K) (He.fAd K d_74.at_) fd) (fo : FOk (tb.lw K) P w K mg base k c) : FnOk P w K mg base (L2.CX P w) (k + 10) ((tb.lw K).fad 74) ((tb.lw K).fdt 74) ((tb.lw K).fps 74) (spM K (tb.lw K) ((tb.lw K).fps 74).length (fnD 7 (B_74 c))) :=
  fn_rule (N := ["self", "factor", "a", "b", "c", "d", "table"]) (funG_of F rfl rfl rfl) sc_74 fo (fun _ _ _ _ _ _ => rfl) fun X Wx hX G => rb_74 N hX G
theorem sc_75 : FnScope ["self", "number", "base", "found", "left"] ["self", "number"] (defScope s_75) := ⟨rfl, rfl, rfl, by decide +kernel, rfl, by decide +kernel, by decide +kernel⟩
theorem rb_75 {f : Addr} {X : Cx} {Wx : WX} (N : Nam K mg) (hX : ∃ (cdv : Value) (A : Around) (outer : List Env) (s : Shared) (H : Hp) (E : XK), X = cxOf (L2.CX P w) P w K mg base ["self", "number", "base", "found", "left"] d_75.qual (defScope s_75) f cdv A outer s H E) (G : Gd (tb.lw K) X Wx k c) : RSs (tb.lw K) X Wx (defBody s_75) (B_75 c) := by
  obtain ⟨cdv, A, outer, s, H, E, rfl⟩ := hX
  obtain ⟨t_MOST_POWER, h_MOST_POWER⟩ := N.c_MOST_POWER
  exact (rss_cons (rs_if (RW.rt (rw_or (rt_not (rt_of (rtv_tru G) (re_call (i := 4) G rfl rfl N.g_is_integer (ra_cons (ev 1) ra_nil)))) (rw_or1 (rt_not (rt_chain (rtv_tru G) (r2_ord G .LtE) (r2_ord G .LtE) (re_un (r1_neg G) (re_glob (v := .int 1000) (d := .int 1000) rfl h_MOST_POWER ⟨_, rfl⟩ (fun _ => Rl.int.mpr rfl))) (ev 1) (re_glob (v := .int 1000) (d := .int 1000) rfl h_MOST_POWER ⟨_, rfl⟩ (fun _ => Rl.int.mpr rfl))))))) (rss_one rs_no) rss_nil) (rss_cons (sv 2 G (re_ifExp (rt_cmp (rtv_tru G) (r2_ord G .GtE) (ev 1) re_int rfl) (ev 0) (re_un (r1_inv G) (ev 0)))) (rss_cons (pr2 3 4 G (ra_cons (re_call0 (i := 9) G rfl rfl N.g_rest) (ra_cons (re_bfn (rc_abs) rfl N.b_abs bb_abs (ra_cons (ev 1) ra_nil)) ra_nil))) (rss_cons (rs_while G.po (rt_cmp (rtv_tru G) (r2_ord G .Gt) (ev 4) re_int rfl) (rss_cons (rs_if (rt_cmp (rtv_tru G) (r2_eq G) (re_bin (r2_bin G .Mod) (ev 4) re_int) re_int rfl) (rss_one (sv 3 G (re_bin (r2_bin G .Mult) (ev 3) (ev 2)))) rss_nil) (rss_one (pr2 2 4 G (ra_cons (re_bin (r2_bin G .Mult) (ev 2) (ev 2)) (ra_cons (re_bin (r2_bin G .FloorDiv) (ev 4) re_int) ra_nil)))))) (rss_one (rs_ret (ev 3)))))))
theorem ok_75 {fd : FuncData} (N : Nam K mg) (F : FunD K d_75.name d_75.qual d_75.params d_75.body d_75.scope (d_75.dvs K) (d_75.kws K) (He.fAd K d_75.at_) fd) (fo : FOk (tb.lw K) P w K mg base k c) : FnOk P w K mg base (L2.CX P w) (k + 10) ((tb.lw K).fad 75) ((tb.lw K).fdt 75) ((tb.lw K).fps 75) (spM K (tb.lw K) ((tb.lw K).fps 75).length (fnD 5 (B_75 c))) :=
  fn_rule (N := ["self", "number", "base", "found", "left"]) (funG_of F rfl rfl rfl) sc_75 fo (fun _ _ _ _ _ _ => rfl) fun X Wx hX G => rb_75 N hX G
theorem sc_76 : FnScope ["self"] ["self"] (defScope s_76) := ⟨rfl, rfl, rfl, by decide +kernel, rfl, by decide +kernel, by decide +kernel⟩
theorem rb_76 {f : Addr} {X : Cx} {Wx : WX} (N : Nam K mg) (hX : ∃ (cdv : Value) (A : Around) (outer : List Env) (s : Shared) (H : Hp) (E : XK), X = cxOf (L2.CX P w) P w K mg base ["self"] d_76.qual (defScope s_76) f cdv A outer s H E) (G : Gd (tb.lw K) X Wx k c) : RSs (tb.lw K) X Wx (defBody s_76) (B_76 c) := by
  obtain ⟨cdv, A, outer, s, H, E, rfl⟩ := hX
  exact (rss_one (rs_ret (re_call (i := 6) G rfl rfl N.g_factor_of (ra_cons (re_fld (g := 44) G (ev 0)) ra_nil))))
theorem ok_76 {fd : FuncData} (N : Nam K mg) (F : FunD K d_76.name d_76.qual d_76.params d_76.body d_76.scope (d_76.dvs K) (d_76.kws K) (He.fAd K d_76.at_) fd) (fo : FOk (tb.lw K) P w K mg base k c) : FnOk P w K mg base (L2.CX P w) (k + 10) ((tb.lw K).fad 76) ((tb.lw K).fdt 76) ((tb.lw K).fps 76) (spM K (tb.lw K) ((tb.lw K).fps 76).length (fnD 1 (B_76 c))) :=
  fn_rule (N := ["self"]) (funG_of F rfl rfl rfl) sc_76 fo (fun _ _ _ _ _ _ => rfl) fun X Wx hX G => rb_76 N hX G
theorem sc_77 : FnScope ["self", "ground", "ends", "found"] ["self", "ground"] (defScope s_77) := ⟨rfl, rfl, rfl, by decide +kernel, rfl, by decide +kernel, by decide +kernel⟩
theorem rb_77 {f : Addr} {X : Cx} {Wx : WX} (N : Nam K mg) (hX : ∃ (cdv : Value) (A : Around) (outer : List Env) (s : Shared) (H : Hp) (E : XK), X = cxOf (L2.CX P w) P w K mg base ["self", "ground", "ends", "found"] d_77.qual (defScope s_77) f cdv A outer s H E) (G : Gd (tb.lw K) X Wx k c) : RSs (tb.lw K) X Wx (defBody s_77) (B_77 c) := by
  obtain ⟨cdv, A, outer, s, H, E, rfl⟩ := hX
  exact (rss_cons (sv 2 G (re_lst (ra_cons (re_call (i := 8) G rfl rfl N.g_led (ra_cons (re_fld (g := 44) G (ev 0)) (ra_cons (re_mk (i := 1) (f := 62) G rfl rfl N.g_Point (ra_cons re_int (ra_cons re_int ra_nil))) (ra_cons (re_mk (i := 1) (f := 62) G rfl rfl N.g_Point (ra_cons re_int (ra_cons re_int ra_nil))) ra_nil)))) (ra_cons (re_call (i := 8) G rfl rfl N.g_led (ra_cons (re_fld (g := 44) G (ev 0)) (ra_cons (re_mk (i := 1) (f := 62) G rfl rfl N.g_Point (ra_cons re_int (ra_cons re_int ra_nil))) (ra_cons (re_mk (i := 1) (f := 62) G rfl rfl N.g_Point (ra_cons re_int (ra_cons re_int ra_nil))) ra_nil)))) ra_nil)))) (rss_cons (sv 3 G (re_meth (i := 55) G (re_meth (i := 53) G (ev 1) (ra_cons (re_ix G (ev 2) re_int) ra_nil)) (ra_cons (re_fld (g := 46) G (ev 1)) ra_nil))) (rss_cons (rs_if (RW.rt (rw_or (rt_cmp (rtv_tru G) (r2_ne G) (re_meth (i := 53) G (ev 1) (ra_cons (re_ix G (ev 2) re_int) ra_nil)) (re_bin (r2_bin G .Mult) (ev 3) (re_fld (g := 48) G (ev 1))) rfl) (rw_or1 (rt_cmp (rtv_tru G) (r2_ne G) (re_meth (i := 56) G (ev 1) (ra_cons (re_ix G (ev 2) re_int) (ra_cons (re_ix G (ev 2) re_int) ra_nil))) (re_bin (r2_bin G .Mult) (ev 3) (re_fld (g := 47) G (ev 1))) rfl)))) (rss_one (rs_ret re_non)) rss_nil) (rss_one (rs_ret (ev 3))))))
theorem ok_77 {fd : FuncData} (N : Nam K mg) (F : FunD K d_77.name d_77.qual d_77.params d_77.body d_77.scope (d_77.dvs K) (d_77.kws K) (He.fAd K d_77.at_) fd) (fo : FOk (tb.lw K) P w K mg base k c) : FnOk P w K mg base (L2.CX P w) (k + 10) ((tb.lw K).fad 77) ((tb.lw K).fdt 77) ((tb.lw K).fps 77) (spM K (tb.lw K) ((tb.lw K).fps 77).length (fnD 4 (B_77 c))) :=
  fn_rule (N := ["self", "ground", "ends", "found"]) (funG_of F rfl rfl rfl) sc_77 fo (fun _ _ _ _ _ _ => rfl) fun X Wx hX G => rb_77 N hX G
theorem sc_78 : FnScope ["self", "ground", "there"] ["self", "ground"] (defScope s_78) := ⟨rfl, rfl, rfl, by decide +kernel, rfl, by decide +kernel, by decide +kernel⟩
theorem rb_78 {f : Addr} {X : Cx} {Wx : WX} (N : Nam K mg) (hX : ∃ (cdv : Value) (A : Around) (outer : List Env) (s : Shared) (H : Hp) (E : XK), X = cxOf (L2.CX P w) P w K mg base ["self", "ground", "there"] d_78.qual (defScope s_78) f cdv A outer s H E) (G : Gd (tb.lw K) X Wx k c) : RSs (tb.lw K) X Wx (defBody s_78) (B_78 c) := by
  obtain ⟨cdv, A, outer, s, H, E, rfl⟩ := hX
  exact (rss_cons (rs_if (rt_cmp (rtv_tru G) (r2_ne G) (re_meth (i := 58) G (ev 0) (ra_cons (ev 1) ra_nil)) re_int rfl) (rss_one (rs_ret re_non)) rss_nil) (rss_cons (rs_if (rt_cmp (rtv_tru G) (r2_eq G) (re_fld (g := 44) G (ev 0)) (re_fld (g := 44) G (re_call0 (i := 9) G rfl rfl N.g_rest)) rfl) (rss_one (rs_ret (re_ifExp (rt_of (rtv_tru G) (re_fld (g := 45) G (ev 0))) re_str re_str))) rss_nil) (rss_cons (rs_if (rt_cmp (rtv_tru G) (r2_eq G) (re_meth0 (i := 49) G (ev 0)) re_int rfl) (rss_one (rs_ret re_str)) rss_nil) (rss_cons (sv 2 G (re_call (i := 8) G rfl rfl N.g_led (ra_cons (re_fld (g := 44) G (ev 0)) (ra_cons (re_mk (i := 1) (f := 62) G rfl rfl N.g_Point (ra_cons re_int (ra_cons re_int ra_nil))) (ra_cons (re_fld (g := 45) G (ev 0)) ra_nil))))) (rss_one (rs_ret (re_ifExp (rt_of (rtv_tru G) (re_bin (r2_bin G .Add) (ev 2) (re_fld (g := 45) G (ev 0)))) re_str re_str)))))))
theorem ok_78 {fd : FuncData} (N : Nam K mg) (F : FunD K d_78.name d_78.qual d_78.params d_78.body d_78.scope (d_78.dvs K) (d_78.kws K) (He.fAd K d_78.at_) fd) (fo : FOk (tb.lw K) P w K mg base k c) : FnOk P w K mg base (L2.CX P w) (k + 10) ((tb.lw K).fad 78) ((tb.lw K).fdt 78) ((tb.lw K).fps 78) (spM K (tb.lw K) ((tb.lw K).fps 78).length (fnD 3 (B_78 c))) :=
  fn_rule (N := ["self", "ground", "there"]) (funG_of F rfl rfl rfl) sc_78 fo (fun _ _ _ _ _ _ => rfl) fun X Wx hX G => rb_78 N hX G
theorem sc_79 : FnScope ["self", "a", "b", "c", "d", "factor"] ["self"] (defScope s_79) := ⟨rfl, rfl, rfl, by decide +kernel, rfl, by decide +kernel, by decide +kernel⟩
theorem rb_79 {f : Addr} {X : Cx} {Wx : WX} (N : Nam K mg) (hX : ∃ (cdv : Value) (A : Around) (outer : List Env) (s : Shared) (H : Hp) (E : XK), X = cxOf (L2.CX P w) P w K mg base ["self", "a", "b", "c", "d", "factor"] d_79.qual (defScope s_79) f cdv A outer s H E) (G : Gd (tb.lw K) X Wx k c) : RSs (tb.lw K) X Wx (defBody s_79) (B_79 c) := by
  obtain ⟨cdv, A, outer, s, H, E, rfl⟩ := hX
  exact (rss_cons (rs_asg (re_fld (g := 44) G (ev 0)) (gt G (rgs_cons (gt G (rgs_cons (gv 1 G) (rgs_cons (gv 2 G) rgs_nil))) (rgs_cons (gt G (rgs_cons (gv 3 G) (rgs_cons (gv 4 G) rgs_nil))) rgs_nil)))) (rss_cons (sv 5 G (re_bin (r2_bin G .Sub) (re_bin (r2_bin G .Mult) (re_bin (r2_bin G .Sub) (ev 1) re_int) (re_bin (r2_bin G .Sub) (ev 4) re_int)) (re_bin (r2_bin G .Mult) (ev 2) (ev 3)))) (rss_cons (rs_if (rt_cmp (rtv_tru G) (r2_eq G) (ev 5) re_int rfl) (rss_one (rs_ret re_non)) rss_nil) (rss_one (rs_ret (re_mk (i := 1) (f := 62) G rfl rfl N.g_Point (ra_cons (re_meth (i := 55) G (re_bin (r2_bin G .Sub) (re_bin (r2_bin G .Mult) (ev 2) (re_fld (g := 43) G (re_fld (g := 45) G (ev 0)))) (re_bin (r2_bin G .Mult) (re_bin (r2_bin G .Sub) (ev 4) re_int) (re_fld (g := 42) G (re_fld (g := 45) G (ev 0))))) (ra_cons (ev 5) ra_nil)) (ra_cons (re_meth (i := 55) G (re_bin (r2_bin G .Sub) (re_bin (r2_bin G .Mult) (ev 3) (re_fld (g := 42) G (re_fld (g := 45) G (ev 0)))) (re_bin (r2_bin G .Mult) (re_bin (r2_bin G .Sub) (ev 1) re_int) (re_fld (g := 43) G (re_fld (g := 45) G (ev 0))))) (ra_cons (ev 5) ra_nil)) ra_nil))))))))
theorem ok_79 {fd : FuncData} (N : Nam K mg) (F : FunD K d_79.name d_79.qual d_79.params d_79.body d_79.scope (d_79.dvs K) (d_79.kws K) (He.fAd K d_79.at_) fd) (fo : FOk (tb.lw K) P w K mg base k c) : FnOk P w K mg base (L2.CX P w) (k + 10) ((tb.lw K).fad 79) ((tb.lw K).fdt 79) ((tb.lw K).fps 79) (spM K (tb.lw K) ((tb.lw K).fps 79).length (fnD 6 (B_79 c))) :=
  fn_rule (N := ["self", "a", "b", "c", "d", "factor"]) (funG_of F rfl rfl rfl) sc_79 fo (fun _ _ _ _ _ _ => rfl) fun X Wx hX G => rb_79 N hX G
theorem sc_80 : FnScope ["self", "number"] ["self"] (defScope s_80) := ⟨rfl, rfl, rfl, by decide +kernel, rfl, by decide +kernel, by decide +kernel⟩
theorem rb_80 {f : Addr} {X : Cx} {Wx : WX} (N : Nam K mg) (hX : ∃ (cdv : Value) (A : Around) (outer : List Env) (s : Shared) (H : Hp) (E : XK), X = cxOf (L2.CX P w) P w K mg base ["self", "number"] d_80.qual (defScope s_80) f cdv A outer s H E) (G : Gd (tb.lw K) X Wx k c) : RSs (tb.lw K) X Wx (defBody s_80) (B_80 c) := by
  obtain ⟨cdv, A, outer, s, H, E, rfl⟩ := hX
  have h_ORDERS := N.c_ORDERS
  exact (rss_cons (rs_for G.po G.calm (ri_seq (re_glob (v := .ref (He.ga K "ORDERS")) (d := .tup (([1, 2, 3, 4, 6] : List Int).map D.int)) rfl h_ORDERS.1 rfl (fun W => Rl.tup.mpr ⟨_, _, rfl, h_ORDERS.2 W.fz, Rls.ints [1, 2, 3, 4, 6]⟩))) (gv 1 G) (rss_one (rs_if (rt_cmp (rtv_tru G) (r2_eq G) (re_meth (i := 57) G (ev 0) (ra_cons (ev 1) ra_nil)) (re_call0 (i := 9) G rfl rfl N.g_rest) rfl) (rss_one (rs_ret (ev 1))) rss_nil))) (rss_one (rs_ret re_non)))
theorem ok_80 {fd : FuncData} (N : Nam K mg) (F : FunD K d_80.name d_80.qual d_80.params d_80.body d_80.scope (d_80.dvs K) (d_80.kws K) (He.fAd K d_80.at_) fd) (fo : FOk (tb.lw K) P w K mg base k c) : FnOk P w K mg base (L2.CX P w) (k + 10) ((tb.lw K).fad 80) ((tb.lw K).fdt 80) ((tb.lw K).fps 80) (spM K (tb.lw K) ((tb.lw K).fps 80).length (fnD 2 (B_80 c))) :=
  fn_rule (N := ["self", "number"]) (funG_of F rfl rfl rfl) sc_80 fo (fun _ _ _ _ _ _ => rfl) fun X Wx hX G => rb_80 N hX G
theorem sc_81 : FnScope ["self", "a", "b", "c", "value"] ["self", "a", "b", "c"] (defScope s_81) := ⟨rfl, rfl, rfl, by decide +kernel, rfl, by decide +kernel, by decide +kernel⟩
theorem rb_81 {f : Addr} {X : Cx} {Wx : WX} (N : Nam K mg) (hX : ∃ (cdv : Value) (A : Around) (outer : List Env) (s : Shared) (H : Hp) (E : XK), X = cxOf (L2.CX P w) P w K mg base ["self", "a", "b", "c", "value"] d_81.qual (defScope s_81) f cdv A outer s H E) (G : Gd (tb.lw K) X Wx k c) : RSs (tb.lw K) X Wx (defBody s_81) (B_81 c) := by
  obtain ⟨cdv, A, outer, s, H, E, rfl⟩ := hX
  exact (rss_cons (rs_for G.po G.calm (ri_seq (re_tup (ra_cons (ev 1) (ra_cons (ev 2) (ra_cons (ev 3) ra_nil))))) (gv 4 G) (rss_one (rs_if (RW.rt (rw_or (rt_not (rt_of (rtv_tru G) (re_ist (t := "int") G (by decide) (ev 4) rfl N.b_isinstance rfl N.b_int bb_int))) (rw_or1 (rt_of (rtv_tru G) (re_ist (t := "bool") G (by decide) (ev 4) rfl N.b_isinstance rfl N.b_bool bb_bool))))) (rss_one rs_no) rss_nil))) (rss_cons (rs_if (RW.rt (rw_or (rt_cmp (rtv_tru G) (r2_ord G .LtE) (ev 1) re_int rfl) (rw_or1 (rt_cmp (rtv_tru G) (r2_ord G .LtE) (re_bin (r2_bin G .Mult) (re_bin (r2_bin G .Mult) re_int (ev 1)) (ev 3)) (re_bin (r2_bin G .Mult) (ev 2) (ev 2)) rfl)))) (rss_one rs_no) rss_nil) (rss_cons (rs_fld (g := 46) G (ev 0) (ev 1)) (rss_cons (rs_fld (g := 47) G (ev 0) (ev 2)) (rss_one (rs_fld (g := 48) G (ev 0) (ev 3)))))))
theorem ok_81 {fd : FuncData} (N : Nam K mg) (F : FunD K d_81.name d_81.qual d_81.params d_81.body d_81.scope (d_81.dvs K) (d_81.kws K) (He.fAd K d_81.at_) fd) (fo : FOk (tb.lw K) P w K mg base k c) : FnOk P w K mg base (L2.CX P w) (k + 10) ((tb.lw K).fad 81) ((tb.lw K).fdt 81) ((tb.lw K).fps 81) (spM K (tb.lw K) ((tb.lw K).fps 81).length (fnD 5 (B_81 c))) :=
  fn_rule (N := ["self", "a", "b", "c", "value"]) (funG_of F rfl rfl rfl) sc_81 fo (fun _ _ _ _ _ _ => rfl) fun X Wx hX G => rb_81 N hX G
theorem sc_82 : FnScope ["self", "other"] ["self", "other"] (defScope s_82) := ⟨rfl, rfl, rfl, by decide +kernel, rfl, by decide +kernel, by decide +kernel⟩
theorem rb_82 {f : Addr} {X : Cx} {Wx : WX} (N : Nam K mg) (hX : ∃ (cdv : Value) (A : Around) (outer : List Env) (s : Shared) (H : Hp) (E : XK), X = cxOf (L2.CX P w) P w K mg base ["self", "other"] d_82.qual (defScope s_82) f cdv A outer s H E) (G : Gd (tb.lw K) X Wx k c) : RSs (tb.lw K) X Wx (defBody s_82) (B_82 c) := by
  obtain ⟨cdv, A, outer, s, H, E, rfl⟩ := hX
  exact (rss_one (rs_ret (re_and (rtv_tru G) (re_iso (j := 3) G rfl (ev 1) rfl N.b_isinstance rfl N.g_Ground) (re_and (rtv_tru G) (re_cmp (r2_eq G) (re_fld (g := 46) G (ev 0)) (re_fld (g := 46) G (ev 1)) rfl) (re_and (rtv_tru G) (re_cmp (r2_eq G) (re_fld (g := 47) G (ev 0)) (re_fld (g := 47) G (ev 1)) rfl) (re_one (re_cmp (r2_eq G) (re_fld (g := 48) G (ev 0)) (re_fld (g := 48) G (ev 1)) rfl)))))))
theorem ok_82 {fd : FuncData} (N : Nam K mg) (F : FunD K d_82.name d_82.qual d_82.params d_82.body d_82.scope (d_82.dvs K) (d_82.kws K) (He.fAd K d_82.at_) fd) (fo : FOk (tb.lw K) P w K mg base k c) : FnOk P w K mg base (L2.CX P w) (k + 10) ((tb.lw K).fad 82) ((tb.lw K).fdt 82) ((tb.lw K).fps 82) (spM K (tb.lw K) ((tb.lw K).fps 82).length (fnD 2 (B_82 c))) :=
  fn_rule (N := ["self", "other"]) (funG_of F rfl rfl rfl) sc_82 fo (fun _ _ _ _ _ _ => rfl) fun X Wx hX G => rb_82 N hX G
theorem sc_83 : FnScope ["self", "point"] ["self", "point"] (defScope s_83) := ⟨rfl, rfl, rfl, by decide +kernel, rfl, by decide +kernel, by decide +kernel⟩
theorem rb_83 {f : Addr} {X : Cx} {Wx : WX} (N : Nam K mg) (hX : ∃ (cdv : Value) (A : Around) (outer : List Env) (s : Shared) (H : Hp) (E : XK), X = cxOf (L2.CX P w) P w K mg base ["self", "point"] d_83.qual (defScope s_83) f cdv A outer s H E) (G : Gd (tb.lw K) X Wx k c) : RSs (tb.lw K) X Wx (defBody s_83) (B_83 c) := by
  obtain ⟨cdv, A, outer, s, H, E, rfl⟩ := hX
  exact (rss_cons (rs_if (rt_not (rt_of (rtv_tru G) (re_iso (j := 1) G rfl (ev 1) rfl N.b_isinstance rfl N.g_Point))) (rss_one rs_no) rss_nil) (rss_one (rs_ret (re_bin (r2_bin G .Add) (re_bin (r2_bin G .Mult) (re_fld (g := 42) G (ev 1)) (re_bin (r2_bin G .Add) (re_bin (r2_bin G .Mult) (re_fld (g := 46) G (ev 0)) (re_fld (g := 42) G (ev 1))) (re_bin (r2_bin G .Mult) (re_fld (g := 47) G (ev 0)) (re_fld (g := 43) G (ev 1))))) (re_bin (r2_bin G .Mult) (re_bin (r2_bin G .Mult) (re_fld (g := 48) G (ev 0)) (re_fld (g := 43) G (ev 1))) (re_fld (g := 43) G (ev 1)))))))
theorem ok_83 {fd : FuncData} (N : Nam K mg) (F : FunD K d_83.name d_83.qual d_83.params d_83.body d_83.scope (d_83.dvs K) (d_83.kws K) (He.fAd K d_83.at_) fd) (fo : FOk (tb.lw K) P w K mg base k c) : FnOk P w K mg base (L2.CX P w) (k + 10) ((tb.lw K).fad 83) ((tb.lw K).fdt 83) ((tb.lw K).fps 83) (spM K (tb.lw K) ((tb.lw K).fps 83).length (fnD 2 (B_83 c))) :=
  fn_rule (N := ["self", "point"]) (funG_of F rfl rfl rfl) sc_83 fo (fun _ _ _ _ _ _ => rfl) fun X Wx hX G => rb_83 N hX G
theorem sc_84 : FnScope ["self", "one", "other", "value", "along"] ["self", "one", "other"] (defScope s_84) := ⟨rfl, rfl, rfl, by decide +kernel, rfl, by decide +kernel, by decide +kernel⟩
theorem rb_84 {f : Addr} {X : Cx} {Wx : WX} (N : Nam K mg) (hX : ∃ (cdv : Value) (A : Around) (outer : List Env) (s : Shared) (H : Hp) (E : XK), X = cxOf (L2.CX P w) P w K mg base ["self", "one", "other", "value", "along"] d_84.qual (defScope s_84) f cdv A outer s H E) (G : Gd (tb.lw K) X Wx k c) : RSs (tb.lw K) X Wx (defBody s_84) (B_84 c) := by
  obtain ⟨cdv, A, outer, s, H, E, rfl⟩ := hX
  exact (rss_cons (rs_for G.po G.calm (ri_seq (re_tup (ra_cons (ev 1) (ra_cons (ev 2) ra_nil)))) (gv 3 G) (rss_one (rs_if (rt_not (rt_of (rtv_tru G) (re_iso (j := 1) G rfl (ev 3) rfl N.b_isinstance rfl N.g_Point))) (rss_one rs_no) rss_nil))) (rss_cons (sv 4 G (re_bin (r2_bin G .Mult) (re_fld (g := 42) G (ev 1)) (re_bin (r2_bin G .Add) (re_bin (r2_bin G .Mult) (re_bin (r2_bin G .Mult) re_int (re_fld (g := 46) G (ev 0))) (re_fld (g := 42) G (ev 2))) (re_bin (r2_bin G .Mult) (re_fld (g := 47) G (ev 0)) (re_fld (g := 43) G (ev 2)))))) (rss_one (rs_ret (re_bin (r2_bin G .Add) (ev 4) (re_bin (r2_bin G .Mult) (re_fld (g := 43) G (ev 1)) (re_bin (r2_bin G .Add) (re_bin (r2_bin G .Mult) (re_fld (g := 47) G (ev 0)) (re_fld (g := 42) G (ev 2))) (re_bin (r2_bin G .Mult) (re_bin (r2_bin G .Mult) re_int (re_fld (g := 48) G (ev 0))) (re_fld (g := 43) G (ev 2))))))))))
theorem ok_84 {fd : FuncData} (N : Nam K mg) (F : FunD K d_84.name d_84.qual d_84.params d_84.body d_84.scope (d_84.dvs K) (d_84.kws K) (He.fAd K d_84.at_) fd) (fo : FOk (tb.lw K) P w K mg base k c) : FnOk P w K mg base (L2.CX P w) (k + 10) ((tb.lw K).fad 84) ((tb.lw K).fdt 84) ((tb.lw K).fps 84) (spM K (tb.lw K) ((tb.lw K).fps 84).length (fnD 5 (B_84 c))) :=
  fn_rule (N := ["self", "one", "other", "value", "along"]) (funG_of F rfl rfl rfl) sc_84 fo (fun _ _ _ _ _ _ => rfl) fun X Wx hX G => rb_84 N hX G
end
end G39
namespace G39
open PySem PySem.Spec PyProof.Rows L2 Gm
def fa : List He.Fa := [.glo "Ratio", .glo "is_number", .glo "ratio_of", .glo "Point", .glo "Motion", .glo "_law_draw", .glo "_law_gcd", .glo "_law_cut", .glo "_law_great", .glo "_law_pick", .glo "_law_given", .glo "_law_told", .glo "_law_fraction", .glo "_law_factor", .glo "_law_times", .glo "_law_sum", .glo "_law_point", .glo "_law_measure", .glo "_law_way", .glo "_law_mirror_rows", .glo "_law_table", .glo "_law_product", .glo "_law_undone", .glo "_law_led", .glo "_law_length", .glo "_law_due_stretch", .glo "Ground", .glo "_law_motion", .glo "_law_due_kind", .glo "_law_spot", .glo "shifting", .glo "_law_pen", .glo "_law_ground", .glo "_law_drawn", .glo "_law_is_right", .glo "gcd_of", .glo "raised", .glo "table_of", .glo "factor_of", .glo "led", .glo "table_product", .glo "is_integer", .glo "rest", .free "isinstance", .free "int", .free "bool", .free "abs", .free "tuple", .free "list", .free "len", .free "range", .free "min", .int "MOST_POWER" 1000, .glo "ORDERS", .glo "law"]
def fn : List He.DefD := [d_0, d_1, d_2, d_3, d_4, d_5, d_6, d_7, d_8, d_9, d_10, d_11, d_12, d_13, d_14, d_15, d_16, d_17, d_18, d_19, d_20, d_21, d_22, d_23, d_24, d_25, d_26, d_27, d_28, d_29, d_30, d_31, d_32, d_33, d_34, d_35, d_36, d_37, d_38, d_39, d_40, d_41, d_42, d_43, d_44, d_45, d_46, d_47, d_48, d_49, d_50, d_51, d_52, d_53, d_54, d_55, d_56, d_57, d_58, d_59, d_60, d_61, d_62, d_63, d_64, d_65, d_66, d_67, d_68, d_69, d_70, d_71, d_72, d_73, d_74, d_75, d_76, d_77, d_78, d_79, d_80, d_81, d_82, d_83, d_84]
def ex (K : PySem.W.Frag) : Bool := okB tb K && He.tupB K "ORDERS" [.int 1, .int 2, .int 3, .int 4, .int 6]
abbrev R : PySem.W.OpenRow := PySem.W.OpenLaw.row PySem.Challenge.rw_overfloors_k39_whole_motions_and_grounds
abbrev hk : PySem.W.Hook := He.hookX 4 fa fn [] [] ex
def ob (s : PySem.W.SharedT) : He.AlX := He.obsX 4 fa fn [] [] ex (HandSHeadRun.getT s)
theorem ob_eq (s : PySem.W.SharedT) : ob s = hk.obs s.abs := He.obsX_eq (HandSHeadRun.getT_eq s)
def names0 : List PySem.Str := ["_wall", "__name__", "FloorError", "BadNumber", "BadPoint", "Flat", "NotPositive", "is_number", "gcd_of", "raised", "Ratio", "ratio_of", "Point", "is_integer", "MOST_POWER", "ORDERS", "table_of", "factor_of", "table_product", "led", "Motion", "rest", "shifting", "Ground", "_law_pen", "_law_draw", "_law_pick", "_law_great", "_law_gcd", "_law_cut"]
def names1 : List PySem.Str := ["_law_sum", "_law_times", "_law_fraction", "_law_told", "_law_given", "_law_point", "_law_spot", "_law_table", "_law_factor", "_law_led", "_law_motion", "_law_ground", "_law_measure", "_law_mirror_rows", "_law_product", "_law_way", "_law_length", "_law_drawn", "_law_undone", "_law_due_stretch", "_law_due_kind", "_law_is_right"]
def names : List PySem.Str := names0 ++ names1
theorem run_top (w : World) : HandSHeadRun.RunEq R (PySem.W.view R.prog [58]) hk ob 20000 names w := by
  intro os
  kernel_rfl
end G39
namespace G39
open PySem PySem.Spec PyProof.Rows L2 Gm
theorem gcd_loop (c : Fn) : ∀ (b a : Nat) (st : Store), ∃ m, whileN (tOf (truD T c) (xVar 1)) (sPar 0 1 (aCons (xVar 1) (aCons (xBin (binD T c .Mod) (xVar 0) (xVar 1)) aNil))) m [some (.int a), some (.int b)] st = .nx [some (.int (Nat.gcd a b)), some (.int 0)] st := by
  intro b
  induction b using Nat.strongRecOn with
  | ind b ih =>
    intro a st
    by_cases hb : b = 0
    · subst hb
      refine ⟨1, ?_⟩
      unfold whileN
      simp
    · obtain ⟨m, hm⟩ := ih (a % b) (Nat.mod_lt _ (Nat.pos_of_ne_zero hb)) b st
      refine ⟨m + 1, ?_⟩
      have hz : (b : Int) ≠ 0 := by omega
      rw [gcd_step a b hb] at hm
      unfold whileN
      simp [hb, hz, ib_mod, fmod_nat]
      simpa using hm
theorem s_gcd (n : Nat) (i j : Int) (st : Store) : run (n + 1) 1 [.int i, .int j] st = .ok (.int (Int.gcd i j)) st := by
  rw [run_1]
  refine fnD_rt0 ?_ rfl
  obtain ⟨m, hm⟩ := gcd_loop (run n) j.natAbs i.natAbs st
  have hw := sWhile_eq m hm (by simp)
  simp only [B_1, ap_sSeq, ap_sPar, ap_aCons, ap_xBi, ap_xVar, ap_aNil, startE, ap_sRet]
  simp [abs_if]
  rw [hw]
  simp [Int.gcd]
theorem s_isnum_int (n : Nat) (i : Int) (st : Store) : run (n + 1) 0 [.int i] st = .ok (.bl true) st := by
  rw [run_0]
  refine fnD_rt0 ?_ rfl
  simp [B_0, startE]
theorem isC_Ratio : T.isC 0 = true := rfl
theorem sub_Ratio : T.sub 0 0 = true := rfl
theorem s_isnum_rat (n : Nat) (ds : List D) (st : Store) : run (n + 1) 0 [.obj 0 ds] st = .ok (.bl true) st := by
  rw [run_0]
  refine fnD_rt0 ?_ rfl
  simp [B_0, startE, isC_Ratio, sub_Ratio]
/-- a fraction as the program keeps it -/
def rD (q : Rat) : D := .obj 0 [.int q.num, .int q.den]
@[simp] theorem fk_Ratio_top (d : D) (ρ : Ev) (st : Store) : fldK T 40 d ρ (.ref st.length) (st ++ [.ins 0 []]) = .nx ρ (st ++ [.ins 0 [(40, d)]]) := fk_new d ρ st rfl
@[simp] theorem fk_Ratio_bottom (d e : D) (ρ : Ev) (st : Store) : fldK T 41 d ρ (.ref st.length) (st ++ [.ins 0 [(40, e)]]) = .nx ρ (st ++ [.ins 0 [(40, e), (41, d)]]) := fk_new d ρ st rfl
@[simp] theorem fd_Ratio_top (c : Fn) (a b : D) (st : Store) : fldD T c 40 (.obj 0 [a, b]) st = .ok a st := fld_obj st rfl rfl
@[simp] theorem fd_Ratio_bottom (c : Fn) (a b : D) (st : Store) : fldD T c 41 (.obj 0 [a, b]) st = .ok b st := fld_obj st rfl rfl
theorem s_init (n : Nat) (i j : Int) (st : Store) (hj : j ≠ 0) (hs : Nb 8000 j) : run (n + 2) 40 [.ref st.length, .int i, .int j] (st ++ [.ins 0 []]) = .ok .non (st ++ [.ins 0 [(40, .int (Rat.divInt i j).num), (41, .int (Rat.divInt i j).den)]]) := by
  rw [run_40]
  have hc : com i j ≠ 0 ∧ (com i j).natAbs.log2 < 9000 := ⟨com_ne hj, log2_lt (Nat.lt_of_le_of_lt (com_le hj) (Nat.lt_of_lt_of_le hs (Nat.pow_le_pow_right (by decide) (by decide)))) (by decide)⟩
  refine fnD_init (ρ := [some (.ref st.length), some (.int i), some (.int j), some (.int j), some (.int (com i j))]) ?_ (by simp)
  rw [← cut_num hj, ← cut_den hj]
  have hj2 : (j == 0) = false := by simpa using hj
  by_cases hn : j < 0
  · have e : -(Int.gcd i j : Int) = com i j := by unfold com; rw [if_pos hn]
    simp [B_40, startE, iSeq, forI, hj, hj2, hn, s_gcd, e, ib_fdiv, hc]
  · have e : (Int.gcd i j : Int) = com i j := by unfold com; rw [if_neg hn]
    simp [B_40, startE, iSeq, forI, hj, hj2, hn, s_gcd, e, ib_fdiv, hc]
theorem Rat.ext_iff' (p q : Rat) : (p.num = q.num ∧ (p.den : Int) = (q.den : Int)) ↔ p = q := by
  constructor
  · intro ⟨h1, h2⟩
    exact Rat.ext h1 (Int.ofNat.inj h2)
  · intro h
    subst h
    exact ⟨rfl, rfl⟩
theorem s_mk (n : Nat) (i j : Int) (st : Store) (hj : j ≠ 0) (hs : Nb 8000 j) : mkD T (run (n + 2)) 0 [.int i, .int j] st = .ok (rD (Rat.divInt i j)) st :=
  mkD_new (fs := [(40, .int (Rat.divInt i j).num), (41, .int (Rat.divInt i j).den)]) rfl (s_init n i j st hj hs) rfl (by simp)
theorem s_mk1 (n : Nat) (i : Int) (st : Store) : mkD T (run (n + 2)) 0 [.int i] st = .ok (rD (i : Rat)) st := by
  rw [← rat_int]
  exact mkD_new (fs := [(40, .int (Rat.divInt i 1).num), (41, .int (Rat.divInt i 1).den)]) rfl (s_init n i 1 st (by decide) (by unfold Nb; exact Nat.one_lt_two_pow (by decide))) rfl (by simp)
theorem noRef_rD (n : Nat) (q : Rat) : noRef n (rD q) = true := by simp [rD]
theorem rhs_rD (q : Rat) : rhs T (rD q) = true := rfl
theorem s_isnum (n : Nat) (q : Rat) (st : Store) : run (n + 1) 0 [rD q] st = .ok (.bl true) st := s_isnum_rat n _ st
theorem fd_top (c : Fn) (q : Rat) (st : Store) : fldD T c 40 (rD q) st = .ok (.int q.num) st := fd_Ratio_top c _ _ st
theorem fd_bottom (c : Fn) (q : Rat) (st : Store) : fldD T c 41 (rD q) st = .ok (.int q.den) st := fd_Ratio_bottom c _ _ st
theorem iso_rD (q : Rat) (st : Store) : isoD T 0 (rD q) st = .ok (.bl true) st := by simp [rD, isC_Ratio, sub_Ratio]
theorem s_ratio_of (n : Nat) (q : Rat) (st : Store) : run (n + 1) 3 [rD q] st = .ok (rD q) st := by
  rw [run_3]
  refine fnD_rt0 ?_ (noRef_rD _ _)
  simp [B_3, startE, iso_rD]
theorem s_ratio_of_int (n : Nat) (i : Int) (st : Store) : run (n + 3) 3 [.int i] st = .ok (rD (i : Rat)) st := by
  rw [run_3]
  refine fnD_rt0 ?_ (noRef_rD _ _)
  simp [B_3, startE, s_isnum_int, s_mk1]
theorem s_over (n : Nat) (p q : Rat) (st : Store) (hp : Sz 4000 p) (hq : Sz 4000 q) (h0 : q ≠ 0) : run (n + 3) 60 [rD p, rD q] st = .ok (rD (p / q)) st := by
  have hz : q.num ≠ 0 := fun z => h0 (Rat.num_eq_zero.mp z)
  have hz2 : (q.num == 0) = false := by simpa using hz
  have hd : (p.den : Int) * q.num ≠ 0 := Int.mul_ne_zero (Rat.den_ne' p) hz
  have e : p / q = Rat.divInt (p.num * q.den) (p.den * q.num) := by
    rw [Rat.div_def, Rat.inv_def]
    conv => lhs; rw [← Rat.num_divInt_den p]
    rw [Rat.divInt_mul_divInt]
  rw [e, run_60]
  refine fnD_rt0 ?_ (noRef_rD _ _)
  simp [-Rat.divInt_ofNat, B_60, startE, s_ratio_of, fd_top, fd_bottom, hz2, ib_mul, hp.num.ok hq.den (by decide), hp.den.ok hq.num (by decide), s_mk n _ _ _ hd ((hp.den.mul hq.num).mono (by decide))]
section
variable (n : Nat) (p q : Rat) (j : Int) (st : Store)
theorem b_add (hp : Sz 4000 p) (hq : Sz 4000 q) : binD T (run (n + 3)) .Add (rD p) (rD q) st = .ok (rD (p + q)) st := by
  refine (bin_own st rfl (by decide)).trans ?_
  show run (n + 3) 46 [rD p, rD q] st = _
  rw [run_46, ← rat_add]
  refine fnD_rt0 ?_ (noRef_rD _ _)
  simp [-Rat.divInt_ofNat, B_46, startE, s_isnum, s_ratio_of, fd_top, fd_bottom, ib_mul, hp.num.ok hq.den (by decide), hp.den.ok hq.den (by decide), hq.num.ok hp.den (by decide), s_mk n _ _ _ (Int.mul_ne_zero (Rat.den_ne' p) (Rat.den_ne' q)) ((hp.den.mul hq.den).mono (by decide))]
theorem b_sub (hp : Sz 4000 p) (hq : Sz 4000 q) : binD T (run (n + 3)) .Sub (rD p) (rD q) st = .ok (rD (p - q)) st := by
  refine (bin_own st rfl (by decide)).trans ?_
  show run (n + 3) 48 [rD p, rD q] st = _
  rw [run_48, ← rat_sub]
  refine fnD_rt0 ?_ (noRef_rD _ _)
  simp [-Rat.divInt_ofNat, B_48, startE, s_isnum, s_ratio_of, fd_top, fd_bottom, ib_mul, hp.num.ok hq.den (by decide), hp.den.ok hq.den (by decide), hq.num.ok hp.den (by decide), s_mk n _ _ _ (Int.mul_ne_zero (Rat.den_ne' p) (Rat.den_ne' q)) ((hp.den.mul hq.den).mono (by decide))]
theorem b_mul (hp : Sz 4000 p) (hq : Sz 4000 q) : binD T (run (n + 3)) .Mult (rD p) (rD q) st = .ok (rD (p * q)) st := by
  refine (bin_own st rfl (by decide)).trans ?_
  show run (n + 3) 50 [rD p, rD q] st = _
  rw [run_50, ← rat_mul]
  refine fnD_rt0 ?_ (noRef_rD _ _)
  simp [-Rat.divInt_ofNat, B_50, startE, s_isnum, s_ratio_of, fd_top, fd_bottom, ib_mul, hp.num.ok hq.num (by decide), hp.den.ok hq.den (by decide), s_mk n _ _ _ (Int.mul_ne_zero (Rat.den_ne' p) (Rat.den_ne' q)) ((hp.den.mul hq.den).mono (by decide))]
theorem b_sub_i (hp : Sz 4000 p) (hj : Nb 4000 j) : binD T (run (n + 4)) .Sub (rD p) (.int j) st = .ok (rD (p - (j : Rat))) st := by
  have hq := Sz.int hj (by decide)
  refine (bin_oi st rfl (by decide)).trans ?_
  show run (n + 4) 48 [rD p, .int j] st = _
  rw [run_48, ← rat_sub]
  refine fnD_rt0 ?_ (noRef_rD _ _)
  simp [-Rat.divInt_ofNat, -Rat.num_intCast, -Rat.den_intCast, B_48, startE, s_isnum_int, s_ratio_of_int, fd_top, fd_bottom, ib_mul, hp.num.ok hq.den (by decide), hp.den.ok hq.den (by decide), hq.num.ok hp.den (by decide), s_mk (n + 1) _ _ _ (Int.mul_ne_zero (Rat.den_ne' p) (Rat.den_ne' j)) ((hp.den.mul hq.den).mono (by decide))]
theorem b_add_i (hp : Sz 4000 p) (hj : Nb 4000 j) : binD T (run (n + 4)) .Add (rD p) (.int j) st = .ok (rD (p + (j : Rat))) st := by
  have hq := Sz.int hj (by decide)
  refine (bin_oi st rfl (by decide)).trans ?_
  show run (n + 4) 46 [rD p, .int j] st = _
  rw [run_46, ← rat_add]
  refine fnD_rt0 ?_ (noRef_rD _ _)
  simp [-Rat.divInt_ofNat, -Rat.num_intCast, -Rat.den_intCast, B_46, startE, s_isnum_int, s_ratio_of_int, fd_top, fd_bottom, ib_mul, hp.num.ok hq.den (by decide), hp.den.ok hq.den (by decide), hq.num.ok hp.den (by decide), s_mk (n + 1) _ _ _ (Int.mul_ne_zero (Rat.den_ne' p) (Rat.den_ne' j)) ((hp.den.mul hq.den).mono (by decide))]
theorem b_mul_i (hp : Sz 4000 p) (hj : Nb 4000 j) : binD T (run (n + 4)) .Mult (rD p) (.int j) st = .ok (rD (p * (j : Rat))) st := by
  have hq := Sz.int hj (by decide)
  refine (bin_oi st rfl (by decide)).trans ?_
  show run (n + 4) 50 [rD p, .int j] st = _
  rw [run_50, ← rat_mul]
  refine fnD_rt0 ?_ (noRef_rD _ _)
  simp [-Rat.divInt_ofNat, -Rat.num_intCast, -Rat.den_intCast, B_50, startE, s_isnum_int, s_ratio_of_int, fd_top, fd_bottom, ib_mul, hp.num.ok hq.num (by decide), hp.den.ok hq.den (by decide), s_mk (n + 1) _ _ _ (Int.mul_ne_zero (Rat.den_ne' p) (Rat.den_ne' j)) ((hp.den.mul hq.den).mono (by decide))]
theorem b_rmul (hp : Sz 4000 p) (hj : Nb 4000 j) : binD T (run (n + 3)) .Mult (.int j) (rD p) st = .ok (rD ((j : Rat) * p)) st := by
  refine (bin_io st (g := 50) rfl rfl rfl).trans ?_
  show run (n + 3) 51 [rD p, .int j] st = _
  have e : (j : Rat) * p = Rat.divInt (j * p.num) p.den := by
    rw [← rat_mul, Rat.num_intCast, Rat.den_intCast]
    simp
  rw [run_51, e]
  refine fnD_rt0 ?_ (noRef_rD _ _)
  simp [-Rat.divInt_ofNat, B_51, startE, s_isnum_int, fd_top, fd_bottom, ib_mul, hj.ok hp.num (by decide), s_mk n _ _ _ (Rat.den_ne' p) (hp.den.mono (by decide))]
theorem b_neg (hp : Sz 4000 p) : negD T (run (n + 3)) (rD p) st = .ok (rD (-p)) st := by
  refine (neg_own st rfl).trans ?_
  show run (n + 3) 57 [rD p] st = _
  rw [run_57, ← rat_neg]
  refine fnD_rt0 ?_ (noRef_rD _ _)
  simp [-Rat.divInt_ofNat, B_57, startE, fd_top, fd_bottom, s_mk n _ _ _ (Rat.den_ne' p) (hp.den.mono (by decide))]
theorem s_req : run (n + 2) 41 [rD p, rD q] st = .ok (.bl (decide (p = q))) st := by
  rw [run_41]
  refine fnD_rt0 ?_ (by simp)
  have e := Rat.ext_iff' p q
  by_cases h1 : p.num = q.num
  · have h2 : (p.num == q.num) = true := by simpa using h1
    simp [B_41, startE, s_isnum, s_ratio_of, fd_top, fd_bottom, h1]
    rw [Bool.eq_iff_iff]
    simp [← e, h1]
  · have h2 : (p.num == q.num) = false := by simpa using h1
    have h3 : ¬ p = q := fun h => h1 (congrArg _ h)
    simp [B_41, startE, s_isnum, s_ratio_of, fd_top, fd_bottom, h2, h3]
theorem s_req_i : run (n + 4) 41 [rD p, .int j] st = .ok (.bl (decide (p = (j : Rat)))) st := by
  rw [run_41]
  refine fnD_rt0 ?_ (by simp)
  have e := Rat.ext_iff' p j
  by_cases h1 : p.num = (j : Rat).num
  · simp [-Rat.divInt_ofNat, -Rat.num_intCast, -Rat.den_intCast, B_41, startE, s_isnum_int, s_ratio_of_int, fd_top, fd_bottom, h1]
    rw [Bool.eq_iff_iff]
    simp [-Rat.num_intCast, -Rat.den_intCast, ← e, h1]
  · have h2 : (p.num == (j : Rat).num) = false := by simpa [-Rat.num_intCast] using h1
    have h3 : ¬ p = j := fun h => h1 (congrArg _ h)
    simp [-Rat.divInt_ofNat, -Rat.num_intCast, -Rat.den_intCast, B_41, startE, s_isnum_int, s_ratio_of_int, fd_top, fd_bottom, h2, h3]
theorem b_eq (neg : Bool) : eqB T (run (n + 2)) neg (rD p) (rD q) st = .ok (.bl (decide (p = q) != neg)) st := eqB_own st rfl rfl (s_req n p q st)
theorem b_eq_i (neg : Bool) : eqB T (run (n + 4)) neg (rD p) (.int j) st = .ok (.bl (decide (p = (j : Rat)) != neg)) st := eqB_own st rfl rfl (s_req_i n p j st)
theorem b_bool_int (c : Fn) (i : Int) : bBool T c [.int i] st = .ok (.bl (i != 0)) st := rfl
theorem b_bool : run (n + 1) 59 [rD p] st = .ok (.bl (decide (p ≠ 0))) st := by
  rw [run_59]
  refine fnD_rt0 ?_ (by simp)
  simp [B_59, startE, fd_top, b_bool_int]
  rw [Bool.eq_iff_iff]
  simp [Rat.num_eq_zero]
end
end G39
namespace G39
open PySem PySem.Spec PyProof.Rows L2 Gm
def IsN (a : D) (q : Rat) : Prop := a = rD q ∨ ∃ i : Int, a = .int i ∧ q = (i : Rat)
theorem IsN.rD (q : Rat) : IsN (rD q) q := .inl rfl
theorem IsN.int (i : Int) : IsN (.int i) (i : Rat) := .inr ⟨i, rfl, rfl⟩
theorem s_rof {a : D} {q : Rat} (n : Nat) (st : Store) (h : IsN a q) : run (n + 3) 3 [a] st = .ok (rD q) st := by
  rcases h with rfl | ⟨i, rfl, rfl⟩
  · exact s_ratio_of (n + 2) q st
  · exact s_ratio_of_int n i st
/-- a point as the program keeps it -/
def pD (x y : Rat) : D := .obj 1 [rD x, rD y]
theorem isC_Point : T.isC 1 = true := rfl
theorem sub_Point : T.sub 1 1 = true := rfl
theorem fk_Point_x (d : D) (ρ : Ev) (st : Store) : fldK T 42 d ρ (.ref st.length) (st ++ [.ins 1 []]) = .nx ρ (st ++ [.ins 1 [(42, d)]]) := fk_new d ρ st rfl
theorem fk_Point_y (d e : D) (ρ : Ev) (st : Store) : fldK T 43 d ρ (.ref st.length) (st ++ [.ins 1 [(42, e)]]) = .nx ρ (st ++ [.ins 1 [(42, e), (43, d)]]) := fk_new d ρ st rfl
theorem fd_x (c : Fn) (x y : Rat) (st : Store) : fldD T c 42 (pD x y) st = .ok (rD x) st := fld_obj st rfl rfl
theorem fd_y (c : Fn) (x y : Rat) (st : Store) : fldD T c 43 (pD x y) st = .ok (rD y) st := fld_obj st rfl rfl
theorem iso_pD (x y : Rat) (st : Store) : isoD T 1 (pD x y) st = .ok (.bl true) st := by simp [pD, isC_Point, sub_Point]
theorem noRef_pD (n : Nat) (x y : Rat) : noRef n (pD x y) = true := by simp [pD, noRef_rD]
theorem s_mkP {a b : D} {x y : Rat} (n : Nat) (st : Store) (ha : IsN a x) (hb : IsN b y) : mkD T (run (n + 4)) 1 [a, b] st = .ok (pD x y) st := by
  refine mkD_new (f := 62) (fs := [(42, rD x), (43, rD y)]) rfl ?_ rfl (by simp [noRef_rD])
  rw [cl_62_3]
  rw [run_62]
  refine fnD_init (ρ := [some (.ref st.length), some a, some b]) ?_ (by simp [noRef_rD])
  simp [B_62, startE, s_rof n _ ha, s_rof n _ hb, fk_Point_x, fk_Point_y]
theorem s_mkP_r (n : Nat) (x y : Rat) (st : Store) : mkD T (run (n + 4)) 1 [rD x, rD y] st = .ok (pD x y) st := s_mkP n st (.rD x) (.rD y)
theorem s_mkP_i (n : Nat) (i j : Int) (st : Store) : mkD T (run (n + 4)) 1 [.int i, .int j] st = .ok (pD i j) st := s_mkP n st (.int i) (.int j)
section
variable (n : Nat) (x y z w : Rat) (st : Store)
theorem p_add (h1 : Sz 4000 x) (h2 : Sz 4000 y) (h3 : Sz 4000 z) (h4 : Sz 4000 w) : binD T (run (n + 5)) .Add (pD x y) (pD z w) st = .ok (pD (x + z) (y + w)) st := by
  refine (bin_own st rfl (by decide)).trans ?_
  show run (n + 5) 64 [pD x y, pD z w] st = _
  rw [run_64]
  refine fnD_rt0 ?_ (noRef_pD _ _ _)
  simp [B_64, startE, iso_pD, fd_x, fd_y, b_add, h1, h2, h3, h4, s_mkP_r]
theorem p_sub (h1 : Sz 4000 x) (h2 : Sz 4000 y) (h3 : Sz 4000 z) (h4 : Sz 4000 w) : binD T (run (n + 5)) .Sub (pD x y) (pD z w) st = .ok (pD (x - z) (y - w)) st := by
  refine (bin_own st rfl (by decide)).trans ?_
  show run (n + 5) 65 [pD x y, pD z w] st = _
  rw [run_65]
  refine fnD_rt0 ?_ (noRef_pD _ _ _)
  simp [B_65, startE, iso_pD, fd_x, fd_y, b_sub, h1, h2, h3, h4, s_mkP_r]
theorem p_neg (h1 : Sz 4000 x) (h2 : Sz 4000 y) : negD T (run (n + 5)) (pD x y) st = .ok (pD (-x) (-y)) st := by
  refine (neg_own st rfl).trans ?_
  show run (n + 5) 68 [pD x y] st = _
  rw [run_68]
  refine fnD_rt0 ?_ (noRef_pD _ _ _)
  simp [B_68, startE, fd_x, fd_y, b_neg, h1, h2, s_mkP_r]
theorem s_peq : run (n + 3) 63 [pD x y, pD z w] st = .ok (.bl (decide (x = z ∧ y = w))) st := by
  rw [run_63]
  refine fnD_rt0 ?_ (by simp)
  by_cases h1 : x = z
  · by_cases h2 : y = w <;> simp [B_63, startE, iso_pD, fd_x, fd_y, b_eq, h1, h2]
  · simp [B_63, startE, iso_pD, fd_x, fd_y, b_eq, h1]
theorem p_eq (neg : Bool) : eqB T (run (n + 3)) neg (pD x y) (pD z w) st = .ok (.bl (decide (x = z ∧ y = w) != neg)) st := eqB_own st rfl rfl (s_peq n x y z w st)
theorem bBool_rD : bBool T (run (n + 1)) [rD x] st = .ok (.bl (decide (x ≠ 0))) st := by
  unfold rD bBool
  simp only [me_0_34]
  show (run (n + 1) 59 [rD x] st).bind _ = _
  rw [b_bool]
  rfl
theorem s_pbool : run (n + 2) 69 [pD x y] st = .ok (.bl (decide (¬ (x = 0 ∧ y = 0)))) st := by
  rw [run_69]
  refine fnD_rt0 ?_ (by simp)
  by_cases h1 : x = 0
  · by_cases h2 : y = 0 <;> simp [B_69, startE, fd_x, fd_y, bBool_rD, h1, h2]
  · simp [B_69, startE, fd_x, fd_y, bBool_rD, h1]
theorem tru_pD : truD T (run (n + 2)) (pD x y) st = .ok (decide (¬ (x = 0 ∧ y = 0))) st := tru_own st rfl (s_pbool n x y st)
end
end G39
namespace G39
open PySem PySem.Spec PyProof.Rows L2 Gm
/-! ### tables -/
def tD (a b c d : Rat) : D := .tup [.tup [rD a, rD b], .tup [rD c, rD d]]
theorem noRef_tD (n : Nat) (a b c d : Rat) : noRef n (tD a b c d) = true := by simp [tD, noRef_rD]
theorem at_00 (a b c d : Rat) (st : Store) : subD (tD a b c d) (.int 0) st = .ok (.tup [rD a, rD b]) st := by simp [tD]
theorem at_01 (a b c d : Rat) (st : Store) : subD (tD a b c d) (.int 1) st = .ok (.tup [rD c, rD d]) st := by simp [tD]
theorem Sz.m1 {p q : Rat} (h1 : Sz 1900 p) (h2 : Sz 1900 q) : Sz 3800 (p * q) := h1.mul h2
section
variable (n : Nat) (a b c d a' b' c' d' x y z w : Rat) (st : Store)
theorem s_factor (h1 : Sz 1900 a) (h2 : Sz 1900 b) (h3 : Sz 1900 c) (h4 : Sz 1900 d) : run (n + 4) 6 [tD a b c d] st = .ok (rD (a * d - b * c)) st := by
  rw [run_6]
  refine fnD_rt0 ?_ (noRef_rD _ _)
  simp [B_6, startE, at_00, at_01, b_mul, b_sub, h1.mono (b' := 4000) (by decide), h2.mono (b' := 4000) (by decide), h3.mono (b' := 4000) (by decide), h4.mono (b' := 4000) (by decide), (h1.mul h4).mono (b' := 4000) (by decide), (h2.mul h3).mono (b' := 4000) (by decide)]
theorem s_led (h1 : Sz 950 a) (h2 : Sz 950 b) (h3 : Sz 950 c) (h4 : Sz 950 d) (h5 : Sz 950 x) (h6 : Sz 950 y) (h7 : Sz 950 z) (h8 : Sz 950 w) : run (n + 5) 8 [tD a b c d, pD z w, pD x y] st = .ok (pD (a * x + b * y + z) (c * x + d * y + w)) st := by
  rw [run_8]
  refine fnD_rt0 ?_ (noRef_pD _ _ _)
  simp [B_8, startE, at_00, at_01, b_mul, b_add, fd_x, fd_y, s_mkP_r, h1.mono (b' := 4000) (by decide), h2.mono (b' := 4000) (by decide), h3.mono (b' := 4000) (by decide), h4.mono (b' := 4000) (by decide), h5.mono (b' := 4000) (by decide), h6.mono (b' := 4000) (by decide), h7.mono (b' := 4000) (by decide), h8.mono (b' := 4000) (by decide), (h1.mul h5).mono (b' := 4000) (by decide), (h2.mul h6).mono (b' := 4000) (by decide), (h3.mul h5).mono (b' := 4000) (by decide), (h4.mul h6).mono (b' := 4000) (by decide), ((h1.mul h5).add (h2.mul h6)).mono (b' := 4000) (by decide), ((h3.mul h5).add (h4.mul h6)).mono (b' := 4000) (by decide)]
theorem s_product (h1 : Sz 950 a) (h2 : Sz 950 b) (h3 : Sz 950 c) (h4 : Sz 950 d) (h5 : Sz 950 a') (h6 : Sz 950 b') (h7 : Sz 950 c') (h8 : Sz 950 d') :
    run (n + 4) 7 [tD a b c d, tD a' b' c' d'] st = .ok (tD (a * a' + b * c') (a * b' + b * d') (c * a' + d * c') (c * b' + d * d')) st := by
  rw [run_7]
  have k : ∀ {q : Rat}, Sz 950 q → Sz 4000 q := fun h => h.mono (by decide)
  have m : ∀ {p q : Rat}, Sz 950 p → Sz 950 q → Sz 4000 (p * q) := fun h g => (h.mul g).mono (by decide)
  have hrow : ∀ (r : D) (p q : Rat), subD (tD a b c d) r = subD (tD a b c d) r → (∀ st, subD (tD a b c d) r st = .ok (.tup [rD p, rD q]) st) → Sz 950 p → Sz 950 q → ∀ e : Store, ∃ e', xBi bTuple (aCons (xLc (iSeq (xTup (aCons (xK (.int 0)) (aCons (xK (.int 1)) aNil)))) (gNm 3) tTrue (xBin (binD T (run (n + 3)) .Add) (xBin (binD T (run (n + 3)) .Mult) (xBin subD (xBin subD (xVar 0) (xVar 2)) (xK (.int 0))) (xBin subD (xBin subD (xVar 1) (xK (.int 0))) (xVar 3))) (xBin (binD T (run (n + 3)) .Mult) (xBin subD (xBin subD (xVar 0) (xVar 2)) (xK (.int 1))) (xBin subD (xBin subD (xVar 1) (xK (.int 1))) (xVar 3)))) [3]) aNil) [some (tD a b c d), some (tD a' b' c' d'), some r, none] (st ++ e) = .ok (.tup [rD (p * a' + q * c'), rD (p * b' + q * d')]) (st ++ e ++ e') := by
    intro r p q _ hr hp hq e
    refine tup_lc (ds := [.int 0, .int 1]) (F := fun j => match j with | .int 0 => rD (p * a' + q * c') | _ => rD (p * b' + q * d')) (iSeq_tup (by simp)) (fun _ => trivial) ?_ (by decide)
    intro j hj e'
    rcases List.mem_cons.mp hj with rfl | hj
    · exact ⟨[], by simp [wipeE, hr, at_00, at_01, b_mul, b_add, k, m, h1, h2, h3, h4, h5, h6, h7, h8, hp, hq]⟩
    · rcases List.mem_singleton.mp hj with rfl
      exact ⟨[], by simp [wipeE, hr, at_00, at_01, b_mul, b_add, k, m, h1, h2, h3, h4, h5, h6, h7, h8, hp, hq]⟩
  have main : ∃ e, xBi bTuple (aCons (xLc (iSeq (xTup (aCons (xK (.int 0)) (aCons (xK (.int 1)) aNil)))) (gNm 2) tTrue (xBi bTuple (aCons (xLc (iSeq (xTup (aCons (xK (.int 0)) (aCons (xK (.int 1)) aNil)))) (gNm 3) tTrue (xBin (binD T (run (n + 3)) .Add) (xBin (binD T (run (n + 3)) .Mult) (xBin subD (xBin subD (xVar 0) (xVar 2)) (xK (.int 0))) (xBin subD (xBin subD (xVar 1) (xK (.int 0))) (xVar 3))) (xBin (binD T (run (n + 3)) .Mult) (xBin subD (xBin subD (xVar 0) (xVar 2)) (xK (.int 1))) (xBin subD (xBin subD (xVar 1) (xK (.int 1))) (xVar 3)))) [3]) aNil)) [2]) aNil) [some (tD a b c d), some (tD a' b' c' d'), none, none] st = .ok (tD (a * a' + b * c') (a * b' + b * d') (c * a' + d * c') (c * b' + d * d')) (st ++ e) := by
    refine tup_lc (ds := [.int 0, .int 1]) (F := fun j => match j with | .int 0 => .tup [rD (a * a' + b * c'), rD (a * b' + b * d')] | _ => .tup [rD (c * a' + d * c'), rD (c * b' + d * d')]) (iSeq_tup (by simp)) (fun _ => trivial) ?_ (by decide)
    intro j hj e'
    rcases List.mem_cons.mp hj with rfl | hj
    · exact hrow (.int 0) a b rfl (fun st => at_00 a b c d st) h1 h2 e'
    · rcases List.mem_singleton.mp hj with rfl
      exact hrow (.int 1) c d rfl (fun st => at_01 a b c d st) h3 h4 e'
  obtain ⟨e, h⟩ := main
  refine fnD_rtg (e := e) ?_ (noRef_tD _ _ _ _ _)
  show sRet _ [some (tD a b c d), some (tD a' b' c' d'), none, none] st = _
  rw [ap_sRet, h]
  rfl
end
end G39
namespace G39
open PySem PySem.Spec PyProof.Rows L2 Gm
theorem seqOf_ext {d : D} {st : Store} {ds : List D} (e : Store) (h : seqOf d st = some ds) : seqOf d (st ++ e) = some ds := by
  cases d with
  | tup l => exact h
  | ref n =>
    unfold seqOf at h ⊢
    dsimp only at h ⊢
    cases hn : st[n]? with
    | none => rw [hn] at h; cases h
    | some x =>
      rw [hn] at h
      rw [get_ext hn]
      exact h
  | _ => cases h
theorem iSeq_of {f : Fe} {ρ : Ev} {st : Store} {d : D} {ds : List D} (h : f ρ st = .ok d st) (hs : seqOf d st = some ds) : ∃ chk, iSeq f ρ st = .ok (ds, chk) st ∧ ∀ e, chk (st ++ e) := by
  unfold seqOf at hs
  unfold iSeq
  rw [h, Res.bind_ok]
  split at hs
  · cases hs
    exact ⟨_, rfl, fun _ => trivial⟩
  · rename_i n
    split at hs <;> simp at hs
    · rename_i l hl
      subst hs
      first
        | exact ⟨_, rfl, fun e => get_ext hl⟩
        | (dsimp only; rw [hl]; exact ⟨_, rfl, fun e => get_ext hl⟩)
    · rename_i l hl
      subst hs
      first
        | exact ⟨_, rfl, fun e => get_ext hl⟩
        | (dsimp only; rw [hl]; exact ⟨_, rfl, fun e => get_ext hl⟩)
  · cases hs
def numOf : D → Rat
  | .int i => i
  | .obj _ [.int n, .int d] => Rat.divInt n d
  | _ => 0
theorem numOf_rD (q : Rat) : numOf (rD q) = q := Rat.num_divInt_den q
theorem IsN.num {p : D} {a : Rat} (h : IsN p a) : numOf p = a := by
  rcases h with rfl | ⟨i, rfl, rfl⟩
  · exact numOf_rD a
  · rfl
theorem rD_inj {p q : Rat} (h : rD p = rD q) : p = q := by rw [← numOf_rD p, h, numOf_rD]
theorem s_table_of {t r1 r2 p1 p2 p3 p4 : D} {a b c d : Rat} {st : Store} (n : Nat) (h0 : seqOf t st = some [r1, r2]) (h1 : seqOf r1 st = some [p1, p2]) (h2 : seqOf r2 st = some [p3, p4]) (k1 : IsN p1 a) (k2 : IsN p2 b) (k3 : IsN p3 c) (k4 : IsN p4 d) :
    run (n + 4) 5 [t] st = .ok (tD a b c d) st := by
  rw [run_5]
  have hrow : ∀ (r p q : D) (x y : Rat), seqOf r st = some [p, q] → IsN p x → IsN q y → ∀ e : Store, ∃ e', xBi bTuple (aCons (xLc (iSeq (xVar 1)) (gNm 2) tTrue (xCall T (run (n + 3)) 3 (aCons (xVar 2) aNil)) [2]) aNil) [some t, some r, none] (st ++ e) = .ok (.tup [rD x, rD y]) (st ++ e ++ e') := by
    intro r p q x y hs hp hq e
    obtain ⟨chk, hi, hc⟩ := iSeq_of (f := xVar 1) (ρ := [some t, some r, none]) (st := st ++ e) (d := r) (by simp) (seqOf_ext e hs)
    have g := tup_lc (f := xCall T (run (n + 3)) 3 (aCons (xVar 2) aNil)) (i := 2) (vs := [2]) (F := fun p => rD (numOf p)) hi hc (fun j hj e' => by
      rcases List.mem_cons.mp hj with rfl | hj
      · exact ⟨[], by simp [wipeE, s_rof _ _ hp, hp.num]⟩
      · rcases List.mem_singleton.mp hj with rfl
        exact ⟨[], by simp [wipeE, s_rof _ _ hq, hq.num]⟩) (by show 2 ≤ sizeLine; decide)
    simpa [hp.num, hq.num] using g
  obtain ⟨chk, hi, hc⟩ := iSeq_of (f := xVar 0) (ρ := [some t, none, none]) (st := st) (d := t) (by simp) h0
  have main := tup_lc (f := xBi bTuple (aCons (xLc (iSeq (xVar 1)) (gNm 2) tTrue (xCall T (run (n + 3)) 3 (aCons (xVar 2) aNil)) [2]) aNil)) (i := 1) (vs := [1]) (F := fun r => match seqOf r st with | some [p, q] => .tup [rD (numOf p), rD (numOf q)] | _ => .non) hi hc (fun j hj e' => by
      rcases List.mem_cons.mp hj with rfl | hj
      · simpa [h1, k1.num, k2.num, wipeE] using hrow j p1 p2 a b h1 k1 k2 e'
      · rcases List.mem_singleton.mp hj with rfl
        simpa [h2, k3.num, k4.num, wipeE] using hrow j p3 p4 c d h2 k3 k4 e') (by show 2 ≤ sizeLine; decide)
  obtain ⟨e, h⟩ := main
  simp [h1, h2, k1.num, k2.num, k3.num, k4.num] at h
  refine fnD_rtg (e := e) ?_ (noRef_tD _ _ _ _ _)
  show sRet _ [some t, none, none] st = _
  rw [ap_sRet]
  show (xBi bTuple _ [some t, none, none] st).toS _ _ = _
  simp only [ap_xBi, ap_aCons]
  rw [h]
  rfl
/-! equality of tables -/
theorem okC_rD (q : Rat) : okC T (rD q) = true := by simp [rD, isC_Ratio]
theorem eqD_rD (n k : Nat) (p q : Rat) (st : Store) : eqD T (run (n + 2)) (k + 1) (rD p) (rD q) st = .ok (decide (p = q)) st := by
  have h := s_req n p q st
  have hr := rhs_rD q
  unfold rD at h hr ⊢
  unfold eqD
  simp only [me_0_21]
  rw [if_pos hr, cl_41_2, h]
  rfl
theorem itemR_ok {d1 d2 : D} {b : Bool} {st : Store} (h1 : okC T d1 = true) (h2 : okC T d2 = true) (h : d1 = d2 → b = true) : itemR T d1 d2 st (.ok b st) = .ok b st := by
  unfold itemR
  exact if_pos ⟨h1, h2, fun e => ⟨h e, rfl⟩⟩
theorem eqAll2 {q : D → D → Store → Res Bool} {x y x' y' : D} {b b' : Bool} {st : Store} (o1 : okC T x = true) (o2 : okC T y = true) (o3 : okC T x' = true) (o4 : okC T y' = true) (h1 : q x x' st = .ok b st) (h2 : q y y' st = .ok b' st) (k1 : x = x' → b = true) (k2 : y = y' → b' = true) :
    eqAll T q [x, y] [x', y'] st = .ok (b && b') st := by
  unfold eqAll
  rw [h1, itemR_ok o1 o3 k1, Res.bind_ok]
  cases b with
  | false => rfl
  | true =>
    rw [if_pos rfl]
    unfold eqAll
    rw [h2, itemR_ok o2 o4 k2, Res.bind_ok]
    cases b' with
    | false => rfl
    | true =>
      rw [if_pos rfl]
      unfold eqAll
      rfl
theorem eqD_row (n k : Nat) (a b a' b' : Rat) (st : Store) : eqD T (run (n + 2)) (k + 2) (.tup [rD a, rD b]) (.tup [rD a', rD b']) st = .ok (decide (a = a' ∧ b = b')) st := by
  unfold eqD
  show eqAll T _ _ _ st = _
  rw [eqAll2 (okC_rD _) (okC_rD _) (okC_rD _) (okC_rD _) (eqD_rD n k a a' st) (eqD_rD n k b b' st) (fun h => by simpa using rD_inj h) (fun h => by simpa using rD_inj h)]
  simp
theorem b_teq (n : Nat) (neg : Bool) (a b c d a' b' c' d' : Rat) (st : Store) : eqB T (run (n + 2)) neg (tD a b c d) (tD a' b' c' d') st = .ok (.bl (decide (a = a' ∧ b = b' ∧ c = c' ∧ d = d') != neg)) st := by
  have h : eqD T (run (n + 2)) 6 (tD a b c d) (tD a' b' c' d') st = .ok (decide (a = a' ∧ b = b' ∧ c = c' ∧ d = d')) st := by
    unfold eqD
    show eqAll T _ _ _ st = _
    rw [eqAll2 (by simp [okC_rD]) (by simp [okC_rD]) (by simp [okC_rD]) (by simp [okC_rD]) (eqD_row n 3 a b a' b' st) (eqD_row n 3 c d c' d' st) (fun h => by
      simp at h
      simpa using ⟨rD_inj h.1, rD_inj h.2⟩) (fun h => by
      simp at h
      simpa using ⟨rD_inj h.1, rD_inj h.2⟩)]
    simp [Bool.and_assoc]
  unfold eqB
  rw [h]
  rfl
end G39
namespace G39
open PySem PySem.Spec PyProof.Rows L2 Gm
structure Mo where
  a : Rat
  b : Rat
  c : Rat
  d : Rat
  x : Rat
  y : Rat
theorem Mo.ext' {m k : Mo} (h1 : m.a = k.a) (h2 : m.b = k.b) (h3 : m.c = k.c) (h4 : m.d = k.d) (h5 : m.x = k.x) (h6 : m.y = k.y) : m = k := by
  cases m
  cases k
  simp_all
def Mo.det (m : Mo) : Rat := m.a * m.d - m.b * m.c
def Mo.mul (m k : Mo) : Mo := ⟨m.a * k.a + m.b * k.c, m.a * k.b + m.b * k.d, m.c * k.a + m.d * k.c, m.c * k.b + m.d * k.d, m.a * k.x + m.b * k.y + m.x, m.c * k.x + m.d * k.y + m.y⟩
def Mo.one : Mo := ⟨1, 0, 0, 1, 0, 0⟩
structure Mo.Sm (s : Nat) (m : Mo) : Prop where
  a : Sz s m.a
  b : Sz s m.b
  c : Sz s m.c
  d : Sz s m.d
  x : Sz s m.x
  y : Sz s m.y
theorem Mo.Sm.mono {s t : Nat} {m : Mo} (h : m.Sm s) (ht : s ≤ t) : m.Sm t := ⟨h.a.mono ht, h.b.mono ht, h.c.mono ht, h.d.mono ht, h.x.mono ht, h.y.mono ht⟩
def mD (m : Mo) : D := .obj 2 [tD m.a m.b m.c m.d, pD m.x m.y]
theorem isC_Motion : T.isC 2 = true := rfl
theorem sub_Motion : T.sub 2 2 = true := rfl
theorem noRef_mD (n : Nat) (m : Mo) : noRef n (mD m) = true := by simp [mD, noRef_tD, noRef_pD]
theorem fk_table (d : D) (ρ : Ev) (st : Store) : fldK T 44 d ρ (.ref st.length) (st ++ [.ins 2 []]) = .nx ρ (st ++ [.ins 2 [(44, d)]]) := fk_new d ρ st rfl
theorem fk_shift (d e : D) (ρ : Ev) (st : Store) : fldK T 45 d ρ (.ref st.length) (st ++ [.ins 2 [(44, e)]]) = .nx ρ (st ++ [.ins 2 [(44, e), (45, d)]]) := fk_new d ρ st rfl
theorem fr_table (c : Fn) (d : D) (st : Store) : fldD T c 44 (.ref st.length) (st ++ [.ins 2 [(44, d)]]) = .ok d (st ++ [.ins 2 [(44, d)]]) := fld_new st rfl rfl
theorem fd_table (c : Fn) (m : Mo) (st : Store) : fldD T c 44 (mD m) st = .ok (tD m.a m.b m.c m.d) st := fld_obj st rfl rfl
theorem fd_shift (c : Fn) (m : Mo) (st : Store) : fldD T c 45 (mD m) st = .ok (pD m.x m.y) st := fld_obj st rfl rfl
theorem iso_mD (m : Mo) (st : Store) : isoD T 2 (mD m) st = .ok (.bl true) st := by simp [mD, isC_Motion, sub_Motion]
theorem isno_pD (neg : Bool) (x y : Rat) (st : Store) : isNo neg (pD x y) .non st = .ok (.bl neg) st := rfl
section
variable {t r1 r2 p1 p2 p3 p4 : D} {a b c d x y : Rat} {st : Store}
theorem s_initM (n : Nat) (h0 : seqOf t st = some [r1, r2]) (h1 : seqOf r1 st = some [p1, p2]) (h2 : seqOf r2 st = some [p3, p4]) (k1 : IsN p1 a) (k2 : IsN p2 b) (k3 : IsN p3 c) (k4 : IsN p4 d)
    (z1 : Sz 1900 a) (z2 : Sz 1900 b) (z3 : Sz 1900 c) (z4 : Sz 1900 d) (hd : a * d - b * c ≠ 0) (s : D) (hs : s = .non ∧ x = 0 ∧ y = 0 ∨ s = pD x y) :
    run (n + 5) 70 [.ref st.length, t, s] (st ++ [.ins 2 []]) = .ok .non (st ++ [.ins 2 [(44, tD a b c d), (45, pD x y)]]) := by
  rw [run_70]
  have ht := s_table_of n (seqOf_ext [.ins 2 []] h0) (seqOf_ext [.ins 2 []] h1) (seqOf_ext [.ins 2 []] h2) k1 k2 k3 k4
  refine fnD_init (ρ := [some (.ref st.length), some t, some s]) ?_ (by simp [noRef_tD, noRef_pD])
  have hb := fun st => b_eq_i n (a * d - b * c) 0 st false
  have hz : decide (a * d - b * c = ((0 : Int) : Rat)) = false := by simpa using hd
  rw [hz] at hb
  rcases hs with ⟨rfl, rfl, rfl⟩ | rfl
  · simp [B_70, startE, ht, fk_table, fr_table, s_factor, z1, z2, z3, z4, hb, fk_shift, s_mkP_i]
  · simp [B_70, startE, ht, fk_table, fr_table, s_factor, z1, z2, z3, z4, hb, fk_shift, isno_pD]
theorem s_mkM (n : Nat) (h0 : seqOf t st = some [r1, r2]) (h1 : seqOf r1 st = some [p1, p2]) (h2 : seqOf r2 st = some [p3, p4]) (k1 : IsN p1 a) (k2 : IsN p2 b) (k3 : IsN p3 c) (k4 : IsN p4 d)
    (z1 : Sz 1900 a) (z2 : Sz 1900 b) (z3 : Sz 1900 c) (z4 : Sz 1900 d) (hd : a * d - b * c ≠ 0) : mkD T (run (n + 5)) 2 [t, pD x y] st = .ok (mD ⟨a, b, c, d, x, y⟩) st := by
  refine mkD_new (f := 70) (fs := [(44, tD a b c d), (45, pD x y)]) rfl ?_ rfl (by simp [noRef_tD, noRef_pD])
  rw [cl_70_3]
  exact s_initM n h0 h1 h2 k1 k2 k3 k4 z1 z2 z3 z4 hd _ (.inr rfl)
theorem s_mkM0 (n : Nat) (h0 : seqOf t st = some [r1, r2]) (h1 : seqOf r1 st = some [p1, p2]) (h2 : seqOf r2 st = some [p3, p4]) (k1 : IsN p1 a) (k2 : IsN p2 b) (k3 : IsN p3 c) (k4 : IsN p4 d)
    (z1 : Sz 1900 a) (z2 : Sz 1900 b) (z3 : Sz 1900 c) (z4 : Sz 1900 d) (hd : a * d - b * c ≠ 0) : mkD T (run (n + 5)) 2 [t] st = .ok (mD ⟨a, b, c, d, 0, 0⟩) st := by
  refine mkD_new (f := 70) (fs := [(44, tD a b c d), (45, pD 0 0)]) rfl ?_ rfl (by simp [noRef_tD, noRef_pD])
  rw [cl_70_2]
  exact s_initM n h0 h1 h2 k1 k2 k3 k4 z1 z2 z3 z4 hd _ (.inl ⟨rfl, rfl, rfl⟩)
end
theorem seqOf_tup (ds : List D) (st : Store) : seqOf (.tup ds) st = some ds := rfl
theorem Sz.small {i : Int} (h : i.natAbs < 2) (s : Nat) (hs : 0 < s) : Sz s (i : Rat) := Sz.int (Nat.lt_of_lt_of_le h (Nat.one_lt_two_pow (Nat.ne_of_gt hs))) hs
theorem Sz.zero (s : Nat) (hs : 0 < s) : Sz s 0 := Sz.small (i := 0) (by decide) s hs
theorem Sz.one (s : Nat) (hs : 0 < s) : Sz s 1 := Sz.small (i := 1) (by decide) s hs
theorem s_rest (n : Nat) (st : Store) : run (n + 6) 9 [] st = .ok (mD .one) st := by
  rw [run_9]
  refine fnD_rt0 ?_ (noRef_mD _ _)
  have h := s_mkM0 (t := .tup [.tup [.int 1, .int 0], .tup [.int 0, .int 1]]) (st := st) n rfl rfl rfl (.int 1) (.int 0) (.int 0) (.int 1) (Sz.one _ (by decide)) (Sz.zero _ (by decide)) (Sz.zero _ (by decide)) (Sz.one _ (by decide)) (by grind)
  simp [B_9, startE]
  simp at h
  rw [h]
  rfl
theorem s_shifting (n : Nat) (x y : Rat) (st : Store) : run (n + 6) 10 [pD x y] st = .ok (mD ⟨1, 0, 0, 1, x, y⟩) st := by
  rw [run_10]
  refine fnD_rt0 ?_ (noRef_mD _ _)
  have h := s_mkM (t := .tup [.tup [.int 1, .int 0], .tup [.int 0, .int 1]]) (st := st) (x := x) (y := y) n rfl rfl rfl (.int 1) (.int 0) (.int 0) (.int 1) (Sz.one _ (by decide)) (Sz.zero _ (by decide)) (Sz.zero _ (by decide)) (Sz.one _ (by decide)) (by grind)
  simp [B_10, startE]
  simp at h
  rw [h]
  rfl
theorem m_mul (n : Nat) (m k : Mo) (st : Store) (hm : m.Sm 950) (hk : k.Sm 950) (hd : (m.mul k).det ≠ 0) (hs : (m.mul k).Sm 1900) : binD T (run (n + 6)) .Mult (mD m) (mD k) st = .ok (mD (m.mul k)) st := by
  refine (bin_own st rfl (by decide)).trans ?_
  show callD T (run (n + 6)) 73 [mD m, mD k] st = _
  rw [cl_73_2, run_73]
  refine fnD_rt0 ?_ (noRef_mD _ _)
  have h : mkD T (run (n + 5)) 2 [tD (m.a * k.a + m.b * k.c) (m.a * k.b + m.b * k.d) (m.c * k.a + m.d * k.c) (m.c * k.b + m.d * k.d), pD (m.a * k.x + m.b * k.y + m.x) (m.c * k.x + m.d * k.y + m.y)] st = .ok (mD (m.mul k)) st :=
    s_mkM (st := st) (x := (m.mul k).x) (y := (m.mul k).y) n (seqOf_tup _ st) (seqOf_tup _ st) (seqOf_tup _ st) (.rD (m.mul k).a) (.rD (m.mul k).b) (.rD (m.mul k).c) (.rD (m.mul k).d) hs.a hs.b hs.c hs.d hd
  simp [B_73, startE, fd_table, fd_shift, s_product, s_led, hm.a, hm.b, hm.c, hm.d, hm.x, hm.y, hk.a, hk.b, hk.c, hk.d, hk.x, hk.y]
  rw [h]
  rfl
theorem s_meq (n : Nat) (m k : Mo) (st : Store) : run (n + 4) 71 [mD m, mD k] st = .ok (.bl (decide (m.a = k.a ∧ m.b = k.b ∧ m.c = k.c ∧ m.d = k.d ∧ m.x = k.x ∧ m.y = k.y))) st := by
  rw [run_71]
  refine fnD_rt0 ?_ (by simp)
  by_cases h : m.a = k.a ∧ m.b = k.b ∧ m.c = k.c ∧ m.d = k.d
  · obtain ⟨h1, h2, h3, h4⟩ := h
    simp [B_71, startE, iso_mD, fd_table, fd_shift, b_teq, p_eq, h1, h2, h3, h4]
  · have h' : ¬ (m.a = k.a ∧ m.b = k.b ∧ m.c = k.c ∧ m.d = k.d ∧ m.x = k.x ∧ m.y = k.y) := fun g => h ⟨g.1, g.2.1, g.2.2.1, g.2.2.2.1⟩
    have h2 : decide (m.a = k.a ∧ m.b = k.b ∧ m.c = k.c ∧ m.d = k.d) = false := by simpa using h
    rw [decide_eq_false h']
    have e := fun st => b_teq (n + 1) false m.a m.b m.c m.d k.a k.b k.c k.d st
    rw [h2] at e
    simp [B_71, startE, iso_mD, fd_table, fd_shift, e]
open Classical in
theorem m_eq (n : Nat) (neg : Bool) (m k : Mo) (st : Store) : eqB T (run (n + 4)) neg (mD m) (mD k) st = .ok (.bl (decide (m = k) != neg)) st := by
  have e0 : eqB T (run (n + 4)) neg (mD m) (mD k) st = .ok (.bl (decide (m.a = k.a ∧ m.b = k.b ∧ m.c = k.c ∧ m.d = k.d ∧ m.x = k.x ∧ m.y = k.y) != neg)) st := eqB_own st rfl rfl (s_meq n m k st)
  rw [e0]
  have e : decide (m.a = k.a ∧ m.b = k.b ∧ m.c = k.c ∧ m.d = k.d ∧ m.x = k.x ∧ m.y = k.y) = decide (m = k) := by
    rw [decide_eq_decide]
    constructor
    · intro ⟨h1, h2, h3, h4, h5, h6⟩
      exact Mo.ext' h1 h2 h3 h4 h5 h6
    · intro h
      subst h
      exact ⟨rfl, rfl, rfl, rfl, rfl, rfl⟩
  rw [e]
end G39
namespace G39
open PySem PySem.Spec PyProof.Rows L2 Gm
/-! ### powers -/
theorem Mo.mul_assoc (m k l : Mo) : (m.mul k).mul l = m.mul (k.mul l) := by
  refine Mo.ext' ?_ ?_ ?_ ?_ ?_ ?_ <;> simp only [Mo.mul] <;> grind
theorem Mo.one_mul (m : Mo) : Mo.one.mul m = m := by
  refine Mo.ext' ?_ ?_ ?_ ?_ ?_ ?_ <;> simp only [Mo.mul, Mo.one] <;> grind
theorem Mo.mul_one (m : Mo) : m.mul Mo.one = m := by
  refine Mo.ext' ?_ ?_ ?_ ?_ ?_ ?_ <;> simp only [Mo.mul, Mo.one] <;> grind
def Mo.pw (m : Mo) : Nat → Mo
  | 0 => .one
  | k + 1 => (m.pw k).mul m
theorem Mo.pw_add (m : Mo) (i j : Nat) : (m.pw i).mul (m.pw j) = m.pw (i + j) := by
  induction j with
  | zero => exact Mo.mul_one _
  | succ j ih =>
    show (m.pw i).mul ((m.pw j).mul m) = (m.pw (i + j)).mul m
    rw [← Mo.mul_assoc, ih]
theorem Mo.det_mul (m k : Mo) : (m.mul k).det = m.det * k.det := by
  simp only [Mo.mul, Mo.det]
  grind
theorem Mo.det_pw (m : Mo) (h : m.det ≠ 0) (k : Nat) : (m.pw k).det ≠ 0 := by
  induction k with
  | zero => simp only [Mo.pw, Mo.det, Mo.one]; grind
  | succ k ih =>
    rw [Mo.pw, Mo.det_mul]
    grind
/-- all powers that the program makes are short -/
def Mo.Ok (m : Mo) : Prop := m.det ≠ 0 ∧ ∀ k, k ≤ 12 → (m.pw k).Sm 900
theorem Mo.Ok.sm {m : Mo} (h : m.Ok) : m.Sm 900 := by
  have := h.2 1 (by decide)
  rwa [show m.pw 1 = m from Mo.one_mul m] at this
theorem m_pw (n i j : Nat) (m : Mo) (st : Store) (h : m.Ok) (hij : i + j ≤ 12) : binD T (run (n + 6)) .Mult (mD (m.pw i)) (mD (m.pw j)) st = .ok (mD (m.pw (i + j))) st := by
  rw [← Mo.pw_add]
  refine m_mul n _ _ st ((h.2 i (by omega)).mono (by decide)) ((h.2 j (by omega)).mono (by decide)) ?_ ?_
  · rw [Mo.pw_add]; exact m.det_pw h.1 _
  · rw [Mo.pw_add]; exact (h.2 _ hij).mono (by decide)
theorem half (l : Nat) : (l : Int).fdiv 2 = ((l / 2 : Nat) : Int) := by
  rw [Int.fdiv_eq_ediv_of_nonneg _ (by decide)]
  exact (Int.natCast_ediv l 2).symm
theorem parity (l : Nat) : (l : Int).fmod 2 = ((l % 2 : Nat) : Int) := fmod_nat l 2
theorem pow_loop (n : Nat) (m : Mo) (hm : m.Ok) (q : D) (st : Store) : ∀ l i j : Nat, 1 ≤ i → j + i * l ≤ 6 → ∃ N r, whileN (tOf (truD T (run (n + 6))) (xBin (ordD T (run (n + 6)) .Gt) (xVar 4) (xK (.int 0)))) (sSeq (sIf (tOf (truD T (run (n + 6))) (xBin (eqB T (run (n + 6)) false) (xBin (binD T (run (n + 6)) .Mod) (xVar 4) (xK (.int 2))) (xK (.int 1)))) (sAsg (xBin (binD T (run (n + 6)) .Mult) (xVar 3) (xVar 2)) (gNm 3)) sNx) (sPar 2 4 (aCons (xBin (binD T (run (n + 6)) .Mult) (xVar 2) (xVar 2)) (aCons (xBin (binD T (run (n + 6)) .FloorDiv) (xVar 4) (xK (.int 2))) aNil)))) N [some (mD m), some q, some (mD (m.pw i)), some (mD (m.pw j)), some (.int l)] st =
    .nx [some (mD m), some q, some r, some (mD (m.pw (j + i * l))), some (.int 0)] st := by
  intro l
  induction l using Nat.strongRecOn with
  | ind l ih =>
    intro i j hi h
    by_cases hl : l = 0
    · subst hl
      refine ⟨1, mD (m.pw i), ?_⟩
      unfold whileN
      simp
    · have hil : i ≤ i * l := Nat.le_mul_of_pos_right i (Nat.pos_of_ne_zero hl)
      have hd : (2 : Int) ≠ 0 ∧ (2 : Int).natAbs.log2 < 9000 := by decide
      have h2 : (2 : Int) ≠ 0 := by decide
      have hp : (0 : Int) < (l : Int) := by omega
      have e : l = 2 * (l / 2) + l % 2 := by omega
      rcases Nat.mod_two_eq_zero_or_one l with h0 | h1
      · obtain ⟨N, r, hN⟩ := ih (l / 2) (by omega) (i + i) j (by omega) (by
          have : (i + i) * (l / 2) = i * l := by rw [show l = 2 * (l / 2) by omega, ← Nat.two_mul, Nat.mul_comm 2 i, Nat.mul_assoc]; simp
          omega)
        have e3 : j + (i + i) * (l / 2) = j + i * l := by
          have : (i + i) * (l / 2) = i * l := by rw [show l = 2 * (l / 2) by omega, ← Nat.two_mul, Nat.mul_comm 2 i, Nat.mul_assoc]; simp
          omega
        rw [e3] at hN
        refine ⟨N + 1, r, ?_⟩
        unfold whileN
        simp [-Int.natCast_ediv, Nat.pos_of_ne_zero hl, hp, ib_mod, ib_fdiv st hd, half, parity, h0, m_pw n i i m st hm (by omega)]
        exact hN
      · have e4 : j + i + (i + i) * (l / 2) = j + i * l := by
          have : i + (i + i) * (l / 2) = i * l := by
            conv => rhs; rw [show l = 2 * (l / 2) + 1 by omega]
            rw [Nat.mul_add, ← Nat.two_mul, Nat.mul_comm 2 i, Nat.mul_assoc]
            omega
          omega
        obtain ⟨N, r, hN⟩ := ih (l / 2) (by omega) (i + i) (j + i) (by omega) (by omega)
        rw [e4] at hN
        refine ⟨N + 1, r, ?_⟩
        unfold whileN
        simp [-Int.natCast_ediv, Nat.pos_of_ne_zero hl, hp, ib_mod, ib_fdiv st hd, half, parity, h1, m_pw n i i m st hm (by omega), m_pw n j i m st hm (by omega)]
        exact hN
theorem s_isint (n : Nat) (i : Int) (st : Store) : run (n + 1) 4 [.int i] st = .ok (.bl true) st := by
  rw [run_4]
  refine fnD_rt0 ?_ rfl
  simp [B_4, startE]
theorem s_power (n k : Nat) (m : Mo) (hm : m.Ok) (hk : k ≤ 6) (st : Store) : run (n + 7) 75 [mD m, .int k] st = .ok (mD (m.pw k)) st := by
  rw [run_75]
  refine fnD_rt0 ?_ (noRef_mD _ _)
  obtain ⟨N, r, hN⟩ := pow_loop n m hm (.int k) st k 1 0 (by decide) (by omega)
  rw [show m.pw 1 = m from Mo.one_mul m, show 0 + 1 * k = k by omega] at hN
  have hw := sWhile_eq N hN (by simp)
  have c1 : (-1000 : Int) ≤ k := by omega
  have c2 : (k : Int) ≤ 1000 := by omega
  have c3 : (0 : Int) ≤ k := by omega
  have c4 : ¬ (k : Int) < 0 := by omega
  simp [B_75, startE, s_isint, c1, c2, c3, c4, s_rest]
  show ((sWhile _ _ _ st).seq _) = _
  rw [show Mo.one = m.pw 0 from rfl, hw]
  simp
end G39
namespace G39
open PySem PySem.Spec PyProof.Rows L2 Gm
open Classical in
noncomputable def Mo.ord (m : Mo) : Option Nat := if m.pw 1 = .one then some 1 else if m.pw 2 = .one then some 2 else if m.pw 3 = .one then some 3 else if m.pw 4 = .one then some 4 else if m.pw 6 = .one then some 6 else none
def oN : Option Nat → D
  | none => .non
  | some k => .int k
theorem s_order (n : Nat) (m : Mo) (hm : m.Ok) (st : Store) : run (n + 8) 80 [mD m] st = .ok (oN m.ord) st := by
  rw [run_80]
  have c1 : callD T (run (n + 7)) 75 [mD m, .int 1] st = .ok (mD (m.pw 1)) st := s_power n 1 m hm (by decide) st
  have c2 : callD T (run (n + 7)) 75 [mD m, .int 2] st = .ok (mD (m.pw 2)) st := s_power n 2 m hm (by decide) st
  have c3 : callD T (run (n + 7)) 75 [mD m, .int 3] st = .ok (mD (m.pw 3)) st := s_power n 3 m hm (by decide) st
  have c4 : callD T (run (n + 7)) 75 [mD m, .int 4] st = .ok (mD (m.pw 4)) st := s_power n 4 m hm (by decide) st
  have c6 : callD T (run (n + 7)) 75 [mD m, .int 6] st = .ok (mD (m.pw 6)) st := s_power n 6 m hm (by decide) st
  have hme : ∀ r ρ, methK T (run (n + 7)) 57 r ρ (mD m) st = (r ρ st).bind (kMe T (run (n + 7)) 75 (mD m)) := fun r ρ => methK_obj ρ st T _ r rfl
  refine fnD_rt0 ?_ (by unfold oN; split <;> simp)
  unfold Mo.ord
  by_cases h1 : m.pw 1 = .one
  · simp [B_80, startE, iSeq, forI, hme, c1, s_rest, m_eq, h1, oN]
  by_cases h2 : m.pw 2 = .one
  · simp [B_80, startE, iSeq, forI, hme, c1, c2, s_rest, m_eq, h1, h2, oN]
  by_cases h3 : m.pw 3 = .one
  · simp [B_80, startE, iSeq, forI, hme, c1, c2, c3, s_rest, m_eq, h1, h2, h3, oN]
  by_cases h4 : m.pw 4 = .one
  · simp [B_80, startE, iSeq, forI, hme, c1, c2, c3, c4, s_rest, m_eq, h1, h2, h3, h4, oN]
  by_cases h6 : m.pw 6 = .one
  · simp [B_80, startE, iSeq, forI, hme, c1, c2, c3, c4, c6, s_rest, m_eq, h1, h2, h3, h4, h6, oN]
  · simp [B_80, startE, iSeq, forI, hme, c1, c2, c3, c4, c6, s_rest, m_eq, h1, h2, h3, h4, h6, oN]
/-! ### grounds -/
def gD (a b c : Int) : D := .obj 3 [.int a, .int b, .int c]
structure Gr (a b c : Int) : Prop where
  ha : Nb 10 a
  hb : Nb 10 b
  hc : Nb 10 c
  pos : 0 < a
  def' : b * b < 4 * a * c
theorem noRef_gD (n : Nat) (a b c : Int) : noRef n (gD a b c) = true := by simp [gD]
theorem fk_ga (d : D) (ρ : Ev) (st : Store) : fldK T 46 d ρ (.ref st.length) (st ++ [.ins 3 []]) = .nx ρ (st ++ [.ins 3 [(46, d)]]) := fk_new d ρ st rfl
theorem fk_gb (d e : D) (ρ : Ev) (st : Store) : fldK T 47 d ρ (.ref st.length) (st ++ [.ins 3 [(46, e)]]) = .nx ρ (st ++ [.ins 3 [(46, e), (47, d)]]) := fk_new d ρ st rfl
theorem fk_gc (d e f : D) (ρ : Ev) (st : Store) : fldK T 48 d ρ (.ref st.length) (st ++ [.ins 3 [(46, e), (47, f)]]) = .nx ρ (st ++ [.ins 3 [(46, e), (47, f), (48, d)]]) := fk_new d ρ st rfl
theorem fd_ga (k : Fn) (a b c : Int) (st : Store) : fldD T k 46 (gD a b c) st = .ok (.int a) st := fld_obj st rfl rfl
theorem fd_gb (k : Fn) (a b c : Int) (st : Store) : fldD T k 47 (gD a b c) st = .ok (.int b) st := fld_obj st rfl rfl
theorem fd_gc (k : Fn) (a b c : Int) (st : Store) : fldD T k 48 (gD a b c) st = .ok (.int c) st := fld_obj st rfl rfl
theorem Nb.four : Nb 3 4 := by unfold Nb; decide
theorem Nb.two : Nb 2 2 := by unfold Nb; decide
theorem s_mkG (n : Nat) (a b c : Int) (g : Gr a b c) (st : Store) : mkD T (run (n + 1)) 3 [.int a, .int b, .int c] st = .ok (gD a b c) st := by
  refine mkD_new (f := 81) (fs := [(46, .int a), (47, .int b), (48, .int c)]) rfl ?_ rfl (by simp)
  rw [cl_81_4, run_81]
  refine fnD_init (ρ := [some (.ref st.length), some (.int a), some (.int b), some (.int c), some (.int c)]) ?_ (by simp)
  have m1 := Nb.four.ok g.ha (by decide)
  have m2 := (Nb.four.mul g.ha).ok g.hc (by decide)
  have m3 := g.hb.ok g.hb (by decide)
  have p1 : ¬ a ≤ 0 := by have := g.pos; omega
  have p2 : ¬ 4 * a * c ≤ b * b := by have := g.def'; omega
  simp [B_81, startE, iSeq, forI, ib_mul, m1, m2, m3, p1, p2, fk_ga, fk_gb, fk_gc]
def Q (a b c : Int) (x y : Rat) : Rat := x * (a * x + b * y) + c * y * y
def P (a b c : Int) (x y z w : Rat) : Rat := x * ((2 * a : Int) * z + b * w) + y * (b * z + (2 * c : Int) * w)
theorem s_measure (n : Nat) (a b c : Int) (g : Gr a b c) (x y : Rat) (hx : Sz 900 x) (hy : Sz 900 y) (st : Store) : run (n + 4) 83 [gD a b c, pD x y] st = .ok (rD (Q a b c x y)) st := by
  rw [run_83]
  refine fnD_rt0 ?_ (noRef_rD _ _)
  have ka := g.ha.mono (b' := 4000) (by decide)
  have kb := g.hb.mono (b' := 4000) (by decide)
  have kc := g.hc.mono (b' := 4000) (by decide)
  have kx := hx.mono (b' := 4000) (by decide)
  have ky := hy.mono (b' := 4000) (by decide)
  have sa : Sz 10 (a : Rat) := Sz.int g.ha (by decide)
  have sb : Sz 10 (b : Rat) := Sz.int g.hb (by decide)
  have sc : Sz 10 (c : Rat) := Sz.int g.hc (by decide)
  have k1 := (sa.mul hx).mono (b' := 4000) (by decide)
  have k2 := (sb.mul hy).mono (b' := 4000) (by decide)
  have k3 := ((sa.mul hx).add (sb.mul hy)).mono (b' := 4000) (by decide)
  have k4 := (hx.mul ((sa.mul hx).add (sb.mul hy))).mono (b' := 4000) (by decide)
  have k5 := (sc.mul hy).mono (b' := 4000) (by decide)
  have k6 := ((sc.mul hy).mul hy).mono (b' := 4000) (by decide)
  simp [B_83, startE, iso_pD, fd_x, fd_y, fd_ga, fd_gb, fd_gc, b_mul, b_rmul, b_add, ka, kb, kc, kx, ky, k1, k2, k3, k4, k5, k6, Q]
theorem s_pair (n : Nat) (a b c : Int) (g : Gr a b c) (x y z w : Rat) (hx : Sz 900 x) (hy : Sz 900 y) (hz : Sz 900 z) (hw : Sz 900 w) (st : Store) : run (n + 4) 84 [gD a b c, pD x y, pD z w] st = .ok (rD (P a b c x y z w)) st := by
  rw [run_84]
  refine fnD_rt0 ?_ (noRef_rD _ _)
  have m1 := Nb.two.ok g.ha (by decide)
  have m2 := Nb.two.ok g.hc (by decide)
  have ka := (Nb.two.mul g.ha).mono (b' := 4000) (by decide)
  have kb := g.hb.mono (b' := 4000) (by decide)
  have kc := (Nb.two.mul g.hc).mono (b' := 4000) (by decide)
  have kx := hx.mono (b' := 4000) (by decide)
  have ky := hy.mono (b' := 4000) (by decide)
  have kz := hz.mono (b' := 4000) (by decide)
  have kw := hw.mono (b' := 4000) (by decide)
  have sa : Sz 12 ((2 * a : Int) : Rat) := Sz.int (Nb.two.mul g.ha) (by decide)
  have sb : Sz 10 (b : Rat) := Sz.int g.hb (by decide)
  have sc : Sz 12 ((2 * c : Int) : Rat) := Sz.int (Nb.two.mul g.hc) (by decide)
  have k1 := (sa.mul hz).mono (b' := 4000) (by decide)
  have k2 := (sb.mul hw).mono (b' := 4000) (by decide)
  have k3 := ((sa.mul hz).add (sb.mul hw)).mono (b' := 4000) (by decide)
  have k4 := (hx.mul ((sa.mul hz).add (sb.mul hw))).mono (b' := 4000) (by decide)
  have k5 := (sb.mul hz).mono (b' := 4000) (by decide)
  have k6 := (sc.mul hw).mono (b' := 4000) (by decide)
  have k7 := ((sb.mul hz).add (sc.mul hw)).mono (b' := 4000) (by decide)
  have k8 := (hy.mul ((sb.mul hz).add (sc.mul hw))).mono (b' := 4000) (by decide)
  simp [-Rat.intCast_mul, B_84, startE, iSeq, forI, iso_pD, fd_x, fd_y, fd_ga, fd_gb, fd_gc, ib_mul, b_mul, b_rmul, b_add, m1, m2, ka, kb, kc, kx, ky, kz, kw, k1, k2, k3, k4, k5, k6, k7, k8, P]
end G39
namespace G39
open PySem PySem.Spec PyProof.Rows L2 Gm
theorem s_over_i (n : Nat) (p : Rat) (j : Int) (st : Store) (hp : Sz 4000 p) (hj : Nb 4000 j) (h0 : j ≠ 0) : run (n + 4) 60 [rD p, .int j] st = .ok (rD (p / (j : Rat))) st := by
  have hq := Sz.int hj (by decide)
  have hz : (j : Rat).num ≠ 0 := by simpa using h0
  have hz2 : ((j : Rat).num == 0) = false := by simpa using h0
  have hd : (p.den : Int) * (j : Rat).num ≠ 0 := Int.mul_ne_zero (Rat.den_ne' p) hz
  have e : p / (j : Rat) = Rat.divInt (p.num * (j : Rat).den) (p.den * (j : Rat).num) := by
    rw [Rat.div_def, Rat.inv_def]
    conv => lhs; rw [← Rat.num_divInt_den p]
    rw [Rat.divInt_mul_divInt]
  rw [e, run_60]
  refine fnD_rt0 ?_ (noRef_rD _ _)
  simp [-Rat.num_intCast, -Rat.den_intCast, -Rat.divInt_ofNat, B_60, startE, s_ratio_of_int, fd_top, fd_bottom, hz2, ib_mul, hp.num.ok hq.den (by decide), hp.den.ok hq.num (by decide), s_mk (n + 1) _ _ _ hd ((hp.den.mul hq.num).mono (by decide))]
theorem hm_over (c : Fn) (r : Fa) (ρ : Ev) (q : Rat) (st : Store) : methK T c 55 r ρ (rD q) st = (r ρ st).bind (kMe T c 60 (rD q)) := methK_obj ρ st T c r rfl
theorem hm_measure (k : Fn) (r : Fa) (ρ : Ev) (a b c : Int) (st : Store) : methK T k 53 r ρ (gD a b c) st = (r ρ st).bind (kMe T k 83 (gD a b c)) := methK_obj ρ st T k r rfl
theorem hm_pair (k : Fn) (r : Fa) (ρ : Ev) (a b c : Int) (st : Store) : methK T k 56 r ρ (gD a b c) st = (r ρ st).bind (kMe T k 84 (gD a b c)) := methK_obj ρ st T k r rfl
theorem hm_stretch (k : Fn) (r : Fa) (ρ : Ev) (m : Mo) (st : Store) : methK T k 58 r ρ (mD m) st = (r ρ st).bind (kMe T k 77 (mD m)) := methK_obj ρ st T k r rfl
theorem hm_factor (k : Fn) (r : Fa) (ρ : Ev) (m : Mo) (st : Store) : methK T k 49 r ρ (mD m) st = (r ρ st).bind (kMe T k 76 (mD m)) := methK_obj ρ st T k r rfl
theorem hm_kind (k : Fn) (r : Fa) (ρ : Ev) (m : Mo) (st : Store) : methK T k 52 r ρ (mD m) st = (r ρ st).bind (kMe T k 78 (mD m)) := methK_obj ρ st T k r rfl
theorem hm_kept (k : Fn) (r : Fa) (ρ : Ev) (m : Mo) (st : Store) : methK T k 51 r ρ (mD m) st = (r ρ st).bind (kMe T k 79 (mD m)) := methK_obj ρ st T k r rfl
theorem hm_order (k : Fn) (r : Fa) (ρ : Ev) (m : Mo) (st : Store) : methK T k 54 r ρ (mD m) st = (r ρ st).bind (kMe T k 80 (mD m)) := methK_obj ρ st T k r rfl
theorem sub_new0 (x y : D) (st : Store) : subD (.ref st.length) (.int 0) (st ++ [.lst [x, y]]) = .ok x (st ++ [.lst [x, y]]) := by
  unfold subD
  simp only [at_end]
  simp
theorem sub_new1 (x y : D) (st : Store) : subD (.ref st.length) (.int 1) (st ++ [.lst [x, y]]) = .ok y (st ++ [.lst [x, y]]) := by
  unfold subD
  simp only [at_end]
  simp
theorem newLst_ (ds : List D) (st : Store) : newLst ds st = .ok (.ref st.length) (st ++ [.lst ds]) := rfl
/-- what is told of the ends -/
noncomputable def Mo.str (a b c : Int) (m : Mo) : Option Rat := if Q a b c m.b m.d = Q a b c m.a m.c / (a : Rat) * (c : Rat) ∧ P a b c m.a m.c m.b m.d = Q a b c m.a m.c / (a : Rat) * (b : Rat) then some (Q a b c m.a m.c / (a : Rat)) else none
def oD : Option Rat → D
  | none => .non
  | some q => rD q
theorem Q_sz {s : Nat} {a b c : Int} {x y : Rat} (g : Gr a b c) (hx : Sz s x) (hy : Sz s y) : Sz (4 * s + 4 * s + 50) (Q a b c x y) := by
  have sa : Sz 10 (a : Rat) := Sz.int g.ha (by decide)
  have sb : Sz 10 (b : Rat) := Sz.int g.hb (by decide)
  have sc : Sz 10 (c : Rat) := Sz.int g.hc (by decide)
  exact ((hx.mul ((sa.mul hx).add (sb.mul hy))).add ((sc.mul hy).mul hy)).mono (by omega)
theorem s_stretch (n : Nat) (a b c : Int) (g : Gr a b c) (m : Mo) (hm : m.Sm 60) (st : Store) : run (n + 6) 77 [mD m, gD a b c] st = .ok (oD (m.str a b c)) st := by
  rw [run_77]
  refine fnD_rtg (e := [.lst [pD m.a m.c, pD m.b m.d]]) ?_ (by unfold oD; split <;> simp [noRef_rD])
  have k := hm.mono (t := 900) (by decide)
  have k2 := hm.mono (t := 950) (by decide)
  have l1 : ∀ st, run (n + 5) 8 [tD m.a m.b m.c m.d, pD 0 0, pD 1 0] st = .ok (pD m.a m.c) st := fun st => by
    rw [s_led n m.a m.b m.c m.d 1 0 0 0 st k2.a k2.b k2.c k2.d (Sz.one _ (by decide)) (Sz.zero _ (by decide)) (Sz.zero _ (by decide)) (Sz.zero _ (by decide))]
    rw [show m.a * 1 + m.b * 0 + 0 = m.a by grind, show m.c * 1 + m.d * 0 + 0 = m.c by grind]
  have l2 : ∀ st, run (n + 5) 8 [tD m.a m.b m.c m.d, pD 0 0, pD 0 1] st = .ok (pD m.b m.d) st := fun st => by
    rw [s_led n m.a m.b m.c m.d 0 1 0 0 st k2.a k2.b k2.c k2.d (Sz.zero _ (by decide)) (Sz.one _ (by decide)) (Sz.zero _ (by decide)) (Sz.zero _ (by decide))]
    rw [show m.a * 0 + m.b * 1 + 0 = m.b by grind, show m.c * 0 + m.d * 1 + 0 = m.d by grind]
  have q1 := (Q_sz g hm.a hm.c).mono (b' := 4000) (by decide)
  have ka := g.ha.mono (b' := 4000) (by decide)
  have kb := g.hb.mono (b' := 4000) (by decide)
  have kc := g.hc.mono (b' := 4000) (by decide)
  have sa : Sz 10 (a : Rat) := Sz.int g.ha (by decide)
  have ha0 : a ≠ 0 := by have := g.pos; omega
  have q2 : Sz 4000 (Q a b c m.a m.c / (a : Rat)) := by
    rw [Rat.div_def]
    refine ((Q_sz g hm.a hm.c).mul (b' := 10) ?_).mono (by decide)
    rw [Rat.inv_def]
    exact Sz.of sa.den sa.num (by simpa using ha0)
  have o1 : ∀ st, run (n + 5) 60 [rD (Q a b c m.a m.c), .int a] st = .ok (rD (Q a b c m.a m.c / (a : Rat))) st := fun st => s_over_i (n + 1) _ a st q1 ka ha0
  unfold Mo.str
  by_cases h1 : Q a b c m.b m.d = Q a b c m.a m.c / (a : Rat) * (c : Rat)
  · by_cases h2 : P a b c m.a m.c m.b m.d = Q a b c m.a m.c / (a : Rat) * (b : Rat)
    · simp [B_77, startE, fd_table, s_mkP_i, l1, l2, newLst_, sub_new0, sub_new1, hm_measure, hm_over, hm_pair, s_measure, s_pair, g, k.a, k.b, k.c, k.d, fd_ga, fd_gb, fd_gc, o1, b_mul_i, q2, ka, kb, kc, b_eq, h1, h2, oD]
    · simp [B_77, startE, fd_table, s_mkP_i, l1, l2, newLst_, sub_new0, sub_new1, hm_measure, hm_over, hm_pair, s_measure, s_pair, g, k.a, k.b, k.c, k.d, fd_ga, fd_gb, fd_gc, o1, b_mul_i, q2, ka, kb, kc, b_eq, h1, h2, oD]
  · simp [B_77, startE, fd_table, s_mkP_i, l1, l2, newLst_, sub_new0, sub_new1, hm_measure, hm_over, hm_pair, s_measure, s_pair, g, k.a, k.b, k.c, k.d, fd_ga, fd_gb, fd_gc, o1, b_mul_i, q2, ka, kb, kc, b_eq, h1, oD]
end G39
namespace G39
open PySem PySem.Spec PyProof.Rows L2 Gm
noncomputable def Mo.kin (a b c : Int) (m : Mo) : D := if m.str a b c = some 1 then (if m.a = 1 ∧ m.b = 0 ∧ m.c = 0 ∧ m.d = 1 then (if m.x = 0 ∧ m.y = 0 then .str "rest" else .str "shift") else if m.det = 1 then .str "turn" else if m.a * m.x + m.b * m.y + m.x = 0 ∧ m.c * m.x + m.d * m.y + m.y = 0 then .str "mirror" else .str "glide") else .non
theorem ne_non (c : Fn) (j : Int) (st : Store) : eqB T c true .non (.int j) st = .ok (.bl true) st := rfl
theorem one_a : Mo.one.a = 1 := rfl
theorem one_b : Mo.one.b = 0 := rfl
theorem one_c : Mo.one.c = 0 := rfl
theorem one_d : Mo.one.d = 1 := rfl
theorem s_mfactor (n : Nat) (m : Mo) (hm : m.Sm 60) (st : Store) : run (n + 5) 76 [mD m] st = .ok (rD m.det) st := by
  have k2 := hm.mono (t := 1900) (by decide)
  rw [run_76]
  refine fnD_rt0 ?_ (noRef_rD _ _)
  simp [B_76, startE, fd_table, s_factor, k2.a, k2.b, k2.c, k2.d, Mo.det]
theorem s_mcall (n : Nat) (m : Mo) (hm : m.Sm 60) (x y : Rat) (hx : Sz 900 x) (hy : Sz 900 y) (st : Store) : run (n + 6) 72 [mD m, pD x y] st = .ok (pD (m.a * x + m.b * y + m.x) (m.c * x + m.d * y + m.y)) st := by
  have k2 := hm.mono (t := 950) (by decide)
  rw [run_72]
  refine fnD_rt0 ?_ (noRef_pD _ _ _)
  simp [B_72, startE, fd_table, fd_shift, s_led, k2.a, k2.b, k2.c, k2.d, k2.x, k2.y, hx.mono (b' := 950) (by decide), hy.mono (b' := 950) (by decide)]
theorem s_kind (n : Nat) (a b c : Int) (g : Gr a b c) (m : Mo) (hm : m.Sm 60) (st : Store) : run (n + 7) 78 [mD m, gD a b c] st = .ok (m.kin a b c) st := by
  rw [run_78]
  refine fnD_rt0 ?_ (by unfold Mo.kin; (repeat' split) <;> simp)
  have hs := s_stretch n a b c g m hm
  have k2 := hm.mono (t := 950) (by decide)
  have k4 := hm.mono (t := 4000) (by decide)
  have hr := s_rest n
  have e1 : ∀ q st, eqB T (run (n + 6)) true (rD q) (.int 1) st = .ok (.bl (decide (q ≠ 1))) st := fun q st => by
    rw [b_eq_i (n + 2) q 1 st true]
    simp
  have e2 : ∀ q st, eqB T (run (n + 6)) false (rD q) (.int 1) st = .ok (.bl (decide (q = 1))) st := fun q st => by
    rw [b_eq_i (n + 2) q 1 st false]
    simp
  have l0 : ∀ st, run (n + 6) 8 [tD m.a m.b m.c m.d, pD 0 0, pD m.x m.y] st = .ok (pD (m.a * m.x + m.b * m.y) (m.c * m.x + m.d * m.y)) st := fun st => by
    rw [s_led (n + 1) m.a m.b m.c m.d m.x m.y 0 0 st k2.a k2.b k2.c k2.d k2.x k2.y (Sz.zero _ (by decide)) (Sz.zero _ (by decide))]
    rw [show m.a * m.x + m.b * m.y + 0 = m.a * m.x + m.b * m.y by grind, show m.c * m.x + m.d * m.y + 0 = m.c * m.x + m.d * m.y by grind]
  have z1 := ((hm.a.mul hm.x).add (hm.b.mul hm.y)).mono (b' := 4000) (by decide)
  have z2 := ((hm.c.mul hm.x).add (hm.d.mul hm.y)).mono (b' := 4000) (by decide)
  unfold Mo.kin
  cases h : m.str a b c with
  | none =>
    rw [h] at hs
    simp [B_78, startE, hm_stretch, hs, oD, ne_non]
  | some q =>
    rw [h] at hs
    by_cases h1 : q = 1
    · subst h1
      by_cases h2 : m.a = 1 ∧ m.b = 0 ∧ m.c = 0 ∧ m.d = 1
      · obtain ⟨p1, p2, p3, p4⟩ := h2
        by_cases h3 : m.x = 0 ∧ m.y = 0
        · obtain ⟨p5, p6⟩ := h3
          simp [B_78, startE, hm_stretch, hs, oD, e1, fd_table, fd_shift, hr, one_a, one_b, one_c, one_d, b_teq, p1, p2, p3, p4, tru_pD, p5, p6]
        · have h3' : decide (¬ (m.x = 0 ∧ m.y = 0)) = true := decide_eq_true h3
          have h4 : ∀ st, truD T (run (n + 6)) (pD m.x m.y) st = .ok true st := fun st => by rw [tru_pD (n + 4), h3']
          rw [if_neg h3]
          simp [B_78, startE, hm_stretch, hs, oD, e1, fd_table, fd_shift, hr, one_a, one_b, one_c, one_d, b_teq, p1, p2, p3, p4, h4]
      · have ht : ∀ st, eqB T (run (n + 6)) false (tD m.a m.b m.c m.d) (tD 1 0 0 1) st = .ok (.bl false) st := fun st => by
          rw [b_teq (n + 4), decide_eq_false h2]
          rfl
        rw [if_neg h2]
        by_cases h3 : m.det = 1
        · simp [B_78, startE, hm_stretch, hs, oD, e1, e2, fd_table, fd_shift, hr, one_a, one_b, one_c, one_d, ht, hm_factor, s_mfactor, hm, h3]
        · by_cases h4 : m.a * m.x + m.b * m.y + m.x = 0 ∧ m.c * m.x + m.d * m.y + m.y = 0
          · have h5 : ∀ st, truD T (run (n + 6)) (pD (m.a * m.x + m.b * m.y + m.x) (m.c * m.x + m.d * m.y + m.y)) st = .ok false st := fun st => by
              rw [tru_pD (n + 4)]
              simp [h4.1, h4.2]
            rw [if_pos h4]
            simp [B_78, startE, hm_stretch, hs, oD, e1, e2, fd_table, fd_shift, hr, one_a, one_b, one_c, one_d, ht, hm_factor, s_mfactor, hm, h3, s_mkP_i, l0, p_add, z1, z2, k4.x, k4.y, h5]
          · have h5 : ∀ st, truD T (run (n + 6)) (pD (m.a * m.x + m.b * m.y + m.x) (m.c * m.x + m.d * m.y + m.y)) st = .ok true st := fun st => by
              rw [tru_pD (n + 4), decide_eq_true h4]
            rw [if_neg h4]
            simp [B_78, startE, hm_stretch, hs, oD, e1, e2, fd_table, fd_shift, hr, one_a, one_b, one_c, one_d, ht, hm_factor, s_mfactor, hm, h3, s_mkP_i, l0, p_add, z1, z2, k4.x, k4.y, h5]
    · simp [B_78, startE, hm_stretch, hs, oD, e1, h1]
/-! the point that stays -/
def Mo.fac (m : Mo) : Rat := (m.a - 1) * (m.d - 1) - m.b * m.c
noncomputable def Mo.kx (m : Mo) : Rat := (m.b * m.y - (m.d - 1) * m.x) / m.fac
noncomputable def Mo.ky (m : Mo) : Rat := (m.c * m.x - (m.a - 1) * m.y) / m.fac
theorem Sz_inv {p : Rat} {b : Nat} (h : Sz b p) (h0 : p ≠ 0) : Sz b p⁻¹ := by
  rw [Rat.inv_def]
  exact Sz.of h.den h.num (fun z => h0 (Rat.num_eq_zero.mp z))
theorem Sz_div {p q : Rat} {b b' : Nat} (h : Sz b p) (h' : Sz b' q) (h0 : q ≠ 0) : Sz (b + b') (p / q) := by
  rw [Rat.div_def]
  exact h.mul (Sz_inv h' h0)
theorem Nb.one : Nb 1 1 := by unfold Nb; decide
theorem one_cast : ((1 : Int) : Rat) = 1 := rfl
section
variable (m : Mo) (hm : m.Sm 60)
include hm
theorem fac_sz : Sz 250 m.fac := (((hm.a.sub (Sz.one 1 (by decide))).mul (hm.d.sub (Sz.one 1 (by decide)))).sub (hm.b.mul hm.c)).mono (by decide)
theorem kx_sz (h : m.fac ≠ 0) : Sz 500 m.kx := (Sz_div ((hm.b.mul hm.y).sub ((hm.d.sub (Sz.one 1 (by decide))).mul hm.x)) (fac_sz m hm) h).mono (by decide)
theorem ky_sz (h : m.fac ≠ 0) : Sz 500 m.ky := (Sz_div ((hm.c.mul hm.x).sub ((hm.a.sub (Sz.one 1 (by decide))).mul hm.y)) (fac_sz m hm) h).mono (by decide)
theorem s_kept (n : Nat) (st : Store) : run (n + 5) 79 [mD m] st = .ok (if m.fac = 0 then .non else pD m.kx m.ky) st := by
  rw [run_79]
  refine fnD_rt0 ?_ (by split <;> simp [noRef_pD])
  have k := hm.mono (t := 4000) (by decide)
  have w1 : ∀ q, Sz 60 q → ∀ st, binD T (run (n + 4)) .Sub (rD q) (.int 1) st = .ok (rD (q - 1)) st := fun q hq st => b_sub_i n q 1 st (hq.mono (by decide)) (Nb.one.mono (by decide))
  have a1 : Sz 4000 (m.a - 1) := (hm.a.sub (Sz.one 1 (by decide))).mono (by decide)
  have d1 : Sz 4000 (m.d - 1) := (hm.d.sub (Sz.one 1 (by decide))).mono (by decide)
  have ad := ((hm.a.sub (Sz.one 1 (by decide))).mul (hm.d.sub (Sz.one 1 (by decide)))).mono (b' := 4000) (by decide)
  have bc := (hm.b.mul hm.c).mono (b' := 4000) (by decide)
  have bY := (hm.b.mul hm.y).mono (b' := 4000) (by decide)
  have cx := (hm.c.mul hm.x).mono (b' := 4000) (by decide)
  have dx := ((hm.d.sub (Sz.one 1 (by decide))).mul hm.x).mono (b' := 4000) (by decide)
  have ay := ((hm.a.sub (Sz.one 1 (by decide))).mul hm.y).mono (b' := 4000) (by decide)
  have nx := ((hm.b.mul hm.y).sub ((hm.d.sub (Sz.one 1 (by decide))).mul hm.x)).mono (b' := 4000) (by decide)
  have ny := ((hm.c.mul hm.x).sub ((hm.a.sub (Sz.one 1 (by decide))).mul hm.y)).mono (b' := 4000) (by decide)
  have f1 := (fac_sz m hm).mono (b' := 4000) (by decide)
  have e0 : ∀ st, eqB T (run (n + 4)) false (rD m.fac) (.int 0) st = .ok (.bl (decide (m.fac = 0))) st := fun st => by
    rw [b_eq_i n m.fac 0 st false]
    simp
  have tx : (m.b * m.y - (m.d - 1) * m.x) / m.fac = m.kx := rfl
  have ty : (m.c * m.x - (m.a - 1) * m.y) / m.fac = m.ky := rfl
  have tf : (m.a - 1) * (m.d - 1) - m.b * m.c = m.fac := rfl
  by_cases h : m.fac = 0
  · rw [if_pos h]
    rw [decide_eq_true h] at e0
    simp [B_79, startE, fd_table, tD, w1, hm.a, hm.d, b_mul, b_sub, a1, d1, k.b, k.c, ad, bc, tf, e0]
  · simp [B_79, startE, fd_table, fd_shift, fd_x, fd_y, tD, w1, hm.a, hm.d, b_mul, b_sub, a1, d1, k.b, k.c, k.x, k.y, ad, bc, tf, e0, h, bY, cx, dx, ay, hm_over, s_over, nx, ny, f1, tx, ty, s_mkP_r]
end
end G39
namespace G39
open PySem PySem.Spec PyProof.Rows L2 Gm
/-! ### the law's own fractions -/
def rT (q : Rat) : D := .tup [.int q.num, .int q.den]
theorem noRef_rT (n : Nat) (q : Rat) : noRef n (rT q) = true := by simp [rT]
theorem rT_0 (q : Rat) (st : Store) : subD (rT q) (.int 0) st = .ok (.int q.num) st := by simp [rT]
theorem rT_1 (q : Rat) (st : Store) : subD (rT q) (.int 1) st = .ok (.int q.den) st := by simp [rT]
theorem lgcd_loop (c : Fn) : ∀ (b a : Nat) (st : Store), ∃ m, whileN (tOf (truD T c) (xBin (ordD T c .Gt) (xVar 1) (xK (.int 0)))) (sPar 0 1 (aCons (xVar 1) (aCons (xBin (binD T c .Mod) (xBi bInt (aCons (xVar 0) aNil)) (xVar 1)) aNil))) m [some (.int a), some (.int b)] st = .nx [some (.int (Nat.gcd a b)), some (.int 0)] st := by
  intro b
  induction b using Nat.strongRecOn with
  | ind b ih =>
    intro a st
    by_cases hb : b = 0
    · subst hb
      refine ⟨1, ?_⟩
      unfold whileN
      simp
    · obtain ⟨m, hm⟩ := ih (a % b) (Nat.mod_lt _ (Nat.pos_of_ne_zero hb)) b st
      refine ⟨m + 1, ?_⟩
      have hz : (b : Int) ≠ 0 := by omega
      rw [gcd_step a b hb] at hm
      unfold whileN
      simp [hb, hz, Nat.pos_of_ne_zero hb, ib_mod, fmod_nat]
      simpa using hm
theorem s_lgcd (n : Nat) (i j : Int) (st : Store) : run (n + 1) 15 [.int i, .int j] st = .ok (.int (Int.gcd i j)) st := by
  rw [run_15]
  refine fnD_rt0 ?_ rfl
  obtain ⟨m, hm⟩ := lgcd_loop (run n) j.natAbs i.natAbs st
  have hw := sWhile_eq m hm (by simp)
  simp only [B_15, ap_sSeq, ap_sPar, ap_aCons, ap_xBi, ap_xVar, ap_aNil, startE, ap_sRet]
  simp [abs_if]
  rw [hw]
  simp [Int.gcd]
theorem s_lcut (n : Nat) (i j : Int) (st : Store) (hj : j ≠ 0) (hs : Nb 8000 j) : run (n + 2) 16 [.tup [.int i, .int j]] st = .ok (rT (Rat.divInt i j)) st := by
  rw [run_16]
  have hc : com i j ≠ 0 ∧ (com i j).natAbs.log2 < 9000 := ⟨com_ne hj, log2_lt (Nat.lt_of_le_of_lt (com_le hj) (Nat.lt_of_lt_of_le hs (Nat.pow_le_pow_right (by decide) (by decide)))) (by decide)⟩
  refine fnD_rt0 ?_ (noRef_rT _ _)
  unfold rT
  rw [← cut_num hj, ← cut_den hj]
  by_cases hn : j < 0
  · have e : -(Int.gcd i j : Int) = com i j := by unfold com; rw [if_pos hn]
    simp [B_16, startE, hn, s_lgcd, e, ib_fdiv, hc]
  · have e : (Int.gcd i j : Int) = com i j := by unfold com; rw [if_neg hn]
    simp [B_16, startE, hn, s_lgcd, e, ib_fdiv, hc]
theorem s_ltimes' (n : Nat) (i j k l : Int) (st : Store) (h1 : Nb 4000 i) (h2 : Nb 4000 j) (h3 : Nb 4000 k) (h4 : Nb 4000 l) (h0 : j * l ≠ 0) : run (n + 3) 18 [.tup [.int i, .int j], .tup [.int k, .int l]] st = .ok (rT (Rat.divInt (i * k) (j * l))) st := by
  rw [run_18]
  refine fnD_rt0 ?_ (noRef_rT _ _)
  simp [B_18, startE, ib_mul, h1.ok h3 (by decide), h2.ok h4 (by decide), s_lcut n _ _ _ h0 ((h2.mul h4).mono (by decide))]
theorem s_ltimes (n : Nat) (p q : Rat) (st : Store) (hp : Sz 4000 p) (hq : Sz 4000 q) : run (n + 3) 18 [rT p, rT q] st = .ok (rT (p * q)) st := by
  rw [← rat_mul]
  exact s_ltimes' n _ _ _ _ st hp.num hp.den hq.num hq.den (Int.mul_ne_zero (Rat.den_ne' p) (Rat.den_ne' q))
theorem s_lsum (n : Nat) (p q : Rat) (st : Store) (hp : Sz 4000 p) (hq : Sz 4000 q) : run (n + 3) 17 [rT p, rT q] st = .ok (rT (p + q)) st := by
  rw [← rat_add, run_17]
  refine fnD_rt0 ?_ (noRef_rT _ _)
  simp [-Rat.divInt_ofNat, B_17, startE, rT_0, rT_1, ib_mul, hp.num.ok hq.den (by decide), hp.den.ok hq.den (by decide), hq.num.ok hp.den (by decide), s_lcut n _ _ _ (Int.mul_ne_zero (Rat.den_ne' p) (Rat.den_ne' q)) ((hp.den.mul hq.den).mono (by decide))]
theorem rT_int (i : Int) : rT (i : Rat) = .tup [.int i, .int 1] := by simp [rT]
theorem rT_m1 : D.tup [.int (-1), .int 1] = rT (-1) := by
  rw [← rT_int]
  rfl
theorem rT_neg (q : Rat) : D.tup [.int (-q.num), .int q.den] = rT (-q) := by simp [rT, Rat.neg_num, Rat.neg_den]
theorem Sz.m1' : Sz 1 (-1) := (Sz.one 1 (by decide)).neg
/-- a table of the law -/
def tT (a b c d : Rat) : D := .tup [.tup [rT a, rT b], .tup [rT c, rT d]]
def pT (x y : Rat) : D := .tup [rT x, rT y]
theorem noRef_tT (n : Nat) (a b c d : Rat) : noRef n (tT a b c d) = true := by simp [tT, noRef_rT]
theorem noRef_pT (n : Nat) (x y : Rat) : noRef n (pT x y) = true := by simp [pT, noRef_rT]
theorem tT_0 (a b c d : Rat) (st : Store) : subD (tT a b c d) (.int 0) st = .ok (.tup [rT a, rT b]) st := by simp [tT]
theorem tT_1 (a b c d : Rat) (st : Store) : subD (tT a b c d) (.int 1) st = .ok (.tup [rT c, rT d]) st := by simp [tT]
theorem pT_0 (x y : Rat) (st : Store) : subD (pT x y) (.int 0) st = .ok (rT x) st := by simp [pT]
theorem pT_1 (x y : Rat) (st : Store) : subD (pT x y) (.int 1) st = .ok (rT y) st := by simp [pT]
theorem s_told (n : Nat) (q : Rat) (st : Store) : run (n + 1) 20 [rD q] st = .ok (rT q) st := by
  rw [run_20]
  refine fnD_rt0 ?_ (noRef_rT _ _)
  simp [B_20, startE, fd_top, fd_bottom, rT]
theorem s_spot (n : Nat) (x y : Rat) (st : Store) : run (n + 2) 23 [pD x y] st = .ok (pT x y) st := by
  rw [run_23]
  refine fnD_rt0 ?_ (noRef_pT _ _ _)
  simp [B_23, startE, fd_x, fd_y, s_told, pT]
theorem s_lfactor (n : Nat) (a b c d : Rat) (ha : Sz 1900 a) (hb : Sz 1900 b) (hc : Sz 1900 c) (hd : Sz 1900 d) (st : Store) : run (n + 4) 25 [tT a b c d] st = .ok (rT (a * d - b * c)) st := by
  rw [run_25]
  refine fnD_rt0 ?_ (noRef_rT _ _)
  have k : ∀ {q : Rat}, Sz 1900 q → Sz 4000 q := fun h => h.mono (by decide)
  have m1 := (hb.mul hc).mono (b' := 4000) (by decide)
  have m2 := (ha.mul hd).mono (b' := 4000) (by decide)
  simp [B_25, startE, tT_0, tT_1, s_ltimes, k, ha, hb, hc, hd, rT_0, rT_1, rT_neg, s_lsum, m2, m1.neg]
  rw [Rat.sub_eq_add_neg]
end G39
namespace G39
open PySem PySem.Spec PyProof.Rows L2 Gm
theorem eq_T2 (c : Fn) (neg : Bool) (i j k l : Int) (st : Store) : eqB T c neg (.tup [.int i, .int j]) (.tup [.int k, .int l]) st = .ok (.bl ((i == k && (j == l && true)) != neg)) st := rfl
theorem eq_T4 (c : Fn) (neg : Bool) (i j k l i' j' k' l' : Int) (st : Store) : eqB T c neg (.tup [.tup [.int i, .int j], .tup [.int k, .int l]]) (.tup [.tup [.int i', .int j'], .tup [.int k', .int l']]) st = .ok (.bl ((i == i' && (j == j' && true) && (k == k' && (l == l' && true) && true)) != neg)) st := rfl
theorem eq_T8 (c : Fn) (neg : Bool) (i j k l m n o p i' j' k' l' m' n' o' p' : Int) (st : Store) : eqB T c neg (.tup [.tup [.tup [.int i, .int j], .tup [.int k, .int l]], .tup [.tup [.int m, .int n], .tup [.int o, .int p]]]) (.tup [.tup [.tup [.int i', .int j'], .tup [.int k', .int l']], .tup [.tup [.int m', .int n'], .tup [.int o', .int p']]]) st = .ok (.bl (((i == i' && (j == j' && true) && (k == k' && (l == l' && true) && true)) && ((m == m' && (n == n' && true) && (o == o' && (p == p' && true) && true)) && true)) != neg)) st := rfl
theorem nd_eq (p q : Rat) : (p.num == q.num && ((p.den : Int) == (q.den : Int) && true)) = decide (p = q) := by
  rw [Bool.eq_iff_iff]
  simp only [Bool.and_eq_true, beq_iff_eq, decide_eq_true_eq, and_true]
  exact Rat.ext_iff' p q
theorem e_rT (c : Fn) (neg : Bool) (p q : Rat) (st : Store) : eqB T c neg (rT p) (rT q) st = .ok (.bl (decide (p = q) != neg)) st := by
  unfold rT
  rw [eq_T2, nd_eq]
theorem e_pT (c : Fn) (neg : Bool) (x y z w : Rat) (st : Store) : eqB T c neg (pT x y) (pT z w) st = .ok (.bl (decide (x = z ∧ y = w) != neg)) st := by
  unfold pT rT
  rw [eq_T4, nd_eq, nd_eq]
  simp
theorem e_tT (k : Fn) (neg : Bool) (a b c d a' b' c' d' : Rat) (st : Store) : eqB T k neg (tT a b c d) (tT a' b' c' d') st = .ok (.bl (decide (a = a' ∧ b = b' ∧ c = c' ∧ d = d') != neg)) st := by
  unfold tT rT
  rw [eq_T8, nd_eq, nd_eq, nd_eq, nd_eq]
  simp [Bool.and_assoc]
theorem raw0 : D.tup [.int 0, .int 1] = rT 0 := rfl
theorem raw1 : D.tup [.int 1, .int 1] = rT 1 := rfl
theorem rawp (x y : Rat) : D.tup [rT x, rT y] = pT x y := rfl
theorem rawt (a b c d : Rat) : D.tup [pT a b, pT c d] = tT a b c d := rfl
def gT (a b c : Int) : D := .tup [.int a, .int b, .int c]
theorem gT_0 (a b c : Int) (st : Store) : subD (gT a b c) (.int 0) st = .ok (.int a) st := by simp [gT]
theorem gT_1 (a b c : Int) (st : Store) : subD (gT a b c) (.int 1) st = .ok (.int b) st := by simp [gT]
theorem gT_2 (a b c : Int) (st : Store) : subD (gT a b c) (.int 2) st = .ok (.int c) st := by simp [gT]
section
variable (n : Nat) (a b c d a' b' c' d' x y z w : Rat) (st : Store)
theorem s_lled (h1 : Sz 950 a) (h2 : Sz 950 b) (h3 : Sz 950 c) (h4 : Sz 950 d) (h5 : Sz 950 x) (h6 : Sz 950 y) (h7 : Sz 950 z) (h8 : Sz 950 w) : run (n + 4) 26 [tT a b c d, pT z w, pT x y] st = .ok (pT (a * x + b * y + z) (c * x + d * y + w)) st := by
  rw [run_26]
  refine fnD_rtg (e := [.lst [rT (a * x + b * y + z), rT (c * x + d * y + w)]]) ?_ (noRef_pT _ _ _)
  have k : ∀ {q : Rat}, Sz 950 q → Sz 4000 q := fun h => h.mono (by decide)
  have m : ∀ {p q : Rat}, Sz 950 p → Sz 950 q → Sz 4000 (p * q) := fun h g => (h.mul g).mono (by decide)
  have s1 := ((h1.mul h5).add (h2.mul h6)).mono (b' := 4000) (by decide)
  have s2 := ((h3.mul h5).add (h4.mul h6)).mono (b' := 4000) (by decide)
  simp [B_26, startE, rng2, forI, tT_0, tT_1, pT_0, pT_1, s_ltimes, s_lsum, k, m, h1, h2, h3, h4, h5, h6, h7, h8, s1, s2, rawp]
theorem s_lproduct (h1 : Sz 950 a) (h2 : Sz 950 b) (h3 : Sz 950 c) (h4 : Sz 950 d) (h5 : Sz 950 a') (h6 : Sz 950 b') (h7 : Sz 950 c') (h8 : Sz 950 d') :
    run (n + 4) 31 [tT a b c d, tT a' b' c' d'] st = .ok (tT (a * a' + b * c') (a * b' + b * d') (c * a' + d * c') (c * b' + d * d')) st := by
  rw [run_31]
  refine fnD_rtg (e := [.lst [.tup [rT (a * a' + b * c'), rT (a * b' + b * d')], .tup [rT (c * a' + d * c'), rT (c * b' + d * d')]], .lst [rT (a * a' + b * c'), rT (a * b' + b * d')], .lst [rT (c * a' + d * c'), rT (c * b' + d * d')]]) ?_ (noRef_tT _ _ _ _ _)
  have k : ∀ {q : Rat}, Sz 950 q → Sz 4000 q := fun h => h.mono (by decide)
  have m : ∀ {p q : Rat}, Sz 950 p → Sz 950 q → Sz 4000 (p * q) := fun h g => (h.mul g).mono (by decide)
  simp [B_31, startE, rng2, forI, tT_0, tT_1, s_ltimes, s_lsum, k, m, h1, h2, h3, h4, h5, h6, h7, h8]
  rfl
end
end G39
namespace G39
open PySem PySem.Spec PyProof.Rows L2 Gm
def Ln (a b c : Int) (x y : Rat) : Rat := 0 + (a : Rat) * (x * x) + (b : Rat) * (x * y) + (c : Rat) * (y * y)
theorem Ln_Q (a b c : Int) (x y : Rat) : Ln a b c x y = Q a b c x y := by
  unfold Ln Q
  grind
theorem Ln_sz {s : Nat} {a b c : Int} {x y : Rat} (g : Gr a b c) (hx : Sz s x) (hy : Sz s y) : Sz (6 * s + 50) (Ln a b c x y) := by
  have sa : Sz 10 (a : Rat) := Sz.int g.ha (by decide)
  have sb : Sz 10 (b : Rat) := Sz.int g.hb (by decide)
  have sc : Sz 10 (c : Rat) := Sz.int g.hc (by decide)
  exact ((((Sz.zero 1 (by decide)).add (sa.mul (hx.mul hx))).add (sb.mul (hx.mul hy))).add (sc.mul (hy.mul hy))).mono (by omega)
theorem s_length (n : Nat) (a b c : Int) (g : Gr a b c) (x y : Rat) (hx : Sz 500 x) (hy : Sz 500 y) (st : Store) : run (n + 4) 33 [gT a b c, pT x y] st = .ok (rT (Ln a b c x y)) st := by
  rw [run_33]
  have sa : Sz 10 (a : Rat) := Sz.int g.ha (by decide)
  have sb : Sz 10 (b : Rat) := Sz.int g.hb (by decide)
  have sc : Sz 10 (c : Rat) := Sz.int g.hc (by decide)
  have k : ∀ {q : Rat}, Sz 500 q → Sz 4000 q := fun h => h.mono (by decide)
  have k1 : ∀ {q : Rat}, Sz 10 q → Sz 4000 q := fun h => h.mono (by decide)
  have m : ∀ {p q : Rat}, Sz 500 p → Sz 500 q → Sz 4000 (p * q) := fun h g => (h.mul g).mono (by decide)
  have m1 : ∀ {p q r : Rat}, Sz 10 r → Sz 500 p → Sz 500 q → Sz 4000 (r * (p * q)) := fun f h g => (f.mul (h.mul g)).mono (by decide)
  have z0 : Sz 4000 0 := Sz.zero _ (by decide)
  have t1 : Sz 4000 (0 + (a : Rat) * (x * x)) := ((Sz.zero 1 (by decide)).add (sa.mul (hx.mul hx))).mono (by decide)
  have t2 : Sz 4000 (0 + (a : Rat) * (x * x) + (b : Rat) * (x * y)) := (((Sz.zero 1 (by decide)).add (sa.mul (hx.mul hx))).add (sb.mul (hx.mul hy))).mono (by decide)
  have f1 : ∀ st, run (n + 3) 18 [.tup [.int a, .int 1], rT (x * x)] st = .ok (rT ((a : Rat) * (x * x))) st := fun st => by rw [← rT_int]; exact s_ltimes n _ _ st (k1 sa) (m hx hx)
  have f2 : ∀ st, run (n + 3) 18 [.tup [.int b, .int 1], rT (x * y)] st = .ok (rT ((b : Rat) * (x * y))) st := fun st => by rw [← rT_int]; exact s_ltimes n _ _ st (k1 sb) (m hx hy)
  have f3 : ∀ st, run (n + 3) 18 [.tup [.int c, .int 1], rT (y * y)] st = .ok (rT ((c : Rat) * (y * y))) st := fun st => by rw [← rT_int]; exact s_ltimes n _ _ st (k1 sc) (m hy hy)
  refine fnD_rtg (e := [.lst [.tup [.int a, .int 0, .int 0], .tup [.int b, .int 0, .int 1], .tup [.int c, .int 1, .int 1]]]) ?_ (noRef_rT _ _)
  simp [B_33, startE, iSeq, forI, gT_0, gT_1, gT_2, pT_0, pT_1, s_ltimes, s_lsum, k, hx, hy, f1, f2, f3, raw0, z0, t1, t2, m1, sa, sb, sc]
  rfl
theorem s_lmeasure (n : Nat) (a b c : Int) (g : Gr a b c) (x y : Int) (hx : Nb 10 x) (hy : Nb 10 y) (st : Store) : run (n + 1) 29 [gT a b c, .tup [.int x, .int y]] st = .ok (.int (a * x * x + b * x * y + c * y * y)) st := by
  rw [run_29]
  refine fnD_rt0 ?_ (by simp)
  simp [B_29, startE, gT_0, gT_1, gT_2, ib_mul, g.ha.ok hx (by decide), (g.ha.mul hx).ok hx (by decide), g.hb.ok hx (by decide), (g.hb.mul hx).ok hy (by decide), g.hc.ok hy (by decide), (g.hc.mul hy).ok hy (by decide)]
end G39
namespace G39
open PySem PySem.Spec PyProof.Rows L2 Gm
theorem Nb_one : Nb 4000 1 := Nb.one.mono (by decide)
theorem s_ltimes_inv (n : Nat) (p q : Rat) (st : Store) (hp : Sz 4000 p) (hq : Sz 4000 q) (h0 : q ≠ 0) : run (n + 3) 18 [.tup [.int q.den, .int q.num], rT p] st = .ok (rT (p / q)) st := by
  have hz : q.num ≠ 0 := fun z => h0 (Rat.num_eq_zero.mp z)
  have e : p / q = Rat.divInt (q.den * p.num) (q.num * p.den) := by
    rw [Rat.div_def, Rat.inv_def]
    conv => lhs; rw [← Rat.num_divInt_den p]
    rw [Rat.divInt_mul_divInt, Int.mul_comm, Int.mul_comm q.num]
  rw [e]
  exact s_ltimes' n _ _ _ _ st hq.den hq.num hp.num hp.den (Int.mul_ne_zero hz (Rat.den_ne' p))
theorem s_ltimes_over (n : Nat) (p : Rat) (i : Int) (st : Store) (hp : Sz 4000 p) (hi : Nb 4000 i) (h0 : i ≠ 0) : run (n + 3) 18 [rT p, .tup [.int 1, .int i]] st = .ok (rT (p / (i : Rat))) st := by
  have e : p / (i : Rat) = Rat.divInt (p.num * 1) (p.den * i) := by
    rw [Rat.div_def, Rat.inv_def]
    conv => lhs; rw [← Rat.num_divInt_den p]
    rw [Rat.divInt_mul_divInt, Rat.num_intCast, Rat.den_intCast]
    rfl
  rw [e]
  exact s_ltimes' n _ _ _ _ st hp.num hp.den Nb_one hi (Int.mul_ne_zero (Rat.den_ne' p) h0)
theorem s_undone (n : Nat) (a b c d : Rat) (ha : Sz 950 a) (hb : Sz 950 b) (hc : Sz 950 c) (hd : Sz 950 d) (h0 : a * d - b * c ≠ 0) (st : Store) :
    run (n + 5) 35 [tT a b c d] st = .ok (tT (d / (a * d - b * c)) (-1 * b / (a * d - b * c)) (-1 * c / (a * d - b * c)) (a / (a * d - b * c))) st := by
  rw [run_35]
  have k : ∀ {q : Rat}, Sz 950 q → Sz 4000 q := fun h => h.mono (by decide)
  have k1 : ∀ {q : Rat}, Sz 950 q → Sz 1900 q := fun h => h.mono (by decide)
  have hz : Sz 4000 (a * d - b * c) := ((ha.mul hd).sub (hb.mul hc)).mono (by decide)
  have m1 : Sz 4000 (-1) := Sz.m1'.mono (by decide)
  have nb : Sz 4000 (-1 * b) := (Sz.m1'.mul hb).mono (by decide)
  have nc : Sz 4000 (-1 * c) := (Sz.m1'.mul hc).mono (by decide)
  have L : ∀ (p q : Rat) (r : D) (o : Option D) (st : Store), Sz 4000 p → Sz 4000 q → xLc (iSeq (xVar 4)) (gNm 5) tTrue (xCall T (run (n + 4)) 18 (aCons (xVar 2) (aCons (xVar 5) aNil))) [5] [some (tT a b c d), some (rT (a * d - b * c)), some (.tup [.int (a * d - b * c).den, .int (a * d - b * c).num]), some r, some (.tup [rT p, rT q]), o] st = .ok (.ref st.length) (st ++ [.lst [rT (p / (a * d - b * c)), rT (q / (a * d - b * c))]]) := by
    intro p q r o st hp hq
    refine lc2 (d1 := rT p) (d2 := rT q) (by simp) ?_ ?_
    · intro st
      simp [wipeE, s_ltimes_inv, hp, hz, h0]
    · intro st
      simp [wipeE, s_ltimes_inv, hq, hz, h0]
  have l3 : ∀ (s1 s2 : Cell) (z : List D), (st ++ [s1, s2]).length = st.length + 2 := fun _ _ _ => by simp
  have hn : ∀ q : Rat, run (n + 4) 18 [rT (-1), rT b] st = .ok (rT (-1 * b)) st := fun _ => s_ltimes (n + 1) _ _ st m1 (k hb)
  refine fnD_rtg (e := [.lst [.tup [rT (d / (a * d - b * c)), rT (-1 * b / (a * d - b * c))], .tup [rT (-1 * c / (a * d - b * c)), rT (a / (a * d - b * c))]], .lst [.tup [rT d, rT (-1 * b)], .tup [rT (-1 * c), rT a]], .lst [rT (d / (a * d - b * c)), rT (-1 * b / (a * d - b * c))], .lst [rT (-1 * c / (a * d - b * c)), rT (a / (a * d - b * c))]]) ?_ (noRef_tT _ _ _ _ _)
  have t2 : ∀ (s1 s2 : Cell) (l : List D), bTuple [.ref (st.length + 1 + 1)] (st ++ [s1, s2, .lst l]) = .ok (.tup l) (st ++ [s1, s2, .lst l]) := fun s1 s2 l => tp_2 st [] s1 s2 l
  have t3 : ∀ (s1 s2 s3 : Cell) (l : List D), bTuple [.ref (st.length + 1 + 1 + 1)] (st ++ [s1, s2, s3, .lst l]) = .ok (.tup l) (st ++ [s1, s2, s3, .lst l]) := fun s1 s2 s3 l => tupR (by rw [List.getElem?_append_right (by omega), show st.length + 1 + 1 + 1 - st.length = 3 by omega]; rfl)
  simp [-Int.natCast_ediv, B_35, startE, iSeq, forI, tT_0, tT_1, s_lfactor, k1, ha, hb, hc, hd, rT_0, rT_1, rT_m1, s_ltimes, m1, k, L, nb, nc, t2, t3]
  rfl
end G39
namespace G39
open PySem PySem.Spec PyProof.Rows L2 Gm
theorem lst_all (k : ∀ {q : Rat}, Sz 950 q → Sz 4000 q) : True := trivial
/-- a mirror's table -/
def Mx (a b c x y : Int) : Int := a * x * x + b * x * y + c * y * y
theorem s_mirror (n : Nat) (a b c : Int) (g : Gr a b c) (x y : Int) (hx : Nb 10 x) (hy : Nb 10 y) (h0 : Mx a b c x y ≠ 0) (st : Store) :
    run (n + 3) 30 [gT a b c, .tup [.int x, .int y]] st = .ok (tT (Rat.divInt ((2 * a * x + b * y) * x - Mx a b c x y) (Mx a b c x y)) (Rat.divInt ((b * x + 2 * c * y) * x) (Mx a b c x y)) (Rat.divInt ((2 * a * x + b * y) * y) (Mx a b c x y)) (Rat.divInt ((b * x + 2 * c * y) * y - Mx a b c x y) (Mx a b c x y))) st := by
  rw [run_30]
  have hm : Nb 50 (Mx a b c x y) := ((((g.ha.mul hx).mul hx).add ((g.hb.mul hx).mul hy)).add ((g.hc.mul hy).mul hy)).mono (by decide)
  have f1 : Nb 50 (2 * a * x + b * y) := (((Nb.two.mul g.ha).mul hx).add (g.hb.mul hy)).mono (by decide)
  have f2 : Nb 50 (b * x + 2 * c * y) := ((g.hb.mul hx).add ((Nb.two.mul g.hc).mul hy)).mono (by decide)
  have hm8 := hm.mono (b' := 8000) (by decide)
  have o1 := Nb.two.ok g.ha (by decide)
  have o2 := (Nb.two.mul g.ha).ok hx (by decide)
  have o3 := g.hb.ok hy (by decide)
  have o4 := g.hb.ok hx (by decide)
  have o5 := Nb.two.ok g.hc (by decide)
  have o6 := (Nb.two.mul g.hc).ok hy (by decide)
  have o7 := f1.ok hx (by decide)
  have o8 := f2.ok hx (by decide)
  have o9 := f1.ok hy (by decide)
  have o10 := f2.ok hy (by decide)
  have hme : ∀ st, run (n + 2) 29 [.tup [.int a, .int b, .int c], .tup [.int x, .int y]] st = .ok (.int (Mx a b c x y)) st := fun st => s_lmeasure (n + 1) a b c g x y hx hy st
  refine fnD_rt0 ?_ (noRef_tT _ _ _ _ _)
  simp [-Rat.divInt_ofNat, B_30, startE, hme, gT, ib_mul, o1, o2, o3, o4, o5, o6, o7, o8, o9, o10, s_lcut, h0, hm8]
  rfl
noncomputable def Du (a b c : Int) (m : Mo) : Option Rat := if Ln a b c m.a m.c / (a : Rat) = Ln a b c m.b m.d / (c : Rat) ∧ Ln a b c m.b m.d / (c : Rat) = Ln a b c (m.a + m.b) (m.c + m.d) / ((a + b + c : Int) : Rat) then some (Ln a b c m.a m.c / (a : Rat)) else none
def oT : Option Rat → D
  | none => .non
  | some q => rT q
theorem noRef_oT (n : Nat) (o : Option Rat) : noRef n (oT o) = true := by
  unfold oT
  split <;> simp [noRef_rT]
theorem Gr.c0 {a b c : Int} (g : Gr a b c) : c ≠ 0 := by
  intro h
  have h1 := g.def'
  have h2 : 0 ≤ b * b := by
    rcases Int.le_total 0 b with h | h
    · exact Int.mul_nonneg h h
    · exact Int.mul_nonneg_of_nonpos_of_nonpos h h
  subst h
  omega
theorem Gr.s0 {a b c : Int} (g : Gr a b c) : a + b + c ≠ 0 := by
  intro h
  have h1 := g.def'
  have h2 : b = -(a + c) := by omega
  subst h2
  have h3 : (-(a + c)) * (-(a + c)) - 4 * a * c = (a - c) * (a - c) := by grind
  have h4 : 0 ≤ (a - c) * (a - c) := by
    rcases Int.le_total 0 (a - c) with h | h
    · exact Int.mul_nonneg h h
    · exact Int.mul_nonneg_of_nonpos_of_nonpos h h
  omega
theorem s_due (n : Nat) (a b c : Int) (g : Gr a b c) (m : Mo) (hm : m.Sm 60) (st : Store) : run (n + 5) 36 [gT a b c, tT m.a m.b m.c m.d] st = .ok (oT (Du a b c m)) st := by
  rw [run_36]
  have k := hm.mono (t := 950) (by decide)
  have z0 := Sz.zero 950 (by decide)
  have z1 := Sz.one 950 (by decide)
  have l1 : ∀ st, run (n + 4) 26 [tT m.a m.b m.c m.d, pT 0 0, pT 1 0] st = .ok (pT m.a m.c) st := fun st => by
    rw [s_lled n m.a m.b m.c m.d 1 0 0 0 st k.a k.b k.c k.d z1 z0 z0 z0]
    rw [show m.a * 1 + m.b * 0 + 0 = m.a by grind, show m.c * 1 + m.d * 0 + 0 = m.c by grind]
  have l2 : ∀ st, run (n + 4) 26 [tT m.a m.b m.c m.d, pT 0 0, pT 0 1] st = .ok (pT m.b m.d) st := fun st => by
    rw [s_lled n m.a m.b m.c m.d 0 1 0 0 st k.a k.b k.c k.d z0 z1 z0 z0]
    rw [show m.a * 0 + m.b * 1 + 0 = m.b by grind, show m.c * 0 + m.d * 1 + 0 = m.d by grind]
  have l3 : ∀ st, run (n + 4) 26 [tT m.a m.b m.c m.d, pT 0 0, pT 1 1] st = .ok (pT (m.a + m.b) (m.c + m.d)) st := fun st => by
    rw [s_lled n m.a m.b m.c m.d 1 1 0 0 st k.a k.b k.c k.d z1 z1 z0 z0]
    rw [show m.a * 1 + m.b * 1 + 0 = m.a + m.b by grind, show m.c * 1 + m.d * 1 + 0 = m.c + m.d by grind]
  have y0 := Sz.zero 500 (by decide)
  have y1 := Sz.one 500 (by decide)
  have e1 : ∀ st, run (n + 4) 33 [gT a b c, pT 1 0] st = .ok (rT (a : Rat)) st := fun st => by
    rw [s_length n a b c g 1 0 y1 y0 st, show Ln a b c 1 0 = (a : Rat) by unfold Ln; grind]
  have e2 : ∀ st, run (n + 4) 33 [gT a b c, pT 0 1] st = .ok (rT (c : Rat)) st := fun st => by
    rw [s_length n a b c g 0 1 y0 y1 st, show Ln a b c 0 1 = (c : Rat) by unfold Ln; grind]
  have e3 : ∀ st, run (n + 4) 33 [gT a b c, pT 1 1] st = .ok (rT ((a + b + c : Int) : Rat)) st := fun st => by
    rw [s_length n a b c g 1 1 y1 y1 st, show Ln a b c 1 1 = ((a + b + c : Int) : Rat) by unfold Ln; rw [Rat.intCast_add, Rat.intCast_add]; grind]
  have k5 := hm.mono (t := 500) (by decide)
  have q3 : Sz 121 (m.a + m.b) := hm.a.add hm.b
  have q4 : Sz 121 (m.c + m.d) := hm.c.add hm.d
  have g1 : ∀ st, run (n + 4) 33 [gT a b c, pT m.a m.c] st = .ok (rT (Ln a b c m.a m.c)) st := fun st => s_length n a b c g _ _ k5.a k5.c st
  have g2 : ∀ st, run (n + 4) 33 [gT a b c, pT m.b m.d] st = .ok (rT (Ln a b c m.b m.d)) st := fun st => s_length n a b c g _ _ k5.b k5.d st
  have g3 : ∀ st, run (n + 4) 33 [gT a b c, pT (m.a + m.b) (m.c + m.d)] st = .ok (rT (Ln a b c (m.a + m.b) (m.c + m.d))) st := fun st => s_length n a b c g _ _ (q3.mono (by decide)) (q4.mono (by decide)) st
  have w1 := (Ln_sz g hm.a hm.c).mono (b' := 4000) (by decide)
  have w2 := (Ln_sz g hm.b hm.d).mono (b' := 4000) (by decide)
  have w3 := (Ln_sz g q3 q4).mono (b' := 4000) (by decide)
  have na := g.ha.mono (b' := 4000) (by decide)
  have nc := g.hc.mono (b' := 4000) (by decide)
  have ns := ((g.ha.add g.hb).add g.hc).mono (b' := 4000) (by decide)
  have a0 : a ≠ 0 := by have := g.pos; omega
  have t1 : ∀ st, run (n + 4) 18 [rT (Ln a b c m.a m.c), .tup [.int 1, .int a]] st = .ok (rT (Ln a b c m.a m.c / (a : Rat))) st := fun st => s_ltimes_over (n + 1) _ a st w1 na a0
  have t2 : ∀ st, run (n + 4) 18 [rT (Ln a b c m.b m.d), .tup [.int 1, .int c]] st = .ok (rT (Ln a b c m.b m.d / (c : Rat))) st := fun st => s_ltimes_over (n + 1) _ c st w2 nc g.c0
  have t3 : ∀ st, run (n + 4) 18 [rT (Ln a b c (m.a + m.b) (m.c + m.d)), .tup [.int 1, .int (a + b + c)]] st = .ok (rT (Ln a b c (m.a + m.b) (m.c + m.d) / ((a + b + c : Int) : Rat))) st := fun st => s_ltimes_over (n + 1) _ (a + b + c) st w3 ns g.s0
  refine fnD_rtg (e := [.lst [rT (Ln a b c m.a m.c / (a : Rat)), rT (Ln a b c m.b m.d / (c : Rat)), rT (Ln a b c (m.a + m.b) (m.c + m.d) / ((a + b + c : Int) : Rat))], .lst [pT 1 0, pT 0 1, pT 1 1]]) ?_ (noRef_oT _ _)
  unfold Du
  by_cases h1 : Ln a b c m.a m.c / (a : Rat) = Ln a b c m.b m.d / (c : Rat)
  · by_cases h2 : Ln a b c m.b m.d / (c : Rat) = Ln a b c (m.a + m.b) (m.c + m.d) / ((a + b + c : Int) : Rat)
    · rw [if_pos ⟨h1, h2⟩]
      simp [-Rat.intCast_add, B_36, startE, iSeq, forI, raw0, raw1, rawp, l1, l2, l3, e1, e2, e3, g1, g2, g3, rT_0, t1, t2, t3, e_rT, decide_eq_true h1, decide_eq_true h2, oT]
    · rw [if_neg (fun h => h2 h.2)]
      simp [-Rat.intCast_add, B_36, startE, iSeq, forI, raw0, raw1, rawp, l1, l2, l3, e1, e2, e3, g1, g2, g3, rT_0, t1, t2, t3, e_rT, decide_eq_true h1, decide_eq_false h2, oT]
  · rw [if_neg (fun h => h1 h.1)]
    simp [-Rat.intCast_add, B_36, startE, iSeq, forI, raw0, raw1, rawp, l1, l2, l3, e1, e2, e3, g1, g2, g3, rT_0, t1, t2, t3, e_rT, decide_eq_false h1, oT]
end G39
namespace G39
open PySem PySem.Spec PyProof.Rows L2 Gm
theorem Q_sum (a b c : Int) (x y z w : Rat) : Q a b c (x + z) (y + w) = Q a b c x y + Q a b c z w + P a b c x y z w := by
  unfold Q P
  rw [Rat.intCast_mul, Rat.intCast_mul]
  grind
theorem div_iff {p q r : Rat} (hr : r ≠ 0) : p / r = q ↔ p = q * r := by
  constructor
  · intro h
    rw [← h]
    grind
  · intro h
    rw [h]
    grind
theorem Du_str (a b c : Int) (g : Gr a b c) (m : Mo) : Du a b c m = m.str a b c := by
  have a0 : (a : Rat) ≠ 0 := by
    have := g.pos
    intro h
    have := Rat.intCast_eq_zero_iff.mp h
    omega
  have c0 : (c : Rat) ≠ 0 := fun h => g.c0 (Rat.intCast_eq_zero_iff.mp h)
  have s0 : ((a + b + c : Int) : Rat) ≠ 0 := fun h => g.s0 (Rat.intCast_eq_zero_iff.mp h)
  unfold Du Mo.str
  rw [Ln_Q, Ln_Q, Ln_Q, Q_sum]
  have key : (Q a b c m.a m.c / (a : Rat) = Q a b c m.b m.d / (c : Rat) ∧ Q a b c m.b m.d / (c : Rat) = (Q a b c m.a m.c + Q a b c m.b m.d + P a b c m.a m.c m.b m.d) / ((a + b + c : Int) : Rat)) ↔ (Q a b c m.b m.d = Q a b c m.a m.c / (a : Rat) * (c : Rat) ∧ P a b c m.a m.c m.b m.d = Q a b c m.a m.c / (a : Rat) * (b : Rat)) := by
    have hs : ((a + b + c : Int) : Rat) = (a : Rat) + b + c := by rw [Rat.intCast_add, Rat.intCast_add]
    generalize Q a b c m.a m.c = u
    generalize Q a b c m.b m.d = v
    generalize P a b c m.a m.c m.b m.d = w
    rw [hs] at s0 ⊢
    constructor
    · intro ⟨h1, h2⟩
      have e1 : v = u / (a : Rat) * c := by rw [h1]; grind
      have e2 : u = u / (a : Rat) * a := by grind
      have e3 : u + v + w = v / (c : Rat) * ((a : Rat) + b + c) := by rw [h2]; grind
      rw [← h1] at e3
      refine ⟨e1, ?_⟩
      generalize u / (a : Rat) = f at *
      grind
    · intro ⟨h1, h2⟩
      have e2 : u = u / (a : Rat) * a := by grind
      have e4 : v / (c : Rat) = u / (a : Rat) := by rw [h1]; grind
      refine ⟨e4.symm, ?_⟩
      rw [e4]
      generalize u / (a : Rat) = f at *
      have e5 : u + v + w = f * ((a : Rat) + b + c) := by grind
      rw [e5]
      grind
  by_cases h : Q a b c m.b m.d = Q a b c m.a m.c / (a : Rat) * (c : Rat) ∧ P a b c m.a m.c m.b m.d = Q a b c m.a m.c / (a : Rat) * (b : Rat)
  · rw [if_pos h, if_pos (key.mpr h)]
  · rw [if_neg h, if_neg (fun g => h (key.mp g))]
theorem ne_nonT (c : Fn) (i j : Int) (st : Store) : eqB T c true .non (.tup [.int i, .int j]) st = .ok (.bl true) st := rfl
theorem s_duekind (n : Nat) (a b c : Int) (g : Gr a b c) (m : Mo) (hm : m.Sm 60) (st : Store) : run (n + 6) 37 [gT a b c, tT m.a m.b m.c m.d, pT m.x m.y] st = .ok (m.kin a b c) st := by
  rw [run_37]
  refine fnD_rt0 ?_ (by unfold Mo.kin; (repeat' split) <;> simp)
  have hs := s_due n a b c g m hm
  rw [Du_str a b c g] at hs
  have k := hm.mono (t := 950) (by decide)
  have k2 := hm.mono (t := 1900) (by decide)
  have hl : ∀ st, run (n + 5) 26 [tT m.a m.b m.c m.d, pT m.x m.y, pT m.x m.y] st = .ok (pT (m.a * m.x + m.b * m.y + m.x) (m.c * m.x + m.d * m.y + m.y)) st := fun st => s_lled (n + 1) _ _ _ _ _ _ _ _ st k.a k.b k.c k.d k.x k.y k.x k.y
  have hf : ∀ st, run (n + 5) 25 [tT m.a m.b m.c m.d] st = .ok (rT m.det) st := fun st => s_lfactor (n + 1) _ _ _ _ k2.a k2.b k2.c k2.d st
  have e2 : ∀ (c : Fn) (p : Rat) (st : Store), eqB T c true (rT p) (D.tup [.int 1, .int 1]) st = .ok (.bl (decide (p ≠ 1))) st := fun c p st => by
    rw [raw1, e_rT]
    simp
  unfold Mo.kin
  cases h : m.str a b c with
  | none =>
    rw [h] at hs
    simp [B_37, startE, hs, oT, ne_nonT]
  | some q =>
    rw [h] at hs
    by_cases h1 : q = 1
    · subst h1
      rw [if_pos rfl]
      by_cases h2 : m.a = 1 ∧ m.b = 0 ∧ m.c = 0 ∧ m.d = 1
      · rw [if_pos h2]
        by_cases h3 : m.x = 0 ∧ m.y = 0
        · rw [if_pos h3]
          simp [B_37, startE, hs, oT, e_rT, raw0, raw1, rawp, rawt, e_tT, e_pT, decide_eq_true h2, decide_eq_true h3]
        · rw [if_neg h3]
          simp [B_37, startE, hs, oT, e_rT, raw0, raw1, rawp, rawt, e_tT, e_pT, decide_eq_true h2, decide_eq_false h3]
      · rw [if_neg h2]
        by_cases h3 : m.det = 1
        · rw [if_pos h3]
          simp [B_37, startE, hs, oT, e_rT, raw0, raw1, rawp, rawt, e_tT, e_pT, decide_eq_false h2, hf, decide_eq_true h3]
        · rw [if_neg h3]
          by_cases h4 : m.a * m.x + m.b * m.y + m.x = 0 ∧ m.c * m.x + m.d * m.y + m.y = 0
          · rw [if_pos h4]
            simp [B_37, startE, hs, oT, e_rT, raw0, raw1, rawp, rawt, e_tT, e_pT, decide_eq_false h2, hf, decide_eq_false h3, hl, decide_eq_true h4]
          · rw [if_neg h4]
            simp [B_37, startE, hs, oT, e_rT, raw0, raw1, rawp, rawt, e_tT, e_pT, decide_eq_false h2, hf, decide_eq_false h3, hl, decide_eq_false h4]
    · have h1' : ¬ (some q = some (1 : Rat)) := fun h => h1 (Option.some.inj h)
      rw [if_neg h1']
      simp [B_37, startE, hs, oT, e_rT, raw1, decide_eq_false h1]
end G39
namespace G39
open PySem PySem.Spec PyProof.Rows L2 Gm
/-! ### the pen -/
def kCells : Key := .inr "cells"
def kAt : Key := .inr "at"
def kLeft : Key := .inr "left"
def pc (k l : Int) : List (Key × D) := [(kCells, .ref 3), (kAt, .int k), (kLeft, .int l)]
theorem nd_pc (k l : Int) : ndK (pc k l) := by
  show ([kCells, kAt, kLeft] : List Key).Nodup
  decide
theorem g_left {st : Store} {k l : Int} (h : st[1]? = some (.dic (pc k l))) : subD (.ref 1) (.str "left") st = .ok (.int l) st := by
  unfold subD
  simp only [h]
  rfl
theorem g_at {st : Store} {k l : Int} (h : st[1]? = some (.dic (pc k l))) : subD (.ref 1) (.str "at") st = .ok (.int k) st := by
  unfold subD
  simp only [h]
  rfl
theorem g_cells {st : Store} {k l : Int} (h : st[1]? = some (.dic (pc k l))) : subD (.ref 1) (.str "cells") st = .ok (.ref 3) st := by
  unfold subD
  simp only [h]
  rfl
theorem p_left {st : Store} {k l : Int} (l' : Int) (h : st[1]? = some (.dic (pc k l))) : putD (.ref 1) (.str "left") (.int l') st = .ok (st.set 1 (.dic (pc k l'))) st := by
  unfold putD
  simp only [h]
  exact if_pos ⟨show 3 < sizeLine by decide, nd_pc k l⟩
theorem p_at {st : Store} {k l : Int} (k' : Int) (h : st[1]? = some (.dic (pc k l))) : putD (.ref 1) (.str "at") (.int k') st = .ok (st.set 1 (.dic (pc k' l))) st := by
  unfold putD
  simp only [h]
  exact if_pos ⟨show 3 < sizeLine by decide, nd_pc k l⟩
end G39
namespace G39
open PySem PySem.Spec PyProof.Rows L2 Gm
noncomputable def kPu3 (ρ : Ev) (d o i : D) (st : Store) : SR := match putD o i d st with
  | .ok st' _ => .nx ρ st'
  | _ => .stuck
noncomputable def kPu2 (fi : Fe) (ρ : Ev) (d o : D) (st : Store) : SR := (fi ρ st).toS ρ (kPu3 ρ d o)
noncomputable def kPu1 (fo fi : Fe) (ρ : Ev) (d : D) (st : Store) : SR := (fo ρ st).toS ρ (kPu2 fi ρ d)
theorem ap_sPut (fo fi fv : Fe) (ρ : Ev) (st : Store) : sPut fo fi fv ρ st = (fv ρ st).toS ρ (kPu1 fo fi ρ) := rfl
theorem kPu1_ (fo fi : Fe) (ρ : Ev) (d : D) (st : Store) : kPu1 fo fi ρ d st = (fo ρ st).toS ρ (kPu2 fi ρ d) := rfl
theorem kPu2_ (fi : Fe) (ρ : Ev) (d o : D) (st : Store) : kPu2 fi ρ d o st = (fi ρ st).toS ρ (kPu3 ρ d o) := rfl
theorem kPu_left {ρ : Ev} {st : Store} {k l : Int} (l' : Int) (h : st[1]? = some (.dic (pc k l))) : kPu3 ρ (.int l') (.ref 1) (.str "left") st = .nx ρ (st.set 1 (.dic (pc k l'))) := by
  unfold kPu3
  rw [p_left l' h]
theorem kPu_at {ρ : Ev} {st : Store} {k l : Int} (k' : Int) (h : st[1]? = some (.dic (pc k l))) : kPu3 ρ (.int k') (.ref 1) (.str "at") st = .nx ρ (st.set 1 (.dic (pc k' l))) := by
  unfold kPu3
  rw [p_at k' h]
structure PenAt (ns : List Int) (k : Nat) (l : Int) (st : Store) : Prop where
  dic : st[1]? = some (.dic (pc k l))
  lst : st[3]? = some (.lst (ns.map D.int))
  left : 0 ≤ l
  len : ns.length ≤ 63
theorem PenAt.ext {ns : List Int} {k : Nat} {l : Int} {st : Store} (h : PenAt ns k l st) (e : Store) : PenAt ns k l (st ++ e) := ⟨get_ext h.dic, get_ext h.lst, h.left, h.len⟩
theorem PenAt.set {ns : List Int} {k k' : Nat} {l l' : Int} {st : Store} (h : PenAt ns k l st) (hl : 0 ≤ l') : PenAt ns k' l' (st.set 1 (.dic (pc k' l'))) := by
  refine ⟨?_, ?_, hl, h.len⟩
  · have := (List.getElem?_eq_some_iff.mp h.dic).1
    rw [List.getElem?_set_self this]
  · rw [List.getElem?_set_ne (by decide)]
    exact h.lst
theorem PenAt.long {ns : List Int} {k : Nat} {l : Int} {st : Store} (h : PenAt ns k l st) : 3 < st.length := (List.getElem?_eq_some_iff.mp h.lst).1
theorem tidy_pen {ns : List Int} {k : Nat} {l : Int} {st : Store} (h : PenAt ns k l st) (k' l' : Int) (e : Store) {d : D} (hd : noRef st.length d = true) : tidy st (.ok d (st.set 1 (.dic (pc k' l')) ++ e)) = .ok d (st.set 1 (.dic (pc k' l'))) := by
  refine tidy_set ?_ hd
  show noRefs st.length [.ref 3, .int k', .int l'] = true
  have := h.long
  simp [this]
theorem ints_py (n : Nat) (st : Store) : ∀ ns : List Int, (ns.map D.int).mapM (pyD (n + 1) st) = some (ns.map PyData.int)
  | [] => rfl
  | i :: ns => by
    rw [List.map_cons, List.mapM_cons, ints_py n st ns]
    rfl
theorem ints_lay : ∀ ns : List Int, PyData.canLayAll0 (ns.map PyData.int) = true
  | [] => by unfold PyData.canLayAll0; rfl
  | i :: ns => by
    rw [List.map_cons, PyData.canLayAll0, ints_lay ns]
    simp [PyData.canLay0]
theorem ints_deep : ∀ ns : List Int, PyData.depthAll (ns.map PyData.int) = 0
  | [] => by unfold PyData.depthAll; rfl
  | i :: ns => by
    rw [List.map_cons, PyData.depthAll, ints_deep ns]
    simp [PyData.depth]
theorem eq_empty (c : Fn) {ns : List Int} {st : Store} {m p : Nat} (h : st[m]? = some (.lst (ns.map D.int))) (hp : st[p]? = some (.lst [])) : eqB T c true (.ref m) (.ref p) st = .ok (.bl (!ns.isEmpty)) st := by
  have e1 : pyD 6 st (.ref m) = some (.list (ns.map PyData.int)) := by
    unfold pyD
    simp only [h, ints_py]
    rfl
  have e2 : pyD 6 st (.ref p) = some (.list []) := by
    unfold pyD
    simp only [hp]
    rfl
  have s1 : SeqAt.shaped (.list (ns.map PyData.int)) = true := by
    unfold SeqAt.shaped
    rw [PyData.canLay0, PyData.depth, ints_lay, ints_deep]
    rfl
  have s2 : SeqAt.shaped (.list []) = true := by
    unfold SeqAt.shaped
    rw [PyData.canLay0, PyData.depth, PyData.canLayAll0, PyData.depthAll]
    rfl
  have e3 : PyData.eqv (.list (ns.map PyData.int)) (.list []) = ns.isEmpty := by
    unfold PyData.eqv
    cases ns with
    | nil => rw [List.map_nil, PyData.eqvAll]; rfl
    | cons i ns => rw [List.map_cons, PyData.eqvAll]; rfl
  unfold eqB eqD
  simp only [e1, e2, s1, s2, e3, and_self, if_true]
  cases ns <;> rfl
theorem len_lst {ns : List Int} {st : Store} {m : Nat} (h : st[m]? = some (.lst (ns.map D.int))) : bLen [.ref m] st = .ok (.int ns.length) st := by
  unfold bLen seqOf
  simp only [h]
  simp
theorem nth_lst {ns : List Int} {st : Store} {m : Nat} (h : st[m]? = some (.lst (ns.map D.int))) (j : Nat) (hj : j < ns.length) : subD (.ref m) (.int j) st = .ok (.int ns[j]) st := by
  rw [subR h, atI_nat (v := .int ns[j]) (by simp [hj])]
  rfl
end G39
namespace G39
open PySem PySem.Spec PyProof.Rows L2 Gm
theorem fmod_nn (a : Int) {b : Int} (h : 0 < b) : 0 ≤ a.fmod b := by
  rw [Int.fmod_eq_emod_of_nonneg _ (Int.le_of_lt h)]
  exact Int.emod_nonneg _ (by omega)
theorem fmod_lt (a : Int) {b : Int} (h : 0 < b) : a.fmod b < b := by
  rw [Int.fmod_eq_emod_of_nonneg _ (Int.le_of_lt h)]
  exact Int.emod_lt_of_pos _ h
theorem fdiv_nn {a b : Int} (ha : 0 ≤ a) (h : 0 < b) : 0 ≤ a.fdiv b := by
  rw [Int.fdiv_eq_ediv_of_nonneg _ (Int.le_of_lt h)]
  exact Int.ediv_nonneg ha (Int.le_of_lt h)
theorem Nb.of {i : Int} {b : Nat} (h0 : 0 ≤ i) (h : i < ((2 ^ b : Nat) : Int)) : Nb b i := by
  unfold Nb
  omega
theorem pow10 (st : Store) : intBin .Pow 10 18 st = .ok (.int 1000000000000000000) st := rfl
def mA (cell k : Int) : Int := (cell.fmod 2147482661 * 47309 + 37049 * k * k + 113 * k + 29).fmod 2147482697
def mB (a : Int) : Int := (a * (a + 80021)).fmod 2147482739
def mC (b span : Int) : Int := (((b * b + 37 * b).fmod 2147482763).fdiv 32).fmod span
theorem s_draw {ns : List Int} {k : Nat} {l : Int} {st : Store} (n : Nat) (h : PenAt ns k l st) (hk : k < 10000) (span : Int) (h0 : 0 < span) (hs : Nb 8000 span) :
    ∃ (v : Int) (k' : Nat) (l' : Int), run (n + 1) 12 [.ref 1, .int span] st = .ok (.int v) (st.set 1 (.dic (pc k' l'))) ∧ PenAt ns k' l' (st.set 1 (.dic (pc k' l'))) ∧ k' ≤ k + 1 ∧ 0 ≤ v ∧ v < span := by
  have hn : span ≠ 0 := by omega
  have hd : span ≠ 0 ∧ span.natAbs.log2 < 9000 := ⟨hn, log2_lt (hs.mono (b' := 9000) (by decide)) (by decide)⟩
  rw [run_12]
  by_cases hl : span ≤ l
  · refine ⟨l.fmod span, k, l.fdiv span, ?_, h.set (fdiv_nn h.left h0), Nat.le_succ k, fmod_nn l h0, fmod_lt l h0⟩
    have e : B_12 (run n) (startE 6 [.ref 1, .int span]) st = .rt (.int (l.fmod span)) (st.set 1 (.dic (pc k (l.fdiv span)))) := by
      simp [B_12, startE, ap_sPut, kPu1_, kPu2_, g_left h.dic, hl, ib_mod, ib_fdiv, hn, hd, kPu_left (l.fdiv span) h.dic]
    rw [fnD_rt e]
    have := tidy_pen h k (l.fdiv span) [] (d := .int (l.fmod span)) (by simp)
    rwa [List.append_nil] at this
  · have h1 := h.set (k' := k + 1) h.left
    have h2 := h1.ext [Cell.lst []]
    have hsp : ∀ c c' : Cell, (st.set 1 c ++ [Cell.lst []]).set 1 c' = st.set 1 c' ++ [Cell.lst []] := fun c c' => by
      have := h.long
      rw [List.set_append_left _ _ (by rw [List.length_set]; omega), List.set_set]
    have kb : Nb 20 (k : Int) := Nb.of (by omega) (by omega)
    have m1 : IntMulOk 89 (k : Int) := (Nb.of (i := 89) (b := 10) (by decide) (by decide)).ok kb (by decide)
    have m2 : IntMulOk 37049 (k : Int) := (Nb.of (i := 37049) (b := 20) (by decide) (by decide)).ok kb (by decide)
    have m3 : IntMulOk (37049 * (k : Int)) (k : Int) := ((Nb.of (i := 37049) (b := 20) (by decide) (by decide)).mul kb).ok kb (by decide)
    have m4 : IntMulOk 113 (k : Int) := (Nb.of (i := 113) (b := 20) (by decide) (by decide)).ok kb (by decide)
    have modb : ∀ (i : Int) (p : Int), 0 < p → p < 2147483648 → Nb 31 (i.fmod p) := fun i p hp hq => Nb.of (fmod_nn i hp) (by have := fmod_lt i hp; omega)
    have m5 : ∀ i : Int, IntMulOk (i.fmod 2147482661) 47309 := fun i => (modb i _ (by decide) (by decide)).ok (Nb.of (i := 47309) (b := 20) (by decide) (by decide)) (by decide)
    have m6 : ∀ i : Int, IntMulOk (i.fmod 2147482697) (i.fmod 2147482697 + 80021) := fun i => (modb i _ (by decide) (by decide)).ok ((modb i _ (by decide) (by decide)).add (Nb.of (i := 80021) (b := 20) (by decide) (by decide))) (by decide)
    have m7 : ∀ i : Int, IntMulOk (i.fmod 2147482739) (i.fmod 2147482739) := fun i => (modb i _ (by decide) (by decide)).ok (modb i _ (by decide) (by decide)) (by decide)
    have m8 : ∀ i : Int, IntMulOk 37 (i.fmod 2147482739) := fun i => (Nb.of (i := 37) (b := 20) (by decide) (by decide)).ok (modb i _ (by decide) (by decide)) (by decide)
    have d32 : (32 : Int) ≠ 0 ∧ (32 : Int).natAbs.log2 < 9000 := by decide
    have hq : ¬ (k : Int) < 0 := by omega
    have emp := eq_empty (c := run n) (p := st.length) h2.lst (by rw [List.getElem?_append_right (by simp), List.length_set]; simp)
    have fin : ∀ (v : Int) (k' : Nat) (l' : Int), B_12 (run n) (startE 6 [.ref 1, .int span]) st = .rt (.int v) (st.set 1 (.dic (pc k' l')) ++ [Cell.lst []]) → fnD 6 (B_12 (run n)) [.ref 1, .int span] st = .ok (.int v) (st.set 1 (.dic (pc k' l'))) := fun v k' l' e => by
      rw [fnD_rt e]
      exact tidy_pen h k' l' [.lst []] (by simp)
    have pa : ∀ ρ, kPu3 ρ (.int ((k : Int) + 1)) (.ref 1) (.str "at") st = .nx ρ (st.set 1 (.dic (pc ((k + 1 : Nat) : Int) l))) := fun ρ => kPu_at ((k : Int) + 1) h.dic
    by_cases hns : ns = []
    · subst hns
      refine ⟨mC (mB (mA (89 * k + 31) k)) span, k + 1, l, fin _ _ _ ?_, h1, Nat.le_refl _, fmod_nn _ h0, fmod_lt _ h0⟩
      have emp' := emp
      simp only [List.isEmpty_nil, Bool.not_true] at emp'
      have ln := len_lst h2.lst
      simp only [List.length_nil] at ln
      simp [-Int.natCast_add, B_12, startE, ap_sPut, kPu1_, kPu2_, g_left h.dic, g_at h.dic, hl, ib_mod, ib_fdiv _ hd, ib_fdiv _ d32, ib_mul, hn, m1, m2, m3, m4, m5, m6, m7, m8, pa, g_cells h1.dic, g_cells h2.dic, emp', ln, hq]
      rfl
    · have hp : 0 < ns.length := List.length_pos_iff.mpr hns
      have hz : (ns.length : Int) ≠ 0 := by omega
      have hlt := Nat.mod_lt k hp
      have emp' := emp
      have hie : ns.isEmpty = false := by simpa using hns
      simp only [hie, Bool.not_false] at emp'
      have ln := len_lst h2.lst
      have nt := nth_lst h2.lst (k % ns.length) hlt
      have pl : ∀ ρ (l' : Int), kPu3 ρ (.int l') (.ref 1) (.str "left") (st.set 1 (.dic (pc ((k + 1 : Nat) : Int) l)) ++ [Cell.lst []]) = .nx ρ (st.set 1 (.dic (pc ((k + 1 : Nat) : Int) l')) ++ [Cell.lst []]) := fun ρ l' => by
        rw [kPu_left l' h2.dic, hsp]
      generalize ns[k % ns.length] = cell at nt
      by_cases hkl : k < ns.length
      · by_cases hce : 1000000000000000000 ≤ cell
        · refine ⟨(cell - 1000000000000000000).fmod span, k + 1, (cell - 1000000000000000000).fdiv span, fin _ _ _ ?_, h.set (fdiv_nn (by omega) h0), Nat.le_refl _, fmod_nn _ h0, fmod_lt _ h0⟩
          simp [-Int.natCast_add, -Int.natCast_emod, B_12, startE, ap_sPut, kPu1_, kPu2_, g_left h.dic, g_at h.dic, hl, ib_mod _ hn, ib_mod _ hz, fmod_nat, ib_fdiv _ hd, ib_fdiv _ d32, ib_mul, m1, m2, m3, m4, m5, m6, m7, m8, pa, pl, g_cells h1.dic, g_cells h2.dic, emp', ln, nt, hkl, hce, pow10]
        · refine ⟨mC (mB (mA cell k)) span, k + 1, l, fin _ _ _ ?_, h1, Nat.le_refl _, fmod_nn _ h0, fmod_lt _ h0⟩
          simp [-Int.natCast_add, -Int.natCast_emod, B_12, startE, ap_sPut, kPu1_, kPu2_, g_left h.dic, g_at h.dic, hl, ib_mod _ hn, ib_mod _ hz, ib_mod, fmod_nat, ib_fdiv _ hd, ib_fdiv _ d32, ib_mul, m1, m2, m3, m4, m5, m6, m7, m8, pa, pl, g_cells h1.dic, g_cells h2.dic, emp', ln, nt, hkl, hce, pow10]
          rfl
      · refine ⟨mC (mB (mA cell k)) span, k + 1, l, fin _ _ _ ?_, h1, Nat.le_refl _, fmod_nn _ h0, fmod_lt _ h0⟩
        simp [-Int.natCast_add, -Int.natCast_emod, B_12, startE, ap_sPut, kPu1_, kPu2_, g_left h.dic, g_at h.dic, hl, ib_mod _ hn, ib_mod _ hz, ib_mod, fmod_nat, ib_fdiv _ hd, ib_fdiv _ d32, ib_mul, m1, m2, m3, m4, m5, m6, m7, m8, pa, pl, g_cells h1.dic, g_cells h2.dic, emp', ln, nt, hkl, pow10]
        rfl
end G39
namespace G39
open PySem PySem.Spec PyProof.Rows L2 Gm
def Pen (b : Nat) (st : Store) : Prop := ∃ ns k l, PenAt ns k l st ∧ k + b ≤ 10000
def Nx (st st' : Store) : Prop := ∃ k l : Int, st' = st.set 1 (.dic (pc k l))
theorem Pen.mono {b b' : Nat} {st : Store} (h : Pen b st) (hb : b' ≤ b) : Pen b' st := by
  obtain ⟨ns, k, l, p, q⟩ := h
  exact ⟨ns, k, l, p, by omega⟩
theorem Pen.ext {b : Nat} {st : Store} (h : Pen b st) (e : Store) : Pen b (st ++ e) := by
  obtain ⟨ns, k, l, p, q⟩ := h
  exact ⟨ns, k, l, p.ext e, q⟩
theorem Pen.long {b : Nat} {st : Store} (h : Pen b st) : 3 < st.length := by
  obtain ⟨ns, k, l, p, q⟩ := h
  exact p.long
theorem Nx.len {st st' : Store} (h : Nx st st') : st'.length = st.length := by
  obtain ⟨k, l, rfl⟩ := h
  simp
theorem Nx.trans {s1 s2 s3 : Store} (h : Nx s1 s2) (g : Nx s2 s3) : Nx s1 s3 := by
  obtain ⟨k, l, rfl⟩ := h
  obtain ⟨k', l', rfl⟩ := g
  exact ⟨k', l', by rw [List.set_set]⟩
theorem Pen.self {b : Nat} {st : Store} (h : Pen b st) : Nx st st := by
  obtain ⟨ns, k, l, p, q⟩ := h
  refine ⟨k, l, ?_⟩
  have hl := (List.getElem?_eq_some_iff.mp p.dic)
  obtain ⟨h1, h2⟩ := hl
  rw [← h2, List.set_getElem_self]
theorem Nx.split {b : Nat} {st e s : Store} (h : Nx (st ++ e) s) (hl : 3 < st.length) (hp : Pen b s) : ∃ s', s = s' ++ e ∧ Nx st s' ∧ Pen b s' := by
  obtain ⟨k, l, rfl⟩ := h
  rw [List.set_append_left _ _ (by omega)] at hp ⊢
  refine ⟨_, rfl, ⟨k, l, rfl⟩, ?_⟩
  obtain ⟨ns, k', l', p, q⟩ := hp
  refine ⟨ns, k', l', ⟨?_, ?_, p.left, p.len⟩, q⟩
  · have := p.dic
    rwa [List.getElem?_append_left (by simp; omega)] at this
  · have := p.lst
    rwa [List.getElem?_append_left (by simp; omega)] at this
theorem tidy_nx {b : Nat} {st st' e : Store} {d : D} (hn : Nx st st') (hp : Pen b st') (hd : noRef st.length d = true) : tidy st (.ok d (st' ++ e)) = .ok d st' := by
  obtain ⟨k, l, rfl⟩ := hn
  refine tidy_set ?_ hd
  show noRefs st.length [.ref 3, .int k, .int l] = true
  have := hp.long
  simp at this
  simp [this]
theorem fnD_pen {n b : Nat} {f : Fs} {ds : List D} {st st' e : Store} {d : D} (h : f (startE n ds) st = .rt d (st' ++ e)) (hn : Nx st st') (hp : Pen b st') (hd : noRef st.length d = true) : fnD n f ds st = .ok d st' := by
  rw [fnD_rt h]
  exact tidy_nx hn hp hd
theorem fnD_pen0 {n b : Nat} {f : Fs} {ds : List D} {st st' : Store} {d : D} (h : f (startE n ds) st = .rt d st') (hn : Nx st st') (hp : Pen b st') (hd : noRef st.length d = true) : fnD n f ds st = .ok d st' :=
  fnD_pen (e := []) (by rw [List.append_nil]; exact h) hn hp hd
theorem d_draw {b : Nat} {st : Store} (n : Nat) (h : Pen (b + 1) st) (span : Int) (h0 : 0 < span) (hs : span < 1000) : ∃ v st', run (n + 1) 12 [.ref 1, .int span] st = .ok (.int v) st' ∧ Nx st st' ∧ Pen b st' ∧ 0 ≤ v ∧ v < span := by
  obtain ⟨ns, k, l, p, q⟩ := h
  obtain ⟨v, k', l', h1, h2, h3, h4, h5⟩ := s_draw n p (by omega) span h0 ((Nb.of (b := 10) (by omega) (by omega)).mono (by decide))
  exact ⟨v, _, h1, ⟨k', l', rfl⟩, ⟨ns, k', l', h2, by omega⟩, h4, h5⟩
theorem seqOf_nx {b : Nat} {st st' : Store} {d : D} {ds : List D} (hp : Pen b st) (hn : Nx st st') (h : seqOf d st = some ds) : seqOf d st' = some ds := by
  cases d with
  | tup l => exact h
  | ref m =>
    obtain ⟨k, l, rfl⟩ := hn
    have hm : m ≠ 1 := by
      intro e
      subst e
      obtain ⟨ns, k, l, p, q⟩ := hp
      unfold seqOf at h
      simp only [p.dic] at h
      cases h
    unfold seqOf at h ⊢
    dsimp only at h ⊢
    rw [List.getElem?_set_ne (fun e => hm e.symm)]
    exact h
  | _ => cases h
theorem sub_seq {st : Store} {d : D} {ds : List D} (h : seqOf d st = some ds) (v : Int) (h0 : 0 ≤ v) (h1 : v < ds.length) : ∃ x, x ∈ ds ∧ subD d (.int v) st = .ok x st := by
  have hv : v.toNat < ds.length := by omega
  have ha : atI ds v = some ds[v.toNat] := by
    have := atI_nat (xs := ds) (j := v.toNat) (v := ds[v.toNat]) (by simp [hv])
    rwa [Int.toNat_of_nonneg h0] at this
  refine ⟨ds[v.toNat], List.getElem_mem hv, ?_⟩
  cases d with
  | tup l =>
    cases h
    unfold subD
    simp only [ha]
    rfl
  | ref m =>
    unfold seqOf at h
    dsimp only at h
    unfold subD
    cases hm : st[m]? with
    | none => rw [hm] at h; cases h
    | some x =>
      rw [hm] at h
      simp only [hm]
      cases x <;> cases h <;> (show optR (atI _ _) st = _; rw [ha]; rfl)
  | _ => cases h
theorem bLen_seq {st : Store} {d : D} {ds : List D} (h : seqOf d st = some ds) : bLen [d] st = .ok (.int ds.length) st := by
  cases d with
  | tup l => cases h; rfl
  | ref m =>
    unfold bLen
    simp only [h]
  | _ => cases h
theorem d_pick {b : Nat} {st : Store} (n : Nat) (h : Pen (b + 1) st) (items : D) (ds : List D) (hi : seqOf items st = some ds) (h0 : 0 < ds.length) (h1 : ds.length < 1000) (hd : ∀ d ∈ ds, noRef st.length d = true) :
    ∃ d st', run (n + 2) 13 [.ref 1, items] st = .ok d st' ∧ Nx st st' ∧ Pen b st' ∧ d ∈ ds := by
  obtain ⟨v, st', e1, e2, e3, e4, e5⟩ := d_draw n h ds.length (by omega) (by omega)
  obtain ⟨x, hx, hs⟩ := sub_seq (seqOf_nx h e2 hi) v e4 e5
  refine ⟨x, st', ?_, e2, e3, hx⟩
  rw [run_13]
  refine fnD_pen0 ?_ e2 e3 (hd x hx)
  simp [B_13, startE, bLen_seq hi, e1, hs]
end G39
namespace G39
open PySem PySem.Spec PyProof.Rows L2 Gm
/-- a fraction that the law draws -/
def Fq (q : Rat) : Prop := ∃ t : Int, q = (t : Rat) / 60 ∧ t.natAbs ≤ 540
theorem Fq.sz {q : Rat} (h : Fq q) : Sz 20 q := by
  obtain ⟨t, rfl, ht⟩ := h
  have e : (t : Rat) / 60 = Rat.divInt t 60 := by rw [Rat.divInt_eq_div]; rfl
  rw [e]
  exact Sz.of (by unfold Nb; omega) (by unfold Nb; decide) (by decide)
theorem fq_of (v : Int) (j : Int) (hv : 0 ≤ v) (hv2 : v < 19) (hj : j = 1 ∨ j = 2 ∨ j = 3 ∨ j = 4 ∨ j = 5 ∨ j = 6 ∨ j = 10) : Fq (Rat.divInt (v - 9) j) := by
  rw [Rat.divInt_eq_div]
  have h : ∀ (w c : Int), w.natAbs ≤ 9 → c.natAbs ≤ 60 → (w * c).natAbs ≤ 540 := fun w c h1 h2 => by
    rw [Int.natAbs_mul]
    exact Nat.mul_le_mul h1 h2
  have hw : (v - 9).natAbs ≤ 9 := by omega
  generalize v - 9 = w at hw
  rcases hj with rfl | rfl | rfl | rfl | rfl | rfl | rfl
  · exact ⟨w * 60, by rw [Rat.intCast_mul]; grind, h _ _ hw (by decide)⟩
  · exact ⟨w * 30, by rw [Rat.intCast_mul]; grind, h _ _ hw (by decide)⟩
  · exact ⟨w * 20, by rw [Rat.intCast_mul]; grind, h _ _ hw (by decide)⟩
  · exact ⟨w * 15, by rw [Rat.intCast_mul]; grind, h _ _ hw (by decide)⟩
  · exact ⟨w * 12, by rw [Rat.intCast_mul]; grind, h _ _ hw (by decide)⟩
  · exact ⟨w * 10, by rw [Rat.intCast_mul]; grind, h _ _ hw (by decide)⟩
  · exact ⟨w * 6, by rw [Rat.intCast_mul]; grind, h _ _ hw (by decide)⟩
theorem d_fraction {b : Nat} {st : Store} (n : Nat) (h : Pen (b + 2) st) : ∃ q st', run (n + 3) 19 [.ref 1, .int 0] st = .ok (rT q) st' ∧ Nx st st' ∧ Pen b st' ∧ Fq q := by
  obtain ⟨v, s1, e1, n1, p1, v0, v1⟩ := d_draw (b := b + 1) (n + 1) h 19 (by decide) (by decide)
  obtain ⟨d, s2, e2, n2, p2, hd⟩ := d_pick (b := b) n (p1.ext [.lst [.int 1, .int 1, .int 1, .int 2, .int 3, .int 4, .int 5, .int 6, .int 10]]) (.ref s1.length) [.int 1, .int 1, .int 1, .int 2, .int 3, .int 4, .int 5, .int 6, .int 10] (by unfold seqOf; simp only [at_end]) (by simp) (by simp) (by simp)
  obtain ⟨s3, rfl, n3, p3⟩ := n2.split p1.long p2
  have hj : ∃ j : Int, d = .int j ∧ (j = 1 ∨ j = 2 ∨ j = 3 ∨ j = 4 ∨ j = 5 ∨ j = 6 ∨ j = 10) := by
    simp at hd
    rcases hd with rfl | rfl | rfl | rfl | rfl | rfl | rfl
    · exact ⟨1, rfl, by simp⟩
    · exact ⟨2, rfl, by simp⟩
    · exact ⟨3, rfl, by simp⟩
    · exact ⟨4, rfl, by simp⟩
    · exact ⟨5, rfl, by simp⟩
    · exact ⟨6, rfl, by simp⟩
    · exact ⟨10, rfl, by simp⟩
  obtain ⟨j, rfl, hj⟩ := hj
  have j0 : j ≠ 0 := by omega
  have jb : Nb 8000 j := (Nb.of (b := 10) (by omega) (by omega)).mono (by decide)
  refine ⟨Rat.divInt (v - 9) j, s3, ?_, n1.trans n3, p3, fq_of v j v0 v1 hj⟩
  rw [run_19]
  refine fnD_pen (e := [.lst [.int 1, .int 1, .int 1, .int 2, .int 3, .int 4, .int 5, .int 6, .int 10]]) ?_ (n1.trans n3) p3 (noRef_rT _ _)
  simp [-Rat.divInt_ofNat, B_19, startE, e1, e2, s_lcut n _ _ _ j0 jb]
theorem d_given {b : Nat} {st : Store} (n : Nat) (h : Pen (b + 1) st) (q : Rat) (hq : Sz 8000 q) : ∃ d st', run (n + 3) 21 [.ref 1, rT q] st = .ok d st' ∧ Nx st st' ∧ Pen b st' ∧ IsN d q := by
  have mk : ∀ st, mkD T (run (n + 2)) 0 [.int q.num, .int q.den] st = .ok (rD q) st := fun st => by
    rw [s_mk n _ _ st (Rat.den_ne' q) hq.den, Rat.num_divInt_den]
  by_cases h1 : q.den = 1
  · obtain ⟨v, s1, e1, n1, p1, v0, v1⟩ := d_draw (b := b) (n + 1) h 2 (by decide) (by decide)
    have hi : IsN (.int q.num) q := .inr ⟨q.num, rfl, by
      conv => lhs; rw [← Rat.num_divInt_den q, h1]
      exact rat_int _⟩
    by_cases hv : v = 0
    · refine ⟨.int q.num, s1, ?_, n1, p1, hi⟩
      rw [run_21]
      refine fnD_pen0 ?_ n1 p1 (by simp)
      simp [B_21, startE, rT_0, rT_1, h1, e1, hv]
    · refine ⟨rD q, s1, ?_, n1, p1, .rD q⟩
      rw [run_21]
      refine fnD_pen0 ?_ n1 p1 (noRef_rD _ _)
      have hv2 : (v == 0) = false := by simpa using hv
      have mk' := mk
      rw [h1] at mk'
      simp [B_21, startE, rT_0, rT_1, h1, e1, hv2]
      have := mk' s1
      simp at this
      rw [this]
      rfl
  · have hd : ((q.den : Int) == 1) = false := by
      simp only [beq_eq_false_iff_ne, ne_eq]
      omega
    refine ⟨rD q, st, ?_, h.self, h.mono (Nat.le_succ b), .rD q⟩
    rw [run_21]
    refine fnD_pen0 ?_ h.self h (noRef_rD _ _)
    simp [B_21, startE, rT_0, rT_1, hd, mk]
theorem IsN.noRef {d : D} {q : Rat} (h : IsN d q) (n : Nat) : noRef n d = true := by
  rcases h with rfl | ⟨i, rfl, rfl⟩
  · exact noRef_rD _ _
  · simp
theorem d_point {b : Nat} {st : Store} (n : Nat) (h : Pen (b + 2) st) (x y : Rat) (hx : Sz 8000 x) (hy : Sz 8000 y) : ∃ st', run (n + 5) 22 [.ref 1, pT x y] st = .ok (pD x y) st' ∧ Nx st st' ∧ Pen b st' := by
  obtain ⟨d1, s1, e1, n1, p1, i1⟩ := d_given (b := b + 1) (n + 1) h x hx
  obtain ⟨d2, s2, e2, n2, p2, i2⟩ := d_given (b := b) (n + 1) p1 y hy
  refine ⟨s2, ?_, n1.trans n2, p2⟩
  rw [run_22]
  refine fnD_pen0 ?_ (n1.trans n2) p2 (noRef_pD _ _ _)
  simp [B_22, startE, pT_0, pT_1, e1, e2, s_mkP n _ i1 i2]
end G39
namespace G39
open PySem PySem.Spec PyProof.Rows L2 Gm
def r3 : Rat := ⟨1, 3, by decide, by decide⟩
theorem r3_ : r3 = 1 / 3 := by
  have h := Rat.num_divInt_den r3
  rw [← h, Rat.divInt_eq_div]
  rfl
theorem third : D.tup [.int 1, .int 3] = rT (1 / 3) := by
  rw [← r3_]
  rfl
theorem two_ : D.tup [.int 2, .int 1] = rT 2 := rfl
theorem num_ne (q : Rat) : (q.num == 0) = decide (q = 0) := by
  rw [Bool.eq_iff_iff]
  simp [Rat.num_eq_zero]
noncomputable def tblB (c : Fn) : Fs := sSeq (sAsg (xTup (aCons (xTup (aCons (xCall T c 19 (aCons (xVar 0) (aCons (xVar 1) aNil))) (aCons (xCall T c 19 (aCons (xVar 0) (aCons (xK (.int 0)) aNil))) aNil))) (aCons (xTup (aCons (xCall T c 19 (aCons (xVar 0) (aCons (xK (.int 0)) aNil))) (aCons (xCall T c 19 (aCons (xVar 0) (aCons (xVar 1) aNil))) aNil))) aNil))) (gNm 3)) (sIf (tOf (truD T c) (xBin (eqB T c true) (xBin subD (xCall T c 25 (aCons (xVar 3) aNil)) (xK (.int 0))) (xK (.int 0)))) (sRet (xVar 3)) sNx)
theorem table_loop (n : Nat) : ∀ (ds : List D) (st : Store) (o1 o2 : Option D) (b : Nat), Pen (b + 8 * ds.length) st → ∃ st', Nx st st' ∧ Pen b st' ∧
    ((∃ o1' o2', forI (fun _ => True) (gNm 2) (tblB (run (n + 4))) ds [some (.ref 1), some (.int 0), o1, o2] st = .nx [some (.ref 1), some (.int 0), o1', o2'] st') ∨
      ∃ a b c d, forI (fun _ => True) (gNm 2) (tblB (run (n + 4))) ds [some (.ref 1), some (.int 0), o1, o2] st = .rt (tT a b c d) st' ∧ Fq a ∧ Fq b ∧ Fq c ∧ Fq d ∧ a * d - b * c ≠ 0) := by
  intro ds
  induction ds with
  | nil =>
    intro st o1 o2 b h
    refine ⟨st, h.self, h, .inl ⟨o1, o2, ?_⟩⟩
    unfold forI
    simp
  | cons x ds ih =>
    intro st o1 o2 b h
    obtain ⟨q1, s1, e1, n1, p1, f1⟩ := d_fraction (b := b + 8 * ds.length + 6) (n + 1) (h.mono (by rw [List.length_cons]; omega))
    obtain ⟨q2, s2, e2, n2, p2, f2⟩ := d_fraction (b := b + 8 * ds.length + 4) (n + 1) p1
    obtain ⟨q3, s3, e3, n3, p3, f3⟩ := d_fraction (b := b + 8 * ds.length + 2) (n + 1) p2
    obtain ⟨q4, s4, e4, n4, p4, f4⟩ := d_fraction (b := b + 8 * ds.length) (n + 1) p3
    have nn := ((n1.trans n2).trans n3).trans n4
    have hf : ∀ st, run (n + 4) 25 [.tup [.tup [rT q1, rT q2], .tup [rT q3, rT q4]]] st = .ok (rT (q1 * q4 - q2 * q3)) st := fun st => s_lfactor n q1 q2 q3 q4 (f1.sz.mono (by decide)) (f2.sz.mono (by decide)) (f3.sz.mono (by decide)) (f4.sz.mono (by decide)) st
    by_cases hz : q1 * q4 - q2 * q3 = 0
    · obtain ⟨s5, n5, p5, r⟩ := ih s4 (some x) (some (.tup [.tup [rT q1, rT q2], .tup [rT q3, rT q4]])) b p4
      have e : forI (fun _ => True) (gNm 2) (tblB (run (n + 4))) (x :: ds) [some (.ref 1), some (.int 0), o1, o2] st = forI (fun _ => True) (gNm 2) (tblB (run (n + 4))) ds [some (.ref 1), some (.int 0), some x, some (.tup [.tup [rT q1, rT q2], .tup [rT q3, rT q4]])] s4 := by
        have hb : tblB (run (n + 4)) [some (.ref 1), some (.int 0), some x, o2] st = .nx [some (.ref 1), some (.int 0), some x, some (.tup [.tup [rT q1, rT q2], .tup [rT q3, rT q4]])] s4 := by
          unfold tblB
          simp [e1, e2, e3, e4, hf, rT_0, num_ne, decide_eq_true hz]
        conv => lhs; unfold forI
        rw [if_pos trivial]
        simp only [ap_gNm]
        simp [hb]
      refine ⟨s5, nn.trans n5, p5, ?_⟩
      rw [e]
      exact r
    · refine ⟨s4, nn, p4.mono (by omega), .inr ⟨q1, q2, q3, q4, ?_, f1, f2, f3, f4, hz⟩⟩
      have hb : tblB (run (n + 4)) [some (.ref 1), some (.int 0), some x, o2] st = .rt (tT q1 q2 q3 q4) s4 := by
        unfold tblB
        simp [e1, e2, e3, e4, hf, rT_0, num_ne, decide_eq_false hz]
        rfl
      unfold forI
      rw [if_pos trivial]
      simp [hb]
theorem d_table {b : Nat} {st : Store} (n : Nat) (h : Pen (b + 72) st) : ∃ q1 q2 q3 q4 st', run (n + 5) 24 [.ref 1, .int 0] st = .ok (tT q1 q2 q3 q4) st' ∧ Nx st st' ∧ Pen b st' ∧ Fq q1 ∧ Fq q2 ∧ Fq q3 ∧ Fq q4 ∧ q1 * q4 - q2 * q3 ≠ 0 := by
  obtain ⟨s1, n1, p1, r⟩ := table_loop n [.int 0, .int 1, .int 2, .int 3, .int 4, .int 5, .int 6, .int 7, .int 8] st none none b h
  rcases r with ⟨o1, o2, r⟩ | ⟨q1, q2, q3, q4, r, f1, f2, f3, f4, hz⟩
  · refine ⟨2, 1 / 3, 0, 1, s1, ?_, n1, p1, ⟨120, by grind, by decide⟩, ⟨20, by grind, by decide⟩, ⟨0, by grind, by decide⟩, ⟨60, by grind, by decide⟩, by grind⟩
    rw [run_24]
    refine fnD_pen0 ?_ n1 p1 (noRef_tT _ _ _ _ _)
    show (sSeq (sFor (iRng (aCons (xK (.int 9)) aNil)) (gNm 2) (tblB (run (n + 4)))) _) [some (.ref 1), some (.int 0), none, none] st = _
    simp only [ap_sSeq, ap_sFor, rng9]
    simp [r]
    rw [two_, third, raw0, raw1]
    rfl
  · refine ⟨q1, q2, q3, q4, s1, ?_, n1, p1, f1, f2, f3, f4, hz⟩
    rw [run_24]
    refine fnD_pen0 ?_ n1 p1 (noRef_tT _ _ _ _ _)
    show (sSeq (sFor (iRng (aCons (xK (.int 9)) aNil)) (gNm 2) (tblB (run (n + 4)))) _) [some (.ref 1), some (.int 0), none, none] st = _
    simp only [ap_sSeq, ap_sFor, rng9]
    simp [r]
end G39
namespace G39
open PySem PySem.Spec PyProof.Rows L2 Gm
noncomputable def wayB (c : Fn) (far : Fs) : Fs := sSeq (sPar 3 4 (aCons (xBin (binD T c .Sub) (xCall T c 12 (aCons (xVar 0) (aCons (xK (.int 13)) aNil))) (xK (.int 6))) (aCons (xBin (binD T c .Sub) (xCall T c 12 (aCons (xVar 0) (aCons (xK (.int 13)) aNil))) (xK (.int 6))) aNil))) (sSeq (sIf (tOf (truD T c) (xBin (ordD T c .Gt) (xVar 1) (xK (.int 0)))) far sNx) (sIf (tOf (truD T c) (xBin (eqB T c true) (xTup (aCons (xVar 3) (aCons (xVar 4) aNil))) (xTup (aCons (xK (.int 0)) (aCons (xK (.int 0)) aNil))))) (sSeq (sAsg (xCall T c 15 (aCons (xVar 3) (aCons (xVar 4) aNil))) (gNm 5)) (sRet (xTup (aCons (xBin (binD T c .FloorDiv) (xVar 3) (xVar 5)) (aCons (xBin (binD T c .FloorDiv) (xVar 4) (xVar 5)) aNil))))) sNx))
def Wy (x y : Int) : Prop := (x ≠ 0 ∨ y ≠ 0) ∧ x.natAbs ≤ 6 ∧ y.natAbs ≤ 6
theorem cut_abs (x : Int) (g : Nat) (hg : (g : Int) ∣ x) : (x.fdiv g).natAbs ≤ x.natAbs := by
  rw [Int.fdiv_eq_ediv_of_dvd hg, Int.natAbs_ediv_of_dvd hg]
  exact Nat.div_le_self ..
theorem cut_nz (x : Int) (g : Nat) (hg : (g : Int) ∣ x) (h : x ≠ 0) : x.fdiv g ≠ 0 := by
  intro e
  rw [Int.fdiv_eq_ediv_of_dvd hg] at e
  have := Int.ediv_mul_cancel hg
  rw [e, Int.zero_mul] at this
  exact h this.symm
theorem way_loop (n : Nat) (far : Fs) : ∀ (ds : List D) (st : Store) (o1 o2 o3 o4 : Option D) (b : Nat), Pen (b + 2 * ds.length) st → ∃ st', Nx st st' ∧ Pen b st' ∧
    ((∃ o1' o2' o3' o4', forI (fun _ => True) (gNm 2) (wayB (run (n + 1)) far) ds [some (.ref 1), some (.int 0), o1, o2, o3, o4] st = .nx [some (.ref 1), some (.int 0), o1', o2', o3', o4'] st') ∨
      ∃ x y, forI (fun _ => True) (gNm 2) (wayB (run (n + 1)) far) ds [some (.ref 1), some (.int 0), o1, o2, o3, o4] st = .rt (.tup [.int x, .int y]) st' ∧ Wy x y) := by
  intro ds
  induction ds with
  | nil =>
    intro st o1 o2 o3 o4 b h
    refine ⟨st, h.self, h, .inl ⟨o1, o2, o3, o4, ?_⟩⟩
    unfold forI
    simp
  | cons d ds ih =>
    intro st o1 o2 o3 o4 b h
    obtain ⟨v, s1, e1, n1, p1, v0, v1⟩ := d_draw (b := b + 2 * ds.length + 1) n (h.mono (by rw [List.length_cons]; omega)) 13 (by decide) (by decide)
    obtain ⟨w, s2, e2, n2, p2, w0, w1⟩ := d_draw (b := b + 2 * ds.length) n p1 13 (by decide) (by decide)
    have nn := n1.trans n2
    by_cases hz : v - 6 = 0 ∧ w - 6 = 0
    · obtain ⟨s5, n5, p5, r⟩ := ih s2 (some d) (some (.int (v - 6))) (some (.int (w - 6))) o4 b p2
      have hb : wayB (run (n + 1)) far [some (.ref 1), some (.int 0), some d, o2, o3, o4] st = .nx [some (.ref 1), some (.int 0), some d, some (.int (v - 6)), some (.int (w - 6)), o4] s2 := by
        unfold wayB
        simp [e1, e2, eq_T2]
        simp [hz.1, hz.2]
      refine ⟨s5, nn.trans n5, p5, ?_⟩
      have e : forI (fun _ => True) (gNm 2) (wayB (run (n + 1)) far) (d :: ds) [some (.ref 1), some (.int 0), o1, o2, o3, o4] st = forI (fun _ => True) (gNm 2) (wayB (run (n + 1)) far) ds [some (.ref 1), some (.int 0), some d, some (.int (v - 6)), some (.int (w - 6)), o4] s2 := by
        conv => lhs; unfold forI
        rw [if_pos trivial]
        simp only [ap_gNm]
        simp [hb]
      rw [e]
      exact r
    · have hg : (Int.gcd (v - 6) (w - 6) : Int) ≠ 0 := by
        intro e
        have := Int.gcd_eq_zero_iff.mp (Int.ofNat_eq_zero.mp e)
        exact hz this
      have gl : Int.gcd (v - 6) (w - 6) < 2 ^ 10 := by
        have h1 : Int.gcd (v - 6) (w - 6) ≤ 12 := by
          by_cases hv : v - 6 = 0
          · have : w - 6 ≠ 0 := fun e => hz ⟨hv, e⟩
            have := Nat.le_of_dvd (Int.natAbs_pos.mpr this) (Nat.gcd_dvd_right (v - 6).natAbs (w - 6).natAbs)
            show Nat.gcd _ _ ≤ _
            omega
          · have := Nat.le_of_dvd (Int.natAbs_pos.mpr hv) (Nat.gcd_dvd_left (v - 6).natAbs (w - 6).natAbs)
            show Nat.gcd _ _ ≤ _
            omega
        exact Nat.lt_of_le_of_lt h1 (by decide)
      have hd : (Int.gcd (v - 6) (w - 6) : Int) ≠ 0 ∧ ((Int.gcd (v - 6) (w - 6) : Int)).natAbs.log2 < 9000 := ⟨hg, Nat.lt_of_lt_of_le (log2_lt (b := 10) gl (by decide)) (by decide)⟩
      have hb : wayB (run (n + 1)) far [some (.ref 1), some (.int 0), some d, o2, o3, o4] st = .rt (.tup [.int ((v - 6).fdiv (Int.gcd (v - 6) (w - 6))), .int ((w - 6).fdiv (Int.gcd (v - 6) (w - 6)))]) s2 := by
        have hz' : ((v - 6 == 0) && ((w - 6 == 0) && true)) = false := by
          rw [Bool.eq_false_iff]
          intro e
          simp only [Bool.and_eq_true, beq_iff_eq, and_true] at e
          exact hz e
        unfold wayB
        simp only [ap_sSeq, ap_sPar, ap_aCons, ap_xBin, ap_xCall]
        simp [e1, e2, eq_T2, -Bool.and_true, hz', s_lgcd, ib_fdiv _ hd]
      have ha := cut_abs (v - 6) _ (Int.gcd_dvd_left (v - 6) (w - 6))
      have hc := cut_abs (w - 6) _ (Int.gcd_dvd_right (v - 6) (w - 6))
      refine ⟨s2, nn, p2.mono (by omega), .inr ⟨(v - 6).fdiv (Int.gcd (v - 6) (w - 6)), (w - 6).fdiv (Int.gcd (v - 6) (w - 6)), ?_, ?_, by omega, by omega⟩⟩
      · unfold forI
        rw [if_pos trivial]
        simp only [ap_gNm]
        simp [hb]
      · by_cases hv : v - 6 = 0
        · exact .inr (cut_nz _ _ (Int.gcd_dvd_right (v - 6) (w - 6)) (fun e => hz ⟨hv, e⟩))
        · exact .inl (cut_nz _ _ (Int.gcd_dvd_left (v - 6) (w - 6)) hv)
theorem d_way {b : Nat} {st : Store} (n : Nat) (h : Pen (b + 18) st) : ∃ x y st', run (n + 2) 32 [.ref 1, .int 0] st = .ok (.tup [.int x, .int y]) st' ∧ Nx st st' ∧ Pen b st' ∧ Wy x y := by
  rw [run_32]
  have go : ∀ far, ∃ x y st', fnD 6 (sSeq (sFor (iRng (aCons (xK (.int 9)) aNil)) (gNm 2) (wayB (run (n + 1)) far)) (sRet (xTup (aCons (xK (.int 2)) (aCons (xK (.int 1)) aNil))))) [.ref 1, .int 0] st = .ok (.tup [.int x, .int y]) st' ∧ Nx st st' ∧ Pen b st' ∧ Wy x y := by
    intro far
    obtain ⟨s1, n1, p1, r⟩ := way_loop n far [.int 0, .int 1, .int 2, .int 3, .int 4, .int 5, .int 6, .int 7, .int 8] st none none none none b h
    rcases r with ⟨o1, o2, o3, o4, r⟩ | ⟨x, y, r, hw⟩
    · refine ⟨2, 1, s1, ?_, n1, p1, .inl (by decide), by decide, by decide⟩
      refine fnD_pen0 ?_ n1 p1 (by simp)
      show (sSeq _ _) [some (.ref 1), some (.int 0), none, none, none, none] st = _
      simp only [ap_sSeq, ap_sFor, rng9]
      simp [r]
    · refine ⟨x, y, s1, ?_, n1, p1, hw⟩
      refine fnD_pen0 ?_ n1 p1 (by simp)
      show (sSeq _ _) [some (.ref 1), some (.int 0), none, none, none, none] st = _
      simp only [ap_sSeq, ap_sFor, rng9]
      simp [r]
  exact go _
end G39
namespace G39
open PySem PySem.Spec PyProof.Rows L2 Gm
theorem bin_ll {c : Fn} {m p : Nat} {st : Store} {a b : List D} (h1 : st[m]? = some (.lst a)) (h2 : st[p]? = some (.lst b)) (hl : a.length + b.length < 100) : binD T c .Add (.ref m) (.ref p) st = .ok (.ref st.length) (st ++ [.lst (a ++ b)]) := by
  unfold binD
  simp only [h1, h2]
  exact if_pos ⟨trivial, Nat.le_trans (Nat.le_of_lt hl) (by decide)⟩
noncomputable def grB (c : Fn) : Fs := sSeq (sPar3 4 5 6 (aCons (xBin (binD T c .Add) (xK (.int 1)) (xCall T c 12 (aCons (xVar 0) (aCons (xK (.int 12)) aNil)))) (aCons (xBin (binD T c .Sub) (xCall T c 12 (aCons (xVar 0) (aCons (xK (.int 21)) aNil))) (xK (.int 10))) (aCons (xBin (binD T c .Add) (xK (.int 1)) (xCall T c 12 (aCons (xVar 0) (aCons (xK (.int 12)) aNil)))) aNil)))) (sIf (tOf (truD T c) (xBin (ordD T c .Gt) (xBin (binD T c .Mult) (xBin (binD T c .Mult) (xK (.int 4)) (xVar 4)) (xVar 6)) (xBin (binD T c .Mult) (xVar 5) (xVar 5)))) (sRet (xTup (aCons (xVar 4) (aCons (xVar 5) (aCons (xVar 6) aNil))))) sNx)
theorem ground_loop (n : Nat) (q r : D) : ∀ (ds : List D) (st : Store) (o1 o2 o3 o4 : Option D) (b : Nat), Pen (b + 3 * ds.length) st → ∃ st', Nx st st' ∧ Pen b st' ∧
    ((∃ o1' o2' o3' o4', forI (fun _ => True) (gNm 3) (grB (run (n + 1))) ds [some (.ref 1), some q, some r, o1, o2, o3, o4] st = .nx [some (.ref 1), some q, some r, o1', o2', o3', o4'] st') ∨
      ∃ x y z, forI (fun _ => True) (gNm 3) (grB (run (n + 1))) ds [some (.ref 1), some q, some r, o1, o2, o3, o4] st = .rt (gT x y z) st' ∧ Gr x y z) := by
  intro ds
  induction ds with
  | nil =>
    intro st o1 o2 o3 o4 b h
    refine ⟨st, h.self, h, .inl ⟨o1, o2, o3, o4, ?_⟩⟩
    unfold forI
    simp
  | cons d ds ih =>
    intro st o1 o2 o3 o4 b h
    obtain ⟨u, s1, e1, n1, p1, u0, u1⟩ := d_draw (b := b + 3 * ds.length + 2) n (h.mono (by rw [List.length_cons]; omega)) 12 (by decide) (by decide)
    obtain ⟨v, s2, e2, n2, p2, v0, v1⟩ := d_draw (b := b + 3 * ds.length + 1) n p1 21 (by decide) (by decide)
    obtain ⟨w, s3, e3, n3, p3, w0, w1⟩ := d_draw (b := b + 3 * ds.length) n p2 12 (by decide) (by decide)
    have nn := (n1.trans n2).trans n3
    have ha : Nb 10 (1 + u) := Nb.of (by omega) (by omega)
    have hc : Nb 10 (1 + w) := Nb.of (by omega) (by omega)
    have hb : Nb 10 (v - 10) := by unfold Nb; omega
    have m1 := Nb.four.ok ha (by decide)
    have m2 := (Nb.four.mul ha).ok hc (by decide)
    have m3 := hb.ok hb (by decide)
    by_cases hz : (v - 10) * (v - 10) < 4 * (1 + u) * (1 + w)
    · have hB : grB (run (n + 1)) [some (.ref 1), some q, some r, some d, o2, o3, o4] st = .rt (gT (1 + u) (v - 10) (1 + w)) s3 := by
        unfold grB
        simp [e1, e2, e3, ib_mul, m1, m2, m3, hz]
        rfl
      refine ⟨s3, nn, p3.mono (by omega), .inr ⟨1 + u, v - 10, 1 + w, ?_, ⟨ha, hb, hc, by omega, hz⟩⟩⟩
      unfold forI
      rw [if_pos trivial]
      simp only [ap_gNm]
      simp [hB]
    · obtain ⟨s5, n5, p5, rr⟩ := ih s3 (some d) (some (.int (1 + u))) (some (.int (v - 10))) (some (.int (1 + w))) b p3
      have hB : grB (run (n + 1)) [some (.ref 1), some q, some r, some d, o2, o3, o4] st = .nx [some (.ref 1), some q, some r, some d, some (.int (1 + u)), some (.int (v - 10)), some (.int (1 + w))] s3 := by
        unfold grB
        simp [e1, e2, e3, ib_mul, m1, m2, m3, hz]
      refine ⟨s5, nn.trans n5, p5, ?_⟩
      have e : forI (fun _ => True) (gNm 3) (grB (run (n + 1))) (d :: ds) [some (.ref 1), some q, some r, o1, o2, o3, o4] st = forI (fun _ => True) (gNm 3) (grB (run (n + 1))) ds [some (.ref 1), some q, some r, some d, some (.int (1 + u)), some (.int (v - 10)), some (.int (1 + w))] s3 := by
        conv => lhs; unfold forI
        rw [if_pos trivial]
        simp only [ap_gNm]
        simp [hB]
      rw [e]
      exact rr
end G39
namespace G39
open PySem PySem.Spec PyProof.Rows L2 Gm
def g3 (a b c : Int) : D := .tup [.int a, .int b, .int c]
def L0 : List D := [g3 1 0 1, g3 1 1 1, g3 1 0 2, g3 1 1 2, g3 1 1 3, g3 1 1 4, g3 2 1 2, g3 1 0 5, g3 2 2 3]
def L1 : List D := [g3 1 1 6, g3 2 1 3, g3 2 (-1) 3, g3 2 0 3, g3 1 1 8, g3 2 1 4, g3 3 2 5, g3 3 1 5]
def L2' : List D := [g3 1 (-1) 1, g3 13 5 2]
theorem g3_Gr {a b c : Int} (h : (1 ≤ a ∧ a ≤ 20) ∧ (-20 ≤ b ∧ b ≤ 20) ∧ (0 ≤ c ∧ c ≤ 20) ∧ b * b < 4 * a * c) : Gr a b c :=
  ⟨Nb.of (by omega) (by omega), by unfold Nb; omega, Nb.of (by omega) (by omega), by omega, h.2.2.2⟩
theorem some_Gr {d : D} (h : d ∈ L0 ++ L1 ++ L2') : ∃ a b c, d = gT a b c ∧ Gr a b c := by
  simp only [L0, L1, L2', List.cons_append, List.nil_append, List.mem_cons, List.not_mem_nil, or_false] at h
  rcases h with rfl | rfl | rfl | rfl | rfl | rfl | rfl | rfl | rfl | rfl | rfl | rfl | rfl | rfl | rfl | rfl | rfl | rfl | rfl
  all_goals exact ⟨_, _, _, rfl, g3_Gr (by decide)⟩
theorem d_ground {b : Nat} {st : Store} (n : Nat) (h : Pen (b + 28) st) : ∃ x y z st', run (n + 3) 28 [.ref 1, .bl false] st = .ok (gT x y z) st' ∧ Nx st st' ∧ Pen b st' ∧ Gr x y z := by
  rw [run_28]
  have f1 : binD T (run (n + 2)) .Add (.ref st.length) (.ref (st.length + 1)) (st ++ [.lst L0, .lst L1]) = .ok (.ref (st.length + 2)) (st ++ [.lst L0, .lst L1, .lst (L0 ++ L1)]) := by
    rw [bin_ll (get_0 st [.lst L1] (.lst L0)) (get_1 st [] (.lst L0) (.lst L1)) (by decide)]
    simp
  have f2 : binD T (run (n + 2)) .Add (.ref (st.length + 2)) (.ref (st.length + 3)) (st ++ [.lst L0, .lst L1, .lst (L0 ++ L1), .lst L2']) = .ok (.ref (st.length + 4)) (st ++ [.lst L0, .lst L1, .lst (L0 ++ L1), .lst L2', .lst (L0 ++ L1 ++ L2')]) := by
    rw [bin_ll (get_2 st [.lst L2'] (.lst L0) (.lst L1) (.lst (L0 ++ L1))) (by rw [List.getElem?_append_right (by omega), show st.length + 3 - st.length = 3 by omega]; rfl) (by decide)]
    simp
  generalize hG : [Cell.lst L0, .lst L1, .lst (L0 ++ L1), .lst L2', .lst (L0 ++ L1 ++ L2')] = G at f2
  obtain ⟨v, s1, e1, n1, p1, v0, v1⟩ := d_draw (b := b + 27) (n + 1) (h.ext G) 3 (by decide) (by decide)
  obtain ⟨s1, rfl, m1, q1⟩ := n1.split h.long p1
  have hseq : seqOf (.ref (st.length + 4)) (s1 ++ G) = some (L0 ++ L1 ++ L2') := by
    unfold seqOf
    have : (s1 ++ G)[st.length + 4]? = some (.lst (L0 ++ L1 ++ L2')) := by
      rw [List.getElem?_append_right (by rw [m1.len]; omega), m1.len, show st.length + 4 - st.length = 4 by omega, ← hG]
      rfl
    simp only [this]
  by_cases hv : 0 < v
  · obtain ⟨d, s2, e2, n2, p2, hd⟩ := d_pick (b := b + 26) n (q1.ext G) (.ref (st.length + 4)) _ hseq (by decide) (by decide) (fun d hd => by
      obtain ⟨a, b, c, rfl, _⟩ := some_Gr hd
      simp [gT])
    obtain ⟨s2, rfl, m2, q2⟩ := n2.split q1.long p2
    obtain ⟨x, y, z, rfl, g⟩ := some_Gr hd
    refine ⟨x, y, z, s2, ?_, m1.trans m2, q2.mono (by omega), g⟩
    refine fnD_pen (e := G) ?_ (m1.trans m2) q2 (by simp [gT])
    subst hG
    simp only [L0, L1, L2', g3, List.cons_append, List.nil_append] at f1 f2 e1 e2
    simp only [L0, L1, L2', g3, List.cons_append, List.nil_append]
    simp [B_28, startE, f1, f2, e1, e2, hv]
  · have hv0 : v = 0 := by omega
    obtain ⟨s2, n2, p2, r⟩ := ground_loop (n + 1) (.bl false) (.ref (st.length + 4)) [.int 0, .int 1, .int 2, .int 3, .int 4, .int 5, .int 6, .int 7, .int 8] (s1 ++ G) none none none none b (q1.ext G)
    obtain ⟨s2, rfl, m2, q2⟩ := n2.split q1.long p2
    subst hG
    simp only [L0, L1, L2', g3, List.cons_append, List.nil_append] at f1 f2 e1 r
    rcases r with ⟨o1, o2, o3, o4, r⟩ | ⟨x, y, z, r, g⟩
    · refine ⟨2, 1, 3, s2, ?_, m1.trans m2, q2, g3_Gr (by decide)⟩
      refine fnD_pen (e := [.lst L0, .lst L1, .lst (L0 ++ L1), .lst L2', .lst (L0 ++ L1 ++ L2')]) ?_ (m1.trans m2) q2 (by simp [gT])
      unfold grB at r
      simp only [L0, L1, L2', g3, List.cons_append, List.nil_append]
      simp [B_28, startE, f1, f2, e1, hv0, rng9, r]
      rfl
    · refine ⟨x, y, z, s2, ?_, m1.trans m2, q2, g⟩
      refine fnD_pen (e := [.lst L0, .lst L1, .lst (L0 ++ L1), .lst L2', .lst (L0 ++ L1 ++ L2')]) ?_ (m1.trans m2) q2 (by simp [gT])
      unfold grB at r
      simp only [L0, L1, L2', g3, List.cons_append, List.nil_append]
      simp [B_28, startE, f1, f2, e1, hv0, rng9, r]
end G39
namespace G39
open PySem PySem.Spec PyProof.Rows L2 Gm
/-- rows over one number, not flat -/
structure Rw (s : Nat) (a b c d : Rat) : Prop where
  com : ∃ D n1 n2 n3 n4 : Int, 0 < D ∧ D ≤ ((2 ^ s : Nat) : Int) ∧ a = (n1 : Rat) / D ∧ b = (n2 : Rat) / D ∧ c = (n3 : Rat) / D ∧ d = (n4 : Rat) / D ∧ n1.natAbs ≤ 2 ^ s ∧ n2.natAbs ≤ 2 ^ s ∧ n3.natAbs ≤ 2 ^ s ∧ n4.natAbs ≤ 2 ^ s
  det : a * d - b * c ≠ 0
theorem Rw.mono {s t : Nat} {a b c d : Rat} (h : Rw s a b c d) (ht : s ≤ t) : Rw t a b c d := by
  obtain ⟨⟨D, n1, n2, n3, n4, h1, h2, h3, h4, h5, h6, h7, h8, h9, h10⟩, hd⟩ := h
  have p : 2 ^ s ≤ 2 ^ t := Nat.pow_le_pow_right (by decide) ht
  exact ⟨⟨D, n1, n2, n3, n4, h1, by omega, h3, h4, h5, h6, by omega, by omega, by omega, by omega⟩, hd⟩
theorem add_abs {i j : Int} {s : Nat} (h1 : i.natAbs ≤ 2 ^ s) (h2 : j.natAbs ≤ 2 ^ s) : (i + j).natAbs ≤ 2 ^ (s + 1) := by
  have := Int.natAbs_add_le i j
  rw [Nat.pow_succ]
  omega
theorem mul_abs {i j : Int} {s t : Nat} (h1 : i.natAbs ≤ 2 ^ s) (h2 : j.natAbs ≤ 2 ^ t) : (i * j).natAbs ≤ 2 ^ (s + t) := by
  rw [Int.natAbs_mul, Nat.pow_add]
  exact Nat.mul_le_mul h1 h2
theorem Rw.mul {s t : Nat} {a b c d a' b' c' d' : Rat} (h : Rw s a b c d) (g : Rw t a' b' c' d') : Rw (s + t + 1) (a * a' + b * c') (a * b' + b * d') (c * a' + d * c') (c * b' + d * d') := by
  obtain ⟨⟨D, n1, n2, n3, n4, h1, h2, rfl, rfl, rfl, rfl, h7, h8, h9, h10⟩, hd⟩ := h
  obtain ⟨⟨E, m1, m2, m3, m4, g1, g2, rfl, rfl, rfl, rfl, g7, g8, g9, g10⟩, gd⟩ := g
  have hD : (D : Rat) ≠ 0 := fun e => by
    have := Rat.intCast_eq_zero_iff.mp e
    omega
  have hE : (E : Rat) ≠ 0 := fun e => by
    have := Rat.intCast_eq_zero_iff.mp e
    omega
  refine ⟨⟨D * E, n1 * m1 + n2 * m3, n1 * m2 + n2 * m4, n3 * m1 + n4 * m3, n3 * m2 + n4 * m4, Int.mul_pos h1 g1, ?_, ?_, ?_, ?_, ?_, add_abs (mul_abs h7 g7) (mul_abs h8 g9), add_abs (mul_abs h7 g8) (mul_abs h8 g10), add_abs (mul_abs h9 g7) (mul_abs h10 g9), add_abs (mul_abs h9 g8) (mul_abs h10 g10)⟩, ?_⟩
  · have p := mul_abs (i := D) (j := E) (s := s) (t := t) (by omega) (by omega)
    have q : 2 ^ (s + t) ≤ 2 ^ (s + t + 1) := Nat.pow_le_pow_right (by decide) (by omega)
    have r := Int.mul_pos h1 g1
    omega
  all_goals first
    | (rw [Rat.intCast_add, Rat.intCast_mul, Rat.intCast_mul, Rat.intCast_mul]; grind)
    | skip
  grind
end G39
namespace G39
open PySem PySem.Spec PyProof.Rows L2 Gm
theorem sq_nn (i : Int) : 0 ≤ i * i := by
  rcases Int.le_total 0 i with h | h
  · exact Int.mul_nonneg h h
  · exact Int.mul_nonneg_of_nonpos_of_nonpos h h
theorem sq_pos {i : Int} (h : i ≠ 0) : 0 < i * i := by
  rcases Int.lt_or_gt_of_ne h with h | h
  · exact Int.mul_pos_of_neg_of_neg h h
  · exact Int.mul_pos h h
/-- the form is positive -/
theorem Mx_pos {a b c x y : Int} (g : Gr a b c) (h : x ≠ 0 ∨ y ≠ 0) : 0 < Mx a b c x y := by
  have e : 4 * a * Mx a b c x y = (2 * a * x + b * y) * (2 * a * x + b * y) + (4 * a * c - b * b) * (y * y) := by
    unfold Mx
    grind
  have hp := g.pos
  have hd : 0 < 4 * a * c - b * b := by have := g.def'; omega
  have r : 0 < 4 * a * Mx a b c x y := by
    rw [e]
    by_cases hy : y = 0
    · have hx : x ≠ 0 := by
        rcases h with h | h
        · exact h
        · exact absurd hy h
      subst hy
      have : 0 < (2 * a * x + b * 0) * (2 * a * x + b * 0) := sq_pos (by
        rw [Int.mul_zero, Int.add_zero]
        exact Int.mul_ne_zero (by omega) hx)
      omega
    · have := sq_nn (2 * a * x + b * y)
      have := Int.mul_pos hd (sq_pos hy)
      omega
  have ha : 0 < 4 * a := by omega
  by_cases hm : 0 < Mx a b c x y
  · exact hm
  · have := Int.mul_nonneg (Int.le_of_lt ha) (show 0 ≤ -Mx a b c x y by omega)
    rw [Int.mul_neg] at this
    omega
theorem Gr.le {a b c : Int} (g : Gr a b c) : a.natAbs ≤ 2 ^ 10 ∧ b.natAbs ≤ 2 ^ 10 ∧ c.natAbs ≤ 2 ^ 10 := ⟨Nat.le_of_lt g.ha, Nat.le_of_lt g.hb, Nat.le_of_lt g.hc⟩
theorem Wy.le {x y : Int} (w : Wy x y) : x.natAbs ≤ 2 ^ 3 ∧ y.natAbs ≤ 2 ^ 3 := ⟨by have := w.2.1; omega, by have := w.2.2; omega⟩
theorem le_abs {i : Int} {s t : Nat} (h : i.natAbs ≤ 2 ^ s) (ht : s ≤ t) : i.natAbs ≤ 2 ^ t := Nat.le_trans h (Nat.pow_le_pow_right (by decide) ht)
theorem sub_abs {i j : Int} {s : Nat} (h1 : i.natAbs ≤ 2 ^ s) (h2 : j.natAbs ≤ 2 ^ s) : (i - j).natAbs ≤ 2 ^ (s + 1) := by
  rw [Int.sub_eq_add_neg]
  exact add_abs h1 (by rw [Int.natAbs_neg]; exact h2)
theorem Mx_le {a b c x y : Int} (g : Gr a b c) (w : Wy x y) : (Mx a b c x y).natAbs ≤ 2 ^ 18 := by
  obtain ⟨g1, g2, g3⟩ := g.le
  obtain ⟨w1, w2⟩ := w.le
  exact add_abs (add_abs (mul_abs (mul_abs g1 w1) w1) (mul_abs (mul_abs g2 w1) w2)) (le_abs (mul_abs (mul_abs g3 w2) w2) (by decide))
theorem mirror_Rw {a b c x y : Int} (g : Gr a b c) (w : Wy x y) : Rw 20 (Rat.divInt ((2 * a * x + b * y) * x - Mx a b c x y) (Mx a b c x y)) (Rat.divInt ((b * x + 2 * c * y) * x) (Mx a b c x y)) (Rat.divInt ((2 * a * x + b * y) * y) (Mx a b c x y)) (Rat.divInt ((b * x + 2 * c * y) * y - Mx a b c x y) (Mx a b c x y)) := by
  have hp := Mx_pos g w.1
  have hl := Mx_le g w
  obtain ⟨g1, g2, g3⟩ := g.le
  obtain ⟨w1, w2⟩ := w.le
  have two : (2 : Int).natAbs ≤ 2 ^ 1 := by decide
  have f1 : (2 * a * x + b * y).natAbs ≤ 2 ^ 15 := add_abs (mul_abs (mul_abs two g1) w1) (le_abs (mul_abs g2 w2) (by decide))
  have f2 : (b * x + 2 * c * y).natAbs ≤ 2 ^ 15 := add_abs (le_abs (mul_abs g2 w1) (by decide)) (mul_abs (mul_abs two g3) w2)
  refine ⟨⟨Mx a b c x y, _, _, _, _, hp, by omega, Rat.divInt_eq_div .., Rat.divInt_eq_div .., Rat.divInt_eq_div .., Rat.divInt_eq_div .., le_abs (sub_abs (mul_abs f1 w1) hl) (by decide), le_abs (mul_abs f2 w1) (by decide), le_abs (mul_abs f1 w2) (by decide), le_abs (sub_abs (mul_abs f2 w2) hl) (by decide)⟩, ?_⟩
  have hM : (Mx a b c x y : Rat) ≠ 0 := fun e => by
    have := Rat.intCast_eq_zero_iff.mp e
    omega
  have hi : ((2 * a * x + b * y) * x - Mx a b c x y) * ((b * x + 2 * c * y) * y - Mx a b c x y) - ((b * x + 2 * c * y) * x) * ((2 * a * x + b * y) * y) = -(Mx a b c x y * Mx a b c x y) := by
    unfold Mx
    grind
  have hr := congrArg (fun i : Int => (i : Rat)) hi
  rw [Rat.intCast_sub, Rat.intCast_mul, Rat.intCast_mul, Rat.intCast_neg, Rat.intCast_mul] at hr
  rw [Rat.divInt_eq_div, Rat.divInt_eq_div, Rat.divInt_eq_div, Rat.divInt_eq_div]
  grind
end G39
namespace G39
open PySem PySem.Spec PyProof.Rows L2 Gm
theorem intRw {s : Nat} (n1 n2 n3 n4 : Int) (h1 : n1.natAbs ≤ 2 ^ s) (h2 : n2.natAbs ≤ 2 ^ s) (h3 : n3.natAbs ≤ 2 ^ s) (h4 : n4.natAbs ≤ 2 ^ s) (hd : n1 * n4 - n2 * n3 ≠ 0) : Rw s (n1 : Rat) n2 n3 n4 := by
  have one : ((1 : Int) : Rat) = 1 := rfl
  refine ⟨⟨1, n1, n2, n3, n4, by decide, ?_, by rw [one]; grind, by rw [one]; grind, by rw [one]; grind, by rw [one]; grind, h1, h2, h3, h4⟩, ?_⟩
  · have := Nat.one_le_two_pow (n := s)
    omega
  · intro e
    rw [← Rat.intCast_mul, ← Rat.intCast_mul, ← Rat.intCast_sub] at e
    exact hd (Rat.intCast_eq_zero_iff.mp e)
theorem tableRw {a b c d : Rat} (h1 : Fq a) (h2 : Fq b) (h3 : Fq c) (h4 : Fq d) (hd : a * d - b * c ≠ 0) : Rw 10 a b c d := by
  obtain ⟨t1, rfl, l1⟩ := h1
  obtain ⟨t2, rfl, l2⟩ := h2
  obtain ⟨t3, rfl, l3⟩ := h3
  obtain ⟨t4, rfl, l4⟩ := h4
  exact ⟨⟨60, t1, t2, t3, t4, by decide, by decide, rfl, rfl, rfl, rfl, by omega, by omega, by omega, by omega⟩, hd⟩
theorem undoneRw {a b c d : Rat} (h1 : Fq a) (h2 : Fq b) (h3 : Fq c) (h4 : Fq d) (hd : a * d - b * c ≠ 0) : Rw 22 (d / (a * d - b * c)) (-1 * b / (a * d - b * c)) (-1 * c / (a * d - b * c)) (a / (a * d - b * c)) := by
  obtain ⟨t1, rfl, l1⟩ := h1
  obtain ⟨t2, rfl, l2⟩ := h2
  obtain ⟨t3, rfl, l3⟩ := h3
  obtain ⟨t4, rfl, l4⟩ := h4
  have k1 : t1.natAbs ≤ 2 ^ 10 := by omega
  have k2 : t2.natAbs ≤ 2 ^ 10 := by omega
  have k3 : t3.natAbs ≤ 2 ^ 10 := by omega
  have k4 : t4.natAbs ≤ 2 ^ 10 := by omega
  have sx : (60 : Int).natAbs ≤ 2 ^ 6 := by decide
  have hm := sub_abs (mul_abs k1 k4) (mul_abs k2 k3)
  have em : (t1 : Rat) / 60 * ((t4 : Rat) / 60) - (t2 : Rat) / 60 * ((t3 : Rat) / 60) = ((t1 * t4 - t2 * t3 : Int) : Rat) / 3600 := by
    rw [Rat.intCast_sub, Rat.intCast_mul, Rat.intCast_mul]
    grind
  have inv : ((t1 : Rat) / 60 * ((t4 : Rat) / 60) - (t2 : Rat) / 60 * ((t3 : Rat) / 60)) ≠ 0 := hd
  refine ⟨?_, by grind⟩
  rw [em] at inv ⊢
  generalize t1 * t4 - t2 * t3 = m at hm inv ⊢
  have hm0 : (m : Rat) ≠ 0 := by grind
  have hmi : m ≠ 0 := fun e => hm0 (by rw [e]; rfl)
  have c60 : ((60 : Int) : Rat) = 60 := rfl
  have l : ∀ t : Int, t.natAbs ≤ 2 ^ 10 → (60 * t).natAbs ≤ 2 ^ 22 := fun t h => le_abs (mul_abs sx h) (by decide)
  have ln : ∀ t : Int, t.natAbs ≤ 2 ^ 10 → (-(60 * t)).natAbs ≤ 2 ^ 22 := fun t h => by rw [Int.natAbs_neg]; exact l t h
  rcases Int.lt_or_gt_of_ne hmi with hneg | hpos
  · refine ⟨-m, -(60 * t4), 60 * t2, 60 * t3, -(60 * t1), by omega, by omega, ?_, ?_, ?_, ?_, ln _ k4, l _ k2, l _ k3, ln _ k1⟩
    · rw [Rat.intCast_neg, Rat.intCast_neg, Rat.intCast_mul, c60]; grind
    · rw [Rat.intCast_neg, Rat.intCast_mul, c60]; grind
    · rw [Rat.intCast_neg, Rat.intCast_mul, c60]; grind
    · rw [Rat.intCast_neg, Rat.intCast_neg, Rat.intCast_mul, c60]; grind
  · refine ⟨m, 60 * t4, -(60 * t2), -(60 * t3), 60 * t1, by omega, by omega, ?_, ?_, ?_, ?_, l _ k4, ln _ k2, ln _ k3, l _ k1⟩
    · rw [Rat.intCast_mul, c60]; grind
    · rw [Rat.intCast_neg, Rat.intCast_mul, c60]; grind
    · rw [Rat.intCast_neg, Rat.intCast_mul, c60]; grind
    · rw [Rat.intCast_mul, c60]; grind
theorem norm_nz {a b c x y : Int} (g : Gr a b c) (h : x ≠ 0 ∨ y ≠ 0) : x * (x + b * y) - (-c * y) * (a * y) ≠ 0 := by
  have e : 4 * (x * (x + b * y) - (-c * y) * (a * y)) = (2 * x + b * y) * (2 * x + b * y) + (4 * a * c - b * b) * (y * y) := by grind
  have hd : 0 < 4 * a * c - b * b := by have := g.def'; omega
  by_cases hy : y = 0
  · have hx : x ≠ 0 := by
      rcases h with h | h
      · exact h
      · exact absurd hy h
    subst hy
    have : 0 < (2 * x + b * 0) * (2 * x + b * 0) := sq_pos (by
      rw [Int.mul_zero, Int.add_zero]
      exact Int.mul_ne_zero (by omega) hx)
    omega
  · have := sq_nn (2 * x + b * y)
    have := Int.mul_pos hd (sq_pos hy)
    omega
theorem normRw {a b c x y : Int} (g : Gr a b c) (w : Wy x y) : Rw 14 (x : Rat) ((-c * y : Int) : Rat) ((a * y : Int) : Rat) ((x + b * y : Int) : Rat) := by
  obtain ⟨g1, g2, g3⟩ := g.le
  obtain ⟨w1, w2⟩ := w.le
  exact intRw _ _ _ _ (le_abs w1 (by decide)) (le_abs (mul_abs (by rw [Int.natAbs_neg]; exact g3) w2) (by decide)) (le_abs (mul_abs g1 w2) (by decide)) (add_abs (le_abs w1 (by decide)) (mul_abs g2 w2)) (norm_nz g w.1)
theorem Rw.sz {s : Nat} {a b c d : Rat} (h : Rw s a b c d) : Sz (s + 1) a ∧ Sz (s + 1) b ∧ Sz (s + 1) c ∧ Sz (s + 1) d := by
  obtain ⟨⟨D, n1, n2, n3, n4, h1, h2, rfl, rfl, rfl, rfl, h7, h8, h9, h10⟩, hd⟩ := h
  have p : 2 ^ s < 2 ^ (s + 1) := Nat.pow_lt_pow_right (by decide) (Nat.lt_succ_self s)
  have go : ∀ n : Int, n.natAbs ≤ 2 ^ s → Sz (s + 1) ((n : Rat) / D) := fun n hn => by
    rw [← Rat.divInt_eq_div]
    exact Sz.of (Nat.lt_of_le_of_lt hn p) (by unfold Nb; omega) (by omega)
  exact ⟨go _ h7, go _ h8, go _ h9, go _ h10⟩
end G39
namespace G39
open PySem PySem.Spec PyProof.Rows L2 Gm
theorem in_23 (v : Int) (st : Store) (h : v = 0 ∨ v = 1 ∨ v = 2 ∨ v = 3 ∨ v = 4 ∨ v = 5 ∨ v = 6) : inD false (.int v) (.tup [.int 2, .int 3]) st = .ok (.bl (decide (v = 2 ∨ v = 3))) st := by
  rcases h with rfl | rfl | rfl | rfl | rfl | rfl | rfl <;> rfl
theorem quarter_lc (c : Fn) (t1 t2 t3 t4 t5 t6 t7 t8 t9 : Option D) (i j k l : Int) (o1 o2 : Option D) (st : Store) : ∃ e, xBi bTuple (aCons (xLc (iSeq (xVar 9)) (gNm 10) tTrue (xBi bTuple (aCons (xLc (iSeq (xVar 10)) (gNm 11) tTrue (xTup (aCons (xVar 11) (aCons (xK (.int 1)) aNil))) [11]) aNil)) [10]) aNil) [t1, t2, t3, t4, t5, t6, t7, t8, t9, some (.tup [.tup [.int i, .int j], .tup [.int k, .int l]]), o1, o2] st = .ok (tT i j k l) (st ++ e) := by
  have row : ∀ (p q : Int) (e : Store), ∃ e', xBi bTuple (aCons (xLc (iSeq (xVar 10)) (gNm 11) tTrue (xTup (aCons (xVar 11) (aCons (xK (.int 1)) aNil))) [11]) aNil) [t1, t2, t3, t4, t5, t6, t7, t8, t9, some (.tup [.tup [.int i, .int j], .tup [.int k, .int l]]), some (.tup [.int p, .int q]), o2] (st ++ e) = .ok (.tup [rT p, rT q]) (st ++ e ++ e') := by
    intro p q e
    have g := tup_lc (fi := iSeq (xVar 10)) (f := xTup (aCons (xVar 11) (aCons (xK (.int 1)) aNil))) (i := 11) (vs := [11]) (ρ := [t1, t2, t3, t4, t5, t6, t7, t8, t9, some (.tup [.tup [.int i, .int j], .tup [.int k, .int l]]), some (.tup [.int p, .int q]), o2]) (st := st ++ e) (ds := [.int p, .int q]) (F := fun d => .tup [d, .int 1]) (iSeq_tup (by simp)) (fun _ => trivial) (fun d hd e' => ⟨[], by simp [wipeE]⟩) (by show 2 ≤ sizeLine; decide)
    rw [rT_int, rT_int]
    exact g
  have g := tup_lc (fi := iSeq (xVar 9)) (f := xBi bTuple (aCons (xLc (iSeq (xVar 10)) (gNm 11) tTrue (xTup (aCons (xVar 11) (aCons (xK (.int 1)) aNil))) [11]) aNil)) (i := 10) (vs := [10]) (ρ := [t1, t2, t3, t4, t5, t6, t7, t8, t9, some (.tup [.tup [.int i, .int j], .tup [.int k, .int l]]), o1, o2]) (st := st) (ds := [.tup [.int i, .int j], .tup [.int k, .int l]]) (F := fun d => match d with | .tup [.int p, .int q] => .tup [rT p, rT q] | _ => .non) (iSeq_tup (by simp)) (fun _ => trivial) (fun d hd e' => by
    rcases List.mem_cons.mp hd with rfl | hd
    · exact row i j e'
    · rcases List.mem_singleton.mp hd with rfl
      exact row k l e') (by show 2 ≤ sizeLine; decide)
  exact g
end G39
namespace G39
open PySem PySem.Spec PyProof.Rows L2 Gm
theorem idRw : Rw 41 1 0 0 1 := (intRw (s := 0) 1 0 0 1 (by decide) (by decide) (by decide) (by decide) (by decide)).mono (by decide)
theorem d_drawn {b : Nat} {st : Store} (n : Nat) (h : Pen (b + 96) st) (ga gb gc : Int) (g : Gr ga gb gc) : ∃ p q r s x y st', run (n + 6) 34 [.ref 1, gT ga gb gc] st = .ok (.tup [tT p q r s, pT x y]) st' ∧ Nx st st' ∧ Pen b st' ∧ Rw 41 p q r s ∧ Fq x ∧ Fq y := by
  obtain ⟨sx, s1, e1, n1, p1, f1⟩ := d_fraction (b := b + 94) (n + 2) (h.mono (by omega))
  obtain ⟨sy, s2, e2, n2, p2, f2⟩ := d_fraction (b := b + 92) (n + 2) p1
  obtain ⟨wx, wy, s3, e3, n3, p3, w⟩ := d_way (b := b + 74) (n + 3) p2
  obtain ⟨v, s4, e4, n4, p4, v0, v1⟩ := d_draw (b := b + 73) (n + 4) p3 7 (by decide) (by decide)
  have nn := ((n1.trans n2).trans n3).trans n4
  have lx : Nb 10 wx := by unfold Nb; have := w.2.1; omega
  have ly : Nb 10 wy := by unfold Nb; have := w.2.2; omega
  have e5 : ∀ st, run (n + 5) 30 [gT ga gb gc, .tup [.int wx, .int wy]] st = _ := fun st => s_mirror (n + 2) ga gb gc g wx wy lx ly (by have := Mx_pos g w.1; omega) st
  have R := mirror_Rw g w
  generalize Rat.divInt ((2 * ga * wx + gb * wy) * wx - Mx ga gb gc wx wy) (Mx ga gb gc wx wy) = m1 at e5 R
  generalize Rat.divInt ((gb * wx + 2 * gc * wy) * wx) (Mx ga gb gc wx wy) = m2 at e5 R
  generalize Rat.divInt ((2 * ga * wx + gb * wy) * wy) (Mx ga gb gc wx wy) = m3 at e5 R
  generalize Rat.divInt ((gb * wx + 2 * gc * wy) * wy - Mx ga gb gc wx wy) (Mx ga gb gc wx wy) = m4 at e5 R
  have z := R.sz
  rw [run_34]
  have hv : v = 0 ∨ v = 1 ∨ v = 2 ∨ v = 3 ∨ v = 4 ∨ v = 5 ∨ v = 6 := by omega
  have hin := fun st => in_23 v st hv
  have nr : ∀ p q r s x y : Rat, noRef st.length (.tup [tT p q r s, pT x y]) = true := fun p q r s x y => by simp [noRef_tT, noRef_pT]
  rcases hv with hv | hv | hv | hv | hv | hv | hv
  · subst hv
    obtain ⟨d, s5, e6, n5, p5, hd⟩ := d_pick (b := b + 72) (n + 3) (p4.ext [.lst [pT sx sy, pT 0 0]]) (.ref s4.length) [pT sx sy, pT 0 0] (by unfold seqOf; simp only [at_end]) (by simp) (by simp) (by simp [noRef_pT])
    obtain ⟨s5, rfl, m5, q5⟩ := n5.split p4.long p5
    have hz : ∃ x y, d = pT x y ∧ Fq x ∧ Fq y := by
      simp at hd
      rcases hd with rfl | rfl
      · exact ⟨sx, sy, rfl, f1, f2⟩
      · exact ⟨0, 0, rfl, ⟨0, by grind, by decide⟩, ⟨0, by grind, by decide⟩⟩
    obtain ⟨x, y, rfl, k1, k2⟩ := hz
    refine ⟨1, 0, 0, 1, x, y, s5, ?_, nn.trans m5, q5.mono (by omega), idRw, k1, k2⟩
    refine fnD_pen (e := [.lst [pT sx sy, pT 0 0]]) ?_ (nn.trans m5) q5 (nr _ _ _ _ _ _)
    simp [B_34, startE, e1, e2, e3, e4, e5, rawp, raw0, raw1, rawt, e6]
  · subst hv
    obtain ⟨q1, q2, q3, q4, s5, e6, m5, q5, k1, k2, k3, k4, hd⟩ := d_table (b := b + 1) n p4
    refine ⟨q1, q2, q3, q4, sx, sy, s5, ?_, nn.trans m5, q5.mono (by omega), (tableRw k1 k2 k3 k4 hd).mono (by decide), f1, f2⟩
    refine fnD_pen0 ?_ (nn.trans m5) q5 (nr _ _ _ _ _ _)
    simp [B_34, startE, e1, e2, e3, e4, e5, rawp, e6, hin]
  · subst hv
    obtain ⟨ux, uy, s5, e6, n5, p5, w'⟩ := d_way (b := b + 55) (n + 3) p4
    have lx' : Nb 10 ux := by unfold Nb; have := w'.2.1; omega
    have ly' : Nb 10 uy := by unfold Nb; have := w'.2.2; omega
    have e7 : ∀ st, run (n + 5) 30 [gT ga gb gc, .tup [.int ux, .int uy]] st = _ := fun st => s_mirror (n + 2) ga gb gc g ux uy lx' ly' (by have := Mx_pos g w'.1; omega) st
    have R' := mirror_Rw g w'
    generalize Rat.divInt ((2 * ga * ux + gb * uy) * ux - Mx ga gb gc ux uy) (Mx ga gb gc ux uy) = k1 at e7 R'
    generalize Rat.divInt ((gb * ux + 2 * gc * uy) * ux) (Mx ga gb gc ux uy) = k2 at e7 R'
    generalize Rat.divInt ((2 * ga * ux + gb * uy) * uy) (Mx ga gb gc ux uy) = k3 at e7 R'
    generalize Rat.divInt ((gb * ux + 2 * gc * uy) * uy - Mx ga gb gc ux uy) (Mx ga gb gc ux uy) = k4 at e7 R'
    have z' := R'.sz
    have Pr := R.mul R'
    have e8 : ∀ st, run (n + 5) 31 [tT m1 m2 m3 m4, tT k1 k2 k3 k4] st = _ := fun st => s_lproduct (n + 1) _ _ _ _ _ _ _ _ st (z.1.mono (by decide)) (z.2.1.mono (by decide)) (z.2.2.1.mono (by decide)) (z.2.2.2.mono (by decide)) (z'.1.mono (by decide)) (z'.2.1.mono (by decide)) (z'.2.2.1.mono (by decide)) (z'.2.2.2.mono (by decide))
    refine ⟨_, _, _, _, sx, sy, s5, ?_, nn.trans n5, p5.mono (by omega), Pr, f1, f2⟩
    refine fnD_pen0 ?_ (nn.trans n5) p5 (nr _ _ _ _ _ _)
    simp [B_34, startE, e1, e2, e3, e4, e5, rawp, hin, e6, e7, e8]
  · subst hv
    obtain ⟨ux, uy, s5, e6, n5, p5, w'⟩ := d_way (b := b + 55) (n + 3) p4
    have lx' : Nb 10 ux := by unfold Nb; have := w'.2.1; omega
    have ly' : Nb 10 uy := by unfold Nb; have := w'.2.2; omega
    have e7 : ∀ st, run (n + 5) 30 [gT ga gb gc, .tup [.int ux, .int uy]] st = _ := fun st => s_mirror (n + 2) ga gb gc g ux uy lx' ly' (by have := Mx_pos g w'.1; omega) st
    have R' := mirror_Rw g w'
    generalize Rat.divInt ((2 * ga * ux + gb * uy) * ux - Mx ga gb gc ux uy) (Mx ga gb gc ux uy) = k1 at e7 R'
    generalize Rat.divInt ((gb * ux + 2 * gc * uy) * ux) (Mx ga gb gc ux uy) = k2 at e7 R'
    generalize Rat.divInt ((2 * ga * ux + gb * uy) * uy) (Mx ga gb gc ux uy) = k3 at e7 R'
    generalize Rat.divInt ((gb * ux + 2 * gc * uy) * uy - Mx ga gb gc ux uy) (Mx ga gb gc ux uy) = k4 at e7 R'
    have z' := R'.sz
    have Pr := R.mul R'
    have e8 : ∀ st, run (n + 5) 31 [tT m1 m2 m3 m4, tT k1 k2 k3 k4] st = _ := fun st => s_lproduct (n + 1) _ _ _ _ _ _ _ _ st (z.1.mono (by decide)) (z.2.1.mono (by decide)) (z.2.2.1.mono (by decide)) (z.2.2.2.mono (by decide)) (z'.1.mono (by decide)) (z'.2.1.mono (by decide)) (z'.2.2.1.mono (by decide)) (z'.2.2.2.mono (by decide))
    refine ⟨_, _, _, _, sx, sy, s5, ?_, nn.trans n5, p5.mono (by omega), Pr, f1, f2⟩
    refine fnD_pen0 ?_ (nn.trans n5) p5 (nr _ _ _ _ _ _)
    simp [B_34, startE, e1, e2, e3, e4, e5, rawp, hin, e6, e7, e8]
  · subst hv
    obtain ⟨ux, uy, s5, e6, n5, p5, w'⟩ := d_way (b := b + 55) (n + 3) p4
    have lx' : Nb 10 ux := by unfold Nb; have := w'.2.1; omega
    have ly' : Nb 10 uy := by unfold Nb; have := w'.2.2; omega
    have o1 := g.ha.ok ly' (by decide)
    have o2 := g.hb.ok ly' (by decide)
    have o3 := g.hc.neg.ok ly' (by decide)
    have R' := normRw g w'
    have z' := R'.sz
    have Pr := R.mul R'
    have hq : tT (ux : Rat) ((-gc * uy : Int) : Rat) ((ga * uy : Int) : Rat) ((ux + gb * uy : Int) : Rat) = .tup [.tup [.tup [.int ux, .int 1], .tup [.int (-gc * uy), .int 1]], .tup [.tup [.int (ga * uy), .int 1], .tup [.int (ux + gb * uy), .int 1]]] := by simp only [tT, rT_int]
    have e8 := fun st => s_lproduct (n + 1) m1 m2 m3 m4 (ux : Rat) ((-gc * uy : Int) : Rat) ((ga * uy : Int) : Rat) ((ux + gb * uy : Int) : Rat) st (z.1.mono (by decide)) (z.2.1.mono (by decide)) (z.2.2.1.mono (by decide)) (z.2.2.2.mono (by decide)) (z'.1.mono (by decide)) (z'.2.1.mono (by decide)) (z'.2.2.1.mono (by decide)) (z'.2.2.2.mono (by decide))
    simp only [hq] at e8
    refine ⟨_, _, _, _, sx, sy, s5, ?_, nn.trans n5, p5.mono (by omega), Pr.mono (by decide), f1, f2⟩
    refine fnD_pen0 ?_ (nn.trans n5) p5 (nr _ _ _ _ _ _)
    simp [-Rat.intCast_mul, -Rat.intCast_add, -Int.neg_mul, B_34, startE, e1, e2, e3, e4, e5, rawp, hin, e6, gT_0, gT_1, gT_2, ib_mul, o1, o2, o3, e8]
  · subst hv
    obtain ⟨q1, q2, q3, q4, s5, e6, n5, p5, k1, k2, k3, k4, hd⟩ := d_table (b := b + 1) n p4
    have Rt := tableRw k1 k2 k3 k4 hd
    have Ru := undoneRw k1 k2 k3 k4 hd
    obtain ⟨d, s6, e7, n6, p6, hq⟩ := d_pick (b := b) (n + 3) (p5.ext [.lst [.tup [.tup [.int 0, .int (-1)], .tup [.int 1, .int 0]], .tup [.tup [.int 0, .int (-1)], .tup [.int 1, .int (-1)]], .tup [.tup [.int 1, .int (-1)], .tup [.int 1, .int 0]]]]) (.ref s5.length) [.tup [.tup [.int 0, .int (-1)], .tup [.int 1, .int 0]], .tup [.tup [.int 0, .int (-1)], .tup [.int 1, .int (-1)]], .tup [.tup [.int 1, .int (-1)], .tup [.int 1, .int 0]]] (by unfold seqOf; simp only [at_end]) (by simp) (by simp) (by simp)
    obtain ⟨s6, rfl, n6, p6⟩ := n6.split p5.long p6
    have hq : ∃ i j k l : Int, d = .tup [.tup [.int i, .int j], .tup [.int k, .int l]] ∧ i.natAbs ≤ 2 ^ 0 ∧ j.natAbs ≤ 2 ^ 0 ∧ k.natAbs ≤ 2 ^ 0 ∧ l.natAbs ≤ 2 ^ 0 ∧ i * l - j * k ≠ 0 := by
      simp at hq
      rcases hq with rfl | rfl | rfl
      · exact ⟨0, -1, 1, 0, rfl, by decide, by decide, by decide, by decide, by decide⟩
      · exact ⟨0, -1, 1, -1, rfl, by decide, by decide, by decide, by decide, by decide⟩
      · exact ⟨1, -1, 1, 0, rfl, by decide, by decide, by decide, by decide, by decide⟩
    obtain ⟨i, j, k, l, rfl, i1, i2, i3, i4, i5⟩ := hq
    have Rq := intRw i j k l i1 i2 i3 i4 i5
    have Ra := Rt.mul Rq
    have Pr := Ra.mul Ru
    have zt := Rt.sz
    have zq := Rq.sz
    have za := Ra.sz
    have zu := Ru.sz
    obtain ⟨e, he⟩ := quarter_lc (run (n + 5)) (some (.ref 1)) (some (gT ga gb gc)) (some (pT sx sy)) (some (tT m1 m2 m3 m4)) (some (.int 5)) none none none (some (tT q1 q2 q3 q4)) i j k l none none (s6 ++ [.lst [.tup [.tup [.int 0, .int (-1)], .tup [.int 1, .int 0]], .tup [.tup [.int 0, .int (-1)], .tup [.int 1, .int (-1)]], .tup [.tup [.int 1, .int (-1)], .tup [.int 1, .int 0]]]])
    have e8 : ∀ st, run (n + 5) 31 [tT q1 q2 q3 q4, tT i j k l] st = _ := fun st => s_lproduct (n + 1) _ _ _ _ _ _ _ _ st (zt.1.mono (by decide)) (zt.2.1.mono (by decide)) (zt.2.2.1.mono (by decide)) (zt.2.2.2.mono (by decide)) (zq.1.mono (by decide)) (zq.2.1.mono (by decide)) (zq.2.2.1.mono (by decide)) (zq.2.2.2.mono (by decide))
    have e9 : ∀ st, run (n + 5) 35 [tT q1 q2 q3 q4] st = _ := fun st => s_undone n _ _ _ _ (zt.1.mono (by decide)) (zt.2.1.mono (by decide)) (zt.2.2.1.mono (by decide)) (zt.2.2.2.mono (by decide)) hd st
    have e10 := fun st => s_lproduct (n + 1) _ _ _ _ _ _ _ _ st (za.1.mono (b' := 950) (by decide)) (za.2.1.mono (b' := 950) (by decide)) (za.2.2.1.mono (b' := 950) (by decide)) (za.2.2.2.mono (b' := 950) (by decide)) (zu.1.mono (b' := 950) (by decide)) (zu.2.1.mono (b' := 950) (by decide)) (zu.2.2.1.mono (b' := 950) (by decide)) (zu.2.2.2.mono (b' := 950) (by decide))
    refine ⟨_, _, _, _, sx, sy, s6, ?_, (nn.trans n5).trans n6, p6, Pr.mono (by decide), f1, f2⟩
    refine fnD_pen (e := [.lst [.tup [.tup [.int 0, .int (-1)], .tup [.int 1, .int 0]], .tup [.tup [.int 0, .int (-1)], .tup [.int 1, .int (-1)]], .tup [.tup [.int 1, .int (-1)], .tup [.int 1, .int 0]]]] ++ e) ?_ ((nn.trans n5).trans n6) p6 (nr _ _ _ _ _ _)
    rw [List.append_assoc] at he
    simp only [List.cons_append, List.nil_append, ap_xBi, ap_aCons] at he ⊢
    simp [B_34, startE, e1, e2, e3, e4, e5, rawp, hin, e6, e7, he, e8, e9, e10]
  · subst hv
    refine ⟨m1, m2, m3, m4, sx, sy, s4, ?_, nn, p4.mono (by omega), R.mono (by decide), f1, f2⟩
    refine fnD_pen0 ?_ nn p4 (nr _ _ _ _ _ _)
    simp [B_34, startE, e1, e2, e3, e4, e5, rawp, hin]
end G39
namespace G39
open PySem PySem.Spec PyProof.Rows L2 Gm
theorem d_row {b : Nat} {st : Store} (n : Nat) (h : Pen (b + 2) st) (p q : Rat) (hp : Sz 8000 p) (hq : Sz 8000 q) (o1 o2 o3 o4 o6 : Option D) :
    ∃ y1 y2 st', xLc (iSeq (xVar 5)) (gNm 6) tTrue (xCall T (run (n + 3)) 21 (aCons (xVar 0) (aCons (xVar 6) aNil))) [6] [some (.ref 1), o1, o2, o3, o4, some (.tup [rT p, rT q]), o6] st = .ok (.ref st.length) (st' ++ [.lst [y1, y2]]) ∧ Nx st st' ∧ Pen b st' ∧ IsN y1 p ∧ IsN y2 q := by
  obtain ⟨y1, s1, e1, n1, p1, i1⟩ := d_given (b := b + 1) n (h.ext [.lst []]) p hp
  obtain ⟨s1, rfl, n1, p1⟩ := n1.split h.long p1
  obtain ⟨y2, s2, e2, n2, p2, i2⟩ := d_given (b := b) n (p1.ext [.lst [y1]]) q hq
  obtain ⟨s2, rfl, n2, p2⟩ := n2.split p1.long p2
  refine ⟨y1, y2, s2, ?_, n1.trans n2, p2, i1, i2⟩
  refine lc2d (s1 := s1) (e1 := []) (d1 := rT p) (d2 := rT q) (by simp) ?_ n1.len ?_ (n1.trans n2).len
  · simp [wipeE, e1]
  · simp [wipeE, e2]
theorem d_rows {b : Nat} {st : Store} (n : Nat) (h : Pen (b + 4) st) (p q r s : Rat) (hp : Sz 8000 p) (hq : Sz 8000 q) (hr : Sz 8000 r) (hs : Sz 8000 s) (o2 o3 o4 o5 o6 : Option D) :
    ∃ y1 y2 y3 y4 st', xLc (iSeq (xVar 1)) (gNm 5) tTrue (xLc (iSeq (xVar 5)) (gNm 6) tTrue (xCall T (run (n + 3)) 21 (aCons (xVar 0) (aCons (xVar 6) aNil))) [6]) [5] [some (.ref 1), some (tT p q r s), o2, o3, o4, o5, o6] st = .ok (.ref st.length) (st' ++ [.lst [.ref (st.length + 1), .ref (st.length + 2)], .lst [y1, y2], .lst [y3, y4]]) ∧ Nx st st' ∧ Pen b st' ∧ IsN y1 p ∧ IsN y2 q ∧ IsN y3 r ∧ IsN y4 s := by
  obtain ⟨y1, y2, s1, e1, n1, p1, i1, i2⟩ := d_row (b := b + 2) n (h.ext [.lst []]) p q hp hq (some (tT p q r s)) o2 o3 o4 o6
  obtain ⟨s1, rfl, n1, p1⟩ := n1.split h.long p1
  obtain ⟨y3, y4, s2, e2, n2, p2, i3, i4⟩ := d_row (b := b) n (p1.ext [.lst [.ref (st.length + 1)], .lst [y1, y2]]) r s hr hs (some (tT p q r s)) o2 o3 o4 o6
  obtain ⟨s2, rfl, n2, p2⟩ := n2.split p1.long p2
  refine ⟨y1, y2, y3, y4, s2, ?_, n1.trans n2, p2, i1, i2, i3, i4⟩
  refine lc2d (s1 := s1) (e1 := [.lst [y1, y2]]) (e2 := [.lst [y1, y2], .lst [y3, y4]]) (d1 := .tup [rT p, rT q]) (d2 := .tup [rT r, rT s]) (by simp [tT]) ?_ n1.len ?_ (n1.trans n2).len
  · refine e1.trans ?_
    simp
  · refine e2.trans ?_
    simp [n1.len]
theorem d_motion {b : Nat} {st : Store} (n : Nat) (h : Pen (b + 7) st) (m : Mo) (hm : m.Sm 60) (hd : m.det ≠ 0) :
    ∃ st', run (n + 6) 27 [.ref 1, tT m.a m.b m.c m.d, pT m.x m.y] st = .ok (mD m) st' ∧ Nx st st' ∧ Pen b st' := by
  have k := hm.mono (t := 8000) (by decide)
  have k2 := hm.mono (t := 1900) (by decide)
  obtain ⟨y1, y2, y3, y4, s1, e1, n1, p1, i1, i2, i3, i4⟩ := d_rows (b := b + 3) (n + 2) h m.a m.b m.c m.d k.a k.b k.c k.d (some (pT m.x m.y)) none none none none
  obtain ⟨v, s2, e2, n2, p2, v0, v1⟩ := d_draw (b := b + 2) (n + 4) (p1.ext [.lst [.ref (st.length + 1), .ref (st.length + 2)], .lst [y1, y2], .lst [y3, y4]]) 2 (by decide) (by decide)
  obtain ⟨s2, rfl, n2, p2⟩ := n2.split p1.long p2
  have G : ∀ {s e : Store}, s.length = st.length → (s ++ Cell.lst [.ref (st.length + 1), .ref (st.length + 2)] :: .lst [y1, y2] :: .lst [y3, y4] :: e)[st.length]? = some (Cell.lst [.ref (st.length + 1), .ref (st.length + 2)]) ∧ (s ++ Cell.lst [.ref (st.length + 1), .ref (st.length + 2)] :: .lst [y1, y2] :: .lst [y3, y4] :: e)[st.length + 1]? = some (Cell.lst [y1, y2]) ∧ (s ++ Cell.lst [.ref (st.length + 1), .ref (st.length + 2)] :: .lst [y1, y2] :: .lst [y3, y4] :: e)[st.length + 2]? = some (Cell.lst [y3, y4]) := by
    intro s e hs
    rw [← hs]
    exact ⟨get_0 _ _ _, get_1 _ _ _ _, get_2 _ _ _ _ _⟩
  have l2 := (n1.trans n2).len
  have sq : ∀ {k : Nat} {s : Store} {l : List D}, s[k]? = some (Cell.lst l) → seqOf (.ref k) s = some l := fun h => by unfold seqOf; simp only [h]
  rw [run_27]
  by_cases hv : v = 0
  · subst hv
    obtain ⟨s3, e3, n3, p3⟩ := d_point (b := b) n (p2.ext [.lst [.ref (st.length + 1), .ref (st.length + 2)], .lst [y1, y2], .lst [y3, y4]]) m.x m.y k.x k.y
    obtain ⟨s3, rfl, n3, p3⟩ := n3.split p2.long p3
    obtain ⟨g0, g1, g2⟩ := G (e := []) ((n1.trans n2).trans n3).len
    refine ⟨s3, ?_, (n1.trans n2).trans n3, p3⟩
    refine fnD_pen (e := [.lst [.ref (st.length + 1), .ref (st.length + 2)], .lst [y1, y2], .lst [y3, y4]]) ?_ ((n1.trans n2).trans n3) p3 (noRef_mD _ _)
    have mk := s_mkM (x := m.x) (y := m.y) n (sq g0) (sq g1) (sq g2) i1 i2 i3 i4 k2.a k2.b k2.c k2.d hd
    simp [B_27, startE, e1, e2, e3, mk]
  · have hv2 : (v == 0) = false := by simpa using hv
    obtain ⟨g0, g1, g2⟩ := G (e := []) l2
    obtain ⟨e, he⟩ := tup_lc (fi := iSeq (xVar 3)) (f := xBi bTuple (aCons (xVar 5) aNil)) (i := 5) (vs := [5]) (ρ := [some (.ref 1), some (tT m.a m.b m.c m.d), some (pT m.x m.y), some (.ref st.length), none, none, none]) (st := s2 ++ [.lst [.ref (st.length + 1), .ref (st.length + 2)], .lst [y1, y2], .lst [y3, y4]]) (ds := [.ref (st.length + 1), .ref (st.length + 2)]) (F := fun d => match d with | .ref k => if k = st.length + 1 then .tup [y1, y2] else .tup [y3, y4] | _ => .non) (iSeq_lst (n := st.length) (by simp) g0) (fun e => get_ext g0) (fun d hd e' => by
        refine ⟨[], ?_⟩
        rcases List.mem_cons.mp hd with rfl | hd
        · have t := tupR (get_ext (e := e') g1)
          simp [wipeE] at t ⊢
          rw [t]
        · rcases List.mem_singleton.mp hd with rfl
          have t := tupR (get_ext (e := e') g2)
          simp [wipeE] at t ⊢
          rw [t]) (by show 2 ≤ sizeLine; decide)
    obtain ⟨s3, e3, n3, p3⟩ := d_point (b := b) n (p2.ext ([.lst [.ref (st.length + 1), .ref (st.length + 2)], .lst [y1, y2], .lst [y3, y4]] ++ e)) m.x m.y k.x k.y
    obtain ⟨s3, rfl, n3, p3⟩ := n3.split p2.long p3
    refine ⟨s3, ?_, (n1.trans n2).trans n3, p3⟩
    refine fnD_pen (e := [.lst [.ref (st.length + 1), .ref (st.length + 2)], .lst [y1, y2], .lst [y3, y4]] ++ e) ?_ ((n1.trans n2).trans n3) p3 (noRef_mD _ _)
    have mk := fun st => s_mkM (t := .tup [.tup [y1, y2], .tup [y3, y4]]) (st := st) (x := m.x) (y := m.y) n rfl rfl rfl i1 i2 i3 i4 k2.a k2.b k2.c k2.d hd
    simp only [List.map_cons, List.map_nil, List.append_assoc, List.cons_append, List.nil_append] at he e3 ⊢
    simp at he
    simp [B_27, startE, e1, e2, hv2, he, e3, mk]
end G39
namespace G39
open PySem PySem.Spec PyProof.Rows L2 Gm
/-- a shift over one number -/
def Ax (x y : Rat) : Prop := ∃ E u v : Int, 0 < E ∧ E ≤ ((2 ^ 50 : Nat) : Int) ∧ x = (u : Rat) / E ∧ y = (v : Rat) / E ∧ u.natAbs ≤ 2 ^ 55 ∧ v.natAbs ≤ 2 ^ 55
theorem alg1 {N1 n1 N2 n2 F D : Rat} (hF : F ≠ 0) (hD : D ≠ 0) : N1 / F * (n1 / D) + N2 / F * (n2 / D) = (N1 * n1 + N2 * n2) / (F * D) := by grind
theorem alg2 {N1 N2 X u v F E D : Rat} (hF : F ≠ 0) (hD : D ≠ 0) (hE : E ≠ 0) : N1 / F * (u / E) + N2 / F * (v / E) + X / (F * E) = D * (N1 * u + N2 * v + X) / (F * D * E) := by grind
theorem pow_com {a b c d x y : Rat} {D n1 n2 n3 n4 E u v : Int} (hD : 0 < D) (hD2 : D.natAbs ≤ 2 ^ 41) (ea : a = (n1 : Rat) / D) (eb : b = (n2 : Rat) / D) (ec : c = (n3 : Rat) / D) (ed : d = (n4 : Rat) / D)
    (h1 : n1.natAbs ≤ 2 ^ 41) (h2 : n2.natAbs ≤ 2 ^ 41) (h3 : n3.natAbs ≤ 2 ^ 41) (h4 : n4.natAbs ≤ 2 ^ 41) (hE : 0 < E) (ex : x = (u : Rat) / E) (ey : y = (v : Rat) / E) (hu : u.natAbs ≤ 2 ^ 55) (hv : v.natAbs ≤ 2 ^ 55) :
    ∀ k : Nat, ∃ F N1 N2 N3 N4 X Y : Int, 0 < F ∧ F.natAbs ≤ 2 ^ (41 * k) ∧ ((Mo.mk a b c d x y).pw k).a = (N1 : Rat) / F ∧ ((Mo.mk a b c d x y).pw k).b = (N2 : Rat) / F ∧ ((Mo.mk a b c d x y).pw k).c = (N3 : Rat) / F ∧ ((Mo.mk a b c d x y).pw k).d = (N4 : Rat) / F ∧
      ((Mo.mk a b c d x y).pw k).x = (X : Rat) / ((F * E : Int) : Rat) ∧ ((Mo.mk a b c d x y).pw k).y = (Y : Rat) / ((F * E : Int) : Rat) ∧ N1.natAbs ≤ 2 ^ (42 * k) ∧ N2.natAbs ≤ 2 ^ (42 * k) ∧ N3.natAbs ≤ 2 ^ (42 * k) ∧ N4.natAbs ≤ 2 ^ (42 * k) ∧ X.natAbs ≤ 2 ^ (43 * k + 55) ∧ Y.natAbs ≤ 2 ^ (43 * k + 55) := by
  have nz : ∀ {i : Int}, 0 < i → (i : Rat) ≠ 0 := fun {i} h e => by
    have := Rat.intCast_eq_zero_iff.mp e
    omega
  have hDq := nz hD
  have hEq := nz hE
  intro k
  induction k with
  | zero =>
    refine ⟨1, 1, 0, 0, 1, 0, 0, by decide, by decide, ?_, ?_, ?_, ?_, ?_, ?_, by decide, by decide, by decide, by decide, by decide, by decide⟩
    · show (1 : Rat) = _; rw [show ((1 : Int) : Rat) = 1 from rfl]; grind
    · show (0 : Rat) = _; rw [show ((1 : Int) : Rat) = 1 from rfl, show ((0 : Int) : Rat) = 0 from rfl]; grind
    · show (0 : Rat) = _; rw [show ((1 : Int) : Rat) = 1 from rfl, show ((0 : Int) : Rat) = 0 from rfl]; grind
    · show (1 : Rat) = _; rw [show ((1 : Int) : Rat) = 1 from rfl]; grind
    · show (0 : Rat) = _; rw [show ((0 : Int) : Rat) = 0 from rfl]; grind
    · show (0 : Rat) = _; rw [show ((0 : Int) : Rat) = 0 from rfl]; grind
  | succ k ih =>
    obtain ⟨F, N1, N2, N3, N4, X, Y, hF, hF2, e1, e2, e3, e4, e5, e6, b1, b2, b3, b4, b5, b6⟩ := ih
    have hFq := nz hF
    have up : 42 * k + 41 + 1 = 42 * (k + 1) := by omega
    have go : ∀ {i j p q : Int}, i.natAbs ≤ 2 ^ (42 * k) → j.natAbs ≤ 2 ^ 41 → p.natAbs ≤ 2 ^ (42 * k) → q.natAbs ≤ 2 ^ 41 → (i * j + p * q).natAbs ≤ 2 ^ (42 * (k + 1)) := fun hi hj hp hq => by
      rw [← up]
      exact add_abs (mul_abs hi hj) (mul_abs hp hq)
    have go2 : ∀ {i p X : Int}, i.natAbs ≤ 2 ^ (42 * k) → p.natAbs ≤ 2 ^ (42 * k) → X.natAbs ≤ 2 ^ (43 * k + 55) → (D * (i * u + p * v + X)).natAbs ≤ 2 ^ (43 * (k + 1) + 55) := fun hi hp hX => by
      have t := add_abs (s := 43 * k + 56) (le_abs (add_abs (mul_abs hi hu) (mul_abs hp hv)) (by omega)) (le_abs hX (by omega))
      exact le_abs (mul_abs hD2 t) (by omega)
    refine ⟨F * D, N1 * n1 + N2 * n3, N1 * n2 + N2 * n4, N3 * n1 + N4 * n3, N3 * n2 + N4 * n4, D * (N1 * u + N2 * v + X), D * (N3 * u + N4 * v + Y), Int.mul_pos hF hD, le_abs (mul_abs hF2 hD2) (by omega), ?_, ?_, ?_, ?_, ?_, ?_, go b1 h1 b2 h3, go b1 h2 b2 h4, go b3 h1 b4 h3, go b3 h2 b4 h4, go2 b1 b2 b5, go2 b3 b4 b6⟩
    · show ((Mo.mk a b c d x y).pw k).a * a + ((Mo.mk a b c d x y).pw k).b * c = _
      rw [e1, e2, ea, ec, Rat.intCast_add, Rat.intCast_mul, Rat.intCast_mul, Rat.intCast_mul]; exact alg1 hFq hDq
    · show ((Mo.mk a b c d x y).pw k).a * b + ((Mo.mk a b c d x y).pw k).b * d = _
      rw [e1, e2, eb, ed, Rat.intCast_add, Rat.intCast_mul, Rat.intCast_mul, Rat.intCast_mul]; exact alg1 hFq hDq
    · show ((Mo.mk a b c d x y).pw k).c * a + ((Mo.mk a b c d x y).pw k).d * c = _
      rw [e3, e4, ea, ec, Rat.intCast_add, Rat.intCast_mul, Rat.intCast_mul, Rat.intCast_mul]; exact alg1 hFq hDq
    · show ((Mo.mk a b c d x y).pw k).c * b + ((Mo.mk a b c d x y).pw k).d * d = _
      rw [e3, e4, eb, ed, Rat.intCast_add, Rat.intCast_mul, Rat.intCast_mul, Rat.intCast_mul]; exact alg1 hFq hDq
    · show ((Mo.mk a b c d x y).pw k).a * x + ((Mo.mk a b c d x y).pw k).b * y + ((Mo.mk a b c d x y).pw k).x = _
      rw [e1, e2, e5, ex, ey]; simp only [Rat.intCast_mul, Rat.intCast_add]; exact alg2 hFq hDq hEq
    · show ((Mo.mk a b c d x y).pw k).c * x + ((Mo.mk a b c d x y).pw k).d * y + ((Mo.mk a b c d x y).pw k).y = _
      rw [e3, e4, e6, ex, ey]; simp only [Rat.intCast_mul, Rat.intCast_add]; exact alg2 hFq hDq hEq
theorem sz_div {n d : Int} {s : Nat} (h1 : n.natAbs ≤ 2 ^ s) (h2 : d.natAbs ≤ 2 ^ s) (h0 : 0 < d) {t : Nat} (ht : s < t) : Sz t ((n : Rat) / d) := by
  rw [← Rat.divInt_eq_div]
  have p : 2 ^ s < 2 ^ t := Nat.pow_lt_pow_right (by decide) ht
  exact Sz.of (Nat.lt_of_le_of_lt h1 p) (Nat.lt_of_le_of_lt h2 p) (by omega)
theorem ok_of {a b c d x y : Rat} (R : Rw 41 a b c d) (A : Ax x y) : (Mo.mk a b c d x y).Ok ∧ (Mo.mk a b c d x y).Sm 60 := by
  obtain ⟨⟨D, n1, n2, n3, n4, hD, hD2, e1, e2, e3, e4, b1, b2, b3, b4⟩, hd⟩ := R
  obtain ⟨E, u, v, hE, hE2, e5, e6, b5, b6⟩ := A
  have hD3 : D.natAbs ≤ 2 ^ 41 := by omega
  have hE3 : E.natAbs ≤ 2 ^ 50 := by omega
  constructor
  · refine ⟨hd, ?_⟩
    intro k hk
    obtain ⟨F, N1, N2, N3, N4, X, Y, hF, hF2, g1, g2, g3, g4, g5, g6, c1, c2, c3, c4, c5, c6⟩ := pow_com hD hD3 e1 e2 e3 e4 b1 b2 b3 b4 hE e5 e6 b5 b6 k
    have q1 : 42 * k ≤ 700 := by omega
    have q2 : 43 * k + 55 ≤ 700 := by omega
    have q3 : 41 * k ≤ 700 := by omega
    have q4 : 41 * k + 50 ≤ 700 := by omega
    have hFE := mul_abs hF2 hE3
    have pFE := Int.mul_pos hF hE
    refine ⟨?_, ?_, ?_, ?_, ?_, ?_⟩
    · rw [g1]; exact sz_div (le_abs c1 q1) (le_abs hF2 q3) hF (by decide)
    · rw [g2]; exact sz_div (le_abs c2 q1) (le_abs hF2 q3) hF (by decide)
    · rw [g3]; exact sz_div (le_abs c3 q1) (le_abs hF2 q3) hF (by decide)
    · rw [g4]; exact sz_div (le_abs c4 q1) (le_abs hF2 q3) hF (by decide)
    · rw [g5]; exact sz_div (le_abs c5 q2) (le_abs hFE q4) pFE (by decide)
    · rw [g6]; exact sz_div (le_abs c6 q2) (le_abs hFE q4) pFE (by decide)
  · refine ⟨?_, ?_, ?_, ?_, ?_, ?_⟩
    · show Sz 60 a; rw [e1]; exact sz_div b1 hD3 hD (by decide)
    · show Sz 60 b; rw [e2]; exact sz_div b2 hD3 hD (by decide)
    · show Sz 60 c; rw [e3]; exact sz_div b3 hD3 hD (by decide)
    · show Sz 60 d; rw [e4]; exact sz_div b4 hD3 hD (by decide)
    · show Sz 60 x; rw [e5]; exact sz_div (le_abs b5 (by decide)) (le_abs hE3 (by decide)) hE (show 55 < 60 by decide)
    · show Sz 60 y; rw [e6]; exact sz_div (le_abs b6 (by decide)) (le_abs hE3 (by decide)) hE (show 55 < 60 by decide)
theorem alg3 {t D n1 t1 n2 t2 : Rat} (hD : D ≠ 0) : t / 60 + -1 * (n1 / D * (t1 / 60) + n2 / D * (t2 / 60) + 0) = (t * D - (n1 * t1 + n2 * t2)) / (60 * D) := by grind
theorem Ax_fq {x y : Rat} (h1 : Fq x) (h2 : Fq y) : Ax x y := by
  obtain ⟨t1, rfl, l1⟩ := h1
  obtain ⟨t2, rfl, l2⟩ := h2
  exact ⟨60, t1, t2, by decide, by decide, rfl, rfl, by omega, by omega⟩
/-- the shift by which a spot is kept -/
theorem Ax_mid {a b c d x y : Rat} (R : Rw 41 a b c d) (h1 : Fq x) (h2 : Fq y) : Ax (x + -1 * (a * x + b * y + 0)) (y + -1 * (c * x + d * y + 0)) := by
  obtain ⟨⟨D, n1, n2, n3, n4, hD, hD2, rfl, rfl, rfl, rfl, b1, b2, b3, b4⟩, hd⟩ := R
  obtain ⟨t1, rfl, l1⟩ := h1
  obtain ⟨t2, rfl, l2⟩ := h2
  have hDq : (D : Rat) ≠ 0 := fun e => by
    have := Rat.intCast_eq_zero_iff.mp e
    omega
  have hD3 : D.natAbs ≤ 2 ^ 41 := by omega
  have k1 : t1.natAbs ≤ 2 ^ 10 := by omega
  have k2 : t2.natAbs ≤ 2 ^ 10 := by omega
  have go : ∀ {t n m : Int}, t.natAbs ≤ 2 ^ 10 → n.natAbs ≤ 2 ^ 41 → m.natAbs ≤ 2 ^ 41 → (t * D - (n * t1 + m * t2)).natAbs ≤ 2 ^ 55 := fun ht hn hm =>
    le_abs (sub_abs (s := 52) (le_abs (mul_abs ht hD3) (by decide)) (add_abs (mul_abs hn k1) (mul_abs hm k2))) (by decide)
  have c60 : ((60 : Int) : Rat) = 60 := rfl
  refine ⟨60 * D, t1 * D - (n1 * t1 + n2 * t2), t2 * D - (n3 * t1 + n4 * t2), by omega, by omega, ?_, ?_, go k1 b1 b2, go k2 b3 b4⟩
  · simp only [Rat.intCast_sub, Rat.intCast_add, Rat.intCast_mul, c60]; exact alg3 hDq
  · simp only [Rat.intCast_sub, Rat.intCast_add, Rat.intCast_mul, c60]; exact alg3 hDq
end G39
namespace G39
open PySem PySem.Spec PyProof.Rows L2 Gm
theorem five_dvd (n d : Nat) (h : n * n = 5 * d) : 5 ∣ n := by
  have h1 : n * n % 5 = 0 := by rw [h]; exact Nat.mul_mod_right 5 d
  rw [Nat.mul_mod] at h1
  have h2 : n % 5 = 0 ∨ n % 5 = 1 ∨ n % 5 = 2 ∨ n % 5 = 3 ∨ n % 5 = 4 := by omega
  rcases h2 with h2 | h2 | h2 | h2 | h2
  · exact Nat.dvd_of_mod_eq_zero h2
  all_goals
    rw [h2] at h1
    exact absurd h1 (by decide)
theorem five_irr (q : Rat) (h : q * q = 5) : False := by
  have hd : ((q.den : Int) : Rat) ≠ 0 := fun e => Rat.den_ne' q (Rat.intCast_eq_zero_iff.mp e)
  have e : (q.num : Rat) = q * ((q.den : Int) : Rat) := by
    conv => rhs; lhs; rw [← Rat.num_divInt_den q, Rat.divInt_eq_div]
    generalize ((q.den : Int) : Rat) = u at *
    grind
  have e2 : ((q.num * q.num : Int) : Rat) = ((5 * ((q.den : Int) * (q.den : Int)) : Int) : Rat) := by
    rw [Rat.intCast_mul, Rat.intCast_mul, Rat.intCast_mul, e, show ((5 : Int) : Rat) = 5 from rfl]
    generalize ((q.den : Int) : Rat) = u at *
    grind
  have e3 := Rat.intCast_inj.mp e2
  have e4 : q.num.natAbs * q.num.natAbs = 5 * (q.den * q.den) := by
    have := congrArg Int.natAbs e3
    rw [Int.natAbs_mul, Int.natAbs_mul, Int.natAbs_mul] at this
    exact this
  obtain ⟨k, hk⟩ := five_dvd _ _ e4
  have e5 : q.den * q.den = 5 * (k * k) := by
    rw [hk] at e4
    have : 5 * k * (5 * k) = 5 * (5 * (k * k)) := by grind
    omega
  have h2 := five_dvd _ _ e5
  have h3 := Nat.dvd_gcd ⟨k, hk⟩ h2
  have h4 : Nat.gcd q.num.natAbs q.den = 1 := q.reduced
  rw [h4] at h3
  exact absurd h3 (by decide)
theorem rsq_nn (q : Rat) : 0 ≤ q * q := by
  rcases (Rat.le_total : (0 : Rat) ≤ q ∨ q ≤ 0) with h | h
  · exact Rat.mul_nonneg h h
  · have h2 : 0 ≤ -q := by grind
    have := Rat.mul_nonneg h2 h2
    grind
theorem pow5_one (s : Rat) (h : s * s * s * s * s = 1) : s = 1 := by
  have h1 := rsq_nn (2 * s * s + s)
  have h2 := rsq_nn (3 * s + 2)
  have h3 : (s - 1) * (s * s * s * s + s * s * s + s * s + s + 1) = 0 := by grind
  have h4 : 12 * (s * s * s * s + s * s * s + s * s + s + 1) = 3 * ((2 * s * s + s) * (2 * s * s + s)) + (3 * s + 2) * (3 * s + 2) + 8 := by grind
  have h5 : s * s * s * s + s * s * s + s * s + s + 1 ≠ 0 := by
    intro e
    rw [e] at h4
    grind
  rcases Rat.mul_eq_zero.mp h3 with h6 | h6
  · grind
  · exact absurd h6 h5
theorem det_pw (m : Mo) (k : Nat) : (m.pw (k + 1)).det = (m.pw k).det * m.det := Mo.det_mul _ _
theorem pw_a (m : Mo) (k : Nat) : (m.pw (k + 2)).a = (m.a + m.d) * (m.pw (k + 1)).a - m.det * (m.pw k).a := by
  show ((m.pw k).mul m |>.mul m).a = (m.a + m.d) * ((m.pw k).mul m).a - m.det * (m.pw k).a
  simp only [Mo.mul, Mo.det]
  grind
theorem pw_b (m : Mo) (k : Nat) : (m.pw (k + 2)).b = (m.a + m.d) * (m.pw (k + 1)).b - m.det * (m.pw k).b := by
  show ((m.pw k).mul m |>.mul m).b = (m.a + m.d) * ((m.pw k).mul m).b - m.det * (m.pw k).b
  simp only [Mo.mul, Mo.det]
  grind
theorem pw_c (m : Mo) (k : Nat) : (m.pw (k + 2)).c = (m.a + m.d) * (m.pw (k + 1)).c - m.det * (m.pw k).c := by
  show ((m.pw k).mul m |>.mul m).c = (m.a + m.d) * ((m.pw k).mul m).c - m.det * (m.pw k).c
  simp only [Mo.mul, Mo.det]
  grind
theorem pw_d (m : Mo) (k : Nat) : (m.pw (k + 2)).d = (m.a + m.d) * (m.pw (k + 1)).d - m.det * (m.pw k).d := by
  show ((m.pw k).mul m |>.mul m).d = (m.a + m.d) * ((m.pw k).mul m).d - m.det * (m.pw k).d
  simp only [Mo.mul, Mo.det]
  grind
theorem pw_1 (m : Mo) : m.pw 1 = m := Mo.one_mul m
/-- none has order five -/
theorem no_five (m : Mo) (h : m.pw 5 = .one) : m = .one := by
  have hdet : m.det = 1 := by
    refine pow5_one _ ?_
    have e := det_pw m 4
    rw [h, det_pw m 3, det_pw m 2, det_pw m 1, det_pw m 0] at e
    have e0 : (m.pw 0).det = 1 := by show Mo.one.det = 1; simp only [Mo.det, Mo.one]; grind
    have e1 : Mo.one.det = 1 := e0
    rw [e0, e1] at e
    grind
  have z0 : m.pw 0 = .one := rfl
  have b5 : (m.pw 5).b = 0 := by rw [h]; rfl
  have c5 : (m.pw 5).c = 0 := by rw [h]; rfl
  have a5 : (m.pw 5).a = (m.pw 5).d := by rw [h]; rfl
  rw [pw_b m 3, pw_b m 2, pw_b m 1, pw_b m 0, z0, pw_1, hdet, show Mo.one.b = 0 from rfl] at b5
  rw [pw_c m 3, pw_c m 2, pw_c m 1, pw_c m 0, z0, pw_1, hdet, show Mo.one.c = 0 from rfl] at c5
  rw [pw_a m 3, pw_a m 2, pw_a m 1, pw_a m 0, pw_d m 3, pw_d m 2, pw_d m 1, pw_d m 0, z0, pw_1, hdet, show Mo.one.a = 1 from rfl, show Mo.one.d = 1 from rfl] at a5
  generalize ht : m.a + m.d = t at a5 b5 c5
  have p0 : t * t * t * t - 3 * (t * t) + 1 ≠ 0 := by
    intro e
    exact five_irr (2 * (t * t) - 3) (by grind)
  have b0 : m.b = 0 := by
    have e : (t * t * t * t - 3 * (t * t) + 1) * m.b = 0 := by grind
    rcases Rat.mul_eq_zero.mp e with e | e
    · exact absurd e p0
    · exact e
  have c0 : m.c = 0 := by
    have e : (t * t * t * t - 3 * (t * t) + 1) * m.c = 0 := by grind
    rcases Rat.mul_eq_zero.mp e with e | e
    · exact absurd e p0
    · exact e
  have ad : m.a = m.d := by
    have e : (t * t * t * t - 3 * (t * t) + 1) * (m.a - m.d) = 0 := by grind
    rcases Rat.mul_eq_zero.mp e with e | e
    · exact absurd e p0
    · grind
  obtain ⟨a, b, c, d, x, y⟩ := m
  dsimp only at b0 c0 ad
  subst b0 c0 ad
  have ha : a = 1 := by
    have e : ((Mo.mk a 0 0 a x y).pw 5).a = 1 := by rw [h]; rfl
    simp only [Mo.pw, Mo.mul, Mo.one] at e
    exact pow5_one a (by grind)
  subst ha
  have hx : x = 0 := by
    have e : ((Mo.mk 1 0 0 1 x y).pw 5).x = 0 := by rw [h]; rfl
    simp only [Mo.pw, Mo.mul, Mo.one] at e
    grind
  have hy : y = 0 := by
    have e : ((Mo.mk 1 0 0 1 x y).pw 5).y = 0 := by rw [h]; rfl
    simp only [Mo.pw, Mo.mul, Mo.one] at e
    grind
  rw [hx, hy]
  rfl
open Classical in
/-- the first power that rests -/
noncomputable def Mo.fst (m : Mo) : Nat → Option Nat
  | 0 => none
  | k + 1 => match m.fst k with
    | some j => some j
    | none => if m.pw (k + 1) = .one then some (k + 1) else none
theorem ord_fst (m : Mo) : m.ord = m.fst 6 := by
  unfold Mo.ord
  by_cases h1 : m.pw 1 = .one
  · simp [Mo.fst, h1]
  have h5 : ¬ m.pw 5 = .one := fun h => h1 (by rw [pw_1]; exact no_five m h)
  by_cases h2 : m.pw 2 = .one
  · simp [Mo.fst, h1, h2]
  by_cases h3 : m.pw 3 = .one
  · simp [Mo.fst, h1, h2, h3]
  by_cases h4 : m.pw 4 = .one
  · simp [Mo.fst, h1, h2, h3, h4]
  by_cases h6 : m.pw 6 = .one
  · simp [Mo.fst, h1, h2, h3, h4, h5, h6]
  · simp [Mo.fst, h1, h2, h3, h4, h5, h6]
/-- squared lengths are led alike -/
theorem wide_law {a b c : Int} {m : Mo} {f : Rat} (g : Gr a b c) (h : m.str a b c = some f) (u v z w : Rat) :
    Ln a b c (m.a * u + m.b * v + m.x - (m.a * z + m.b * w + m.x)) (m.c * u + m.d * v + m.y - (m.c * z + m.d * w + m.y)) = f * Ln a b c (u - z) (v - w) := by
  have a0 : (a : Rat) ≠ 0 := by
    have := g.pos
    intro h
    have := Rat.intCast_eq_zero_iff.mp h
    omega
  unfold Mo.str at h
  split at h
  · rename_i h1
    obtain ⟨h1, h2⟩ := h1
    have h3 := Option.some.inj h
    rw [h3] at h1 h2
    have h0 : Q a b c m.a m.c = f * a := by rw [← h3]; grind
    rw [Ln_Q, Ln_Q]
    have key : Q a b c (m.a * u + m.b * v + m.x - (m.a * z + m.b * w + m.x)) (m.c * u + m.d * v + m.y - (m.c * z + m.d * w + m.y)) = (u - z) * (u - z) * Q a b c m.a m.c + (v - w) * (v - w) * Q a b c m.b m.d + (u - z) * (v - w) * P a b c m.a m.c m.b m.d := by
      unfold Q P
      rw [Rat.intCast_mul, Rat.intCast_mul, show ((2 : Int) : Rat) = 2 from rfl]
      grind
    rw [key, h0, h1, h2]
    unfold Q
    grind
  · exact absurd h (by simp)
theorem kept_x {m : Mo} (h : m.fac ≠ 0) : m.a * m.kx + m.b * m.ky + m.x = m.kx := by
  have e1 : m.kx * m.fac = m.b * m.y - (m.d - 1) * m.x := by unfold Mo.kx; grind
  have e2 : m.ky * m.fac = m.c * m.x - (m.a - 1) * m.y := by unfold Mo.ky; grind
  have e3 : m.fac = (m.a - 1) * (m.d - 1) - m.b * m.c := rfl
  have e : ((m.a - 1) * m.kx + m.b * m.ky + m.x) * m.fac = 0 := by
    generalize m.kx = kx at *
    generalize m.ky = ky at *
    generalize m.fac = fc at *
    grind
  rcases Rat.mul_eq_zero.mp e with e | e
  · grind
  · exact absurd e h
theorem kept_y {m : Mo} (h : m.fac ≠ 0) : m.c * m.kx + m.d * m.ky + m.y = m.ky := by
  have e1 : m.kx * m.fac = m.b * m.y - (m.d - 1) * m.x := by unfold Mo.kx; grind
  have e2 : m.ky * m.fac = m.c * m.x - (m.a - 1) * m.y := by unfold Mo.ky; grind
  have e3 : m.fac = (m.a - 1) * (m.d - 1) - m.b * m.c := rfl
  have e : (m.c * m.kx + (m.d - 1) * m.ky + m.y) * m.fac = 0 := by
    generalize m.kx = kx at *
    generalize m.ky = ky at *
    generalize m.fac = fc at *
    grind
  rcases Rat.mul_eq_zero.mp e with e | e
  · grind
  · exact absurd e h
end G39
namespace G39
open PySem PySem.Spec PyProof.Rows L2 Gm
noncomputable def oB (c : Fn) : Fs := sSeq (sAsg (xBin (binD T c .Mult) (xVar 15) (xVar 4)) (gNm 15)) (sIf (tAnd (tOf (truD T c) (xBin (isNo false) (xVar 16) (xK .non))) (tOf (truD T c) (xBin (eqB T c false) (xVar 15) (xCall T c 10 (aCons (xMk T c 1 (aCons (xK (.int 0)) (aCons (xK (.int 0)) aNil))) aNil))))) (sAsg (xVar 17) (gNm 16)) sNx)
theorem isno_i (neg : Bool) (i : Int) (st : Store) : isNo neg (.int i) .non st = .ok (.bl neg) st := rfl
theorem isno_n (neg : Bool) (st : Store) : isNo neg .non .non st = .ok (.bl (!neg)) st := by cases neg <;> rfl
theorem isno_rD (neg : Bool) (q : Rat) (st : Store) : isNo neg (rD q) .non st = .ok (.bl neg) st := rfl
theorem isno_rT (neg : Bool) (q : Rat) (st : Store) : isNo neg (rT q) .non st = .ok (.bl neg) st := rfl
theorem eq_bb (T : Ls) (c : Fn) (neg a b : Bool) (st : Store) : eqB T c neg (.bl a) (.bl b) st = .ok (.bl ((a == b) != neg)) st := by cases neg <;> cases a <;> cases b <;> rfl
theorem oN_some (k : Nat) : oN (some k) = .int k := rfl
theorem oN_none : oN none = .non := rfl
section
variable (n : Nat) (m : Mo) (a1 a2 a3 a5 a6 a7 a8 a9 a10 a11 a12 a13 a14 : Option D) (st : Store)
theorem s_shift0 : ∀ st, run (n + 8) 10 [pD 0 0] st = .ok (mD .one) st := fun st => s_shifting (n + 2) 0 0 st
theorem s_mkP0 : ∀ st, mkD T (run (n + 8)) 1 [.int 0, .int 0] st = .ok (pD 0 0) st := fun st => s_mkP_i (n + 4) 0 0 st
open Classical in
theorem ord_step (ho : m.Ok) (k : Nat) (hk : k < 6) (i : Int) (hi : i = ((k + 1 : Nat) : Int)) : oB (run (n + 8)) [some (.ref 1), a1, a2, a3, some (mD m), a5, a6, a7, a8, a9, a10, a11, a12, a13, a14, some (mD (m.pw k)), some (oN (m.fst k)), some (.int i)] st =
    .nx [some (.ref 1), a1, a2, a3, some (mD m), a5, a6, a7, a8, a9, a10, a11, a12, a13, a14, some (mD (m.pw (k + 1))), some (oN (m.fst (k + 1))), some (.int i)] st := by
  have e1 : binD T (run (n + 8)) .Mult (mD (m.pw k)) (mD m) st = .ok (mD (m.pw (k + 1))) st := by
    have := m_pw (n + 2) k 1 m st ho (by omega)
    rwa [pw_1] at this
  have e2 := m_eq (n + 4) false (m.pw (k + 1)) .one st
  unfold oB
  have e0 : m.fst (k + 1) = match m.fst k with
    | some j => some j
    | none => if m.pw (k + 1) = .one then some (k + 1) else none := rfl
  cases hf : m.fst k with
  | some j =>
    rw [hf] at e0
    rw [e0]
    simp [e1, oN_some, isno_i]
  | none =>
    rw [hf] at e0
    rw [e0]
    by_cases h : m.pw (k + 1) = .one
    · rw [decide_eq_true h, h] at e2
      subst hi
      simp [e1, oN_none, oN_some, isno_n, s_mkP0, s_shift0, e2, h]
    · rw [decide_eq_false h] at e2
      simp [e1, oN_none, isno_n, s_mkP0, s_shift0, e2, h]
theorem rng17 (ρ : Ev) (st : Store) : iRng (aCons (xK (.int 1)) (aCons (xK (.int 7)) aNil)) ρ st = .ok ([.int 1, .int 2, .int 3, .int 4, .int 5, .int 6], fun _ => True) st := rfl
theorem ord_loop (ho : m.Ok) (o : Option D) : forI (fun _ => True) (gNm 17) (oB (run (n + 8))) [.int 1, .int 2, .int 3, .int 4, .int 5, .int 6] [some (.ref 1), a1, a2, a3, some (mD m), a5, a6, a7, a8, a9, a10, a11, a12, a13, a14, some (mD .one), some .non, o] st =
    .nx [some (.ref 1), a1, a2, a3, some (mD m), a5, a6, a7, a8, a9, a10, a11, a12, a13, a14, some (mD (m.pw 6)), some (oN (m.fst 6)), some (.int 6)] st := by
  have go : ∀ (k : Nat) (hk : k < 6) (i : Int) (hi : i = ((k + 1 : Nat) : Int)) (ds : List D) (o : Option D), forI (fun _ => True) (gNm 17) (oB (run (n + 8))) (.int i :: ds) [some (.ref 1), a1, a2, a3, some (mD m), a5, a6, a7, a8, a9, a10, a11, a12, a13, a14, some (mD (m.pw k)), some (oN (m.fst k)), o] st =
      forI (fun _ => True) (gNm 17) (oB (run (n + 8))) ds [some (.ref 1), a1, a2, a3, some (mD m), a5, a6, a7, a8, a9, a10, a11, a12, a13, a14, some (mD (m.pw (k + 1))), some (oN (m.fst (k + 1))), some (.int i)] st := by
    intro k hk i hi ds o
    conv => lhs; unfold forI
    rw [if_pos trivial]
    have := ord_step n m a1 a2 a3 a5 a6 a7 a8 a9 a10 a11 a12 a13 a14 st ho k hk i hi
    simp only [ap_gNm]
    simp [this]
  have g0 := go 0 (by decide) 1 rfl [.int 2, .int 3, .int 4, .int 5, .int 6] o
  rw [show m.pw 0 = .one from rfl, show oN (m.fst 0) = .non from rfl] at g0
  rw [g0, go 1 (by decide) 2 rfl, go 2 (by decide) 3 rfl, go 3 (by decide) 4 rfl, go 4 (by decide) 5 rfl, go 5 (by decide) 6 rfl]
  unfold forI
  simp
end
theorem strOk_of (s : String) : PyData.strOk (Str.ofString s) = true := by
  rw [Str.ofString_eq_toList]
  simp only [PyData.strOk]
  rw [Array.all_eq_true_iff_forall_mem]
  intro x hx
  simp at hx
  obtain ⟨c, hc, rfl⟩ := hx
  have h := c.valid
  have h2 : c.toNat < 0x110000 := by
    rcases h with h | h
    · exact Nat.lt_trans h (by decide)
    · exact h.2
  exact decide_eq_true h2
theorem e_str (c : Fn) (x : Str) (st : Store) (h : PyData.strOk x = true) : eqB T c true (.str x) (.str x) st = .ok (.bl false) st := by
  unfold eqB eqD
  simp [pyD, SeqAt.shaped, PyData.eqv, PyData.canLay0, PyData.depth, h]
theorem kin_e (c : Fn) (a b d : Int) (m : Mo) (st : Store) : eqB T c true (m.kin a b d) (m.kin a b d) st = .ok (.bl false) st := by
  unfold Mo.kin
  (repeat' split) <;> first
    | exact e_str _ _ _ (strOk_of _)
    | rfl
theorem oN_e (c : Fn) (o : Option Nat) (st : Store) : eqB T c false (oN o) (oN o) st = .ok (.bl true) st := by
  cases o with
  | none => rfl
  | some k =>
    unfold oN
    simp
end G39
namespace G39
open PySem PySem.Spec PyProof.Rows L2 Gm
theorem rawm : D.tup [.int (-1), .int 1] = rT (-1) := rfl
theorem str_sz {a b c : Int} {m : Mo} {q : Rat} (g : Gr a b c) (hm : m.Sm 60) (h : m.str a b c = some q) : Sz 4000 q := by
  have ha0 : a ≠ 0 := by have := g.pos; omega
  have sa : Sz 10 (a : Rat) := Sz.int g.ha (by decide)
  unfold Mo.str at h
  split at h
  · have h3 := Option.some.inj h
    rw [← h3, Rat.div_def]
    refine ((Q_sz g hm.a hm.c).mul (b' := 10) ?_).mono (by decide)
    rw [Rat.inv_def]
    exact Sz.of sa.den sa.num (by simpa using ha0)
  · exact absurd h (by simp)
theorem hm_call (k : Fn) (r : Fa) (ρ : Ev) (m : Mo) (st : Store) : ciK T k r ρ (mD m) st = (r ρ st).bind (kMe T k 72 (mD m)) := ciK_obj ρ st T k r rfl
noncomputable def rD4 (c : Fn) : Fs := (sSeq (sPar 15 16 (aCons (xCall T c 10 (aCons (xMk T c 1 (aCons (xK (.int 0)) (aCons (xK (.int 0)) aNil))) aNil)) (aCons (xK .non) aNil))) (sSeq (sFor (iRng (aCons (xK (.int 1)) (aCons (xK (.int 7)) aNil))) (gNm 17) (sSeq (sAsg (xBin (binD T c .Mult) (xVar 15) (xVar 4)) (gNm 15)) (sIf (tAnd (tOf (truD T c) (xBin (isNo false) (xVar 16) (xK .non))) (tOf (truD T c) (xBin (eqB T c false) (xVar 15) (xCall T c 10 (aCons (xMk T c 1 (aCons (xK (.int 0)) (aCons (xK (.int 0)) aNil))) aNil))))) (sAsg (xVar 17) (gNm 16)) sNx))) (sRet (xBin (eqB T c false) (xMethW T c 54 (xVar 4) aNil) (xVar 16)))))
noncomputable def rC4 (c : Fn) : Fs := (sSeq (sAsg (xCall T c 18 (aCons (xCall T c 17 (aCons (xBin subD (xBin subD (xVar 2) (xK (.int 0))) (xK (.int 0))) (aCons (xTup (aCons (xUn (negD T c) (xK (.int 1))) (aCons (xK (.int 1)) aNil))) aNil))) (aCons (xCall T c 17 (aCons (xBin subD (xBin subD (xVar 2) (xK (.int 1))) (xK (.int 1))) (aCons (xTup (aCons (xUn (negD T c) (xK (.int 1))) (aCons (xK (.int 1)) aNil))) aNil))) aNil))) (gNm 13)) (sSeq (sAsg (xCall T c 17 (aCons (xVar 13) (aCons (xCall T c 18 (aCons (xTup (aCons (xUn (negD T c) (xK (.int 1))) (aCons (xK (.int 1)) aNil))) (aCons (xCall T c 18 (aCons (xBin subD (xBin subD (xVar 2) (xK (.int 0))) (xK (.int 1))) (aCons (xBin subD (xBin subD (xVar 2) (xK (.int 1))) (xK (.int 0))) aNil))) aNil))) aNil))) (gNm 13)) (sSeq (sAsg (xMethW T c 51 (xVar 4) aNil) (gNm 14)) (sSeq (sIf (tOr (tOf (truD T c) (xBin (eqB T c true) (xBin (isNo false) (xVar 14) (xK .non)) (xBin (eqB T c false) (xBin subD (xVar 13) (xK (.int 0))) (xK (.int 0))))) (tAnd (tOf (truD T c) (xBin (isNo true) (xVar 14) (xK .non))) (tOf (truD T c) (xBin (eqB T c true) (xCallI T c (xVar 4) (aCons (xVar 14) aNil)) (xVar 14))))) (sRet (xK (.bl false))) sNx) (rD4 c)))))
noncomputable def rB4 (c : Fn) : Fs := (sSeq (sPar 8 9 (aCons (xTup (aCons (xCall T c 19 (aCons (xVar 0) (aCons (xK (.int 0)) aNil))) (aCons (xCall T c 19 (aCons (xVar 0) (aCons (xK (.int 0)) aNil))) aNil))) (aCons (xTup (aCons (xCall T c 19 (aCons (xVar 0) (aCons (xK (.int 0)) aNil))) (aCons (xCall T c 19 (aCons (xVar 0) (aCons (xK (.int 0)) aNil))) aNil))) aNil))) (sSeq (sAsg (xCall T c 23 (aCons (xBin (binD T c .Sub) (xCallI T c (xVar 4) (aCons (xCall T c 22 (aCons (xVar 0) (aCons (xVar 8) aNil))) aNil)) (xCallI T c (xVar 4) (aCons (xCall T c 22 (aCons (xVar 0) (aCons (xVar 9) aNil))) aNil))) aNil)) (gNm 10)) (sSeq (sAsg (xCall T c 23 (aCons (xBin (binD T c .Sub) (xCall T c 22 (aCons (xVar 0) (aCons (xVar 8) aNil))) (xCall T c 22 (aCons (xVar 0) (aCons (xVar 9) aNil)))) aNil)) (gNm 11)) (sSeq (sAsg (xCall T c 33 (aCons (xVar 1) (aCons (xVar 10) aNil))) (gNm 12)) (sSeq (sIf (tAnd (tOf (truD T c) (xBin (isNo true) (xVar 6) (xK .non))) (tOf (truD T c) (xBin (eqB T c true) (xVar 12) (xCall T c 18 (aCons (xVar 6) (aCons (xCall T c 33 (aCons (xVar 1) (aCons (xVar 11) aNil))) aNil)))))) (sRet (xK (.bl false))) sNx) (rC4 c))))))
noncomputable def rA4 (c : Fn) : Fs := (sSeq (sPar 4 5 (aCons (xCall T c 27 (aCons (xVar 0) (aCons (xVar 2) (aCons (xVar 3) aNil)))) (aCons (xMk T c 3 (aCons (xBin subD (xVar 1) (xK (.int 0))) (aCons (xBin subD (xVar 1) (xK (.int 1))) (aCons (xBin subD (xVar 1) (xK (.int 2))) aNil)))) aNil))) (sSeq (sPar 6 7 (aCons (xCall T c 36 (aCons (xVar 1) (aCons (xVar 2) aNil))) (aCons (xMethW T c 58 (xVar 4) (aCons (xVar 5) aNil)) aNil))) (sSeq (sIf (tOr (tOf (truD T c) (xBin (eqB T c true) (xBin (isNo false) (xVar 7) (xK .non)) (xBin (isNo false) (xVar 6) (xK .non)))) (tAnd (tOf (truD T c) (xBin (isNo true) (xVar 7) (xK .non))) (tOf (truD T c) (xBin (eqB T c true) (xCall T c 20 (aCons (xVar 7) aNil)) (xVar 6))))) (sRet (xK (.bl false))) sNx) (sSeq (sIf (tOf (truD T c) (xBin (eqB T c true) (xMethW T c 52 (xVar 4) (aCons (xVar 5) aNil)) (xCall T c 37 (aCons (xVar 1) (aCons (xVar 2) (aCons (xVar 3) aNil)))))) (sRet (xK (.bl false))) sNx) (rB4 c)))))
theorem rA4_eq (c : Fn) : B_38 c = rA4 c := rfl
section
variable (n : Nat) (m : Mo) (st : Store)
theorem s_rD (ho : m.Ok) (a1 a2 a3 a5 a6 a7 a8 a9 a10 a11 a12 a13 a14 o15 o16 o17 : Option D) : rD4 (run (n + 8)) [some (.ref 1), a1, a2, a3, some (mD m), a5, a6, a7, a8, a9, a10, a11, a12, a13, a14, o15, o16, o17] st = .rt (.bl true) st := by
  have oe : ∀ st, run (n + 8) 80 [mD m] st = .ok (oN (m.fst 6)) st := fun st => by rw [← ord_fst]; exact s_order n m ho st
  have lo := fun a1 a2 a3 a5 a6 a7 a8 a9 a10 a11 a12 a13 a14 st o => ord_loop n m a1 a2 a3 a5 a6 a7 a8 a9 a10 a11 a12 a13 a14 st ho o
  unfold oB at lo
  unfold rD4
  simp [s_mkP0, s_shift0, rng17, lo, hm_order, oe, oN_e]
theorem s_rC (hm : m.Sm 60) (ho : m.Ok) (a1 a3 a5 a6 a7 a8 a9 a10 a11 a12 o13 o14 o15 o16 o17 : Option D) : rC4 (run (n + 8)) [some (.ref 1), a1, some (tT m.a m.b m.c m.d), a3, some (mD m), a5, a6, a7, a8, a9, a10, a11, a12, o13, o14, o15, o16, o17] st = .rt (.bl true) st := by
  have m1 : Sz 4000 (-1) := Sz.m1'.mono (by decide)
  have k4 := hm.mono (t := 4000) (by decide)
  have w1 := (hm.a.add Sz.m1').mono (b' := 4000) (by decide)
  have w2 := (hm.d.add Sz.m1').mono (b' := 4000) (by decide)
  have ad := ((hm.a.add Sz.m1').mul (hm.d.add Sz.m1')).mono (b' := 4000) (by decide)
  have bc := (hm.b.mul hm.c).mono (b' := 4000) (by decide)
  have mbc := (Sz.m1'.mul (hm.b.mul hm.c)).mono (b' := 4000) (by decide)
  have su : ∀ p q st, Sz 4000 p → Sz 4000 q → run (n + 8) 17 [rT p, rT q] st = .ok (rT (p + q)) st := fun p q st hp hq => s_lsum (n + 5) p q st hp hq
  have ti : ∀ p q st, Sz 4000 p → Sz 4000 q → run (n + 8) 18 [rT p, rT q] st = .ok (rT (p * q)) st := fun p q st hp hq => s_ltimes (n + 5) p q st hp hq
  have fe : (m.a + -1) * (m.d + -1) + -1 * (m.b * m.c) = m.fac := by unfold Mo.fac; grind
  have ke : ∀ st, run (n + 8) 79 [mD m] st = _ := fun st => s_kept m hm (n + 3) st
  have pe : ∀ x y st, eqB T (run (n + 8)) true (pD x y) (pD x y) st = .ok (.bl false) st := fun x y st => by rw [p_eq (n + 5)]; simp
  have ca : ∀ (x y : Rat) st, Sz 900 x → Sz 900 y → run (n + 8) 72 [mD m, pD x y] st = .ok (pD (m.a * x + m.b * y + m.x) (m.c * x + m.d * y + m.y)) st := fun x y st hx hy => s_mcall (n + 2) m hm x y hx hy st
  unfold rC4
  by_cases hf : m.fac = 0
  · rw [if_pos hf] at ke
    simp [rawm, tT_0, tT_1, pT_0, pT_1, su, ti, m1, k4.a, k4.b, k4.c, k4.d, w1, w2, ad, bc, mbc, fe, hm_kept, ke, hf, isno_n, rT_0, eq_bb, s_rD, ho]
  · rw [if_neg hf] at ke
    have hn : (m.fac.num == 0) = false := by simpa using hf
    have kx := (kx_sz m hm hf).mono (b' := 900) (by decide)
    have ky := (ky_sz m hm hf).mono (b' := 900) (by decide)
    simp [rawm, tT_0, tT_1, pT_0, pT_1, su, ti, m1, k4.a, k4.b, k4.c, k4.d, w1, w2, ad, bc, mbc, fe, hm_kept, ke, hf, isno_n, isno_pD, rT_0, eq_bb, s_rD, ho, hn, pe, hm_call, ca, kx, ky, kept_x hf, kept_y hf]
end
theorem s_rB {b : Nat} {st : Store} (n : Nat) (h : Pen (b + 16) st) (ga gb gc : Int) (g : Gr ga gb gc) (m : Mo) (hm : m.Sm 60) (ho : m.Ok) (a3 a5 a7 o8 o9 o10 o11 o12 o13 o14 o15 o16 o17 : Option D) :
    ∃ st', rB4 (run (n + 8)) [some (.ref 1), some (gT ga gb gc), some (tT m.a m.b m.c m.d), a3, some (mD m), a5, some (oT (m.str ga gb gc)), a7, o8, o9, o10, o11, o12, o13, o14, o15, o16, o17] st = .rt (.bl true) st' ∧ Nx st st' ∧ Pen b st' := by
  have p1 := h
  obtain ⟨u, s2, e2, n2, p2, f1⟩ := d_fraction (b := b + 14) (n + 5) p1
  obtain ⟨v, s3, e3, n3, p3, f2⟩ := d_fraction (b := b + 12) (n + 5) p2
  obtain ⟨z, s4, e4, n4, p4, f3⟩ := d_fraction (b := b + 10) (n + 5) p3
  obtain ⟨w, s5, e5, n5, p5, f4⟩ := d_fraction (b := b + 8) (n + 5) p4
  have z1 := f1.sz
  have z2 := f2.sz
  have z3 := f3.sz
  have z4 := f4.sz
  obtain ⟨s6, e6, n6, p6⟩ := d_point (b := b + 6) (n + 3) p5 u v (z1.mono (by decide)) (z2.mono (by decide))
  obtain ⟨s7, e7, n7, p7⟩ := d_point (b := b + 4) (n + 3) p6 z w (z3.mono (by decide)) (z4.mono (by decide))
  obtain ⟨s8, e8, n8, p8⟩ := d_point (b := b + 2) (n + 3) p7 u v (z1.mono (by decide)) (z2.mono (by decide))
  obtain ⟨s9, e9, n9, p9⟩ := d_point (b := b) (n + 3) p8 z w (z3.mono (by decide)) (z4.mono (by decide))
  have nn := ((((((n2.trans n3).trans n4).trans n5).trans n6).trans n7).trans n8).trans n9
  have k9 : ∀ {q : Rat}, Sz 20 q → Sz 900 q := fun h => h.mono (by decide)
  have ca : ∀ (x y : Rat) st, Sz 900 x → Sz 900 y → run (n + 8) 72 [mD m, pD x y] st = .ok (pD (m.a * x + m.b * y + m.x) (m.c * x + m.d * y + m.y)) st := fun x y st hx hy => s_mcall (n + 2) m hm x y hx hy st
  have sx : ∀ {p q r s t : Rat}, Sz 60 p → Sz 60 q → Sz 60 r → Sz 20 s → Sz 20 t → Sz 240 (p * s + q * t + r) := fun h1 h2 h3 h4 h5 => (((h1.mul h4).add (h2.mul h5)).add h3).mono (by decide)
  have x1 := sx hm.a hm.b hm.x z1 z2
  have x2 := sx hm.c hm.d hm.y z1 z2
  have x3 := sx hm.a hm.b hm.x z3 z4
  have x4 := sx hm.c hm.d hm.y z3 z4
  have y1 := (x1.sub x3).mono (b' := 500) (by decide)
  have y2 := (x2.sub x4).mono (b' := 500) (by decide)
  have w1 := (z1.sub z3).mono (b' := 500) (by decide)
  have w2 := (z2.sub z4).mono (b' := 500) (by decide)
  have sb1 : ∀ st, binD T (run (n + 8)) .Sub (pD (m.a * u + m.b * v + m.x) (m.c * u + m.d * v + m.y)) (pD (m.a * z + m.b * w + m.x) (m.c * z + m.d * w + m.y)) st = .ok (pD (m.a * u + m.b * v + m.x - (m.a * z + m.b * w + m.x)) (m.c * u + m.d * v + m.y - (m.c * z + m.d * w + m.y))) st := fun st => p_sub (n + 3) _ _ _ _ st (x1.mono (by decide)) (x2.mono (by decide)) (x3.mono (by decide)) (x4.mono (by decide))
  have sb2 : ∀ st, binD T (run (n + 8)) .Sub (pD u v) (pD z w) st = .ok (pD (u - z) (v - w)) st := fun st => p_sub (n + 3) _ _ _ _ st (z1.mono (by decide)) (z2.mono (by decide)) (z3.mono (by decide)) (z4.mono (by decide))
  have sp : ∀ x y st, run (n + 8) 23 [pD x y] st = .ok (pT x y) st := fun x y st => s_spot (n + 6) x y st
  have ln1 : ∀ st, run (n + 8) 33 [gT ga gb gc, pT (m.a * u + m.b * v + m.x - (m.a * z + m.b * w + m.x)) (m.c * u + m.d * v + m.y - (m.c * z + m.d * w + m.y))] st = _ := fun st => s_length (n + 4) ga gb gc g _ _ y1 y2 st
  have ln2 : ∀ st, run (n + 8) 33 [gT ga gb gc, pT (u - z) (v - w)] st = _ := fun st => s_length (n + 4) ga gb gc g _ _ w1 w2 st
  have lz2 : Sz 4000 (Ln ga gb gc (u - z) (v - w)) := (Ln_sz g (z1.sub z3) (z2.sub z4)).mono (by decide)
  have ti : ∀ p q st, Sz 4000 p → Sz 4000 q → run (n + 8) 18 [rT p, rT q] st = .ok (rT (p * q)) st := fun p q st hp hq => s_ltimes (n + 5) p q st hp hq
  refine ⟨s9, ?_, nn, p9⟩
  unfold rB4
  cases hs : m.str ga gb gc with
  | none => simp [rawp, e2, e3, e4, e5, e6, e7, e8, e9, hm_call, ca, k9 z1, k9 z2, k9 z3, k9 z4, sb1, sb2, sp, ln1, ln2, oT, isno_n, s_rC, hm, ho]
  | some q =>
    have qz := str_sz g hm hs
    have wl := wide_law g hs u v z w
    simp [rawp, e2, e3, e4, e5, e6, e7, e8, e9, hm_call, ca, k9 z1, k9 z2, k9 z3, k9 z4, sb1, sb2, sp, ln1, ln2, oT, isno_rT, ti, qz, lz2, wl, e_rT, s_rC, hm, ho]
end G39
namespace G39
open PySem PySem.Spec PyProof.Rows L2 Gm
theorem d_right {b : Nat} {st : Store} (n : Nat) (h : Pen (b + 23) st) (ga gb gc : Int) (g : Gr ga gb gc) (m : Mo) (hm : m.Sm 60) (ho : m.Ok) :
    ∃ st', run (n + 9) 38 [.ref 1, gT ga gb gc, tT m.a m.b m.c m.d, pT m.x m.y] st = .ok (.bl true) st' ∧ Nx st st' ∧ Pen b st' := by
  obtain ⟨s1, e1, n1, p1⟩ := d_motion (b := b + 16) (n + 2) h m hm ho.1
  have rb := fun a3 a5 a7 o8 o9 o10 o11 o12 o13 o14 o15 o16 o17 => s_rB n p1 ga gb gc g m hm ho a3 a5 a7 o8 o9 o10 o11 o12 o13 o14 o15 o16 o17
  obtain ⟨s2, e2, n2, p2⟩ := rb (some (pT m.x m.y)) (some (gD ga gb gc)) (some (oD (m.str ga gb gc))) none none none none none none none none none none
  refine ⟨s2, ?_, n1.trans n2, p2⟩
  have mg : ∀ st, mkD T (run (n + 8)) 3 [.int ga, .int gb, .int gc] st = .ok (gD ga gb gc) st := fun st => s_mkG (n + 7) ga gb gc g st
  have du : ∀ st, run (n + 8) 36 [gT ga gb gc, tT m.a m.b m.c m.d] st = .ok (oT (m.str ga gb gc)) st := fun st => by
    rw [← Du_str ga gb gc g]
    exact s_due (n + 3) ga gb gc g m hm st
  have sr : ∀ st, run (n + 8) 77 [mD m, gD ga gb gc] st = .ok (oD (m.str ga gb gc)) st := fun st => s_stretch (n + 2) ga gb gc g m hm st
  have tl : ∀ q st, run (n + 8) 20 [rD q] st = .ok (rT q) st := fun q st => s_told (n + 7) q st
  have ki : ∀ st, run (n + 8) 78 [mD m, gD ga gb gc] st = .ok (m.kin ga gb gc) st := fun st => s_kind (n + 1) ga gb gc g m hm st
  have dk : ∀ st, run (n + 8) 37 [gT ga gb gc, tT m.a m.b m.c m.d, pT m.x m.y] st = .ok (m.kin ga gb gc) st := fun st => s_duekind (n + 2) ga gb gc g m hm st
  rw [run_38, rA4_eq]
  refine fnD_pen0 ?_ (n1.trans n2) p2 (by simp)
  unfold rA4
  have h0 : (sPar 4 5 (aCons (xCall T (run (n + 8)) 27 (aCons (xVar 0) (aCons (xVar 2) (aCons (xVar 3) aNil)))) (aCons (xMk T (run (n + 8)) 3 (aCons (xBin subD (xVar 1) (xK (.int 0))) (aCons (xBin subD (xVar 1) (xK (.int 1))) (aCons (xBin subD (xVar 1) (xK (.int 2))) aNil)))) aNil))) [some (.ref 1), some (gT ga gb gc), some (tT m.a m.b m.c m.d), some (pT m.x m.y), none, none, none, none, none, none, none, none, none, none, none, none, none, none] st = .nx [some (.ref 1), some (gT ga gb gc), some (tT m.a m.b m.c m.d), some (pT m.x m.y), some (mD m), some (gD ga gb gc), none, none, none, none, none, none, none, none, none, none, none, none] s1 := by
    simp [e1, mg, gT_0, gT_1, gT_2]
  have h1 : (sPar 6 7 (aCons (xCall T (run (n + 8)) 36 (aCons (xVar 1) (aCons (xVar 2) aNil))) (aCons (xMethW T (run (n + 8)) 58 (xVar 4) (aCons (xVar 5) aNil)) aNil))) [some (.ref 1), some (gT ga gb gc), some (tT m.a m.b m.c m.d), some (pT m.x m.y), some (mD m), some (gD ga gb gc), none, none, none, none, none, none, none, none, none, none, none, none] s1 = .nx [some (.ref 1), some (gT ga gb gc), some (tT m.a m.b m.c m.d), some (pT m.x m.y), some (mD m), some (gD ga gb gc), some (oT (m.str ga gb gc)), some (oD (m.str ga gb gc)), none, none, none, none, none, none, none, none, none, none] s1 := by
    simp [du, sr, hm_stretch]
  have h2 : (sIf (tOr (tOf (truD T (run (n + 8))) (xBin (eqB T (run (n + 8)) true) (xBin (isNo false) (xVar 7) (xK .non)) (xBin (isNo false) (xVar 6) (xK .non)))) (tAnd (tOf (truD T (run (n + 8))) (xBin (isNo true) (xVar 7) (xK .non))) (tOf (truD T (run (n + 8))) (xBin (eqB T (run (n + 8)) true) (xCall T (run (n + 8)) 20 (aCons (xVar 7) aNil)) (xVar 6))))) (sRet (xK (.bl false))) sNx) [some (.ref 1), some (gT ga gb gc), some (tT m.a m.b m.c m.d), some (pT m.x m.y), some (mD m), some (gD ga gb gc), some (oT (m.str ga gb gc)), some (oD (m.str ga gb gc)), none, none, none, none, none, none, none, none, none, none] s1 = .nx [some (.ref 1), some (gT ga gb gc), some (tT m.a m.b m.c m.d), some (pT m.x m.y), some (mD m), some (gD ga gb gc), some (oT (m.str ga gb gc)), some (oD (m.str ga gb gc)), none, none, none, none, none, none, none, none, none, none] s1 := by
    cases hs : m.str ga gb gc with
    | none =>
      simp only [oT, oD]
      simp [isno_n, eq_bb]
    | some q =>
      simp only [oT, oD]
      simp [isno_rD, isno_rT, eq_bb, tl, e_rT]
  have h3 : (sIf (tOf (truD T (run (n + 8))) (xBin (eqB T (run (n + 8)) true) (xMethW T (run (n + 8)) 52 (xVar 4) (aCons (xVar 5) aNil)) (xCall T (run (n + 8)) 37 (aCons (xVar 1) (aCons (xVar 2) (aCons (xVar 3) aNil)))))) (sRet (xK (.bl false))) sNx) [some (.ref 1), some (gT ga gb gc), some (tT m.a m.b m.c m.d), some (pT m.x m.y), some (mD m), some (gD ga gb gc), some (oT (m.str ga gb gc)), some (oD (m.str ga gb gc)), none, none, none, none, none, none, none, none, none, none] s1 = .nx [some (.ref 1), some (gT ga gb gc), some (tT m.a m.b m.c m.d), some (pT m.x m.y), some (mD m), some (gD ga gb gc), some (oT (m.str ga gb gc)), some (oD (m.str ga gb gc)), none, none, none, none, none, none, none, none, none, none] s1 := by
    simp [hm_kind, ki, dk, kin_e]
  show (sSeq _ _) [some (.ref 1), some (gT ga gb gc), some (tT m.a m.b m.c m.d), some (pT m.x m.y), none, none, none, none, none, none, none, none, none, none, none, none, none, none] st = _
  simp only [ap_sSeq, h0, h1, h2, h3, SR.seq]
  exact e2
end G39
namespace G39
open PySem PySem.Spec PyProof.Rows L2 Gm
noncomputable def lapB (c : Fn) : Fs := (sSeq (sAsg (xCall T c 28 (aCons (xVar 1) (aCons (xK (.bl false)) aNil))) (gNm 3)) (sSeq (sAsg (xCall T c 34 (aCons (xVar 1) (aCons (xVar 3) aNil))) (gTp (gsCons (gNm 4) (gsCons (gNm 5) gsNil)))) (sSeq (sIf (tNot (tOf (truD T c) (xCall T c 38 (aCons (xVar 1) (aCons (xVar 3) (aCons (xVar 4) (aCons (xVar 5) aNil))))))) (sRet (xK (.bl false))) sNx) (sIf (tOf (truD T c) (xBin (eqB T c false) (xCall T c 12 (aCons (xVar 1) (aCons (xK (.int 2)) aNil))) (xK (.int 0)))) (sSeq (sAsg (xTup (aCons (xCall T c 19 (aCons (xVar 1) (aCons (xK (.int 0)) aNil))) (aCons (xCall T c 19 (aCons (xVar 1) (aCons (xK (.int 0)) aNil))) aNil))) (gNm 6)) (sSeq (sAsg (xCall T c 26 (aCons (xVar 4) (aCons (xTup (aCons (xTup (aCons (xK (.int 0)) (aCons (xK (.int 1)) aNil))) (aCons (xTup (aCons (xK (.int 0)) (aCons (xK (.int 1)) aNil))) aNil))) (aCons (xVar 6) aNil)))) (gNm 7)) (sSeq (sAsg (xLc (iRng (aCons (xK (.int 2)) aNil)) (gNm 9) tTrue (xCall T c 17 (aCons (xBin subD (xVar 6) (xVar 9)) (aCons (xCall T c 18 (aCons (xTup (aCons (xUn (negD T c) (xK (.int 1))) (aCons (xK (.int 1)) aNil))) (aCons (xBin subD (xVar 7) (xVar 9)) aNil))) aNil))) [9]) (gNm 8)) (sIf (tNot (tOf (truD T c) (xCall T c 38 (aCons (xVar 1) (aCons (xVar 3) (aCons (xVar 4) (aCons (xTup (aCons (xBin subD (xVar 8) (xK (.int 0))) (aCons (xBin subD (xVar 8) (xK (.int 1))) aNil))) aNil))))))) (sRet (xK (.bl false))) sNx)))) sNx))))
theorem d_lap {b : Nat} {st : Store} (n : Nat) (h : Pen (b + 175) st) (o2 o3 o4 o5 o6 o7 o8 o9 : Option D) :
    ∃ o3' o4' o5' o6' o7' o8' st', lapB (run (n + 13)) [some (.ref 0), some (.ref 1), o2, o3, o4, o5, o6, o7, o8, o9] st = .nx [some (.ref 0), some (.ref 1), o2, o3', o4', o5', o6', o7', o8', o9] st' ∧ Pen b st' := by
  obtain ⟨ga, gb, gc, s1, e1, n1, p1, g⟩ := d_ground (b := b + 147) (n + 10) h
  obtain ⟨p, q, r, s, x, y, s2, e2, n2, p2, R, f1, f2⟩ := d_drawn (b := b + 51) (n + 7) p1 ga gb gc g
  obtain ⟨ok, sm⟩ := ok_of R (Ax_fq f1 f2)
  obtain ⟨s3, e3, n3, p3⟩ := d_right (b := b + 28) (n + 4) p2 ga gb gc g ⟨p, q, r, s, x, y⟩ sm ok
  obtain ⟨v, s4, e4, n4, p4, v0, v1⟩ := d_draw (b := b + 27) (n + 12) p3 2 (by decide) (by decide)
  dsimp only at e3
  by_cases hv : v = 0
  · subst hv
    obtain ⟨u, s5, e5, n5, p5, f3⟩ := d_fraction (b := b + 25) (n + 10) p4
    obtain ⟨w, s6, e6, n6, p6, f4⟩ := d_fraction (b := b + 23) (n + 10) p5
    have A := Ax_mid R f3 f4
    have z := R.sz
    have k := fun {q : Rat} (h : Sz 42 q) => h.mono (b' := 950) (by decide)
    have k2 := fun {q : Rat} (h : Sz 20 q) => h.mono (b' := 950) (by decide)
    have z0 := Sz.zero 950 (by decide)
    have le : ∀ st, run (n + 13) 26 [tT p q r s, pT 0 0, pT u w] st = .ok (pT (p * u + q * w + 0) (r * u + s * w + 0)) st := fun st => s_lled (n + 9) p q r s u w 0 0 st (k z.1) (k z.2.1) (k z.2.2.1) (k z.2.2.2) (k2 f3.sz) (k2 f4.sz) z0 z0
    have m1 : Sz 4000 (-1) := Sz.m1'.mono (by decide)
    have L : ∀ {a b : Rat}, Sz 42 a → Sz 42 b → Sz 200 (a * u + b * w + 0) := fun ha hb => ((((ha.mul f3.sz).add (hb.mul f4.sz))).add (Sz.zero 1 (by decide))).mono (by decide)
    have l1 := L z.1 z.2.1
    have l2 := L z.2.2.1 z.2.2.2
    have ti : ∀ p q st, Sz 4000 p → Sz 4000 q → run (n + 13) 18 [rT p, rT q] st = .ok (rT (p * q)) st := fun p q st hp hq => s_ltimes (n + 10) p q st hp hq
    have su : ∀ p q st, Sz 4000 p → Sz 4000 q → run (n + 13) 17 [rT p, rT q] st = .ok (rT (p + q)) st := fun p q st hp hq => s_lsum (n + 10) p q st hp hq
    have t1 := l1.mono (b' := 4000) (by decide)
    have t2 := l2.mono (b' := 4000) (by decide)
    have t3 := (Sz.m1'.mul l1).mono (b' := 4000) (by decide)
    have t4 := (Sz.m1'.mul l2).mono (b' := 4000) (by decide)
    have t5 := f3.sz.mono (b' := 4000) (by decide)
    have t6 := f4.sz.mono (b' := 4000) (by decide)
    obtain ⟨ok2, sm2⟩ := ok_of R A
    obtain ⟨s7, e7, n7, p7⟩ := d_right (b := b) (n + 4) (p6.ext [.lst [rT (u + -1 * (p * u + q * w + 0)), rT (w + -1 * (r * u + s * w + 0))]]) ga gb gc g ⟨p, q, r, s, u + -1 * (p * u + q * w + 0), w + -1 * (r * u + s * w + 0)⟩ sm2 ok2
    dsimp only at e7
    have lc := rng_lc2 (h := xCall T (run (n + 13)) 17 (aCons (xBin subD (xVar 6) (xVar 9)) (aCons (xCall T (run (n + 13)) 18 (aCons (xTup (aCons (xUn (negD T (run (n + 13))) (xK (.int 1))) (aCons (xK (.int 1)) aNil))) (aCons (xBin subD (xVar 7) (xVar 9)) aNil))) aNil))) (i := 9) (vs := [9])
      (ρ := [some (.ref 0), some (.ref 1), o2, some (gT ga gb gc), some (tT p q r s), some (pT x y), some (pT u w), some (pT (p * u + q * w + 0) (r * u + s * w + 0)), o8, o9]) (st := s6) (y1 := rT (u + -1 * (p * u + q * w + 0))) (y2 := rT (w + -1 * (r * u + s * w + 0)))
      (fun st => by simp [-Rat.add_zero, wipeE, rawm, pT_0, pT_1, ti, su, m1, t1, t2, t3, t4, t5, t6])
      (fun st => by simp [-Rat.add_zero, wipeE, rawm, pT_0, pT_1, ti, su, m1, t1, t2, t3, t4, t5, t6])
    refine ⟨some (gT ga gb gc), some (tT p q r s), some (pT x y), some (pT u w), some (pT (p * u + q * w + 0) (r * u + s * w + 0)), some (.ref s6.length), s7, ?_, p7⟩
    unfold lapB
    simp [-Rat.add_zero, e1, e2, e3, e4, e5, e6, rawp, raw0, le, lc, sub_new0, sub_new1, e7]
  · have hv2 : (v == 0) = false := by simpa using hv
    refine ⟨some (gT ga gb gc), some (tT p q r s), some (pT x y), o6, o7, o8, s4, ?_, p4.mono (by omega)⟩
    unfold lapB
    simp [e1, e2, e3, e4, hv2]
theorem d_laps (n : Nat) : ∀ (ds : List D) {b : Nat} {st : Store} (h : Pen (b + 175 * ds.length) st) (o2 o3 o4 o5 o6 o7 o8 o9 : Option D),
    ∃ ρ st', forI (fun _ => True) (gNm 2) (lapB (run (n + 13))) ds [some (.ref 0), some (.ref 1), o2, o3, o4, o5, o6, o7, o8, o9] st = .nx ρ st' := by
  intro ds
  induction ds with
  | nil =>
    intro b st h o2 o3 o4 o5 o6 o7 o8 o9
    exact ⟨_, st, by unfold forI; rw [if_pos trivial]⟩
  | cons d ds ih =>
    intro b st h o2 o3 o4 o5 o6 o7 o8 o9
    obtain ⟨o3', o4', o5', o6', o7', o8', s1, e1, p1⟩ := d_lap (b := b + 175 * ds.length) n (h.mono (by rw [List.length_cons]; omega)) (some d) o3 o4 o5 o6 o7 o8 o9
    obtain ⟨ρ, s2, e2⟩ := ih p1 (some d) o3' o4' o5' o6' o7' o8' o9
    refine ⟨ρ, s2, ?_⟩
    unfold forI
    rw [if_pos trivial]
    simp only [ap_gNm]
    simp [e1, e2]
theorem cut63 (l : List D) (h : l.length ≤ 63) : Gm.cutD l none (some 63) = l := by
  unfold Gm.cutD
  rw [show HT.sIx l.length l.length (some 63) = min 63 l.length from HT.sIx_nat _ _ 63, HT.sIx_none, List.drop_zero]
  exact List.take_of_length_le (by omega)
theorem two (p : Prop) [Decidable p] (x : Res D) : (if p then x else x) = x := by split <;> rfl
open Classical in
theorem s_pen (n : Nat) (ns : List Int) (h : ns.length ≤ 63) : run (n + 1) 11 [.ref 0] [.rol (ns.map D.int)] = .ok (.ref 1) [.rol (ns.map D.int), .dic (pc 0 0), .lst (ns.map D.int), .lst (ns.map D.int)] := by
  rw [run_11]
  have hc := cut63 (ns.map D.int) (by rw [List.length_map]; exact h)
  have hs : ∀ ρ, oSo (xK (.int 63)) ρ [.rol (ns.map D.int), .dic []] = .ok (some 63) [.rol (ns.map D.int), .dic []] := fun _ => rfl
  have hl : xBi bList (aCons (xSl (xVar 0) oNo (oSo (xK (.int 63)))) aNil) [some (.ref 0)] [.rol (ns.map D.int), .dic []] = .ok (.ref 3) [.rol (ns.map D.int), .dic [], .lst (ns.map D.int), .lst (ns.map D.int)] := by
    unfold xSl
    simp [oNo, hs, sliD, hc, newLst, bList, seqOf]
  have hx : xDic ["cells", "at", "left"] (aCons (xBi bList (aCons (xSl (xVar 0) oNo (oSo (xK (.int 63)))) aNil)) (aCons (xK (.int 0)) (aCons (xK (.int 0)) aNil))) [some (.ref 0)] [.rol (ns.map D.int)] = .ok (.ref 1) [.rol (ns.map D.int), .dic (pc 0 0), .lst (ns.map D.int), .lst (ns.map D.int)] := by
    unfold xDic
    simp only [List.cons_append, List.nil_append, ap_aCons, hl, Res.bind_ok, kC1_, ap_xK, kC2_, ap_aNil]
    rfl
  have e : B_11 (run n) (startE 1 [.ref 0]) [.rol (ns.map D.int)] = .rt (.ref 1) [.rol (ns.map D.int), .dic (pc 0 0), .lst (ns.map D.int), .lst (ns.map D.int)] := by
    simp [B_11, startE, hx]
  rw [fnD_rt e]
  unfold tidy
  simp [pc, noRefs, noRef]
theorem tidy_bl (st st' : Store) (b : Bool) : ∃ s, tidy st (.ok (.bl b) st') = .ok (.bl b) s := by
  unfold tidy
  simp only []
  split
  · exact ⟨_, if_pos (by simp)⟩
  · exact ⟨_, rfl⟩
theorem ints_len (i : Int) (n : Nat) : (Gm.intsFrom i n).length = n := by
  unfold Gm.intsFrom
  simp
theorem law_ok' (ns : List Int) (hl : ns.length ≤ 63) : ∃ st, run 14 39 [.ref 0] [.rol (ns.map D.int)] = .ok (.bl true) st := by
  rw [run_39]
  have hp : ∀ o, run 13 11 [.ref 0] o = run (12 + 1) 11 [.ref 0] o := fun _ => rfl
  have e1 := s_pen 12 ns hl
  have hP : Pen 10000 [.rol (ns.map D.int), .dic (pc 0 0), .lst (ns.map D.int), .lst (ns.map D.int)] := ⟨ns, 0, 0, ⟨rfl, rfl, by decide, hl⟩, by decide⟩
  have hr : ∃ k : Nat, k ≤ 7 ∧ iRng (aCons (xBin (binD T (run 13) .Add) (xK (.int 3)) (xBi bMin (aCons (xK (.int 4)) (aCons (xBi bLen (aCons (xVar 0) aNil)) aNil)))) aNil) [some (.ref 0), some (.ref 1), none, none, none, none, none, none, none, none] [.rol (ns.map D.int), .dic (pc 0 0), .lst (ns.map D.int), .lst (ns.map D.int)] = .ok (Gm.intsFrom 0 k, fun _ => True) [.rol (ns.map D.int), .dic (pc 0 0), .lst (ns.map D.int), .lst (ns.map D.int)] := by
    have hb : bLen [.ref 0] [.rol (ns.map D.int), .dic (pc 0 0), .lst (ns.map D.int), .lst (ns.map D.int)] = .ok (.int ns.length) [.rol (ns.map D.int), .dic (pc 0 0), .lst (ns.map D.int), .lst (ns.map D.int)] := by
      simp [bLen, seqOf]
    have hm : ∀ st, bMin [.int 4, .int ns.length] st = .ok (.int ((if (ns.length : Int) < 4 then (ns.length : Int) else 4))) st := fun st => rfl
    refine ⟨(3 + (if (ns.length : Int) < 4 then (ns.length : Int) else 4)).toNat, by split <;> omega, ?_⟩
    unfold iRng
    simp [hb, hm]
    split <;> omega
  obtain ⟨k, hk, hr⟩ := hr
  obtain ⟨ρ, s2, e2⟩ := d_laps 0 (Gm.intsFrom 0 k) (b := 0) (hP.mono (by rw [ints_len]; omega)) none none none none none none none none
  unfold lapB at e2
  have e : B_39 (run 13) (startE 10 [.ref 0]) [.rol (ns.map D.int)] = .rt (.bl true) s2 := by
    simp [B_39, startE, e1, hr, e2]
  rw [fnD_rt e]
  exact tidy_bl _ _ _
end G39
namespace G39
open PySem PySem.Spec PyProof.Rows L2 Gm
section
variable {P : Program} {w : World} {K : PySem.W.Frag} {mg : Str → Option Value} {base h : Heap}
theorem nam_of (X : K.In h) (G : h.Ns mainGlobals mg) (c : He.SaysD fa fn K) (hex : ex K = true) : Nam K mg where
  g_Ratio := He.glo_ok X G (c.fact 0 (f := .glo "Ratio") rfl)
  g_is_number := He.glo_ok X G (c.fact 1 (f := .glo "is_number") rfl)
  g_ratio_of := He.glo_ok X G (c.fact 2 (f := .glo "ratio_of") rfl)
  g_Point := He.glo_ok X G (c.fact 3 (f := .glo "Point") rfl)
  g_Motion := He.glo_ok X G (c.fact 4 (f := .glo "Motion") rfl)
  g__law_draw := He.glo_ok X G (c.fact 5 (f := .glo "_law_draw") rfl)
  g__law_gcd := He.glo_ok X G (c.fact 6 (f := .glo "_law_gcd") rfl)
  g__law_cut := He.glo_ok X G (c.fact 7 (f := .glo "_law_cut") rfl)
  g__law_great := He.glo_ok X G (c.fact 8 (f := .glo "_law_great") rfl)
  g__law_pick := He.glo_ok X G (c.fact 9 (f := .glo "_law_pick") rfl)
  g__law_given := He.glo_ok X G (c.fact 10 (f := .glo "_law_given") rfl)
  g__law_told := He.glo_ok X G (c.fact 11 (f := .glo "_law_told") rfl)
  g__law_fraction := He.glo_ok X G (c.fact 12 (f := .glo "_law_fraction") rfl)
  g__law_factor := He.glo_ok X G (c.fact 13 (f := .glo "_law_factor") rfl)
  g__law_times := He.glo_ok X G (c.fact 14 (f := .glo "_law_times") rfl)
  g__law_sum := He.glo_ok X G (c.fact 15 (f := .glo "_law_sum") rfl)
  g__law_point := He.glo_ok X G (c.fact 16 (f := .glo "_law_point") rfl)
  g__law_measure := He.glo_ok X G (c.fact 17 (f := .glo "_law_measure") rfl)
  g__law_way := He.glo_ok X G (c.fact 18 (f := .glo "_law_way") rfl)
  g__law_mirror_rows := He.glo_ok X G (c.fact 19 (f := .glo "_law_mirror_rows") rfl)
  g__law_table := He.glo_ok X G (c.fact 20 (f := .glo "_law_table") rfl)
  g__law_product := He.glo_ok X G (c.fact 21 (f := .glo "_law_product") rfl)
  g__law_undone := He.glo_ok X G (c.fact 22 (f := .glo "_law_undone") rfl)
  g__law_led := He.glo_ok X G (c.fact 23 (f := .glo "_law_led") rfl)
  g__law_length := He.glo_ok X G (c.fact 24 (f := .glo "_law_length") rfl)
  g__law_due_stretch := He.glo_ok X G (c.fact 25 (f := .glo "_law_due_stretch") rfl)
  g_Ground := He.glo_ok X G (c.fact 26 (f := .glo "Ground") rfl)
  g__law_motion := He.glo_ok X G (c.fact 27 (f := .glo "_law_motion") rfl)
  g__law_due_kind := He.glo_ok X G (c.fact 28 (f := .glo "_law_due_kind") rfl)
  g__law_spot := He.glo_ok X G (c.fact 29 (f := .glo "_law_spot") rfl)
  g_shifting := He.glo_ok X G (c.fact 30 (f := .glo "shifting") rfl)
  g__law_pen := He.glo_ok X G (c.fact 31 (f := .glo "_law_pen") rfl)
  g__law_ground := He.glo_ok X G (c.fact 32 (f := .glo "_law_ground") rfl)
  g__law_drawn := He.glo_ok X G (c.fact 33 (f := .glo "_law_drawn") rfl)
  g__law_is_right := He.glo_ok X G (c.fact 34 (f := .glo "_law_is_right") rfl)
  g_gcd_of := He.glo_ok X G (c.fact 35 (f := .glo "gcd_of") rfl)
  g_raised := He.glo_ok X G (c.fact 36 (f := .glo "raised") rfl)
  g_table_of := He.glo_ok X G (c.fact 37 (f := .glo "table_of") rfl)
  g_factor_of := He.glo_ok X G (c.fact 38 (f := .glo "factor_of") rfl)
  g_led := He.glo_ok X G (c.fact 39 (f := .glo "led") rfl)
  g_table_product := He.glo_ok X G (c.fact 40 (f := .glo "table_product") rfl)
  g_is_integer := He.glo_ok X G (c.fact 41 (f := .glo "is_integer") rfl)
  g_rest := He.glo_ok X G (c.fact 42 (f := .glo "rest") rfl)
  b_isinstance := He.free_ok X G (c.fact 43 (f := .free "isinstance") rfl)
  b_int := He.free_ok X G (c.fact 44 (f := .free "int") rfl)
  b_bool := He.free_ok X G (c.fact 45 (f := .free "bool") rfl)
  b_abs := He.free_ok X G (c.fact 46 (f := .free "abs") rfl)
  b_tuple := He.free_ok X G (c.fact 47 (f := .free "tuple") rfl)
  b_list := He.free_ok X G (c.fact 48 (f := .free "list") rfl)
  b_len := He.free_ok X G (c.fact 49 (f := .free "len") rfl)
  b_range := He.free_ok X G (c.fact 50 (f := .free "range") rfl)
  b_min := He.free_ok X G (c.fact 51 (f := .free "min") rfl)
  c_MOST_POWER := He.int_ok X G (c.fact 52 (f := .int "MOST_POWER" 1000) rfl)
  c_ORDERS := ⟨He.glo_ok X G (c.fact 53 (f := .glo "ORDERS") rfl), fun H => He.tupB_ok (Bool.and_eq_true_iff.mp hex).2 H⟩
theorem binds_of (c : He.SaysD fa fn K) : AllN (BindOk tb K) 0 85 :=
  ⟨(c.def_ 0 (d := d_0) rfl).elim fun fd F => bind0 (f := 0) rfl F rfl rfl fun _ _ _ _ _ _ us hl => (match us, hl with | [_], _ => rfl),
  ⟨(c.def_ 1 (d := d_1) rfl).elim fun fd F => bind0 (f := 1) rfl F rfl rfl fun _ _ _ _ _ _ us hl => (match us, hl with | [_, _], _ => rfl),
  ⟨(c.def_ 2 (d := d_2) rfl).elim fun fd F => bind0 (f := 2) rfl F rfl rfl fun _ _ _ _ _ _ us hl => (match us, hl with | [_, _], _ => rfl),
  ⟨(c.def_ 3 (d := d_3) rfl).elim fun fd F => bind0 (f := 3) rfl F rfl rfl fun _ _ _ _ _ _ us hl => (match us, hl with | [_], _ => rfl),
  ⟨(c.def_ 4 (d := d_4) rfl).elim fun fd F => bind0 (f := 4) rfl F rfl rfl fun _ _ _ _ _ _ us hl => (match us, hl with | [_], _ => rfl),
  ⟨(c.def_ 5 (d := d_5) rfl).elim fun fd F => bind0 (f := 5) rfl F rfl rfl fun _ _ _ _ _ _ us hl => (match us, hl with | [_], _ => rfl),
  ⟨(c.def_ 6 (d := d_6) rfl).elim fun fd F => bind0 (f := 6) rfl F rfl rfl fun _ _ _ _ _ _ us hl => (match us, hl with | [_], _ => rfl),
  ⟨(c.def_ 7 (d := d_7) rfl).elim fun fd F => bind0 (f := 7) rfl F rfl rfl fun _ _ _ _ _ _ us hl => (match us, hl with | [_, _], _ => rfl),
  ⟨(c.def_ 8 (d := d_8) rfl).elim fun fd F => bind0 (f := 8) rfl F rfl rfl fun _ _ _ _ _ _ us hl => (match us, hl with | [_, _, _], _ => rfl),
  ⟨(c.def_ 9 (d := d_9) rfl).elim fun fd F => bind0 (f := 9) rfl F rfl rfl fun _ _ _ _ _ _ us hl => (match us, hl with | [], _ => rfl),
  ⟨(c.def_ 10 (d := d_10) rfl).elim fun fd F => bind0 (f := 10) rfl F rfl rfl fun _ _ _ _ _ _ us hl => (match us, hl with | [_], _ => rfl),
  ⟨(c.def_ 11 (d := d_11) rfl).elim fun fd F => bind0 (f := 11) rfl F rfl rfl fun _ _ _ _ _ _ us hl => (match us, hl with | [_], _ => rfl),
  ⟨(c.def_ 12 (d := d_12) rfl).elim fun fd F => bind0 (f := 12) rfl F rfl rfl fun _ _ _ _ _ _ us hl => (match us, hl with | [_, _], _ => rfl),
  ⟨(c.def_ 13 (d := d_13) rfl).elim fun fd F => bind0 (f := 13) rfl F rfl rfl fun _ _ _ _ _ _ us hl => (match us, hl with | [_, _], _ => rfl),
  ⟨(c.def_ 14 (d := d_14) rfl).elim fun fd F => bind0 (f := 14) rfl F rfl rfl fun _ _ _ _ _ _ us hl => (match us, hl with | [_, _], _ => rfl),
  ⟨(c.def_ 15 (d := d_15) rfl).elim fun fd F => bind0 (f := 15) rfl F rfl rfl fun _ _ _ _ _ _ us hl => (match us, hl with | [_, _], _ => rfl),
  ⟨(c.def_ 16 (d := d_16) rfl).elim fun fd F => bind0 (f := 16) rfl F rfl rfl fun _ _ _ _ _ _ us hl => (match us, hl with | [_], _ => rfl),
  ⟨(c.def_ 17 (d := d_17) rfl).elim fun fd F => bind0 (f := 17) rfl F rfl rfl fun _ _ _ _ _ _ us hl => (match us, hl with | [_, _], _ => rfl),
  ⟨(c.def_ 18 (d := d_18) rfl).elim fun fd F => bind0 (f := 18) rfl F rfl rfl fun _ _ _ _ _ _ us hl => (match us, hl with | [_, _], _ => rfl),
  ⟨(c.def_ 19 (d := d_19) rfl).elim fun fd F => bind0 (f := 19) rfl F rfl rfl fun _ _ _ _ _ _ us hl => (match us, hl with | [_, _], _ => rfl),
  ⟨(c.def_ 20 (d := d_20) rfl).elim fun fd F => bind0 (f := 20) rfl F rfl rfl fun _ _ _ _ _ _ us hl => (match us, hl with | [_], _ => rfl),
  ⟨(c.def_ 21 (d := d_21) rfl).elim fun fd F => bind0 (f := 21) rfl F rfl rfl fun _ _ _ _ _ _ us hl => (match us, hl with | [_, _], _ => rfl),
  ⟨(c.def_ 22 (d := d_22) rfl).elim fun fd F => bind0 (f := 22) rfl F rfl rfl fun _ _ _ _ _ _ us hl => (match us, hl with | [_, _], _ => rfl),
  ⟨(c.def_ 23 (d := d_23) rfl).elim fun fd F => bind0 (f := 23) rfl F rfl rfl fun _ _ _ _ _ _ us hl => (match us, hl with | [_], _ => rfl),
  ⟨(c.def_ 24 (d := d_24) rfl).elim fun fd F => bind0 (f := 24) rfl F rfl rfl fun _ _ _ _ _ _ us hl => (match us, hl with | [_, _], _ => rfl),
  ⟨(c.def_ 25 (d := d_25) rfl).elim fun fd F => bind0 (f := 25) rfl F rfl rfl fun _ _ _ _ _ _ us hl => (match us, hl with | [_], _ => rfl),
  ⟨(c.def_ 26 (d := d_26) rfl).elim fun fd F => bind0 (f := 26) rfl F rfl rfl fun _ _ _ _ _ _ us hl => (match us, hl with | [_, _, _], _ => rfl),
  ⟨(c.def_ 27 (d := d_27) rfl).elim fun fd F => bind0 (f := 27) rfl F rfl rfl fun _ _ _ _ _ _ us hl => (match us, hl with | [_, _, _], _ => rfl),
  ⟨(c.def_ 28 (d := d_28) rfl).elim fun fd F => bind0 (f := 28) rfl F rfl rfl fun _ _ _ _ _ _ us hl => (match us, hl with | [_, _], _ => rfl),
  ⟨(c.def_ 29 (d := d_29) rfl).elim fun fd F => bind0 (f := 29) rfl F rfl rfl fun _ _ _ _ _ _ us hl => (match us, hl with | [_, _], _ => rfl),
  ⟨(c.def_ 30 (d := d_30) rfl).elim fun fd F => bind0 (f := 30) rfl F rfl rfl fun _ _ _ _ _ _ us hl => (match us, hl with | [_, _], _ => rfl),
  ⟨(c.def_ 31 (d := d_31) rfl).elim fun fd F => bind0 (f := 31) rfl F rfl rfl fun _ _ _ _ _ _ us hl => (match us, hl with | [_, _], _ => rfl),
  ⟨(c.def_ 32 (d := d_32) rfl).elim fun fd F => bind0 (f := 32) rfl F rfl rfl fun _ _ _ _ _ _ us hl => (match us, hl with | [_, _], _ => rfl),
  ⟨(c.def_ 33 (d := d_33) rfl).elim fun fd F => bind0 (f := 33) rfl F rfl rfl fun _ _ _ _ _ _ us hl => (match us, hl with | [_, _], _ => rfl),
  ⟨(c.def_ 34 (d := d_34) rfl).elim fun fd F => bind0 (f := 34) rfl F rfl rfl fun _ _ _ _ _ _ us hl => (match us, hl with | [_, _], _ => rfl),
  ⟨(c.def_ 35 (d := d_35) rfl).elim fun fd F => bind0 (f := 35) rfl F rfl rfl fun _ _ _ _ _ _ us hl => (match us, hl with | [_], _ => rfl),
  ⟨(c.def_ 36 (d := d_36) rfl).elim fun fd F => bind0 (f := 36) rfl F rfl rfl fun _ _ _ _ _ _ us hl => (match us, hl with | [_, _], _ => rfl),
  ⟨(c.def_ 37 (d := d_37) rfl).elim fun fd F => bind0 (f := 37) rfl F rfl rfl fun _ _ _ _ _ _ us hl => (match us, hl with | [_, _, _], _ => rfl),
  ⟨(c.def_ 38 (d := d_38) rfl).elim fun fd F => bind0 (f := 38) rfl F rfl rfl fun _ _ _ _ _ _ us hl => (match us, hl with | [_, _, _, _], _ => rfl),
  ⟨(c.def_ 39 (d := d_39) rfl).elim fun fd F => bind0 (f := 39) rfl F rfl rfl fun _ _ _ _ _ _ us hl => (match us, hl with | [_], _ => rfl),
  ⟨(c.def_ 40 (d := d_40) rfl).elim fun fd F => bindJ (f := 40) rfl F (by decide) (by decide) (by decide) fun j hj => match j, hj with | 0, _ => fun _ _ _ _ _ _ _ us its l1 l2 => (match us, its, l1, l2 with | [_, _], [_], _, _ => ⟨_, rfl, rfl⟩) | 1, _ => fun _ _ _ _ _ _ _ us its l1 l2 => (match us, its, l1, l2 with | [_, _, _], [_], _, _ => (by first | exact .inl rfl | exact .inr ⟨_, rfl, rfl⟩)),
  ⟨(c.def_ 41 (d := d_41) rfl).elim fun fd F => bind0 (f := 41) rfl F rfl rfl fun _ _ _ _ _ _ us hl => (match us, hl with | [_, _], _ => rfl),
  ⟨(c.def_ 42 (d := d_42) rfl).elim fun fd F => bind0 (f := 42) rfl F rfl rfl fun _ _ _ _ _ _ us hl => (match us, hl with | [_, _], _ => rfl),
  ⟨(c.def_ 43 (d := d_43) rfl).elim fun fd F => bind0 (f := 43) rfl F rfl rfl fun _ _ _ _ _ _ us hl => (match us, hl with | [_, _], _ => rfl),
  ⟨(c.def_ 44 (d := d_44) rfl).elim fun fd F => bind0 (f := 44) rfl F rfl rfl fun _ _ _ _ _ _ us hl => (match us, hl with | [_, _], _ => rfl),
  ⟨(c.def_ 45 (d := d_45) rfl).elim fun fd F => bind0 (f := 45) rfl F rfl rfl fun _ _ _ _ _ _ us hl => (match us, hl with | [_, _], _ => rfl),
  ⟨(c.def_ 46 (d := d_46) rfl).elim fun fd F => bind0 (f := 46) rfl F rfl rfl fun _ _ _ _ _ _ us hl => (match us, hl with | [_, _], _ => rfl),
  ⟨(c.def_ 47 (d := d_47) rfl).elim fun fd F => bind0 (f := 47) rfl F rfl rfl fun _ _ _ _ _ _ us hl => (match us, hl with | [_, _], _ => rfl),
  ⟨(c.def_ 48 (d := d_48) rfl).elim fun fd F => bind0 (f := 48) rfl F rfl rfl fun _ _ _ _ _ _ us hl => (match us, hl with | [_, _], _ => rfl),
  ⟨(c.def_ 49 (d := d_49) rfl).elim fun fd F => bind0 (f := 49) rfl F rfl rfl fun _ _ _ _ _ _ us hl => (match us, hl with | [_, _], _ => rfl),
  ⟨(c.def_ 50 (d := d_50) rfl).elim fun fd F => bind0 (f := 50) rfl F rfl rfl fun _ _ _ _ _ _ us hl => (match us, hl with | [_, _], _ => rfl),
  ⟨(c.def_ 51 (d := d_51) rfl).elim fun fd F => bind0 (f := 51) rfl F rfl rfl fun _ _ _ _ _ _ us hl => (match us, hl with | [_, _], _ => rfl),
  ⟨(c.def_ 52 (d := d_52) rfl).elim fun fd F => bind0 (f := 52) rfl F rfl rfl fun _ _ _ _ _ _ us hl => (match us, hl with | [_, _], _ => rfl),
  ⟨(c.def_ 53 (d := d_53) rfl).elim fun fd F => bind0 (f := 53) rfl F rfl rfl fun _ _ _ _ _ _ us hl => (match us, hl with | [_, _], _ => rfl),
  ⟨(c.def_ 54 (d := d_54) rfl).elim fun fd F => bind0 (f := 54) rfl F rfl rfl fun _ _ _ _ _ _ us hl => (match us, hl with | [_, _], _ => rfl),
  ⟨(c.def_ 55 (d := d_55) rfl).elim fun fd F => bind0 (f := 55) rfl F rfl rfl fun _ _ _ _ _ _ us hl => (match us, hl with | [_, _], _ => rfl),
  ⟨(c.def_ 56 (d := d_56) rfl).elim fun fd F => bind0 (f := 56) rfl F rfl rfl fun _ _ _ _ _ _ us hl => (match us, hl with | [_, _], _ => rfl),
  ⟨(c.def_ 57 (d := d_57) rfl).elim fun fd F => bind0 (f := 57) rfl F rfl rfl fun _ _ _ _ _ _ us hl => (match us, hl with | [_], _ => rfl),
  ⟨(c.def_ 58 (d := d_58) rfl).elim fun fd F => bind0 (f := 58) rfl F rfl rfl fun _ _ _ _ _ _ us hl => (match us, hl with | [_], _ => rfl),
  ⟨(c.def_ 59 (d := d_59) rfl).elim fun fd F => bind0 (f := 59) rfl F rfl rfl fun _ _ _ _ _ _ us hl => (match us, hl with | [_], _ => rfl),
  ⟨(c.def_ 60 (d := d_60) rfl).elim fun fd F => bind0 (f := 60) rfl F rfl rfl fun _ _ _ _ _ _ us hl => (match us, hl with | [_, _], _ => rfl),
  ⟨(c.def_ 61 (d := d_61) rfl).elim fun fd F => bind0 (f := 61) rfl F rfl rfl fun _ _ _ _ _ _ us hl => (match us, hl with | [_], _ => rfl),
  ⟨(c.def_ 62 (d := d_62) rfl).elim fun fd F => bind0 (f := 62) rfl F rfl rfl fun _ _ _ _ _ _ us hl => (match us, hl with | [_, _, _], _ => rfl),
  ⟨(c.def_ 63 (d := d_63) rfl).elim fun fd F => bind0 (f := 63) rfl F rfl rfl fun _ _ _ _ _ _ us hl => (match us, hl with | [_, _], _ => rfl),
  ⟨(c.def_ 64 (d := d_64) rfl).elim fun fd F => bind0 (f := 64) rfl F rfl rfl fun _ _ _ _ _ _ us hl => (match us, hl with | [_, _], _ => rfl),
  ⟨(c.def_ 65 (d := d_65) rfl).elim fun fd F => bind0 (f := 65) rfl F rfl rfl fun _ _ _ _ _ _ us hl => (match us, hl with | [_, _], _ => rfl),
  ⟨(c.def_ 66 (d := d_66) rfl).elim fun fd F => bind0 (f := 66) rfl F rfl rfl fun _ _ _ _ _ _ us hl => (match us, hl with | [_, _], _ => rfl),
  ⟨(c.def_ 67 (d := d_67) rfl).elim fun fd F => bind0 (f := 67) rfl F rfl rfl fun _ _ _ _ _ _ us hl => (match us, hl with | [_, _], _ => rfl),
  ⟨(c.def_ 68 (d := d_68) rfl).elim fun fd F => bind0 (f := 68) rfl F rfl rfl fun _ _ _ _ _ _ us hl => (match us, hl with | [_], _ => rfl),
  ⟨(c.def_ 69 (d := d_69) rfl).elim fun fd F => bind0 (f := 69) rfl F rfl rfl fun _ _ _ _ _ _ us hl => (match us, hl with | [_], _ => rfl),
  ⟨(c.def_ 70 (d := d_70) rfl).elim fun fd F => bindJ (f := 70) rfl F (by decide) (by decide) (by decide) fun j hj => match j, hj with | 0, _ => fun _ _ _ _ _ _ _ us its l1 l2 => (match us, its, l1, l2 with | [_, _], [_], _, _ => ⟨_, rfl, rfl⟩) | 1, _ => fun _ _ _ _ _ _ _ us its l1 l2 => (match us, its, l1, l2 with | [_, _, _], [_], _, _ => (by first | exact .inl rfl | exact .inr ⟨_, rfl, rfl⟩)),
  ⟨(c.def_ 71 (d := d_71) rfl).elim fun fd F => bind0 (f := 71) rfl F rfl rfl fun _ _ _ _ _ _ us hl => (match us, hl with | [_, _], _ => rfl),
  ⟨(c.def_ 72 (d := d_72) rfl).elim fun fd F => bind0 (f := 72) rfl F rfl rfl fun _ _ _ _ _ _ us hl => (match us, hl with | [_, _], _ => rfl),
  ⟨(c.def_ 73 (d := d_73) rfl).elim fun fd F => bind0 (f := 73) rfl F rfl rfl fun _ _ _ _ _ _ us hl => (match us, hl with | [_, _], _ => rfl),
  ⟨(c.def_ 74 (d := d_74) rfl).elim fun fd F => bind0 (f := 74) rfl F rfl rfl fun _ _ _ _ _ _ us hl => (match us, hl with | [_], _ => rfl),
  ⟨(c.def_ 75 (d := d_75) rfl).elim fun fd F => bind0 (f := 75) rfl F rfl rfl fun _ _ _ _ _ _ us hl => (match us, hl with | [_, _], _ => rfl),
  ⟨(c.def_ 76 (d := d_76) rfl).elim fun fd F => bind0 (f := 76) rfl F rfl rfl fun _ _ _ _ _ _ us hl => (match us, hl with | [_], _ => rfl),
  ⟨(c.def_ 77 (d := d_77) rfl).elim fun fd F => bind0 (f := 77) rfl F rfl rfl fun _ _ _ _ _ _ us hl => (match us, hl with | [_, _], _ => rfl),
  ⟨(c.def_ 78 (d := d_78) rfl).elim fun fd F => bind0 (f := 78) rfl F rfl rfl fun _ _ _ _ _ _ us hl => (match us, hl with | [_, _], _ => rfl),
  ⟨(c.def_ 79 (d := d_79) rfl).elim fun fd F => bind0 (f := 79) rfl F rfl rfl fun _ _ _ _ _ _ us hl => (match us, hl with | [_], _ => rfl),
  ⟨(c.def_ 80 (d := d_80) rfl).elim fun fd F => bind0 (f := 80) rfl F rfl rfl fun _ _ _ _ _ _ us hl => (match us, hl with | [_], _ => rfl),
  ⟨(c.def_ 81 (d := d_81) rfl).elim fun fd F => bind0 (f := 81) rfl F rfl rfl fun _ _ _ _ _ _ us hl => (match us, hl with | [_, _, _, _], _ => rfl),
  ⟨(c.def_ 82 (d := d_82) rfl).elim fun fd F => bind0 (f := 82) rfl F rfl rfl fun _ _ _ _ _ _ us hl => (match us, hl with | [_, _], _ => rfl),
  ⟨(c.def_ 83 (d := d_83) rfl).elim fun fd F => bind0 (f := 83) rfl F rfl rfl fun _ _ _ _ _ _ us hl => (match us, hl with | [_, _], _ => rfl),
  ⟨(c.def_ 84 (d := d_84) rfl).elim fun fd F => bind0 (f := 84) rfl F rfl rfl fun _ _ _ _ _ _ us hl => (match us, hl with | [_, _, _], _ => rfl),
  trivial⟩⟩⟩⟩⟩⟩⟩⟩⟩⟩⟩⟩⟩⟩⟩⟩⟩⟩⟩⟩⟩⟩⟩⟩⟩⟩⟩⟩⟩⟩⟩⟩⟩⟩⟩⟩⟩⟩⟩⟩⟩⟩⟩⟩⟩⟩⟩⟩⟩⟩⟩⟩⟩⟩⟩⟩⟩⟩⟩⟩⟩⟩⟩⟩⟩⟩⟩⟩⟩⟩⟩⟩⟩⟩⟩⟩⟩⟩⟩⟩⟩⟩⟩⟩⟩
theorem keeps_of (c : He.SaysD fa fn K) : ∀ d ∈ tb.defs, PySem.W.keepIn K (.ref (He.fAd K d.d.at_)) = true := fun d hd => by
  have hm : d.d ∈ fn := by
    have e : fn = tb.defs.map (·.d) := rfl
    rw [e]; exact List.mem_map.mpr ⟨d, hd, rfl⟩
  obtain ⟨fd, F⟩ := c.defs hm
  exact F.kp
theorem step (N : Nam K mg) (c : He.SaysD fa fn K) {k : Nat} {cf : Fn} (F : FOk (tb.lw K) P w K mg base k cf) : FOk (tb.lw K) P w K mg base (k + 10) (fun f => ((bodies cf)[f]?).getD fun _ _ => .stuck) := by
  refine F.next fun f hf => allN (P := fun f => FnOk P w K mg base (L2.CX P w) (k + 10) ((tb.lw K).fad f) ((tb.lw K).fdt f) ((tb.lw K).fps f) (spM K (tb.lw K) ((tb.lw K).fps f).length (((bodies cf)[f]?).getD fun _ _ => .stuck))) (i := 0) (n := 85) ?_ f (Nat.zero_le _) (by have := of_decide_eq_true hf; have e : tb.defs.length = 85 := rfl; omega)
  exact ⟨(c.def_ 0 (d := d_0) rfl).elim fun fd F0 => ok_0 N F0 F,
  ⟨(c.def_ 1 (d := d_1) rfl).elim fun fd F0 => ok_1 N F0 F,
  ⟨(c.def_ 2 (d := d_2) rfl).elim fun fd F0 => ok_2 N F0 F,
  ⟨(c.def_ 3 (d := d_3) rfl).elim fun fd F0 => ok_3 N F0 F,
  ⟨(c.def_ 4 (d := d_4) rfl).elim fun fd F0 => ok_4 N F0 F,
  ⟨(c.def_ 5 (d := d_5) rfl).elim fun fd F0 => ok_5 N F0 F,
  ⟨(c.def_ 6 (d := d_6) rfl).elim fun fd F0 => ok_6 N F0 F,
  ⟨(c.def_ 7 (d := d_7) rfl).elim fun fd F0 => ok_7 N F0 F,
  ⟨(c.def_ 8 (d := d_8) rfl).elim fun fd F0 => ok_8 N F0 F,
  ⟨(c.def_ 9 (d := d_9) rfl).elim fun fd F0 => ok_9 N F0 F,
  ⟨(c.def_ 10 (d := d_10) rfl).elim fun fd F0 => ok_10 N F0 F,
  ⟨(c.def_ 11 (d := d_11) rfl).elim fun fd F0 => ok_11 N F0 F,
  ⟨(c.def_ 12 (d := d_12) rfl).elim fun fd F0 => ok_12 N F0 F,
  ⟨(c.def_ 13 (d := d_13) rfl).elim fun fd F0 => ok_13 N F0 F,
  ⟨(c.def_ 14 (d := d_14) rfl).elim fun fd F0 => ok_14 N F0 F,
  ⟨(c.def_ 15 (d := d_15) rfl).elim fun fd F0 => ok_15 N F0 F,
  ⟨(c.def_ 16 (d := d_16) rfl).elim fun fd F0 => ok_16 N F0 F,
  ⟨(c.def_ 17 (d := d_17) rfl).elim fun fd F0 => ok_17 N F0 F,
  ⟨(c.def_ 18 (d := d_18) rfl).elim fun fd F0 => ok_18 N F0 F,
  ⟨(c.def_ 19 (d := d_19) rfl).elim fun fd F0 => ok_19 N F0 F,
  ⟨(c.def_ 20 (d := d_20) rfl).elim fun fd F0 => ok_20 N F0 F,
  ⟨(c.def_ 21 (d := d_21) rfl).elim fun fd F0 => ok_21 N F0 F,
  ⟨(c.def_ 22 (d := d_22) rfl).elim fun fd F0 => ok_22 N F0 F,
  ⟨(c.def_ 23 (d := d_23) rfl).elim fun fd F0 => ok_23 N F0 F,
  ⟨(c.def_ 24 (d := d_24) rfl).elim fun fd F0 => ok_24 N F0 F,
  ⟨(c.def_ 25 (d := d_25) rfl).elim fun fd F0 => ok_25 N F0 F,
  ⟨(c.def_ 26 (d := d_26) rfl).elim fun fd F0 => ok_26 N F0 F,
  ⟨(c.def_ 27 (d := d_27) rfl).elim fun fd F0 => ok_27 N F0 F,
  ⟨(c.def_ 28 (d := d_28) rfl).elim fun fd F0 => ok_28 N F0 F,
  ⟨(c.def_ 29 (d := d_29) rfl).elim fun fd F0 => ok_29 N F0 F,
  ⟨(c.def_ 30 (d := d_30) rfl).elim fun fd F0 => ok_30 N F0 F,
  ⟨(c.def_ 31 (d := d_31) rfl).elim fun fd F0 => ok_31 N F0 F,
  ⟨(c.def_ 32 (d := d_32) rfl).elim fun fd F0 => ok_32 N F0 F,
  ⟨(c.def_ 33 (d := d_33) rfl).elim fun fd F0 => ok_33 N F0 F,
  ⟨(c.def_ 34 (d := d_34) rfl).elim fun fd F0 => ok_34 N F0 F,
  ⟨(c.def_ 35 (d := d_35) rfl).elim fun fd F0 => ok_35 N F0 F,
  ⟨(c.def_ 36 (d := d_36) rfl).elim fun fd F0 => ok_36 N F0 F,
  ⟨(c.def_ 37 (d := d_37) rfl).elim fun fd F0 => ok_37 N F0 F,
  ⟨(c.def_ 38 (d := d_38) rfl).elim fun fd F0 => ok_38 N F0 F,
  ⟨(c.def_ 39 (d := d_39) rfl).elim fun fd F0 => ok_39 N F0 F,
  ⟨(c.def_ 40 (d := d_40) rfl).elim fun fd F0 => ok_40 N F0 F,
  ⟨(c.def_ 41 (d := d_41) rfl).elim fun fd F0 => ok_41 N F0 F,
  ⟨(c.def_ 42 (d := d_42) rfl).elim fun fd F0 => ok_42 N F0 F,
  ⟨(c.def_ 43 (d := d_43) rfl).elim fun fd F0 => ok_43 N F0 F,
  ⟨(c.def_ 44 (d := d_44) rfl).elim fun fd F0 => ok_44 N F0 F,
  ⟨(c.def_ 45 (d := d_45) rfl).elim fun fd F0 => ok_45 N F0 F,
  ⟨(c.def_ 46 (d := d_46) rfl).elim fun fd F0 => ok_46 N F0 F,
  ⟨(c.def_ 47 (d := d_47) rfl).elim fun fd F0 => ok_47 N F0 F,
  ⟨(c.def_ 48 (d := d_48) rfl).elim fun fd F0 => ok_48 N F0 F,
  ⟨(c.def_ 49 (d := d_49) rfl).elim fun fd F0 => ok_49 N F0 F,
  ⟨(c.def_ 50 (d := d_50) rfl).elim fun fd F0 => ok_50 N F0 F,
  ⟨(c.def_ 51 (d := d_51) rfl).elim fun fd F0 => ok_51 N F0 F,
  ⟨(c.def_ 52 (d := d_52) rfl).elim fun fd F0 => ok_52 N F0 F,
  ⟨(c.def_ 53 (d := d_53) rfl).elim fun fd F0 => ok_53 N F0 F,
  ⟨(c.def_ 54 (d := d_54) rfl).elim fun fd F0 => ok_54 N F0 F,
  ⟨(c.def_ 55 (d := d_55) rfl).elim fun fd F0 => ok_55 N F0 F,
  ⟨(c.def_ 56 (d := d_56) rfl).elim fun fd F0 => ok_56 N F0 F,
  ⟨(c.def_ 57 (d := d_57) rfl).elim fun fd F0 => ok_57 N F0 F,
  ⟨(c.def_ 58 (d := d_58) rfl).elim fun fd F0 => ok_58 N F0 F,
  ⟨(c.def_ 59 (d := d_59) rfl).elim fun fd F0 => ok_59 N F0 F,
  ⟨(c.def_ 60 (d := d_60) rfl).elim fun fd F0 => ok_60 N F0 F,
  ⟨(c.def_ 61 (d := d_61) rfl).elim fun fd F0 => ok_61 N F0 F,
  ⟨(c.def_ 62 (d := d_62) rfl).elim fun fd F0 => ok_62 N F0 F,
  ⟨(c.def_ 63 (d := d_63) rfl).elim fun fd F0 => ok_63 N F0 F,
  ⟨(c.def_ 64 (d := d_64) rfl).elim fun fd F0 => ok_64 N F0 F,
  ⟨(c.def_ 65 (d := d_65) rfl).elim fun fd F0 => ok_65 N F0 F,
  ⟨(c.def_ 66 (d := d_66) rfl).elim fun fd F0 => ok_66 N F0 F,
  ⟨(c.def_ 67 (d := d_67) rfl).elim fun fd F0 => ok_67 N F0 F,
  ⟨(c.def_ 68 (d := d_68) rfl).elim fun fd F0 => ok_68 N F0 F,
  ⟨(c.def_ 69 (d := d_69) rfl).elim fun fd F0 => ok_69 N F0 F,
  ⟨(c.def_ 70 (d := d_70) rfl).elim fun fd F0 => ok_70 N F0 F,
  ⟨(c.def_ 71 (d := d_71) rfl).elim fun fd F0 => ok_71 N F0 F,
  ⟨(c.def_ 72 (d := d_72) rfl).elim fun fd F0 => ok_72 N F0 F,
  ⟨(c.def_ 73 (d := d_73) rfl).elim fun fd F0 => ok_73 N F0 F,
  ⟨(c.def_ 74 (d := d_74) rfl).elim fun fd F0 => ok_74 N F0 F,
  ⟨(c.def_ 75 (d := d_75) rfl).elim fun fd F0 => ok_75 N F0 F,
  ⟨(c.def_ 76 (d := d_76) rfl).elim fun fd F0 => ok_76 N F0 F,
  ⟨(c.def_ 77 (d := d_77) rfl).elim fun fd F0 => ok_77 N F0 F,
  ⟨(c.def_ 78 (d := d_78) rfl).elim fun fd F0 => ok_78 N F0 F,
  ⟨(c.def_ 79 (d := d_79) rfl).elim fun fd F0 => ok_79 N F0 F,
  ⟨(c.def_ 80 (d := d_80) rfl).elim fun fd F0 => ok_80 N F0 F,
  ⟨(c.def_ 81 (d := d_81) rfl).elim fun fd F0 => ok_81 N F0 F,
  ⟨(c.def_ 82 (d := d_82) rfl).elim fun fd F0 => ok_82 N F0 F,
  ⟨(c.def_ 83 (d := d_83) rfl).elim fun fd F0 => ok_83 N F0 F,
  ⟨(c.def_ 84 (d := d_84) rfl).elim fun fd F0 => ok_84 N F0 F,
  trivial⟩⟩⟩⟩⟩⟩⟩⟩⟩⟩⟩⟩⟩⟩⟩⟩⟩⟩⟩⟩⟩⟩⟩⟩⟩⟩⟩⟩⟩⟩⟩⟩⟩⟩⟩⟩⟩⟩⟩⟩⟩⟩⟩⟩⟩⟩⟩⟩⟩⟩⟩⟩⟩⟩⟩⟩⟩⟩⟩⟩⟩⟩⟩⟩⟩⟩⟩⟩⟩⟩⟩⟩⟩⟩⟩⟩⟩⟩⟩⟩⟩⟩⟩⟩⟩
theorem all (N : Nam K mg) (c : He.SaysD fa fn K) (hex : ex K = true) : ∀ n : Nat, FOk (tb.lw K) P w K mg base (10 * n) (run n)
  | 0 => fo_of (Bool.and_eq_true_iff.mp hex).1 (by decide +kernel) (keeps_of c) fun f hf => allN (binds_of c) f (Nat.zero_le _) (by have e : tb.defs.length = 85 := rfl; omega)
  | n + 1 => step N c (all N c hex n)
end
def LawOk : Prop := ∀ ns : List Int, ns.length ≤ 63 → ∃ st, run 14 39 [.ref 0] [.rol (ns.map D.int)] = .ok (.bl true) st
def spLaw (K : PySem.W.Frag) : Sp := spM K (tb.lw K) 1 (run 14 39)
theorem law_sp (hL : LawOk) (K : PySem.W.Frag) (H : Hp) (a : Addr) (ns : List Int) (hl : ns.length ≤ 63) (hO : Only H) (hS : SqL K H a (ns.map V.int)) : spLaw K [.ref a] H (fun v _ => v = .bl true) fun _ _ _ => False := by
  obtain ⟨st, e⟩ := hL ns hl
  refine ⟨rfl, [.ref 0], ⟨fun _ => none, [a]⟩, [.rol (ns.map D.int)], Rls.mk (Rl.ref.mpr ⟨a, rfl, rfl⟩) (Rls.nil.mpr rfl), sok_law hO hS, ?_⟩
  rw [e]
  exact fun W' H' _ _ v R => Rl.bl.mp R
theorem facts {P : Program} {w : World} {K : PySem.W.Frag} {h : Heap} {mg : Str → Option Value} {f : Addr} (X : K.In h) (G : h.Ns mainGlobals mg) (hfa : mg ("law" : Str) = some (.ref f)) (c : He.SaysD fa fn K) (hex : ex K = true) (hlaw : (He.Fa.glo "law").ok K = true) :
    ∃ fd : FuncData, (∀ (s : Shared) (v : Value), BindsTo s fd ⟨[v], []⟩ [("script", v)]) ∧ ∀ base : Heap, K.In base → base.Ns mainGlobals mg → FnOk P w K mg base (L2.CX P w) 140 f fd ["script"] (spLaw K) := by
  have e := hfa.symm.trans (He.glo_ok X G hlaw)
  cases e
  obtain ⟨fd, F⟩ := c.def_ 39 (d := d_39) rfl
  have b := FunD.bindsA (ps := ["script"]) F fun _ _ _ _ _ _ us hl => match us, hl with | [_], _ => rfl
  have N := nam_of X G c hex
  have ef : (tb.lw K).fdt 39 = fd := fd_eq F
  refine ⟨fd, fun s v => b s [v] rfl, fun base hb1 hb2 => ?_⟩
  have := (all (P := P) (w := w) (base := base) N c hex 14).fn 39 rfl
  rw [ef] at this
  exact this
theorem law_ok : LawOk := law_ok'
end G39
open PySem PySem.W PySem.Calls PyProof.Rows
set_option maxRecDepth 100000 in
set_option maxHeartbeats 0 in
theorem PySem.Challenge.cw_overfloors_k39_whole_motions_and_grounds_holds : PySem.Challenge.rw_overfloors_k39_whole_motions_and_grounds.Holds := by
  w_on; o_law
  refine HandSHeadRun.head_any (r := OpenLaw.row PySem.Challenge.rw_overfloors_k39_whole_motions_and_grounds) (q := view (OpenLaw.row PySem.Challenge.rw_overfloors_k39_whole_motions_and_grounds).prog [58]) (H := G39.hk) (ob := G39.ob) (M := 20000) (loose := G39.names) (d := HandSHeadRun.topDef (OpenLaw.row PySem.Challenge.rw_overfloors_k39_whole_motions_and_grounds).prog 58) (kwd := []) G39.ob_eq
    (by kernel_rfl) (fun s => by kernel_rfl) G39.run_top (by kernel_rfl) (by kernel_rfl) (by kernel_rfl) (by rfl) (by first | assumption | decide +kernel) (by decide +kernel) ⟨rfl, rfl, rfl, rfl, rfl, by decide +kernel⟩ ?hw ?hc
  case hw => w_witness2
  case hc =>
    refine Gm.walk_ofX (l := PySem.Challenge.rw_overfloors_k39_whole_motions_and_grounds) (n := 63) (k := 140) (x := "script") (CX := fun w => L2.CX (PySem.Challenge.rw_overfloors_k39_whole_motions_and_grounds).prog w) rfl (by decide) (by kernel_rfl) ⟨rfl, by decide, by decide⟩ ?F (fun _ _ _ _ _ => Gm.cx_no)
    intro w mg fa h Y G hmg0
    obtain ⟨K, KX, c⟩ := Y
    have hmg : mg ("law" : PySem.Str) = some (.ref fa) := by
      have e : (HandSHeadRun.topDef (OpenLaw.row PySem.Challenge.rw_overfloors_k39_whole_motions_and_grounds).prog 58).name = ("law" : PySem.Str) := by kernel_rfl
      rw [← e]
      exact hmg0
    obtain ⟨fd, hb, hF⟩ := G39.facts (P := (PySem.Challenge.rw_overfloors_k39_whole_motions_and_grounds).prog) (w := w) KX G hmg c.t.d c.more (c.t.d.fact 54 rfl)
    exact ⟨K, fd, G39.spLaw K, KX, hb, fun H a ns hl _ hO hS => G39.law_sp G39.law_ok K H a ns hl hO hS, hF⟩
