import PyProof.Rows.All
import Wide.All
import OpenK.AllK
import Wide.FinOn
import HandS.ForMost
import HandS.Exc
import HandS.ExcOwn
import HandS.CallSlots
import HandS.TupAny
import HandS.TupLe
import HandS.TupMul
import HandS.IsInst
import HandS.Wide
import HandS.Flow
import HandS.Style
import HandS.Deep
import KE.DataMinMax
import HandS.SortInts
import HandS.WordsDict
import HandS.WordsExc
import HandS.Zip
import HandS.Small
import HandS.TryMany
import HandS.Ends
import HandS.EndBits
import KE.SortData
import PyProof.TupleOfSeq
import PySem.Challenge.RW_momentroads_k47_whole_graphs_and_closed
set_option Elab.async false
set_option linter.all false
set_option maxRecDepth 100000
set_option maxHeartbeats 4000000
section
set_option Elab.async false
set_option linter.all false
set_option maxRecDepth 100000
set_option maxHeartbeats 4000000
/-! Pv1: pure values over the hand layer: data D, how values bear it (Sh: shared, Ow: owned), the state (Stt), what may change (Evo). -/
namespace Pv
open PySem PySem.Spec PyProof.Rows L2

/-- a value as data -/
inductive D where
  | non | bl (b : Bool) | int (i : Int) | str (s : Str) | fn (n : Nat)
  | tup (xs : List D) | lst (xs : List D) | dic (ks : List Key) (vs : List D) | scr (ns : List Int)
  deriving Inhabited

/-- what may be changed in place -/
def D.isMut : D → Bool
  | .lst _ => true
  | .dic _ _ => true
  | _ => false

/-- what is fixed: the written part, where the defs and the error classes stand -/
structure RC where
  K : PySem.W.Frag
  fa : Nat → Option Addr
  ca : Nat → Option Addr

abbrev Fp := Addr → Prop
abbrev nowhere : Hp := fun _ => none

/-- the script -/
def Scr (C : RC) (H : Hp) (a : Addr) (ns : List Int) : Prop := (∃ o, H a = some (.frz o (.lst (ns.map V.int)))) ∨ SqL C.K nowhere a (ns.map V.int)

mutual
inductive Sh (C : RC) (Z : Fp) (H : Hp) : V → D → Prop
  | non : Sh C Z H .non .non
  | bl (b : Bool) : Sh C Z H (.bl b) (.bl b)
  | int (i : Int) : Sh C Z H (.int i) (.int i)
  | str (x : Str) : Sh C Z H (.str x) (.str x)
  | fn {n : Nat} {a : Addr} : C.fa n = some a → Sh C Z H (.ref a) (.fn n)
  | tup {a : Addr} {xs : List V} {ds : List D} : SqT C.K H a xs → ShL C Z H xs ds → Sh C Z H (.ref a) (.tup ds)
  | lst {a : Addr} {xs : List V} {ds : List D} : H a = some (.lst xs) → Z a → ShL C Z H xs ds → Sh C Z H (.ref a) (.lst ds)
  | scr {a : Addr} {ns : List Int} : Scr C H a ns → Sh C Z H (.ref a) (.scr ns)
  | dic {a : Addr} {ks : List Key} {xs : List V} {ds : List D} : H a = some (.dK (ks.zip xs)) → Z a → ks.length = xs.length → ShL C Z H xs ds → Sh C Z H (.ref a) (.dic ks ds)
inductive ShL (C : RC) (Z : Fp) (H : Hp) : List V → List D → Prop
  | nil : ShL C Z H [] []
  | cons {v : V} {vs : List V} {d : D} {ds : List D} : Sh C Z H v d → ShL C Z H vs ds → ShL C Z H (v :: vs) (d :: ds)
end

section
variable {C : RC} {Z Z' : Fp} {H H' : Hp}
theorem ShL.length : ∀ {vs : List V} {ds : List D}, ShL C Z H vs ds → vs.length = ds.length
  | _, _, .nil => rfl
  | _, _, .cons _ r => by rw [List.length_cons, List.length_cons, r.length]
theorem ShL.get : ∀ {vs : List V} {ds : List D} {i : Nat} {v : V}, ShL C Z H vs ds → vs[i]? = some v → ∃ d, ds[i]? = some d ∧ Sh C Z H v d
  | _, _, _, _, .nil, e => by simp at e
  | _, _, 0, _, .cons h _, e => by simp at e; subst e; exact ⟨_, rfl, h⟩
  | _, _, i + 1, _, .cons _ r, e => by
    obtain ⟨d, h1, h2⟩ := r.get (i := i) (by simpa using e)
    exact ⟨d, by simpa using h1, h2⟩
theorem ShL.get' : ∀ {vs : List V} {ds : List D} {i : Nat} {d : D}, ShL C Z H vs ds → ds[i]? = some d → ∃ v, vs[i]? = some v ∧ Sh C Z H v d
  | _, _, _, _, .nil, e => by simp at e
  | _, _, 0, _, .cons h _, e => by simp at e; subst e; exact ⟨_, rfl, h⟩
  | _, _, i + 1, _, .cons _ r, e => by
    obtain ⟨d, h1, h2⟩ := r.get' (i := i) (by simpa using e)
    exact ⟨d, by simpa using h1, h2⟩
theorem ShL.append : ∀ {vs ws : List V} {ds es : List D}, ShL C Z H vs ds → ShL C Z H ws es → ShL C Z H (vs ++ ws) (ds ++ es)
  | _, _, _, _, .nil, s => s
  | _, _, _, _, .cons h r, s => .cons h (r.append s)
theorem ShL.take : ∀ {vs : List V} {ds : List D} (n : Nat), ShL C Z H vs ds → ShL C Z H (vs.take n) (ds.take n)
  | _, _, 0, _ => .nil
  | _, _, _ + 1, .nil => .nil
  | _, _, n + 1, .cons h r => .cons h (r.take n)
theorem ShL.drop : ∀ {vs : List V} {ds : List D} (n : Nat), ShL C Z H vs ds → ShL C Z H (vs.drop n) (ds.drop n)
  | _, _, 0, r => r
  | _, _, _ + 1, .nil => .nil
  | _, _, n + 1, .cons _ r => r.drop n
theorem ShL.set {v : V} {d : D} (h : Sh C Z H v d) : ∀ {vs : List V} {ds : List D} (i : Nat), ShL C Z H vs ds → ShL C Z H (vs.set i v) (ds.set i d)
  | _, _, _, .nil => .nil
  | _, _, 0, .cons _ r => .cons h r
  | _, _, i + 1, .cons q r => .cons q (ShL.set h i r)
theorem ShL.eraseIdx : ∀ {vs : List V} {ds : List D} (i : Nat), ShL C Z H vs ds → ShL C Z H (vs.eraseIdx i) (ds.eraseIdx i)
  | _, _, _, .nil => .nil
  | _, _, 0, .cons _ r => r
  | _, _, i + 1, .cons q r => .cons q (ShL.eraseIdx i r)
theorem ShL.snoc {vs : List V} {ds : List D} {v : V} {d : D} (r : ShL C Z H vs ds) (h : Sh C Z H v d) : ShL C Z H (vs ++ [v]) (ds ++ [d]) := r.append (.cons h .nil)
theorem ShL.reverse : ∀ {vs : List V} {ds : List D}, ShL C Z H vs ds → ShL C Z H vs.reverse ds.reverse
  | _, _, .nil => .nil
  | _, _, .cons h r => by rw [List.reverse_cons, List.reverse_cons]; exact r.reverse.snoc h
theorem ShL.flat : ∀ {ls : List V} {k : Nat} {ds : List D}, ShL C Z H ls ds → ShL C Z H (List.replicate k ls).flatten (List.replicate k ds).flatten
  | _, 0, _, _ => .nil
  | _, k + 1, _, h => by rw [List.replicate_succ, List.replicate_succ, List.flatten_cons, List.flatten_cons]; exact h.append h.flat
theorem ShL.ints {ns : List Int} : ∀ {vs : List V}, ShL C Z H vs (ns.map D.int) → vs = ns.map V.int := by
  induction ns with
  | nil => intro vs h; cases h; rfl
  | cons n ns ih =>
    intro vs h
    cases h with
    | cons h r => cases h; rw [List.map_cons, ih r]
theorem ShL.bools {ns : List Bool} : ∀ {vs : List V}, ShL C Z H vs (ns.map D.bl) → vs = ns.map V.bl := by
  induction ns with
  | nil => intro vs h; cases h; rfl
  | cons n ns ih =>
    intro vs h
    cases h with
    | cons h r => cases h; rw [List.map_cons, ih r]
theorem shl_ints : ∀ {ns : List Int}, ShL C Z H (ns.map V.int) (ns.map D.int)
  | [] => .nil
  | n :: ns => .cons (.int n) shl_ints

/-- what shared values lean on stays -/
structure Ext (Z : Fp) (H : Hp) (Z' : Fp) (H' : Hp) : Prop where
  zk : ∀ a o, Z a → H a = some o → H' a = some o
  zm : ∀ a, Z a → Z' a
  tk : ∀ a xs, H a = some (.tup xs) → H' a = some (.tup xs)
  fk : ∀ a o u, H a = some (.frz o u) → H' a = some (.frz o u)
theorem Ext.refl : Ext Z H Z H := ⟨fun _ _ _ h => h, fun _ h => h, fun _ _ h => h, fun _ _ _ h => h⟩
theorem Ext.trans {Z1 Z2 : Fp} {H1 H2 : Hp} (a : Ext Z H Z1 H1) (b : Ext Z1 H1 Z2 H2) : Ext Z H Z2 H2 :=
  ⟨fun x o z h => b.zk x o (a.zm x z) (a.zk x o z h), fun x z => b.zm x (a.zm x z), fun x xs h => b.tk x xs (a.tk x xs h), fun x o u h => b.fk x o u (a.fk x o u h)⟩
theorem Ext.sqT (x : Ext Z H Z' H') {a : Addr} {xs : List V} (h : SqT C.K H a xs) : SqT C.K H' a xs := by
  rcases h with (h | ⟨o, h⟩) | h
  · exact .inl (.inl (x.tk _ _ h))
  · exact .inl (.inr ⟨o, x.fk _ _ _ h⟩)
  · exact .inr h
theorem Ext.scr (x : Ext Z H Z' H') {a : Addr} {ns : List Int} (h : Scr C H a ns) : Scr C H' a ns := by
  rcases h with ⟨o, h⟩ | h
  · exact .inl ⟨o, x.fk _ _ _ h⟩
  · exact .inr h
theorem Scr.sqL {a : Addr} {ns : List Int} (h : Scr C H a ns) : SqL C.K H a (ns.map V.int) := by
  rcases h with ⟨o, h⟩ | h
  · exact .inl (.inr ⟨o, h⟩)
  · rcases h with (h | ⟨o, h⟩) | h
    · cases h
    · cases h
    · exact .inr h
mutual
theorem Sh.ext (x : Ext Z H Z' H') : ∀ (d : D) (v : V), Sh C Z H v d → Sh C Z' H' v d
  | .non, _, h => by cases h; exact .non
  | .bl b, _, h => by cases h; exact .bl b
  | .int i, _, h => by cases h; exact .int i
  | .str y, _, h => by cases h; exact .str y
  | .fn n, _, h => by cases h with | fn e => exact .fn e
  | .tup ds, _, h => by cases h with | tup s r => exact .tup (x.sqT s) (ShL.ext x ds _ r)
  | .lst ds, _, h => by cases h with | lst s z r => exact .lst (x.zk _ _ z s) (x.zm _ z) (ShL.ext x ds _ r)
  | .scr ns, _, h => by cases h with | scr s => exact .scr (x.scr s)
  | .dic ks ds, _, h => by cases h with | dic s z l r => exact .dic (x.zk _ _ z s) (x.zm _ z) l (ShL.ext x ds _ r)
theorem ShL.ext (x : Ext Z H Z' H') : ∀ (ds : List D) (vs : List V), ShL C Z H vs ds → ShL C Z' H' vs ds
  | [], _, h => by cases h; exact .nil
  | d :: ds, _, h => by cases h with | cons h r => exact .cons (Sh.ext x d _ h) (ShL.ext x ds _ r)
end
end

/-! ### owned data -/
def isM : Option HO → Prop
  | some (.lst _) => True
  | some (.dK _) => True
  | _ => False
/-- v bears d; the lists down to depth k are v's own, they stand at A -/
def Ow (C : RC) (Z : Fp) (H : Hp) : Nat → V → D → Fp → Prop
  | 0, v, d, A => Sh C Z H v d ∧ ∀ a, ¬ A a
  | k + 1, v, d, A => (d.isMut = false ∧ Sh C Z H v d ∧ ∀ a, ¬ A a) ∨
      (∃ (a : Addr) (xs : List V) (ds : List D) (B : Nat → Fp), v = .ref a ∧ d = .lst ds ∧ H a = some (.lst xs) ∧ xs.length = ds.length ∧ (∀ i x e, xs[i]? = some x → ds[i]? = some e → Ow C Z H k x e (B i)) ∧
        (∀ i j b, B i b → B j b → i = j) ∧ (∀ i, ¬ B i a) ∧ (∀ i b, B i b → i < xs.length) ∧ (∀ b, A b ↔ b = a ∨ ∃ i, B i b)) ∨
      (∃ (a : Addr) (ks : List Key) (xs : List V) (ds : List D), v = .ref a ∧ d = .dic ks ds ∧ H a = some (.dK (ks.zip xs)) ∧ ks.length = xs.length ∧ ShL C Z H xs ds ∧ ∀ b, A b ↔ b = a)
section
variable {C : RC} {Z Z' : Fp} {H H' : Hp}
theorem Ow.sh {v : V} {d : D} (h : Sh C Z H v d) : Ow C Z H 0 v d (fun _ => False) := ⟨h, fun _ z => z⟩
theorem Ow.im {k : Nat} {v : V} {d : D} (h : Sh C Z H v d) (m : d.isMut = false) : Ow C Z H k v d (fun _ => False) := by
  cases k with
  | zero => exact ⟨h, fun _ z => z⟩
  | succ k => exact .inl ⟨m, h, fun _ z => z⟩
theorem Ow.congr {k : Nat} {v : V} {d : D} {A B : Fp} (h : Ow C Z H k v d A) (e : ∀ a, A a ↔ B a) : Ow C Z H k v d B := by
  have : A = B := funext fun a => propext (e a)
  rw [← this]; exact h
theorem Ow.mut : ∀ {k : Nat} {v : V} {d : D} {A : Fp}, Ow C Z H k v d A → ∀ a, A a → isM (H a)
  | 0, _, _, _, ⟨_, n⟩, a, h => (n a h).elim
  | k + 1, _, _, _, h, a, ha => by
    rcases h with ⟨_, _, n⟩ | ⟨b, xs, ds, B, rfl, rfl, hb, hl, hc, _, _, hi, e⟩ | ⟨b, ks, xs, ds, rfl, rfl, hb, hl, r, e⟩
    · exact (n a ha).elim
    · rcases (e a).mp ha with rfl | ⟨i, q⟩
      · rw [hb]; trivial
      · have hx := hi i a q
        have hy : i < ds.length := hl ▸ hx
        exact (hc i xs[i] ds[i] (List.getElem?_eq_getElem hx) (List.getElem?_eq_getElem hy)).mut a q
    · rw [(e a).mp ha, hb]; trivial
/-- owned data is kept where its lists and what is shared are kept -/
theorem Ow.ext (x : Ext Z H Z' H') : ∀ {k : Nat} {v : V} {d : D} {A : Fp}, Ow C Z H k v d A → (∀ a o, A a → H a = some o → H' a = some o) → Ow C Z' H' k v d A
  | 0, _, _, _, ⟨h, n⟩, _ => ⟨h.ext x, n⟩
  | k + 1, _, _, _, h, hk => by
    rcases h with ⟨m, h, n⟩ | ⟨b, xs, ds, B, rfl, rfl, hb, hl, hc, hd, ha, hi, e⟩ | ⟨b, ks, xs, ds, rfl, rfl, hb, hl, r, e⟩
    · exact .inl ⟨m, h.ext x, n⟩
    · exact .inr (.inl ⟨b, xs, ds, B, rfl, rfl, hk b _ ((e b).mpr (.inl rfl)) hb, hl, fun i y z e1 e2 => (hc i y z e1 e2).ext x fun a o q => hk a o ((e a).mpr (.inr ⟨i, q⟩)), hd, ha, hi, e⟩)
    · exact .inr (.inr ⟨b, ks, xs, ds, rfl, rfl, hk b _ ((e b).mpr rfl) hb, hl, r.ext x, e⟩)
theorem shl_of_ix : ∀ {xs : List V} {ds : List D}, xs.length = ds.length → (∀ (i : Nat) (x : V) (e : D), xs[i]? = some x → ds[i]? = some e → Sh C Z H x e) → ShL C Z H xs ds
  | [], [], _, _ => .nil
  | [], _ :: _, h, _ => by simp at h
  | _ :: _, [], h, _ => by simp at h
  | x :: xs, d :: ds, h, k => .cons (k 0 x d rfl rfl) (shl_of_ix (by simpa using h) fun i y e h1 h2 => k (i + 1) y e (by simpa using h1) (by simpa using h2))
/-- what is owned may be shared -/
theorem Ow.frz : ∀ {k : Nat} {v : V} {d : D} {A W : Fp}, Ow C Z H k v d A → (∀ a, Z a → W a) → (∀ a, A a → W a) → Sh C W H v d
  | 0, _, _, _, _, ⟨h, n⟩, hz, ha => h.ext ⟨fun _ _ _ q => q, hz, fun _ _ q => q, fun _ _ _ q => q⟩
  | k + 1, _, _, _, W, h, hz, hw => by
    have X : Ext Z H W H := ⟨fun _ _ _ q => q, hz, fun _ _ q => q, fun _ _ _ q => q⟩
    rcases h with ⟨m, h, n⟩ | ⟨b, xs, ds, B, rfl, rfl, hb, hl, hc, hd, ha, hi, e⟩ | ⟨b, ks, xs, ds, rfl, rfl, hb, hl, r, e⟩
    · exact h.ext X
    · exact .lst hb (hw b ((e b).mpr (.inl rfl))) (shl_of_ix hl fun i x y e1 e2 => (hc i x y e1 e2).frz hz fun a q => hw a ((e a).mpr (.inr ⟨i, q⟩)))
    · exact .dic hb (hw b ((e b).mpr rfl)) hl (r.ext X)
theorem Ow.im_inv {k : Nat} {v : V} {d : D} {A : Fp} (h : Ow C Z H k v d A) (m : d.isMut = false) : Sh C Z H v d := by
  cases k with
  | zero => exact h.1
  | succ k =>
    rcases h with ⟨_, h, _⟩ | ⟨_, _, _, _, _, e, _⟩ | ⟨_, _, _, _, _, e, _⟩
    · exact h
    · subst e; cases m
    · subst e; cases m
/-- a new list of shared things -/
theorem Ow.lst1 {a : Addr} {xs : List V} {ds : List D} (h : H a = some (.lst xs)) (r : ShL C Z H xs ds) : Ow C Z H 1 (.ref a) (.lst ds) (fun b => b = a) :=
  .inr (.inl ⟨a, xs, ds, fun _ _ => False, rfl, rfl, h, r.length, fun i x e h1 h2 => by
    obtain ⟨d, e1, e2⟩ := r.get h1
    rw [h2] at e1; cases e1
    exact ⟨e2, fun _ z => z⟩, fun _ _ _ z => z.elim, fun _ z => z, fun _ _ z => z.elim, fun b => ⟨.inl, fun z => z.elim id fun ⟨_, q⟩ => q.elim⟩⟩)
theorem Ow.dic1 {a : Addr} {ks : List Key} {xs : List V} {ds : List D} (h : H a = some (.dK (ks.zip xs))) (l : ks.length = xs.length) (r : ShL C Z H xs ds) : Ow C Z H 1 (.ref a) (.dic ks ds) (fun b => b = a) :=
  .inr (.inr ⟨a, ks, xs, ds, rfl, rfl, h, l, r, fun _ => Iff.rfl⟩)
theorem Ow.lst_inv {v : V} {ds : List D} {A : Fp} (h : Ow C Z H 1 v (.lst ds) A) : ∃ a xs, v = .ref a ∧ H a = some (.lst xs) ∧ ShL C Z H xs ds ∧ ∀ b, A b ↔ b = a := by
  rcases h with ⟨m, _⟩ | ⟨b, xs, ds', B, rfl, e0, hb, hl, hc, hd, ha, hi, e⟩ | ⟨b, ks, xs, ds', rfl, e0, hb, hl, r, e⟩
  · cases m
  · cases e0
    refine ⟨b, xs, rfl, hb, shl_of_ix hl fun i x y e1 e2 => (hc i x y e1 e2).1, fun c => ⟨fun q => ?_, fun q => (e c).mpr (.inl q)⟩⟩
    rcases (e c).mp q with q | ⟨i, q⟩
    · exact q
    · have hx := hi i c q
      exact ((hc i xs[i] (ds[i]'(hl ▸ hx)) (List.getElem?_eq_getElem hx) (List.getElem?_eq_getElem _)).2 c q).elim
  · cases e0
theorem Ow.dic_inv {k : Nat} {v : V} {ks : List Key} {ds : List D} {A : Fp} (h : Ow C Z H (k + 1) v (.dic ks ds) A) : ∃ a xs, v = .ref a ∧ H a = some (.dK (ks.zip xs)) ∧ ks.length = xs.length ∧ ShL C Z H xs ds ∧ ∀ b, A b ↔ b = a := by
  rcases h with ⟨m, _⟩ | ⟨b, xs, ds', B, rfl, e0, hb, hl, hc, hd, ha, hi, e⟩ | ⟨b, ks', xs, ds', rfl, e0, hb, hl, r, e⟩
  · cases m
  · cases e0
  · cases e0
    exact ⟨b, xs, rfl, hb, hl, r, e⟩

/-! ### what may change -/
/-- from (Z, H), F owned, to (Z', H'), F' owned -/
structure Evo (Z : Fp) (H : Hp) (F : Fp) (Z' : Fp) (H' : Hp) (F' : Fp) : Prop where
  keep : ∀ a o, H a = some o → ¬ F a → H' a = some o
  zm : ∀ a, Z a → Z' a
  zn : ∀ a, Z' a → Z a ∨ F a ∨ H a = none
  fn : ∀ a, F' a → F a ∨ H a = none
theorem Evo.refl {F : Fp} : Evo Z H F Z H F := ⟨fun _ _ h _ => h, fun _ h => h, fun _ h => .inl h, fun _ h => .inl h⟩
theorem Evo.back {F F' : Fp} (e : Evo Z H F Z' H' F') {a : Addr} (h : H' a = none) : F a ∨ H a = none := by
  cases q : H a with
  | none => exact .inr rfl
  | some o =>
    by_cases f : F a
    · exact .inl f
    · rw [e.keep a o q f] at h; cases h
theorem Evo.trans {Z1 Z2 F F1 F2 : Fp} {H1 H2 : Hp} (a : Evo Z H F Z1 H1 F1) (b : Evo Z1 H1 F1 Z2 H2 F2) : Evo Z H F Z2 H2 F2 where
  keep := fun x o h f => b.keep x o (a.keep x o h f) fun q => (a.fn x q).elim f fun z => by rw [h] at z; cases z
  zm := fun x z => b.zm x (a.zm x z)
  zn := fun x z => by
    rcases b.zn x z with z | z | z
    · exact a.zn x z
    · exact .inr (a.fn x z)
    · exact .inr (a.back z)
  fn := fun x z => by
    rcases b.fn x z with z | z
    · exact a.fn x z
    · exact a.back z
theorem Evo.sub {F F' F2 : Fp} (e : Evo Z H F Z' H' F') (h : ∀ a, F2 a → F' a) : Evo Z H F Z' H' F2 := ⟨e.keep, e.zm, e.zn, fun a q => e.fn a (h a q)⟩
/-- a greater footprint ahead -/
theorem Evo.more {F F' G : Fp} (e : Evo Z H F Z' H' F') (h : ∀ a, F a → G a) : Evo Z H G Z' H' F' :=
  ⟨fun a o q n => e.keep a o q fun z => n (h a z), e.zm, fun a z => (e.zn a z).imp id fun q => q.imp (h a) id, fun a z => (e.fn a z).imp (h a) id⟩
theorem Evo.mono0 {F F' : Fp} (e : Evo Z H F Z' H' F') (h : ∀ a, ¬ F a) : Evo Z H (fun _ => False) Z' H' F' := e.more fun a z => h a z
theorem Evo.ext {F F' : Fp} (e : Evo Z H F Z' H' F') (mu : ∀ a, F a → isM (H a)) (nz : ∀ a, F a → ¬ Z a) : Ext Z H Z' H' :=
  ⟨fun a o z h => e.keep a o h fun f => nz a f z, e.zm, fun a xs h => e.keep a _ h fun f => by have := mu a f; rw [h] at this; exact this, fun a o u h => e.keep a _ h fun f => by have := mu a f; rw [h] at this; exact this⟩
end

/-! ### the slots -/
abbrev Sl := Option (D × Nat)
abbrev En := List Sl
abbrev Tot (φ : Nat → Fp) : Fp := fun a => ∃ i, φ i a
structure Stt (C : RC) (io : List Nat) (σ₀ : L2.St) (Z : Fp) (σ : L2.St) (H : Hp) (env : En) (φ : Nat → Fp) : Prop where
  len : σ.length = env.length
  slot : ∀ i d k, env[i]? = some (some (d, k)) → ∃ v, σ[i]? = some (some v) ∧ Ow C Z H k v d (φ i)
  off : ∀ i, (∀ p, env[i]? ≠ some (some p)) → ∀ a, ¬ φ i a
  dj : ∀ i j a, φ i a → φ j a → i = j
  nz : ∀ i a, φ i a → ¬ Z a
  zh : ∀ a, Z a → H a ≠ none
  l0 : io ≠ [] → σ.length = σ₀.length
  io : ∀ i ∈ io, σ[i]? = σ₀[i]?
section
variable {C : RC} {io : List Nat} {σ₀ σ : L2.St} {Z Z' : Fp} {H H' : Hp} {env : En} {φ : Nat → Fp}
theorem Stt.mu (S : Stt C io σ₀ Z σ H env φ) : ∀ a, Tot φ a → isM (H a) := fun a ⟨i, h⟩ => by
  by_cases q : ∃ p, env[i]? = some (some p)
  · obtain ⟨⟨d, k⟩, q⟩ := q
    obtain ⟨v, _, o⟩ := S.slot i d k q
    exact o.mut a h
  · exact (S.off i (fun p e => q ⟨p, e⟩) a h).elim
theorem Stt.tnz (S : Stt C io σ₀ Z σ H env φ) : ∀ a, Tot φ a → ¬ Z a := fun a ⟨i, h⟩ => S.nz i a h
theorem Stt.ext (S : Stt C io σ₀ Z σ H env φ) {F' : Fp} (e : Evo Z H (Tot φ) Z' H' F') : Ext Z H Z' H' := e.ext S.mu S.tnz
theorem Stt.lt {i : Nat} (S : Stt C io σ₀ Z σ H env φ) {p : Sl} (h : env[i]? = some p) : i < σ.length := by
  rw [S.len]; exact (List.getElem?_eq_some_iff.mp h).1
/-- the slot i is given v (bearing d, at A) -/
theorem Stt.put {i : Nat} {v : V} {d : D} {k : Nat} {A : Fp} (S : Stt C io σ₀ Z σ H env φ) (hi : i < env.length) (hio : i ∉ io) (o : Ow C Z H k v d A) (dj : ∀ j a, j ≠ i → φ j a → ¬ A a) (nz : ∀ a, A a → ¬ Z a) :
    Stt C io σ₀ Z (σ.set i (some v)) H (env.set i (some (d, k))) (fun j => if j = i then A else φ j) where
  len := by simp [S.len]
  slot := fun j e l h => by
    by_cases q : j = i
    · subst q
      rw [List.getElem?_set_self hi] at h
      cases h
      exact ⟨v, List.getElem?_set_self (by rw [S.len]; exact hi), by rw [if_pos rfl]; exact o⟩
    · rw [List.getElem?_set_ne (Ne.symm q)] at h
      obtain ⟨w, h1, h2⟩ := S.slot j e l h
      exact ⟨w, by rw [List.getElem?_set_ne (Ne.symm q)]; exact h1, by rw [if_neg q]; exact h2⟩
  off := fun j h a => by
    by_cases q : j = i
    · subst q
      exact (h (d, k) (List.getElem?_set_self hi)).elim
    · rw [if_neg q]
      exact S.off j (fun p => by have := h p; rwa [List.getElem?_set_ne (Ne.symm q)] at this) a
  dj := fun j l a h1 h2 => by
    by_cases q : j = i
    · subst q
      rw [if_pos rfl] at h1
      by_cases r : l = j
      · exact r.symm
      · rw [if_neg r] at h2
        exact (dj l a r h2 h1).elim
    · rw [if_neg q] at h1
      by_cases r : l = i
      · subst r
        rw [if_pos rfl] at h2
        exact (dj j a q h1 h2).elim
      · rw [if_neg r] at h2
        exact S.dj j l a h1 h2
  nz := fun j a h => by
    by_cases q : j = i
    · rw [if_pos q] at h; exact nz a h
    · rw [if_neg q] at h; exact S.nz j a h
  zh := S.zh
  io := fun j h => by
    rw [List.getElem?_set_ne (fun e : i = j => hio (by rw [e]; exact h))]
    exact S.io j h
  l0 := fun h => by rw [List.length_set]; exact S.l0 h
/-- the slot i is forgotten -/
theorem Stt.drop (i : Nat) (S : Stt C io σ₀ Z σ H env φ) : Stt C io σ₀ Z σ H (env.set i none) (fun j a => j ≠ i ∧ φ j a) where
  len := by simp [S.len]
  slot := fun j e l h => by
    by_cases q : j = i
    · subst q
      by_cases hj : j < env.length
      · rw [List.getElem?_set_self hj] at h; cases h
      · rw [List.getElem?_eq_none (by simpa using hj)] at h; cases h
    · rw [List.getElem?_set_ne (Ne.symm q)] at h
      obtain ⟨w, h1, h2⟩ := S.slot j e l h
      exact ⟨w, h1, h2.congr fun a => ⟨fun z => ⟨q, z⟩, fun z => z.2⟩⟩
  off := fun j h a ⟨q, z⟩ => S.off j (fun p => by have := h p; rwa [List.getElem?_set_ne (Ne.symm q)] at this) a z
  dj := fun j l a h1 h2 => S.dj j l a h1.2 h2.2
  nz := fun j a h => S.nz j a h.2
  zh := S.zh
  io := S.io
  l0 := S.l0
/-- the slot's data stands, the value stays, its ownership and data are told anew (a list was changed in place, or shared) -/
theorem Stt.reput {i : Nat} {v : V} {d : D} {k : Nat} {A : Fp} (S : Stt C io σ₀ Z σ H env φ) (hi : i < env.length) (hv : σ[i]? = some (some v)) (o : Ow C Z H k v d A) (dj : ∀ j a, j ≠ i → φ j a → ¬ A a) (nz : ∀ a, A a → ¬ Z a) :
    Stt C io σ₀ Z σ H (env.set i (some (d, k))) (fun j => if j = i then A else φ j) where
  len := by simp [S.len]
  slot := fun j e l h => by
    by_cases q : j = i
    · subst q
      rw [List.getElem?_set_self hi] at h
      cases h
      exact ⟨v, hv, by rw [if_pos rfl]; exact o⟩
    · rw [List.getElem?_set_ne (Ne.symm q)] at h
      obtain ⟨w, h1, h2⟩ := S.slot j e l h
      exact ⟨w, h1, by rw [if_neg q]; exact h2⟩
  off := fun j h a => by
    by_cases q : j = i
    · subst q
      exact (h (d, k) (List.getElem?_set_self hi)).elim
    · rw [if_neg q]
      exact S.off j (fun p => by have := h p; rwa [List.getElem?_set_ne (Ne.symm q)] at this) a
  dj := fun j l a h1 h2 => by
    by_cases q : j = i
    · subst q
      rw [if_pos rfl] at h1
      by_cases r : l = j
      · exact r.symm
      · rw [if_neg r] at h2
        exact (dj l a r h2 h1).elim
    · rw [if_neg q] at h1
      by_cases r : l = i
      · subst r
        rw [if_pos rfl] at h2
        exact (dj j a q h1 h2).elim
      · rw [if_neg r] at h2
        exact S.dj j l a h1 h2
  nz := fun j a h => by
    by_cases q : j = i
    · rw [if_pos q] at h; exact nz a h
    · rw [if_neg q] at h; exact S.nz j a h
  zh := S.zh
  io := S.io
  l0 := S.l0
/-- the heap went on: the slots' lists were kept (what changed was not theirs) -/
theorem Stt.go (S : Stt C io σ₀ Z σ H env φ) (x : Ext Z H Z' H') (k : ∀ a o, Tot φ a → H a = some o → H' a = some o) (nz : ∀ a, Tot φ a → ¬ Z' a) (zh : ∀ a, Z' a → H' a ≠ none) : Stt C io σ₀ Z' σ H' env φ where
  len := S.len
  slot := fun i d l h => by
    obtain ⟨v, h1, h2⟩ := S.slot i d l h
    exact ⟨v, h1, h2.ext x fun a o q => k a o ⟨i, q⟩⟩
  off := S.off
  dj := S.dj
  nz := fun i a h => nz a ⟨i, h⟩
  zh := zh
  io := S.io
  l0 := S.l0
/-- a new object -/
theorem Ext.new {p : Addr} {o : HO} (h : H p = none) : Ext Z H Z (upd H p o) :=
  ⟨fun a u _ e => by rw [upd_ne (ne_of_none e h)]; exact e, fun _ z => z, fun a u e => by rw [upd_ne (ne_of_none e h)]; exact e, fun a u w e => by rw [upd_ne (ne_of_none e h)]; exact e⟩
theorem Stt.new {p : Addr} {o : HO} (S : Stt C io σ₀ Z σ H env φ) (h : H p = none) : Stt C io σ₀ Z σ (upd H p o) env φ :=
  S.go (Ext.new h) (fun a u _ e => by rw [upd_ne (ne_of_none e h)]; exact e) S.tnz fun a z => by
    by_cases q : a = p
    · subst q; rw [upd_same]; exact Option.some_ne_none _
    · rw [upd_ne q]; exact S.zh a z
/-- the slots' names alone are forgotten or told less of -/
theorem Stt.fresh (S : Stt C io σ₀ Z σ H env φ) (h : H a = none) : ¬ Z a ∧ ¬ Tot φ a := ⟨fun z => S.zh a z h, fun z => by have := S.mu a z; rw [h] at this; exact this⟩
end
end Pv
end

section
set_option Elab.async false
set_option linter.all false
set_option maxRecDepth 100000
set_option maxHeartbeats 4000000
/-! Pv2: results, judgements, names, constants, displays, operators. -/
namespace Pv
open PySem PySem.Spec PyProof.Rows L2

/-- an error: its class's number, its own fields -/
inductive Xn where
  | mk (c : Nat) (fs : List (Str × D))
/-- a result: a value and the slots; an error; nothing is known -/
inductive R (α : Type) where
  | ok (a : α) (e : En) | ex (x : Xn) | no
def R.bind {α β : Type} (r : R α) (f : α → En → R β) : R β :=
  match r with
  | .ok a e => f a e
  | .ex x => .ex x
  | .no => .no
@[simp] theorem R.bind_ok {α β : Type} (a : α) (e : En) (f : α → En → R β) : (R.ok a e).bind f = f a e := rfl
@[simp] theorem R.bind_ex {α β : Type} (x : Xn) (f : α → En → R β) : (R.ex x : R α).bind f = .ex x := rfl
@[simp] theorem R.bind_no {α β : Type} (f : α → En → R β) : (R.no : R α).bind f = .no := rfl
/-- a value that may be lacking -/
def R.of {α : Type} (o : Option α) (e : En) : R α :=
  match o with
  | some a => .ok a e
  | none => .no
@[simp] theorem R.of_some {α : Type} (a : α) (e : En) : R.of (some a) e = .ok a e := rfl
@[simp] theorem R.of_none {α : Type} (e : En) : R.of (none : Option α) e = .no := rfl

def ExR (C : RC) (Z : Fp) (H : Hp) : Xn → Value → Option Addr → Prop
  | .mk c fs, cls, dx => ∃ a, C.ca c = some a ∧ cls = .ref a ∧ (fs = [] ∨ ∃ dd gs, dx = some dd ∧ H dd = some (.xd gs) ∧ gs.map (·.1) = fs.map (·.1) ∧ ShL C Z H (gs.map (·.2)) (fs.map (·.2)))

/-- where a proof stands: the context, the fixed things, the wish about errors, the slots that are never stored (and their values) -/
structure Ct where
  X : Cx
  C : RC
  W : WX
  io : List Nat
  σ₀ : L2.St
structure Good (Γ : Ct) : Prop where
  hK : Γ.C.K = Γ.X.K
  nd : Γ.X.N.Nodup
  calm : Γ.X.calm = true
  tk : Takes Γ.X Γ.W
abbrev SttC (Γ : Ct) := Stt Γ.C Γ.io Γ.σ₀

def PostX (Γ : Ct) (σ : L2.St) (Z : Fp) (H : Hp) (F : Fp) (x : Xn) : Prop :=
  ∀ cls dx H' Z', Evo Z H F Z' H' (fun _ => False) → (∀ a, Z' a → H' a ≠ none) → ExR Γ.C Z' H' x cls dx → Γ.W cls dx σ H'
/-- a relation of what is reckoned and what stands: the owned addresses, shared ones, the heap -/
abbrev Rel (α β : Type) := Fp → Fp → Hp → α → β → Prop
def Post {α β : Type} (Γ : Ct) (σ : L2.St) (Z : Fp) (H : Hp) (F : Fp) (rel : Rel α β) (r : R α) (Q : β → Hp → Prop) : Prop :=
  match r with
  | .ok a env' => ∀ b H' Z' φ' A, SttC Γ Z' σ H' env' φ' → rel A Z' H' a b → (∀ x, A x → ¬ Tot φ' x ∧ ¬ Z' x) → Evo Z H F Z' H' (fun x => Tot φ' x ∨ A x) → Q b H'
  | .ex x => PostX Γ σ Z H F x
  | .no => False
def Ev {α β : Type} (Γ : Ct) (rel : L2.St → Rel α β) (f : En → R α) (t : L2.St → Hp → (β → Hp → Prop) → Prop) : Prop :=
  ∀ σ H Z env φ, SttC Γ Z σ H env φ → ∀ Q, Post Γ σ Z H (Tot φ) (rel σ) (f env) Q → t σ H Q

section
variable {Γ : Ct} {α β γ δ : Type} {σ : L2.St} {Z Z1 : Fp} {H H1 : Hp} {F F1 : Fp}
theorem PostX.mono {x : Xn} (h : PostX Γ σ Z H F x) (e : Evo Z H F Z1 H1 F1) : PostX Γ σ Z1 H1 F1 x := fun cls dx H' Z' e2 zh q => h cls dx H' Z' (e.trans e2) zh q
theorem Post.mono {rel : Rel α β} {r : R α} {Q : β → Hp → Prop} (h : Post Γ σ Z H F rel r Q) (e : Evo Z H F Z1 H1 F1) : Post Γ σ Z1 H1 F1 rel r Q := by
  cases r with
  | ok a env => exact fun b H' Z' φ' A S q d e2 => h b H' Z' φ' A S q d (e.trans e2)
  | ex x => exact PostX.mono h e
  | no => exact h
/-- what follows a result -/
theorem Ev.bind {rel1 : L2.St → Rel α β} {f : En → R α} {t : L2.St → Hp → (β → Hp → Prop) → Prop} (h : Ev Γ rel1 f t) {env : En} {φ : Nat → Fp} (S : SttC Γ Z σ H env φ) {rel : Rel γ δ} {g : α → En → R γ} {Q : δ → Hp → Prop} {Q1 : β → Hp → Prop}
    (P : Post Γ σ Z H (Tot φ) rel ((f env).bind g) Q)
    (k : ∀ a env1 b H1 Z1 φ1 A, f env = .ok a env1 → SttC Γ Z1 σ H1 env1 φ1 → rel1 σ A Z1 H1 a b → (∀ x, A x → ¬ Tot φ1 x ∧ ¬ Z1 x) → Evo Z H (Tot φ) Z1 H1 (fun x => Tot φ1 x ∨ A x) →
      Post Γ σ Z1 H1 (fun x => Tot φ1 x ∨ A x) rel (g a env1) Q → Q1 b H1) : t σ H Q1 := by
  refine h σ H Z env φ S Q1 ?_
  cases e : f env with
  | ok a env1 =>
    rw [e] at P
    exact fun b H1 Z1 φ1 A S1 q d ev => k a env1 b H1 Z1 φ1 A e S1 q d ev (Post.mono P ev)
  | ex x => rw [e] at P; exact P
  | no => rw [e] at P; exact P
/-- the end: a value of what is known -/
theorem Post.here {rel : Rel α β} {a : α} {env : En} {φ : Nat → Fp} {Q : β → Hp → Prop} (h : Post Γ σ Z H (Tot φ) rel (.ok a env) Q) (S : SttC Γ Z σ H env φ) {b : β} (q : rel (fun _ => False) Z H a b) : Q b H :=
  h b H Z φ (fun _ => False) S q (fun _ z => z.elim) (Evo.refl.sub fun x z => z.elim id fun q => q.elim)
theorem Evo.new {p : Addr} {o : HO} (h : H p = none) {F F' : Fp} (hs : ∀ a, F' a → F a ∨ a = p) : Evo Z H F Z (upd H p o) F' :=
  ⟨fun a u e _ => by rw [upd_ne (ne_of_none e h)]; exact e, fun _ z => z, fun _ z => .inl z, fun a z => (hs a z).imp id fun q => by rw [q]; exact h⟩
/-- a new object that holds shared things, not owned (a tuple) -/
theorem Post.newT {rel : Rel α β} {a : α} {env : En} {φ : Nat → Fp} {Q : β → Hp → Prop} {p : Addr} {o : HO} (h : Post Γ σ Z H (Tot φ) rel (.ok a env) Q) (S : SttC Γ Z σ H env φ) (hp : H p = none) {b : β} (q : rel (fun _ => False) Z (upd H p o) a b) : Q b (upd H p o) :=
  h b _ Z φ (fun _ => False) (S.new hp) q (fun _ z => z.elim) (Evo.new hp fun x z => .inl (z.elim id fun q => q.elim))
/-- a new list, owned -/
theorem Post.newL {rel : Rel α β} {a : α} {env : En} {φ : Nat → Fp} {Q : β → Hp → Prop} {p : Addr} {o : HO} (h : Post Γ σ Z H (Tot φ) rel (.ok a env) Q) (S : SttC Γ Z σ H env φ) (hp : H p = none) {b : β} (q : rel (fun x => x = p) Z (upd H p o) a b) : Q b (upd H p o) :=
  h b _ Z φ (fun x => x = p) (S.new hp) q (fun x z => by rw [z]; exact ⟨(S.fresh hp).2, (S.fresh hp).1⟩) (Evo.new hp fun x z => z)
end

/-! ### the kinds -/
abbrev VR (C : RC) : L2.St → Rel D V := fun _ _ Z H d v => Sh C Z H v d
abbrev ER (C : RC) : L2.St → Rel (D × Nat) V := fun _ A Z H p v => Ow C Z H p.2 v p.1 A
abbrev TR : L2.St → Rel Bool Bool := fun _ _ _ _ b c => b = c
abbrev AR (C : RC) : L2.St → Rel (List D) (List V) := fun _ _ Z H ds vs => ShL C Z H vs ds
/-- an operand: a shared value, or what slot i holds -/
inductive Opd where
  | val (d : D) | pla (i : Nat)
abbrev OR (C : RC) : L2.St → Rel Opd V := fun σ _ Z H o v =>
  match o with
  | .val d => Sh C Z H v d
  | .pla i => σ[i]? = some (some v)
def Opd.get (o : Opd) (env : En) : Option D :=
  match o with
  | .val d => some d
  | .pla i => match env[i]? with
    | some (some (d, 0)) => some d
    | some (some (d, 1)) => some d
    | _ => none
/-- an expression: its shared value; its value, perhaps owned; an operand -/
def EvV (Γ : Ct) (e : Expr) (f : En → R D) : Prop := ∃ t, PE Γ.X e t ∧ Ev Γ (VR Γ.C) f t
def EvE (Γ : Ct) (e : Expr) (f : En → R (D × Nat)) : Prop := ∃ t, PE Γ.X e t ∧ Ev Γ (ER Γ.C) f t
def EvO (Γ : Ct) (e : Expr) (f : En → R Opd) : Prop := ∃ t, PE Γ.X e t ∧ Ev Γ (OR Γ.C) f t
def EvT (Γ : Ct) (e : Expr) (f : En → R Bool) : Prop := ∃ t, PT Γ.X e t ∧ Ev Γ TR f t
def EvA (Γ : Ct) (es : List Expr) (f : En → R (List D)) : Prop := ∃ t, PA Γ.X es t ∧ Ev Γ (AR Γ.C) f t

/-- what an operation may read of a value now -/
inductive Rd1 (C : RC) (Z : Fp) (H : Hp) : V → D → Prop
  | sh {v : V} {d : D} : Sh C Z H v d → Rd1 C Z H v d
  | lst {a : Addr} {xs : List V} {ds : List D} : H a = some (.lst xs) → ShL C Z H xs ds → Rd1 C Z H (.ref a) (.lst ds)
  | dic {a : Addr} {ks : List Key} {xs : List V} {ds : List D} : H a = some (.dK (ks.zip xs)) → ks.length = xs.length → ShL C Z H xs ds → Rd1 C Z H (.ref a) (.dic ks ds)
section
variable {C : RC} {Z : Fp} {H : Hp}
theorem Rd1.of_ow {k : Nat} {v : V} {d : D} {A : Fp} (h : Ow C Z H k v d A) (hk : k ≤ 1) : Rd1 C Z H v d := by
  match k, h, hk with
  | 0, h, _ => exact .sh h.1
  | 1, h, _ =>
    have h0 := h
    rcases h with ⟨_, h, _⟩ | ⟨b, xs, ds, B, rfl, rfl, hb, hl, hc, hd, ha, hi, e⟩ | ⟨b, ks, xs, ds, rfl, rfl, hb, hl, r, e⟩
    · exact .sh h
    · exact .lst hb (shl_of_ix hl fun i x y e1 e2 => (hc i x y e1 e2).1)
    · exact .dic hb hl r
theorem Rd1.tupI {v : V} {ds : List D} (h : Rd1 C Z H v (.tup ds)) : ∃ a xs, v = .ref a ∧ SqT C.K H a xs ∧ ShL C Z H xs ds := by
  cases h with
  | sh h => cases h with | tup s r => exact ⟨_, _, rfl, s, r⟩
theorem Rd1.lstI {v : V} {ds : List D} (h : Rd1 C Z H v (.lst ds)) : ∃ a xs, v = .ref a ∧ H a = some (.lst xs) ∧ ShL C Z H xs ds := by
  cases h with
  | sh h => cases h with | lst s z r => exact ⟨_, _, rfl, s, r⟩
  | lst h r => exact ⟨_, _, rfl, h, r⟩
theorem Rd1.scrI {v : V} {ns : List Int} (h : Rd1 C Z H v (.scr ns)) : ∃ a, v = .ref a ∧ SqL C.K H a (ns.map V.int) := by
  cases h with
  | sh h => cases h with | scr s => exact ⟨_, rfl, s.sqL⟩
theorem Rd1.dicI {v : V} {ks : List Key} {ds : List D} (h : Rd1 C Z H v (.dic ks ds)) : ∃ a xs, v = .ref a ∧ H a = some (.dK (ks.zip xs)) ∧ ks.length = xs.length ∧ ShL C Z H xs ds := by
  cases h with
  | sh h => cases h with | dic s z l r => exact ⟨_, _, rfl, s, l, r⟩
  | dic h l r => exact ⟨_, _, rfl, h, l, r⟩
theorem Rd1.intI {v : V} {i : Int} (h : Rd1 C Z H v (.int i)) : v = .int i := by
  cases h with
  | sh h => cases h; rfl
theorem Rd1.blI {v : V} {i : Bool} (h : Rd1 C Z H v (.bl i)) : v = .bl i := by
  cases h with
  | sh h => cases h; rfl
theorem Rd1.strI {v : V} {i : Str} (h : Rd1 C Z H v (.str i)) : v = .str i := by
  cases h with
  | sh h => cases h; rfl
theorem Rd1.nonI {v : V} (h : Rd1 C Z H v .non) : v = .non := by
  cases h with
  | sh h => cases h; rfl
end
/-- an operand's data at the end of the operands' evaluation -/
theorem Opd.rd {Γ : Ct} {σ : L2.St} {Z : Fp} {H : Hp} {env : En} {φ : Nat → Fp} (S : SttC Γ Z σ H env φ) {o : Opd} {v : V} {d : D} {A : Fp} (h : OR Γ.C σ A Z H o v) (g : o.get env = some d) : Rd1 Γ.C Z H v d := by
  cases o with
  | val e =>
    have : e = d := Option.some.inj g
    subst this
    exact .sh h
  | pla i =>
    have h : σ[i]? = some (some v) := h
    unfold Opd.get at g
    simp only at g
    split at g
    · rename_i e
      cases g
      obtain ⟨w, h1, h2⟩ := S.slot i d 0 e
      rw [h] at h1; cases h1
      exact .of_ow h2 (Nat.zero_le _)
    · rename_i e
      cases g
      obtain ⟨w, h1, h2⟩ := S.slot i d 1 e
      rw [h] at h1; cases h1
      exact .of_ow h2 (Nat.le_refl _)
    · cases g
/-- an operand stays through what follows -/
theorem OR.go {Γ : Ct} {σ : L2.St} {Z Z1 : Fp} {H H1 : Hp} (x : Ext Z H Z1 H1) {o : Opd} {v : V} {A B : Fp} (h : OR Γ.C σ A Z H o v) : OR Γ.C σ B Z1 H1 o v := by
  cases o with
  | val e => exact Sh.ext x e v h
  | pla i => exact h

section
variable {Γ : Ct} {e a b : Expr} {pos : Pos}
/-! ### from kind to kind -/
def vOfE (f : En → R (D × Nat)) : En → R D := fun env => (f env).bind fun p env1 => .ok p.1 env1
def eOfV (f : En → R D) : En → R (D × Nat) := fun env => (f env).bind fun d env1 => .ok (d, 0) env1
def oOfV (f : En → R D) : En → R Opd := fun env => (f env).bind fun d env1 => .ok (.val d) env1
theorem EvE.toV {f : En → R (D × Nat)} (h : EvE Γ e f) : EvV Γ e (vOfE f) := by
  obtain ⟨t, h1, h2⟩ := h
  refine ⟨t, h1, fun σ H Z env φ S Q P => ?_⟩
  refine h2.bind S P fun p env1 v H1 Z1 φ1 A e1 S1 o dj ev P1 => ?_
  obtain ⟨d, k⟩ := p
  -- what was owned is shared now
  have x : Ext Z1 H1 (fun y => Z1 y ∨ A y) H1 := ⟨fun _ _ _ q => q, fun _ z => .inl z, fun _ _ q => q, fun _ _ _ q => q⟩
  have S2 : SttC Γ (fun y => Z1 y ∨ A y) σ H1 env1 φ1 := S1.go x (fun _ _ _ q => q) (fun y q z => z.elim (S1.tnz y q) fun z => (dj y z).1 q) fun y z => z.elim (S1.zh y) fun z e => by
    have := o.mut y z
    rw [e] at this; exact this
  refine P1 v H1 _ φ1 (fun _ => False) S2 (o.frz (fun _ z => .inl z) fun _ z => .inr z) (fun _ z => z.elim) ⟨fun _ _ q _ => q, fun _ z => .inl z, fun y z => z.imp id fun z => .inl (.inr z), fun y z => .inl (z.elim .inl fun z => z.elim)⟩
theorem EvV.toE {f : En → R D} (h : EvV Γ e f) : EvE Γ e (eOfV f) := by
  obtain ⟨t, h1, h2⟩ := h
  refine ⟨t, h1, fun σ H Z env φ S Q P => ?_⟩
  refine h2.bind S P fun d env1 v H1 Z1 φ1 A e1 S1 o dj ev P1 => ?_
  exact Post.here (P1.mono (Evo.refl.sub fun _ z => .inl z)) S1 ⟨o, fun _ z => z⟩
theorem EvV.toO {f : En → R D} (h : EvV Γ e f) : EvO Γ e (oOfV f) := by
  obtain ⟨t, h1, h2⟩ := h
  refine ⟨t, h1, fun σ H Z env φ S Q P => ?_⟩
  refine h2.bind S P fun d env1 v H1 Z1 φ1 A e1 S1 o dj ev P1 => ?_
  exact Post.here (P1.mono (Evo.refl.sub fun _ z => .inl z)) S1 o

/-! ### constants and names -/
def kI (i : Int) : En → R D := fun env => .ok (.int i) env
def kB (b : Bool) : En → R D := fun env => .ok (.bl b) env
def kS (x : Str) : En → R D := fun env => .ok (.str x) env
def kN : En → R D := fun env => .ok .non env
theorem ev_c {v : V} {d : D} (h : ∀ Z H, Sh Γ.C Z H v d) (p : PE Γ.X e (tC v)) : EvV Γ e (fun env => .ok d env) :=
  ⟨_, p, fun σ H Z env φ S Q P => Post.here P S (h Z H)⟩
theorem ev_int {i j} : EvV Γ (.Constant (.int i) j pos) (kI i) := ev_c (fun _ _ => .int i) pe_int
theorem ev_bl {i j} : EvV Γ (.Constant (.bool i) j pos) (kB i) := ev_c (fun _ _ => .bl i) pe_bl
theorem ev_str {i j} : EvV Γ (.Constant (.str i) j pos) (kS i) := ev_c (fun _ _ => .str i) pe_str
theorem ev_non {j} : EvV Γ (.Constant .none j pos) kN := ev_c (fun _ _ => .non) pe_non
/-- a def as a value -/
theorem ev_fn {n : Nat} {f : Addr} {x : Str} (hg : Gl Γ.X x) (hm : Γ.X.mg x = some (.ref f)) (hn : Γ.C.fa n = some f) (hd : (x == ("__debug__" : Str)) = false := by decide) : EvV Γ (.Name x pos) (fun env => .ok (.fn n) env) :=
  ev_c (v := .ref f) (fun _ _ => .fn hn) (pe_glob hg hm rfl hd)
/-- a module's int -/
theorem ev_gint {i : Int} {t : Tok} {x : Str} (hg : Gl Γ.X x) (hm : Γ.X.mg x = some (.int i t)) (hd : (x == ("__debug__" : Str)) = false := by decide) : EvV Γ (.Name x pos) (kI i) :=
  ev_c (fun _ _ => .int i) (pe_glob hg hm ⟨t, rfl⟩ hd)
theorem ev_gstr {i : Str} {t : Tok} {x : Str} (hg : Gl Γ.X x) (hm : Γ.X.mg x = some (.str i t)) (hd : (x == ("__debug__" : Str)) = false := by decide) : EvV Γ (.Name x pos) (kS i) :=
  ev_c (fun _ _ => .str i) (pe_glob hg hm ⟨t, rfl⟩ hd)

/-- a name read to be kept elsewhere: its lists are shared from now on -/
def nmV (i : Nat) : En → R D := fun env =>
  match env[i]? with
  | some (some (d, _)) => .ok d (env.set i (some (d, 0)))
  | _ => .no
/-- a name read as an operand -/
def nmO (i : Nat) : En → R Opd := fun env =>
  match env[i]? with
  | some (some (d, 0)) => .ok (.val d) env
  | some (some (_, 1)) => .ok (.pla i) env
  | some (some (d, _)) => .ok (.val d) (env.set i (some (d, 0)))
  | _ => .no
theorem Stt.share {C : RC} {io : List Nat} {σ₀ σ : L2.St} {Z : Fp} {H : Hp} {env : En} {φ : Nat → Fp} (S : Stt C io σ₀ Z σ H env φ) {i : Nat} {d : D} {k : Nat} (h : env[i]? = some (some (d, k))) :
    ∃ v, σ[i]? = some (some v) ∧ Stt C io σ₀ (fun y => Z y ∨ φ i y) σ H (env.set i (some (d, 0))) (fun j => if j = i then (fun _ => False) else φ j) ∧ Sh C (fun y => Z y ∨ φ i y) H v d ∧
      Evo Z H (Tot φ) (fun y => Z y ∨ φ i y) H (Tot fun j => if j = i then (fun _ => False) else φ j) := by
  obtain ⟨v, hv, o⟩ := S.slot i d k h
  have sh : Sh C (fun y => Z y ∨ φ i y) H v d := o.frz (fun _ z => .inl z) fun _ z => .inr z
  have x : Ext Z H (fun y => Z y ∨ φ i y) H := ⟨fun _ _ _ q => q, fun _ z => .inl z, fun _ _ q => q, fun _ _ _ q => q⟩
  have zh : ∀ a, Z a ∨ φ i a → H a ≠ none := fun a z => z.elim (S.zh a) fun z e => by
    have := S.mu a ⟨i, z⟩
    rw [e] at this; exact this
  have S1 := (S.drop i).go x (fun _ _ _ q => q) (fun a ⟨j, q, z⟩ zz => zz.elim (S.nz j a z) fun y => q (S.dj j i a z y)) zh
  have hi : i < env.length := (List.getElem?_eq_some_iff.mp h).1
  have S2 := S1.reput (i := i) (by simpa using hi) hv (Ow.sh sh) (fun _ _ _ _ z => z) (fun _ z => z.elim)
  refine ⟨v, hv, ?_, sh, ⟨fun _ _ q _ => q, fun _ z => .inl z, fun a z => z.elim .inl fun z => .inr (.inl ⟨i, z⟩), fun a ⟨j, z⟩ => ?_⟩⟩
  · have e1 : (env.set i none).set i (some (d, 0)) = env.set i (some (d, 0)) := by rw [List.set_set]
    rw [e1] at S2
    have e2 : (fun j => if j = i then (fun _ : Addr => False) else fun a => j ≠ i ∧ φ j a) = fun j => if j = i then (fun _ => False) else φ j := by
      funext j
      by_cases q : j = i
      · rw [if_pos q, if_pos q]
      · rw [if_neg q, if_neg q]
        funext a
        exact propext ⟨fun z => z.2, fun z => ⟨q, z⟩⟩
    rw [e2] at S2
    exact S2
  · by_cases q : j = i
    · simp only [if_pos q] at z
    · simp only [if_neg q] at z; exact .inl ⟨j, z⟩
theorem ev_name {i : Nat} {x : Str} (hN : Γ.X.N[i]? = some x) (hv : Vis Γ.X.env.scope x) (hd : (x == ("__debug__" : Str)) = false := by decide) (hcd : (x == ("__classdict__" : Str)) = false := by decide) : EvV Γ (.Name x pos) (nmV i) := by
  refine ⟨_, pe_var hN hv hd hcd, fun σ H Z env φ S Q P => ?_⟩
  unfold nmV at P
  split at P
  · rename_i d k h
    obtain ⟨v, h1, S1, sh, ev⟩ := S.share h
    exact ⟨v, h1, Post.here (P.mono ev) S1 sh⟩
  · exact P.elim
theorem ev_nameO {i : Nat} {x : Str} (hN : Γ.X.N[i]? = some x) (hv : Vis Γ.X.env.scope x) (hd : (x == ("__debug__" : Str)) = false := by decide) (hcd : (x == ("__classdict__" : Str)) = false := by decide) : EvO Γ (.Name x pos) (nmO i) := by
  refine ⟨_, pe_var hN hv hd hcd, fun σ H Z env φ S Q P => ?_⟩
  unfold nmO at P
  split at P
  · rename_i d h
    obtain ⟨v, h1, o⟩ := S.slot i d 0 h
    exact ⟨v, h1, Post.here P S o.1⟩
  · rename_i d h
    obtain ⟨v, h1, o⟩ := S.slot i d 1 h
    exact ⟨v, h1, Post.here P S h1⟩
  · rename_i d k _ _ h
    obtain ⟨v, h1, S1, sh, ev⟩ := S.share h
    exact ⟨v, h1, Post.here (P.mono ev) S1 sh⟩
  · exact P.elim

/-! ### operators by values -/
/-- what an operation makes of data: with the depth that is its own -/
def own1 : D → Nat
  | .lst _ => 1
  | .dic _ _ => 1
  | _ => 0
def op2 (g : D → D → Option (D × Nat)) (fa fb : En → R Opd) : En → R (D × Nat) := fun env => (fa env).bind fun oa env1 => (fb env1).bind fun ob env2 =>
  match oa.get env2, ob.get env2 with
  | some x, some y => R.of (g x y) env2
  | _, _ => .no
/-- a rule's reading r does what g tells -/
def Does2 (Γ : Ct) (g : D → D → Option (D × Nat)) (r : R2) : Prop :=
  ∀ σ H Z env φ, SttC Γ Z σ H env φ → ∀ x y d e p, Rd1 Γ.C Z H x d → Rd1 Γ.C Z H y e → g d e = some p → ∀ Q : VK, Post Γ σ Z H (Tot φ) (ER Γ.C σ) (.ok p env) Q → r x y H Q
theorem ev_op2 {ta : R2} {mk : TE → TE → TE} {g : D → D → Option (D × Nat)} {r : R2} {fa fb : En → R Opd} (ha : EvO Γ a fa) (hb : EvO Γ b fb) (hp : ∀ ta tb, PE Γ.X a ta → PE Γ.X b tb → PE Γ.X e (tOp r ta tb)) (hr : Does2 Γ g r) : EvE Γ e (op2 g fa fb) := by
  obtain ⟨ta, a1, a2⟩ := ha
  obtain ⟨tb, b1, b2⟩ := hb
  refine ⟨_, hp ta tb a1 b1, fun σ H Z env φ S Q P => ?_⟩
  refine a2.bind S P fun oa env1 x H1 Z1 φ1 A e1 S1 q1 dj1 ev1 P1 => ?_
  refine b2.bind S1 (P1.mono (Evo.refl.sub fun _ z => .inl z)) fun ob env2 y H2 Z2 φ2 B e2 S2 q2 dj2 ev2 P2 => ?_
  have P3 := P2.mono (Evo.refl.sub (F2 := Tot φ2) fun _ z => .inl z)
  have q1' : OR Γ.C σ B Z2 H2 oa x := OR.go (S1.ext ev2) q1
  cases ga : oa.get env2 with
  | none => rw [ga] at P3; exact P3.elim
  | some d =>
    cases gb : ob.get env2 with
    | none => rw [ga, gb] at P3; exact P3.elim
    | some e =>
      rw [ga, gb] at P3
      cases gg : g d e with
      | none => simp only [gg] at P3; exact P3.elim
      | some p =>
        simp only [gg] at P3
        exact hr σ H2 Z2 env2 φ2 S2 x y d e p (Opd.rd S2 q1' ga) (Opd.rd S2 q2 gb) gg Q P3
end
end Pv
end

section
set_option Elab.async false
set_option linter.all false
set_option maxRecDepth 100000
set_option maxHeartbeats 4000000
/-! Pv3: operators, comparisons, tests. -/
namespace Pv
open PySem PySem.Spec PyProof.Rows L2

def lim : Nat := 16000000
theorem lim_le {n : Nat} (h : n ≤ lim) : n ≤ sizeLine := Nat.le_trans h (by decide)

/-! ### arithmetic -/
def sml (i : Int) : Bool := Nat.ble i.natAbs 18446744073709551615
theorem sml_ok {i : Int} (h : sml i = true) : -(2 ^ 64) < i ∧ i < 2 ^ 64 := by
  have h1 := Nat.le_of_ble_eq_true h
  omega
def mulOk (i j : Int) : Bool := sml j || (sml i || decide (i.natAbs.log2 + j.natAbs.log2 < 1000000))
theorem mulOk.ok {i j : Int} (h : mulOk i j = true) : IntMulOk i j := by
  unfold mulOk at h
  simp only [Bool.or_eq_true, decide_eq_true_eq] at h
  rcases h with h | h | h
  · exact CMul.ok (.inr (sml_ok h))
  · exact CMul.ok (.inl (sml_ok h))
  · exact CMulW.ok h
def addD : D → D → Option (D × Nat)
  | .int i, .int j => some (.int (i + j), 0)
  | .tup xs, .tup ys => if xs.length + ys.length ≤ lim then some (.tup (xs ++ ys), 0) else none
  | .lst xs, .lst ys => if xs.length + ys.length ≤ lim then some (.lst (xs ++ ys), 1) else none
  | .str x, .str y => if x.length + y.length ≤ lim then some (.str (x ++ y), 0) else none
  | _, _ => none
def subD : D → D → Option (D × Nat)
  | .int i, .int j => some (.int (i - j), 0)
  | _, _ => none
def mulD : D → D → Option (D × Nat)
  | .int i, .int j => if mulOk i j then some (.int (i * j), 0) else none
  | .lst xs, .int k => if xs.length * k.toNat ≤ lim ∧ -(2 ^ 63) ≤ k ∧ k < 2 ^ 63 then some (.lst (List.replicate k.toNat xs).flatten, 1) else none
  | .tup xs, .int k => if xs ≠ [] ∧ 2 ≤ k ∧ k ≤ 1000 ∧ xs.length ≤ 1000 then some (.tup (List.replicate k.toNat xs).flatten, 0) else none
  | _, _ => none
def fdivD : D → D → Option (D × Nat)
  | .int i, .int j => if j ≠ 0 ∧ j.natAbs.log2 < 9000 then some (.int (i.fdiv j), 0) else none
  | _, _ => none
def modD : D → D → Option (D × Nat)
  | .int i, .int j => if j ≠ 0 then some (.int (i.fmod j), 0) else none
  | _, _ => none
def rMulZ : R2 := fun x y H Q => ∃ i j, x = .int i ∧ y = .int j ∧ IntMulOk i j ∧ Q (.int (i * j)) H
def rDivZ : R2 := fun x y H Q => ∃ i j : Int, x = .int i ∧ y = .int j ∧ (j ≠ 0 ∧ j.natAbs.log2 < 9000) ∧ Q (.int (i.fdiv j)) H
section
variable {X : Cx}
theorem op_mulZ : OpR X (binaryOp .Mult) rMulZ := by
  intro pins s σ H x y v u Q I rx ry h
  obtain ⟨i, j, rfl, rfl, hc, q⟩ := h
  obtain ⟨t, rfl⟩ := rx
  obtain ⟨t', rfl⟩ := ry
  exact mul_int ⟨.int _, H, I.tok _, ⟨_, rfl⟩, q⟩ hc
theorem op_divZ : OpR X (binaryOp .FloorDiv) rDivZ := by
  intro pins s σ H x y v u Q I rx ry h
  obtain ⟨i, j, rfl, rfl, hc, q⟩ := h
  obtain ⟨t, rfl⟩ := rx
  obtain ⟨t', rfl⟩ := ry
  exact floordiv_int hc.1 ⟨.int _, H, I.tok _, ⟨_, rfl⟩, q⟩ (.inl (PyProof.noPylong_of_log2 hc.2))
theorem iop_divZ : OpR X (inplaceOp .FloorDiv) rDivZ := by
  intro pins s σ H x y v u Q I rx ry h
  obtain ⟨i, j, rfl, rfl, hc, q⟩ := h
  obtain ⟨t, rfl⟩ := rx
  obtain ⟨t', rfl⟩ := ry
  exact ifloordiv_int hc.1 ⟨.int _, H, I.tok _, ⟨_, rfl⟩, q⟩ (.inl (PyProof.noPylong_of_log2 hc.2))
end
abbrev rAddA (K : PySem.W.Frag) : R2 := fun x y H Q => rI0 (fun i j => .int (i + j)) x y H Q ∨ rCatA K x y H Q ∨ rCat x y H Q ∨ (∃ i j, x = .str i ∧ y = .str j ∧ i.length + j.length ≤ sizeLine ∧ Q (.str (i ++ j)) H)
abbrev rMulA (K : PySem.W.Frag) : R2 := fun x y H Q => rMulZ x y H Q ∨ rRep x y H Q ∨ rRepT K x y H Q
section
variable {Γ : Ct} (G : Good Γ)
include G
theorem does_add : Does2 Γ addD (rAddA Γ.X.K) := by
  intro σ H Z env φ S x y d e p hx hy hg Q P
  unfold addD at hg
  split at hg
  · cases hg
    rw [hx.intI, hy.intI]
    exact .inl ⟨_, _, rfl, rfl, Post.here P S (Ow.sh (.int _))⟩
  · rename_i xs ys
    split at hg
    · rename_i hz
      cases hg
      obtain ⟨a, us, rfl, ha, ra⟩ := hx.tupI
      obtain ⟨b, vs, rfl, hb, rb⟩ := hy.tupI
      have la := ra.length
      have lb := rb.length
      rw [G.hK] at ha hb
      refine .inr (.inl ⟨a, b, us, vs, rfl, rfl, ha, hb, by rw [la, lb]; exact lim_le hz, fun e => ?_, fun _ e => ?_, fun _ _ p hp => ?_⟩)
      · subst e
        cases ra
        exact Post.here P S (Ow.sh (.tup (by rw [G.hK]; exact hb) rb))
      · subst e
        cases rb
        rw [List.append_nil] at P
        exact Post.here P S (Ow.sh (.tup (by rw [G.hK]; exact ha) ra))
      · have x : Ext Z H Z (upd H p (.tup (us ++ vs))) := Ext.new hp
        exact Post.newT P S hp (Ow.sh (.tup (SqT.of upd_same) ((ra.append rb).ext x)))
    · cases hg
  · rename_i xs ys
    split at hg
    · rename_i hz
      cases hg
      obtain ⟨a, us, rfl, ha, ra⟩ := hx.lstI
      obtain ⟨b, vs, rfl, hb, rb⟩ := hy.lstI
      have la := ra.length
      have lb := rb.length
      refine .inr (.inr (.inl ⟨a, b, us, vs, rfl, rfl, ha, hb, by rw [la, lb]; exact lim_le hz, fun p hp => ?_⟩))
      have x : Ext Z H Z (upd H p (.lst (us ++ vs))) := Ext.new hp
      exact Post.newL P S hp (Ow.lst1 upd_same ((ra.append rb).ext x))
    · cases hg
  · split at hg
    · rename_i hz
      cases hg
      rw [hx.strI, hy.strI]
      exact .inr (.inr (.inr ⟨_, _, rfl, rfl, lim_le hz, Post.here P S (Ow.sh (.str _))⟩))
    · cases hg
  · cases hg
omit G in
theorem does_sub : Does2 Γ subD (rI0 fun i j => .int (i - j)) := by
  intro σ H Z env φ S x y d e p hx hy hg Q P
  unfold subD at hg
  split at hg
  · cases hg
    rw [hx.intI, hy.intI]
    exact ⟨_, _, rfl, rfl, Post.here P S (Ow.sh (.int _))⟩
  · cases hg
theorem does_mul : Does2 Γ mulD (rMulA Γ.X.K) := by
  intro σ H Z env φ S x y d e p hx hy hg Q P
  unfold mulD at hg
  split at hg
  · split at hg
    · rename_i hz
      cases hg
      rw [hx.intI, hy.intI]
      exact .inl ⟨_, _, rfl, rfl, mulOk.ok hz, Post.here P S (Ow.sh (.int _))⟩
    · cases hg
  · rename_i xs k
    split at hg
    · rename_i hz
      cases hg
      obtain ⟨a, us, rfl, ha, ra⟩ := hx.lstI
      rw [hy.intI]
      have la := ra.length
      refine .inr (.inl ⟨a, k, us, rfl, rfl, ha, hz.2.1, hz.2.2, by rw [la]; exact lim_le hz.1, fun p hp => ?_⟩)
      have x : Ext Z H Z (upd H p (.lst (List.replicate k.toNat us).flatten)) := Ext.new hp
      exact Post.newL P S hp (Ow.lst1 upd_same (ra.flat.ext x))
    · cases hg
  · rename_i xs k
    split at hg
    · rename_i hz
      cases hg
      obtain ⟨a, us, rfl, ha, ra⟩ := hx.tupI
      rw [hy.intI]
      have la := ra.length
      rw [G.hK] at ha
      refine .inr (.inr ⟨a, k, us, rfl, rfl, ha, fun e => hz.1 (by subst e; cases ra; rfl), hz.2.1, hz.2.2.1, by rw [la]; exact hz.2.2.2, fun p hp => ?_⟩)
      have x : Ext Z H Z (upd H p (.tup (List.replicate k.toNat us).flatten)) := Ext.new hp
      exact Post.newT P S hp (Ow.sh (.tup (SqT.of upd_same) (ra.flat.ext x)))
    · cases hg
  · cases hg
omit G in
theorem does_fdiv : Does2 Γ fdivD rDivZ := by
  intro σ H Z env φ S x y d e p hx hy hg Q P
  unfold fdivD at hg
  split at hg
  · split at hg
    · rename_i hz
      cases hg
      rw [hx.intI, hy.intI]
      exact ⟨_, _, rfl, rfl, hz, Post.here P S (Ow.sh (.int _))⟩
    · cases hg
  · cases hg
omit G in
theorem does_mod : Does2 Γ modD (rI (fun _ j => j ≠ 0) fun i j => .int (i.fmod j)) := by
  intro σ H Z env φ S x y d e p hx hy hg Q P
  unfold modD at hg
  split at hg
  · split at hg
    · rename_i hz
      cases hg
      rw [hx.intI, hy.intI]
      exact ⟨_, _, rfl, rfl, hz, Post.here P S (Ow.sh (.int _))⟩
    · cases hg
  · cases hg
end
section
variable {Γ : Ct} {a b : Expr} {fa fb : En → R Opd} {pos : Pos}
theorem ev_add (G : Good Γ) (ha : EvO Γ a fa) (hb : EvO Γ b fb) : EvE Γ (.BinOp a .Add b pos) (op2 addD fa fb) := ev_op2 (ta := rAddA Γ.X.K) (mk := fun x _ => x) ha hb (fun _ _ p q => pe_op (op_add.or (op_catA.or (op_cat.or op_add_str))) p q) (does_add G)
theorem ev_sub (ha : EvO Γ a fa) (hb : EvO Γ b fb) : EvE Γ (.BinOp a .Sub b pos) (op2 subD fa fb) := ev_op2 (ta := rAddA Γ.X.K) (mk := fun x _ => x) ha hb (fun _ _ p q => pe_op op_sub p q) does_sub
theorem ev_mul (G : Good Γ) (ha : EvO Γ a fa) (hb : EvO Γ b fb) : EvE Γ (.BinOp a .Mult b pos) (op2 mulD fa fb) := ev_op2 (ta := rAddA Γ.X.K) (mk := fun x _ => x) ha hb (fun _ _ p q => pe_op (op_mulZ.or (op_rep.or op_repT)) p q) (does_mul G)
theorem ev_fdiv (ha : EvO Γ a fa) (hb : EvO Γ b fb) : EvE Γ (.BinOp a .FloorDiv b pos) (op2 fdivD fa fb) := ev_op2 (ta := rAddA Γ.X.K) (mk := fun x _ => x) ha hb (fun _ _ p q => pe_op op_divZ p q) does_fdiv
theorem ev_mod (ha : EvO Γ a fa) (hb : EvO Γ b fb) : EvE Γ (.BinOp a .Mod b pos) (op2 modD fa fb) := ev_op2 (ta := rAddA Γ.X.K) (mk := fun x _ => x) ha hb (fun _ _ p q => pe_op op_modN p q) does_mod
end

/-! ### data for == -/
mutual
def D.py : D → Option PyData
  | .non => some .none
  | .bl b => some (.bool b)
  | .int i => some (.int i)
  | .str x => some (.str x)
  | .tup ds => (D.pyL ds).map .tuple
  | .lst ds => (D.pyL ds).map .list
  | .fn _ => none
  | .dic _ _ => none
  | .scr _ => none
def D.pyL : List D → Option (List PyData)
  | [] => some []
  | d :: ds => match D.py d, D.pyL ds with
    | some p, some ps => some (p :: ps)
    | _, _ => none
end
section
variable {C : RC} {Z : Fp} {H : Hp}
mutual
theorem Sh.dp : ∀ (d : D) (v : V) (p : PyData), Sh C Z H v d → d.py = some p → Dp C.K H v p
  | .non, _, _, h, e => by cases h; cases e; exact .non
  | .bl b, _, _, h, e => by cases h; cases e; exact .bl b
  | .int i, _, _, h, e => by cases h; cases e; exact .int i
  | .str x, _, _, h, e => by cases h; cases e; exact .str x
  | .tup ds, _, p, h, e => by
    cases h with
    | tup s r =>
      unfold D.py at e
      obtain ⟨ps, e1, rfl⟩ := Option.map_eq_some_iff.mp e
      exact .tup s (ShL.dp ds _ ps r e1)
  | .lst ds, _, p, h, e => by
    cases h with
    | lst s z r =>
      unfold D.py at e
      obtain ⟨ps, e1, rfl⟩ := Option.map_eq_some_iff.mp e
      exact .lst (SqL.of s) (ShL.dp ds _ ps r e1)
  | .fn _, _, _, _, e => by cases e
  | .dic _ _, _, _, _, e => by cases e
  | .scr _, _, _, _, e => by cases e
theorem ShL.dp : ∀ (ds : List D) (vs : List V) (ps : List PyData), ShL C Z H vs ds → D.pyL ds = some ps → DpAll C.K H vs ps
  | [], _, _, h, e => by cases h; cases e; exact .nil
  | d :: ds, _, ps, h, e => by
    cases h with
    | cons h r =>
      unfold D.pyL at e
      split at e
      · rename_i p qs e1 e2
        cases e
        exact .cons (Sh.dp d _ _ h e1) (ShL.dp ds _ _ r e2)
      · cases e
end
theorem Rd1.dp {v : V} {d : D} {p : PyData} (h : Rd1 C Z H v d) (e : d.py = some p) : Dp C.K H v p := by
  cases h with
  | sh h => exact Sh.dp d v p h e
  | lst s r =>
    unfold D.py at e
    obtain ⟨ps, e1, rfl⟩ := Option.map_eq_some_iff.mp e
    exact .lst (SqL.of s) (ShL.dp _ _ ps r e1)
  | dic s l r => cases e
end
/-- == where both can be compared -/
def eqB (d e : D) : Option Bool :=
  match d.py, e.py with
  | some p, some q => if SeqAt.shaped p && SeqAt.shaped q then some (PyData.eqv p q) else none
  | _, _ => none
def eqD (d e : D) : Option (D × Nat) := (eqB d e).map fun b => (.bl b, 0)
def neD (d e : D) : Option (D × Nat) := (eqB d e).map fun b => (.bl (!b), 0)
def cmpD (f : Int → Int → Bool) : D → D → Option (D × Nat)
  | .int i, .int j => some (.bl (f i j), 0)
  | _, _ => none
def D.ints : List D → Option (List Int)
  | [] => some []
  | .int i :: r => (D.ints r).map (i :: ·)
  | _ :: _ => none
theorem D.ints_eq : ∀ {ds : List D} {ns : List Int}, D.ints ds = some ns → ds = ns.map D.int
  | [], ns, h => by cases h; rfl
  | .int i :: r, ns, h => by
    unfold D.ints at h
    obtain ⟨ms, e, rfl⟩ := Option.map_eq_some_iff.mp h
    rw [List.map_cons, ← D.ints_eq e]
  | .non :: _, _, h => by cases h
  | .bl _ :: _, _, h => by cases h
  | .str _ :: _, _, h => by cases h
  | .fn _ :: _, _, h => by cases h
  | .tup _ :: _, _, h => by cases h
  | .lst _ :: _, _, h => by cases h
  | .dic _ _ :: _, _, h => by cases h
  | .scr _ :: _, _, h => by cases h
@[simp] theorem D.ints_map : ∀ ns : List Int, D.ints (ns.map D.int) = some ns
  | [] => rfl
  | n :: ns => by rw [List.map_cons, D.ints, D.ints_map ns]; rfl
/-- flat data -/
def D.flat : D → Bool
  | .non => true
  | .bl _ => true
  | .int _ => true
  | .str _ => true
  | _ => false
def eqF : D → D → Bool
  | .non, .non => true
  | .bl a, .bl b => a == b
  | .bl a, .int b => (if a then 1 else 0) == b
  | .int a, .bl b => a == (if b then 1 else 0)
  | .int a, .int b => a == b
  | .str a, .str b => a == b
  | _, _ => false
def keyD : D → Option Key
  | .int i => some (.inl i)
  | .str x => some (.inr x)
  | _ => none
theorem keyD_eq {d : D} {k : Key} (h : keyD d = some k) {C : RC} {Z : Fp} {H : Hp} {v : V} (r : Rd1 C Z H v d) : v = kV k := by
  cases d with
  | int i => cases h; exact r.intI
  | str x => cases h; exact r.strI
  | _ => cases h
section
variable {C : RC} {Z : Fp} {H : Hp}
theorem Sh.flat {v : V} {d : D} (h : Sh C Z H v d) (f : d.flat = true) : flatV v = true := by
  cases h <;> first | rfl | cases f
theorem ShL.flat_all : ∀ {vs : List V} {ds : List D}, ShL C Z H vs ds → ds.all D.flat = true → vs.all flatV = true
  | _, _, .nil, _ => rfl
  | _, _, .cons h r, f => by
    rw [List.all_cons, Bool.and_eq_true] at f ⊢
    exact ⟨h.flat f.1, r.flat_all f.2⟩
theorem eqV_eqF {v w : V} {d e : D} (h : Sh C Z H v d) (h' : Sh C Z H w e) (f : d.flat = true) (f' : e.flat = true) : eqV v w = eqF d e := by
  cases h <;> first | (cases f; done) | (cases h' <;> first | (cases f'; done) | rfl)
theorem inV_eqF {v : V} {d : D} (h : Sh C Z H v d) (f : d.flat = true) : ∀ {vs : List V} {ds : List D}, ShL C Z H vs ds → ds.all D.flat = true → inV v vs = ds.any fun e => eqF e d
  | _, _, .nil, _ => rfl
  | _, _, .cons (v := w) (d := e) h1 r, g => by
    rw [List.all_cons, Bool.and_eq_true] at g
    unfold inV
    rw [List.any_cons, List.any_cons, eqV_eqF h1 h g.1 f]
    have := inV_eqF h f r g.2
    unfold inV at this
    rw [this]
end
def hasK {κ : Type} [DecidableEq κ] (ks : List κ) (k : κ) : Bool := ks.any fun j => decide (j = k)
def inB (d : D) : D → Option Bool
  | .tup ds => if d.flat && ds.all D.flat then some (ds.any fun e => eqF e d) else none
  | .lst ds => if d.flat && ds.all D.flat then some (ds.any fun e => eqF e d) else
      match d.py, D.pyL ds with
      | some p, some qs => if SeqAt.shaped p && SeqAt.shaped (.list qs) then some (qs.any fun q => PyData.eqv q p) else none
      | _, _ => none
  | .dic ks _ => (keyD d).map fun k => hasK ks k
  | .str y => match d with
    | .str x => some (!(Builtin.Str.occurrences y x 0 y.length 1).isEmpty)
    | _ => none
  | _ => none
def inD (d e : D) : Option (D × Nat) := (inB d e).map fun b => (.bl b, 0)
def ninD (d e : D) : Option (D × Nat) := (inB d e).map fun b => (.bl (!b), 0)
def isNB : D → Bool
  | .non => true
  | _ => false
/-- x is e, e a written None, True, False; what is known of other values: they are not None -/
def isD (d e : D) : Option (D × Nat) :=
  match e, d with
  | .non, d => some (.bl (isNB d), 0)
  | .bl b, .bl c => some (.bl (decide (c = b)), 0)
  | _, _ => none
def nisD (d e : D) : Option (D × Nat) :=
  match e, d with
  | .non, d => some (.bl (!isNB d), 0)
  | .bl b, .bl c => some (.bl (!decide (c = b)), 0)
  | _, _ => none

theorem cval {κ : Type} [DecidableEq κ] : ∀ (ks : List κ) (xs : List V) (k : κ), ks.length = xs.length → (valV (ks.zip xs) k).isSome = hasK ks k
  | [], _, _, _ => rfl
  | _ :: _, [], _, h => by simp at h
  | j :: ks, x :: xs, k, h => by
    rw [List.zip_cons_cons]
    unfold hasK
    rw [List.any_cons]
    by_cases e : j = k
    · rw [valV_pos e, e]; simp
    · rw [valV_neg e, cval ks xs k (by simpa using h), decide_eq_false e, Bool.false_or]
      rfl
abbrev rDIn : R2 := fun x y H Q => ∃ a o, y = .ref a ∧ DGet H a x o ∧ Q (.bl o.isSome) H
abbrev rDNin : R2 := fun x y H Q => ∃ a o, y = .ref a ∧ DGet H a x o ∧ Q (.bl (!o.isSome)) H
section
variable {X : Cx}
theorem op_din (hu : X.A.units + 1 < cLine) : OpR X (compareOp .In) rDIn := by
  intro pins s σ H x y v u Q I rx ry h
  obtain ⟨a, o, rfl, g, q⟩ := h
  cases ry
  exact d_in hu I g rx fun s' I' => ⟨.bl _, H, I', rfl, q⟩
theorem op_dnin (hu : X.A.units + 1 < cLine) : OpR X (compareOp .NotIn) rDNin := by
  intro pins s σ H x y v u Q I rx ry h
  obtain ⟨a, o, rfl, g, q⟩ := h
  cases ry
  exact d_notIn hu I g rx fun s' I' => ⟨.bl _, H, I', rfl, q⟩
end
end Pv
end

section
set_option Elab.async false
set_option linter.all false
set_option maxRecDepth 100000
set_option maxHeartbeats 4000000
/-! Pv4: comparisons, tests, subscripts, slices, displays. -/
namespace Pv
open PySem PySem.Spec PyProof.Rows L2

/-- a rule that hands back a bool that is reckoned of the data -/
theorem does_bool {Γ : Ct} {g : D → D → Option Bool} {h : D → D → Option (D × Nat)} {r : R2} (hh : ∀ d e, h d e = (g d e).map fun b => (.bl b, 0))
    (k : ∀ (Z : Fp) (H : Hp) (x y : V) (d e : D) (b : Bool), Rd1 Γ.C Z H x d → Rd1 Γ.C Z H y e → g d e = some b → ∀ Q : VK, Q (.bl b) H → r x y H Q) : Does2 Γ h r := by
  intro σ H Z env φ S x y d e p hx hy hg Q P
  rw [hh] at hg
  obtain ⟨b, e1, rfl⟩ := Option.map_eq_some_iff.mp hg
  exact k Z H x y d e b hx hy e1 Q (Post.here P S (Ow.sh (.bl b)))
abbrev rInA (K : PySem.W.Frag) : R2 := fun x y H Q => rIn K false x y H Q ∨ rInD K x y H Q ∨ rDIn x y H Q ∨ (∃ i j, x = .str i ∧ y = .str j ∧ Q (.bl (!(Builtin.Str.occurrences j i 0 j.length 1).isEmpty)) H)
abbrev rNinA (K : PySem.W.Frag) : R2 := fun x y H Q => rIn K true x y H Q ∨ rNotInD K x y H Q ∨ rDNin x y H Q ∨ (∃ i j, x = .str i ∧ y = .str j ∧ Q (.bl (!(!(Builtin.Str.occurrences j i 0 j.length 1).isEmpty))) H)
theorem inB_sound {Γ : Ct} (G : Good Γ) {Z : Fp} {H : Hp} {x y : V} {d e : D} {b : Bool} (hx : Rd1 Γ.C Z H x d) (hy : Rd1 Γ.C Z H y e) (h : inB d e = some b) :
    (∀ Q : VK, Q (.bl b) H → rInA Γ.X.K x y H Q) ∧ ∀ Q : VK, Q (.bl (!b)) H → rNinA Γ.X.K x y H Q := by
  unfold inB at h
  split at h
  · rename_i ds
    split at h
    · rename_i hf
      cases h
      rw [Bool.and_eq_true] at hf
      obtain ⟨a, vs, rfl, ha, ra⟩ := hy.tupI
      rw [G.hK] at ha
      have hx' : Sh Γ.C Z H x d := by
        cases hx with
        | sh h => exact h
        | lst _ _ => cases hf.1
        | dic _ _ _ => cases hf.1
      have e1 := inV_eqF hx' hf.1 ra hf.2
      exact ⟨fun Q q => .inl ⟨a, vs, rfl, .inr ha, hx'.flat hf.1, ra.flat_all hf.2, by rw [e1]; exact q⟩, fun Q q => .inl ⟨a, vs, rfl, .inr ha, hx'.flat hf.1, ra.flat_all hf.2, by rw [e1]; exact q⟩⟩
    · cases h
  · rename_i ds
    split at h
    · rename_i hf
      cases h
      rw [Bool.and_eq_true] at hf
      obtain ⟨a, vs, rfl, ha, ra⟩ := hy.lstI
      have ha' : SqL Γ.X.K H a vs := SqL.of ha
      have hx' : Sh Γ.C Z H x d := by
        cases hx with
        | sh h => exact h
        | lst _ _ => cases hf.1
        | dic _ _ _ => cases hf.1
      have e1 := inV_eqF hx' hf.1 ra hf.2
      exact ⟨fun Q q => .inl ⟨a, vs, rfl, .inl ha', hx'.flat hf.1, ra.flat_all hf.2, by rw [e1]; exact q⟩, fun Q q => .inl ⟨a, vs, rfl, .inl ha', hx'.flat hf.1, ra.flat_all hf.2, by rw [e1]; exact q⟩⟩
    · split at h
      · rename_i p qs e1 e2
        split at h
        · rename_i hs
          cases h
          rw [Bool.and_eq_true] at hs
          have d1 := hx.dp e1
          have d2 := hy.dp (show (D.lst ds).py = some (.list qs) by unfold D.py; rw [e2]; rfl)
          rw [G.hK] at d1 d2
          exact ⟨fun Q q => .inr (.inl ⟨p, qs, d1, d2, hs.1, hs.2, q⟩), fun Q q => .inr (.inl ⟨p, qs, d1, d2, hs.1, hs.2, q⟩)⟩
        · cases h
      · cases h
  · rename_i ks vs
    obtain ⟨k, e1, rfl⟩ := Option.map_eq_some_iff.mp h
    obtain ⟨a, xs, rfl, ha, hl, ra⟩ := hy.dicI
    have ex := keyD_eq e1 hx
    subst ex
    have g := DGet.k (k := k) ha
    have e2 := cval ks xs k hl
    exact ⟨fun Q q => .inr (.inr (.inl ⟨a, _, rfl, g, by rw [e2]; exact q⟩)), fun Q q => .inr (.inr (.inl ⟨a, _, rfl, g, by rw [e2]; exact q⟩))⟩
  · split at h
    · cases h
      rw [hx.strI, hy.strI]
      exact ⟨fun Q q => .inr (.inr (.inr ⟨_, _, rfl, rfl, q⟩)), fun Q q => .inr (.inr (.inr ⟨_, _, rfl, rfl, q⟩))⟩
    · cases h
  · cases h
abbrev rIsA : R2 := fun x y H Q => (y = .non ∧ Q (.bl (decide (x = .non))) H) ∨ ∃ a b, x = .bl a ∧ y = .bl b ∧ Q (.bl (decide (a = b))) H
abbrev rNisA : R2 := fun x y H Q => (y = .non ∧ Q (.bl (!decide (x = .non))) H) ∨ ∃ a b, x = .bl a ∧ y = .bl b ∧ Q (.bl (!decide (a = b))) H
theorem isNB_eq {C : RC} {Z : Fp} {H : Hp} {x : V} {d : D} (h : Rd1 C Z H x d) : decide (x = .non) = isNB d := by
  cases h with
  | sh h => cases h <;> first | rfl | (apply decide_eq_false; intro e; cases e)
  | lst _ _ => rfl
  | dic _ _ _ => rfl
section
variable {Γ : Ct} {a b c : Expr} {fa fb fc : En → R Opd} {pos : Pos}
theorem does_eq (G : Good Γ) : Does2 Γ eqD (rEqD Γ.X.K) := does_bool (g := eqB) (fun _ _ => rfl) fun Z H x y d e b hx hy h Q q => by
  unfold eqB at h
  split at h
  · rename_i p q' e1 e2
    split at h
    · rename_i hs
      cases h
      rw [Bool.and_eq_true] at hs
      have d1 := hx.dp e1
      have d2 := hy.dp e2
      rw [G.hK] at d1 d2
      exact ⟨p, q', d1, d2, hs.1, hs.2, q⟩
    · cases h
  · cases h
theorem does_ne (G : Good Γ) : Does2 Γ neD (rNeD Γ.X.K) := does_bool (g := fun d e => (eqB d e).map (!·)) (fun d e => by unfold neD; cases eqB d e <;> rfl) fun Z H x y d e b hx hy h Q q => by
  obtain ⟨b', h', eb⟩ := Option.map_eq_some_iff.mp h
  subst eb
  clear h
  have h := h'
  unfold eqB at h
  split at h
  · rename_i p q' e1 e2
    split at h
    · rename_i hs
      have eb := Option.some.inj h
      subst eb
      rw [Bool.and_eq_true] at hs
      have d1 := hx.dp e1
      have d2 := hy.dp e2
      rw [G.hK] at d1 d2
      exact ⟨p, q', d1, d2, hs.1, hs.2, q⟩
    · cases h
  · cases h
theorem does_in (G : Good Γ) : Does2 Γ inD (rInA Γ.X.K) := does_bool (g := inB) (fun _ _ => rfl) fun Z H x y d e b hx hy h Q q => (inB_sound G hx hy h).1 Q q
theorem does_nin (G : Good Γ) : Does2 Γ ninD (rNinA Γ.X.K) := does_bool (g := fun d e => (inB d e).map (!·)) (fun d e => by unfold ninD; cases inB d e <;> rfl) fun Z H x y d e b hx hy h Q q => by
  obtain ⟨b', h', rfl⟩ := Option.map_eq_some_iff.mp h
  exact (inB_sound G hx hy h').2 Q q
theorem does_is : Does2 Γ isD rIsA := by
  intro σ H Z env φ S x y d e p hx hy hg Q P
  unfold isD at hg
  split at hg
  · cases hg
    exact .inl ⟨hy.nonI, by rw [isNB_eq hx]; exact Post.here P S (Ow.sh (.bl _))⟩
  · cases hg
    exact .inr ⟨_, _, hx.blI, hy.blI, Post.here P S (Ow.sh (.bl _))⟩
  · cases hg
theorem does_nis : Does2 Γ nisD rNisA := by
  intro σ H Z env φ S x y d e p hx hy hg Q P
  unfold nisD at hg
  split at hg
  · cases hg
    exact .inl ⟨hy.nonI, by rw [isNB_eq hx]; exact Post.here P S (Ow.sh (.bl _))⟩
  · cases hg
    exact .inr ⟨_, _, hx.blI, hy.blI, Post.here P S (Ow.sh (.bl _))⟩
  · cases hg
theorem does_cmp {f : Int → Int → Bool} : Does2 Γ (cmpD f) (rI0 fun i j => .bl (f i j)) := by
  intro σ H Z env φ S x y d e p hx hy hg Q P
  unfold cmpD at hg
  split at hg
  · cases hg
    rw [hx.intI, hy.intI]
    exact ⟨_, _, rfl, rfl, Post.here P S (Ow.sh (.bl _))⟩
  · cases hg

/-! ### comparisons as values, as tests -/
/-- the operator's rule: what it asks, what it tells -/
structure CmpR (Γ : Ct) (op : CmpOp) (g : D → D → Option (D × Nat)) where
  r : R2
  ok : OpR Γ.X (compareOp op) r
  does : Does2 Γ g r
def cEq (G : Good Γ) {k : Nat} (hr : Room k Γ.X.A) : CmpR Γ .Eq eqD := ⟨_, op_eqD hr.units, does_eq G⟩
def cNe (G : Good Γ) {k : Nat} (hr : Room k Γ.X.A) : CmpR Γ .NotEq neD := ⟨_, op_neD hr.units, does_ne G⟩
def cIn (G : Good Γ) {k : Nat} (hr : Room k Γ.X.A) : CmpR Γ .In inD := ⟨_, op_in_seq.or ((op_inD (by have := hr.un; omega)).or ((op_din (by have := hr.un; omega)).or op_in_str)), does_in G⟩
def cNin (G : Good Γ) {k : Nat} (hr : Room k Γ.X.A) : CmpR Γ .NotIn ninD := ⟨_, op_notIn_seq.or ((op_notInD (by have := hr.un; omega)).or ((op_dnin (by have := hr.un; omega)).or op_notIn_str)), does_nin G⟩
def cIs : CmpR Γ .Is isD := ⟨_, op_isN.or op_is_bl, does_is⟩
def cNis : CmpR Γ .IsNot nisD := ⟨_, op_notN.or op_isnot_bl, does_nis⟩
def cLt : CmpR Γ .Lt (cmpD fun i j => decide (i < j)) := ⟨_, op_lt, does_cmp⟩
def cLe : CmpR Γ .LtE (cmpD fun i j => decide (i ≤ j)) := ⟨_, op_le, does_cmp⟩
def cGt : CmpR Γ .Gt (cmpD fun i j => decide (j < i)) := ⟨_, op_gt, does_cmp⟩
def cGe : CmpR Γ .GtE (cmpD fun i j => decide (j ≤ i)) := ⟨_, op_ge, does_cmp⟩
theorem ev_cmp {op : CmpOp} {g : D → D → Option (D × Nat)} (c : CmpR Γ op g) (ha : EvO Γ a fa) (hb : EvO Γ b fb) (hm : behindInMarks op b = false := by first | exact nomark _ | rfl) : EvE Γ (.Compare a [op] [b] pos) (op2 g fa fb) :=
  ev_op2 (ta := rIsA) (mk := fun x _ => x) ha hb (fun _ _ p q => pe_cmpR c.ok p q hm) c.does
/-- the truth of a result that is True or False -/
def tst (f : En → R (D × Nat)) : En → R Bool := fun env => (f env).bind fun p env1 => match p with
  | (.bl b, _) => .ok b env1
  | _ => .no
theorem Ev.test {f : En → R (D × Nat)} {t : TE} (h : Ev Γ (ER Γ.C) f t) : Ev Γ TR (tst f) (tTest t) := by
  intro σ H Z env φ S Q P
  refine h.bind S P fun p env1 v H1 Z1 φ1 A e1 S1 o dj ev P1 => ?_
  obtain ⟨d, k⟩ := p
  have P2 := P1.mono (Evo.refl.sub (F2 := Tot φ1) fun _ z => .inl z)
  cases d with
  | bl b =>
    have e : v = .bl b := (Rd1.sh (o.im_inv rfl)).blI
    exact ⟨b, e, Post.here P2 S1 rfl⟩
  | _ => exact P2.elim
end
end Pv
end

section
set_option Elab.async false
set_option linter.all false
set_option maxRecDepth 100000
set_option maxHeartbeats 4000000
/-! Pv5: tests, and, or, not, if .. else; argument lists, displays, subscripts, slices, unary minus. -/
namespace Pv
open PySem PySem.Spec PyProof.Rows L2
section
variable {Γ : Ct} {e a b c : Expr} {rest : List Expr} {fa fb fc : En → R Opd} {pos : Pos}

/-! ### tests -/
def EvW (Γ : Ct) (e : Expr) (f : En → R Bool) : Prop := ∃ t, PW Γ.X e t ∧ Ev Γ TR f t
theorem et_cmp {op : CmpOp} {g : D → D → Option (D × Nat)} (c : CmpR Γ op g) (ha : EvO Γ a fa) (hb : EvO Γ b fb) (hm : behindInMarks op b = false := by first | exact nomark _ | rfl) : EvT Γ (.Compare a [op] [b] pos) (tst (op2 g fa fb)) := by
  obtain ⟨ta, a1, a2⟩ := ha
  obtain ⟨tb, b1, b2⟩ := hb
  refine ⟨_, pt_cmpR c.ok a1 b1 hm, Ev.test fun σ H Z env φ S Q P => ?_⟩
  refine a2.bind S P fun oa env1 x H1 Z1 φ1 A e1 S1 q1 dj1 ev1 P1 => ?_
  refine b2.bind S1 (P1.mono (Evo.refl.sub fun _ z => .inl z)) fun ob env2 y H2 Z2 φ2 B e2 S2 q2 dj2 ev2 P2 => ?_
  have P3 := P2.mono (Evo.refl.sub (F2 := Tot φ2) fun _ z => .inl z)
  have q1' : OR Γ.C σ B Z2 H2 oa x := OR.go (S1.ext ev2) q1
  cases ga : oa.get env2 with
  | none => rw [ga] at P3; exact P3.elim
  | some d =>
    cases gb : ob.get env2 with
    | none => rw [ga, gb] at P3; exact P3.elim
    | some e =>
      rw [ga, gb] at P3
      cases gg : g d e with
      | none => simp only [gg] at P3; exact P3.elim
      | some p =>
        simp only [gg] at P3
        exact c.does σ H2 Z2 env2 φ2 S2 x y d e p (Opd.rd S2 q1' ga) (Opd.rd S2 q2 gb) gg Q P3
/-- an expression that is no test by its form -/
abbrev IsVal (X : Cx) (e : Expr) : Prop := ∀ whole, isTrue e X.env whole = (do let v ← whole; standAt e.pos; holding [v] (truthy v))
theorem et_val {f : En → R (D × Nat)} (h : EvE Γ e f) (he : IsVal Γ.X e := by intro _; rfl) : EvT Γ e (tst f) := by
  obtain ⟨t, h1, h2⟩ := h
  exact ⟨_, pt_val h1 he, h2.test⟩
theorem zip_isEmpty : ∀ {ks : List Key} {vs : List V}, ks.length = vs.length → (ks.zip vs).isEmpty = ks.isEmpty
  | [], _, _ => rfl
  | _ :: _, [], h => by simp at h
  | _ :: _, _ :: _, _ => rfl
/-- truth of a value of any kind -/
def truD : D → Option Bool
  | .non => some false
  | .bl b => some b
  | .int i => some (i != 0)
  | .str x => if x.length ≤ lim then some ((x.length : Int) != 0) else none
  | .tup xs => some (!xs.isEmpty)
  | .lst xs => some (!xs.isEmpty)
  | .dic ks _ => some (!ks.isEmpty)
  | _ => none
def tru (fa : En → R Opd) : En → R Bool := fun env => (fa env).bind fun o env1 => match o.get env1 with
  | some d => R.of (truD d) env1
  | none => .no
theorem et_tru (G : Good Γ) (ha : EvO Γ e fa) (he : IsVal Γ.X e := by intro _; rfl) : EvT Γ e (tru fa) := by
  obtain ⟨ta, a1, a2⟩ := ha
  refine ⟨_, pt_truth a1 he, fun σ H Z env φ S Q P => ?_⟩
  refine a2.bind S P fun oa env1 x H1 Z1 φ1 A e1 S1 q1 dj1 ev1 P1 => ?_
  have P3 := P1.mono (Evo.refl.sub (F2 := Tot φ1) fun _ z => .inl z)
  cases ga : oa.get env1 with
  | none => rw [ga] at P3; exact P3.elim
  | some d =>
    rw [ga] at P3
    have rd := Opd.rd S1 q1 ga
    cases gd : truD d with
    | none => simp only [gd] at P3; exact P3.elim
    | some k =>
      simp only [gd] at P3
      refine ⟨k, ?_, Post.here P3 S1 rfl⟩
      unfold truD at gd
      split at gd
      · cases gd; rw [rd.nonI]; rfl
      · cases gd; rw [rd.blI]; rfl
      · cases gd; rw [rd.intI]; rfl
      · split at gd
        · rename_i hz
          cases gd; rw [rd.strI]; exact ⟨lim_le hz, rfl⟩
        · cases gd
      · cases gd
        obtain ⟨p, vs, rfl, hp, r⟩ := rd.tupI
        rw [G.hK] at hp
        refine .inr (.inl ⟨vs, hp, ?_⟩)
        cases r <;> rfl
      · cases gd
        obtain ⟨p, vs, rfl, hp, r⟩ := rd.lstI
        refine .inl ⟨vs, SqL.of hp, ?_⟩
        cases r <;> rfl
      · cases gd
        obtain ⟨p, vs, rfl, hp, hl, r⟩ := rd.dicI
        exact .inr (.inr ⟨_, hp, by rw [zip_isEmpty hl]⟩)
      · cases gd
def notT (f : En → R Bool) : En → R Bool := fun env => (f env).bind fun b env1 => .ok (!b) env1
def andT (f g : En → R Bool) : En → R Bool := fun env => (f env).bind fun b env1 => if b = true then g env1 else .ok false env1
def orT (f g : En → R Bool) : En → R Bool := fun env => (f env).bind fun b env1 => if b = true then .ok true env1 else g env1
variable {f g h : En → R Bool}
theorem et_not (ha : EvT Γ a f) : EvT Γ (.UnaryOp .Not a pos) (notT f) := by
  obtain ⟨t, h1, h2⟩ := ha
  refine ⟨_, pt_not h1, fun σ H Z env φ S Q P => ?_⟩
  refine h2.bind S P fun x env1 y H1 Z1 φ1 A e1 S1 q1 dj1 ev1 P1 => ?_
  cases (show x = y from q1)
  exact Post.here (P1.mono (Evo.refl.sub fun _ z => .inl z)) S1 rfl
theorem ew_and1 (ha : EvT Γ a f) : EvW Γ (.BoolOp .And [a] pos) f := by
  obtain ⟨t, h1, h2⟩ := ha
  exact ⟨_, pw_and1 h1, h2⟩
theorem ew_or1 (ha : EvT Γ a f) : EvW Γ (.BoolOp .Or [a] pos) f := by
  obtain ⟨t, h1, h2⟩ := ha
  exact ⟨_, pw_or1 h1, h2⟩
theorem ew_and (ha : EvT Γ a f) (hb : EvW Γ (.BoolOp .And (b :: rest) pos) g) : EvW Γ (.BoolOp .And (a :: b :: rest) pos) (andT f g) := by
  obtain ⟨t, h1, h2⟩ := ha
  obtain ⟨u, k1, k2⟩ := hb
  refine ⟨_, pw_and h1 k1, fun σ H Z env φ S Q P => ?_⟩
  refine h2.bind S P fun x env1 y H1 Z1 φ1 A e1 S1 q1 dj1 ev1 P1 => ?_
  cases (show x = y from q1)
  have P2 := P1.mono (Evo.refl.sub (F2 := Tot φ1) fun _ z => .inl z)
  cases x with
  | true => exact k2 σ H1 Z1 env1 φ1 S1 Q P2
  | false => exact Post.here P2 S1 rfl
theorem ew_or (ha : EvT Γ a f) (hb : EvW Γ (.BoolOp .Or (b :: rest) pos) g) : EvW Γ (.BoolOp .Or (a :: b :: rest) pos) (orT f g) := by
  obtain ⟨t, h1, h2⟩ := ha
  obtain ⟨u, k1, k2⟩ := hb
  refine ⟨_, pw_or h1 k1, fun σ H Z env φ S Q P => ?_⟩
  refine h2.bind S P fun x env1 y H1 Z1 φ1 A e1 S1 q1 dj1 ev1 P1 => ?_
  cases (show x = y from q1)
  have P2 := P1.mono (Evo.refl.sub (F2 := Tot φ1) fun _ z => .inl z)
  cases x with
  | true => exact Post.here P2 S1 rfl
  | false => exact k2 σ H1 Z1 env1 φ1 S1 Q P2
theorem EvW.t (h : EvW Γ e f) : EvT Γ e f := by
  obtain ⟨t, h1, h2⟩ := h
  exact ⟨t, h1.pt, h2⟩
/-! ### as values -/
def blV (f : En → R Bool) : En → R D := fun env => (f env).bind fun b env1 => .ok (.bl b) env1
/-- a value that is True or False -/
def vbl (f : En → R D) : En → R Bool := fun env => (f env).bind fun p env1 => match p with
  | .bl b => .ok b env1
  | _ => .no
theorem Ev.vtest {f : En → R D} {t : TE} (h : Ev Γ (VR Γ.C) f t) {σ : L2.St} {Z : Fp} {H : Hp} {env : En} {φ : Nat → Fp} (S : SttC Γ Z σ H env φ) {γ δ : Type} {rel : Rel γ δ} {g : Bool → En → R γ} {Q : δ → Hp → Prop} {Q1 : VK}
    (P : Post Γ σ Z H (Tot φ) rel ((vbl f env).bind g) Q)
    (k : ∀ b env1 H1 Z1 φ1, SttC Γ Z1 σ H1 env1 φ1 → Evo Z H (Tot φ) Z1 H1 (Tot φ1) → Post Γ σ Z1 H1 (Tot φ1) rel (g b env1) Q → Q1 (.bl b) H1) : t σ H Q1 := by
  have P' : Post Γ σ Z H (Tot φ) rel ((f env).bind fun p env1 => match p with
    | .bl b => g b env1
    | _ => .no) Q := by
    unfold vbl at P
    cases e : f env with
    | ok p env1 =>
      rw [e] at P
      cases p <;> exact P
    | ex x => rw [e] at P; exact P
    | no => rw [e] at P; exact P
  refine h.bind S P' fun p env1 v H1 Z1 φ1 A e1 S1 o dj ev P1 => ?_
  have P2 := P1.mono (Evo.refl.sub (F2 := Tot φ1) fun _ z => .inl z)
  cases p with
  | bl b =>
    have e : v = .bl b := (Rd1.sh (C := Γ.C) o).blI
    subst e
    exact k b env1 H1 Z1 φ1 S1 (ev.sub fun _ z => .inl z) P2
  | _ => exact P2.elim
def andV (f : En → R D) (g : En → R D) : En → R D := fun env => (vbl f env).bind fun b env1 => if b = true then g env1 else .ok (.bl false) env1
def orV (f : En → R D) (g : En → R D) : En → R D := fun env => (vbl f env).bind fun b env1 => if b = true then .ok (.bl true) env1 else g env1
variable {u v : En → R D}
theorem ev_one {op : BoolOp} (hb : EvV Γ b u) : EvV Γ (.BoolOp op [b] pos) u := by
  obtain ⟨t, h1, h2⟩ := hb
  exact ⟨t, pe_one h1, h2⟩
theorem ev_and (ha : EvV Γ a u) (hb : EvV Γ (.BoolOp .And (b :: rest) pos) v) : EvV Γ (.BoolOp .And (a :: b :: rest) pos) (andV u v) := by
  obtain ⟨t, h1, h2⟩ := ha
  obtain ⟨w, k1, k2⟩ := hb
  refine ⟨_, pe_and h1 k1, fun σ H Z env φ S Q P => ?_⟩
  refine h2.vtest S P fun x env1 H1 Z1 φ1 S1 ev P2 => ?_
  refine ⟨x, rfl, ?_⟩
  cases x with
  | true => exact k2 σ H1 Z1 env1 φ1 S1 Q P2
  | false => exact Post.here P2 S1 (.bl false)
theorem ev_or (ha : EvV Γ a u) (hb : EvV Γ (.BoolOp .Or (b :: rest) pos) v) : EvV Γ (.BoolOp .Or (a :: b :: rest) pos) (orV u v) := by
  obtain ⟨t, h1, h2⟩ := ha
  obtain ⟨w, k1, k2⟩ := hb
  refine ⟨_, pe_or h1 k1, fun σ H Z env φ S Q P => ?_⟩
  refine h2.vtest S P fun x env1 H1 Z1 φ1 S1 ev P2 => ?_
  refine ⟨x, rfl, ?_⟩
  cases x with
  | true => exact Post.here P2 S1 (.bl true)
  | false => exact k2 σ H1 Z1 env1 φ1 S1 Q P2
def notV (f : En → R D) : En → R D := fun env => (vbl f env).bind fun b env1 => .ok (.bl (!b)) env1
theorem ev_not (ha : EvV Γ a u) : EvV Γ (.UnaryOp .Not a pos) (notV u) := by
  obtain ⟨t, h1, h2⟩ := ha
  refine ⟨_, pe_not h1, fun σ H Z env φ S Q P => ?_⟩
  refine h2.vtest S P fun x env1 H1 Z1 φ1 S1 ev P2 => ?_
  exact ⟨x, rfl, Post.here P2 S1 (.bl _)⟩
def iteE {α : Type} (f : En → R Bool) (g h : En → R α) : En → R α := fun env => (f env).bind fun b env1 => if b = true then g env1 else h env1
theorem ev_ite {p q : En → R (D × Nat)} (hc : EvT Γ c f) (ha : EvE Γ a p) (hb : EvE Γ b q) : EvE Γ (.IfExp c a b pos) (iteE f p q) := by
  obtain ⟨t, h1, h2⟩ := hc
  obtain ⟨w, k1, k2⟩ := ha
  obtain ⟨z, l1, l2⟩ := hb
  refine ⟨_, pe_ifExp h1 k1 l1, fun σ H Z env φ S Q P => ?_⟩
  refine h2.bind S P fun x env1 y H1 Z1 φ1 A e1 S1 q1 dj1 ev1 P1 => ?_
  cases (show x = y from q1)
  have P2 := P1.mono (Evo.refl.sub (F2 := Tot φ1) fun _ z => .inl z)
  cases x with
  | true => exact k2 σ H1 Z1 env1 φ1 S1 Q P2
  | false => exact l2 σ H1 Z1 env1 φ1 S1 Q P2
/-- a op1 b op2 c -/
def opC (g g' : D → D → Option (D × Nat)) (fa fb fc : En → R Opd) : En → R (D × Nat) := fun env => (fa env).bind fun oa env1 => (fb env1).bind fun ob env2 =>
  match oa.get env2, ob.get env2 with
  | some x, some y => (match g x y with
    | some (.bl true, _) => (fc env2).bind fun oc env3 => (match ob.get env3, oc.get env3 with
      | some y, some z => R.of (g' y z) env3
      | _, _ => .no)
    | some (.bl false, _) => .ok (.bl false, 0) env2
    | _ => .no)
  | _, _ => .no
/-- a comparison that tells True or False -/
structure CmpB (Γ : Ct) (op : CmpOp) (g : D → D → Option (D × Nat)) extends CmpR Γ op g where
  bool : ∀ (σ : L2.St) (Z : Fp) (H : Hp) (x y : V) (d e : D) (b : Bool) (k : Nat), Rd1 Γ.C Z H x d → Rd1 Γ.C Z H y e → g d e = some (.bl b, k) → ∀ Q : VK, Q (.bl b) H → r x y H Q
theorem cmp_bool {C : RC} {Z : Fp} {H : Hp} {x y : V} {d e : D} {b : Bool} {k : Nat} {f : Int → Int → Bool} (hx : Rd1 C Z H x d) (hy : Rd1 C Z H y e) (h : cmpD f d e = some (.bl b, k)) {Q : VK} (q : Q (.bl b) H) : rI0 (fun i j => .bl (f i j)) x y H Q := by
  unfold cmpD at h
  split at h
  · cases h; rw [hx.intI, hy.intI]; exact ⟨_, _, rfl, rfl, q⟩
  · cases h
def bLt : CmpB Γ .Lt (cmpD fun i j => decide (i < j)) := ⟨cLt, fun _ _ _ _ _ d e b _ hx hy h Q q => cmp_bool hx hy h q⟩
def bLe : CmpB Γ .LtE (cmpD fun i j => decide (i ≤ j)) := ⟨cLe, fun _ _ _ _ _ d e b _ hx hy h Q q => cmp_bool hx hy h q⟩
def bGt : CmpB Γ .Gt (cmpD fun i j => decide (j < i)) := ⟨cGt, fun _ _ _ _ _ d e b _ hx hy h Q q => cmp_bool hx hy h q⟩
def bGe : CmpB Γ .GtE (cmpD fun i j => decide (j ≤ i)) := ⟨cGe, fun _ _ _ _ _ d e b _ hx hy h Q q => cmp_bool hx hy h q⟩
theorem eq_bool (G : Good Γ) {Z : Fp} {H : Hp} {x y : V} {d e : D} {b : Bool} {k : Nat} (hx : Rd1 Γ.C Z H x d) (hy : Rd1 Γ.C Z H y e) (h : eqD d e = some (.bl b, k)) {Q : VK} (q : Q (.bl b) H) : rEqD Γ.X.K x y H Q := by
  unfold eqD at h
  obtain ⟨b', h, e'⟩ := Option.map_eq_some_iff.mp h
  cases e'
  unfold eqB at h
  split at h
  · rename_i p q' e1 e2
    split at h
    · rename_i hs
      cases h
      rw [Bool.and_eq_true] at hs
      have d1 := hx.dp e1
      have d2 := hy.dp e2
      rw [G.hK] at d1 d2
      exact ⟨p, q', d1, d2, hs.1, hs.2, q⟩
    · cases h
  · cases h
def bEq (G : Good Γ) {k : Nat} (hr : Room k Γ.X.A) : CmpB Γ .Eq eqD := ⟨cEq G hr, fun _ _ _ _ _ d e b _ hx hy h Q q => eq_bool G hx hy h q⟩
theorem Ev.chain {op op' : CmpOp} {g g' : D → D → Option (D × Nat)} (k : CmpB Γ op g) (k' : CmpR Γ op' g') {ta tb tc : TE} (a2 : Ev Γ (OR Γ.C) fa ta) (b2 : Ev Γ (OR Γ.C) fb tb) (c2 : Ev Γ (OR Γ.C) fc tc) : Ev Γ (ER Γ.C) (opC g g' fa fb fc) (tChain k.r k'.r ta tb tc) := by
  intro σ H Z env φ S Q P
  refine a2.bind S P fun oa env1 x H1 Z1 φ1 A e1 S1 q1 dj1 ev1 P1 => ?_
  refine b2.bind S1 (P1.mono (Evo.refl.sub fun _ z => .inl z)) fun ob env2 y H2 Z2 φ2 B e2 S2 q2 dj2 ev2 P2 => ?_
  have P3 := P2.mono (Evo.refl.sub (F2 := Tot φ2) fun _ z => .inl z)
  have q1' : OR Γ.C σ B Z2 H2 oa x := OR.go (S1.ext ev2) q1
  cases ga : oa.get env2 with
  | none => rw [ga] at P3; exact P3.elim
  | some d =>
    cases gb : ob.get env2 with
    | none => rw [ga, gb] at P3; exact P3.elim
    | some e =>
      simp only [ga, gb] at P3
      have ra := Opd.rd S2 q1' ga
      have rb := Opd.rd S2 q2 gb
      cases gg : g d e with
      | none => rw [gg] at P3; exact P3.elim
      | some p =>
        obtain ⟨p, m⟩ := p
        rw [gg] at P3
        cases p with
        | bl w =>
          refine k.bool σ Z2 H2 x y d e w m ra rb gg _ ⟨w, rfl, ?_⟩
          cases w with
          | false => exact Post.here P3 S2 (Ow.sh (.bl false))
          | true =>
            rw [if_pos rfl]
            refine c2.bind S2 P3 fun oc env3 z H3 Z3 φ3 B3 e3 S3 q3 dj3 ev3 P4 => ?_
            have P5 := P4.mono (Evo.refl.sub (F2 := Tot φ3) fun _ z => .inl z)
            have q2' : OR Γ.C σ B3 Z3 H3 ob y := OR.go (S2.ext ev3) q2
            cases gb3 : ob.get env3 with
            | none => rw [gb3] at P5; exact P5.elim
            | some d3 =>
              cases gc3 : oc.get env3 with
              | none => rw [gb3, gc3] at P5; exact P5.elim
              | some f3 =>
                simp only [gb3, gc3] at P5
                cases g3 : g' d3 f3 with
                | none => rw [g3] at P5; exact P5.elim
                | some p3 =>
                  rw [g3] at P5
                  exact k'.does σ H3 Z3 env3 φ3 S3 y z d3 f3 p3 (Opd.rd S3 q2' gb3) (Opd.rd S3 q3 gc3) g3 Q P5
        | _ => exact P3.elim
theorem ev_chain {op op' : CmpOp} {g g' : D → D → Option (D × Nat)} (k : CmpB Γ op g) (k' : CmpR Γ op' g') (ha : EvO Γ a fa) (hb : EvO Γ b fb) (hc : EvO Γ c fc) (hm : lastMarks [op, op'] [b, c] = false := by with_unfolding_all rfl) : EvE Γ (.Compare a [op, op'] [b, c] pos) (opC g g' fa fb fc) := by
  obtain ⟨ta, a1, a2⟩ := ha
  obtain ⟨tb, b1, b2⟩ := hb
  obtain ⟨tc, c1, c2⟩ := hc
  exact ⟨_, pe_chain k.ok k'.ok a1 b1 c1 hm, Ev.chain k k' a2 b2 c2⟩
theorem et_chain {op op' : CmpOp} {g g' : D → D → Option (D × Nat)} (k : CmpB Γ op g) (k' : CmpR Γ op' g') (ha : EvO Γ a fa) (hb : EvO Γ b fb) (hc : EvO Γ c fc) (hm : lastMarks [op, op'] [b, c] = false := by with_unfolding_all rfl) : EvT Γ (.Compare a [op, op'] [b, c] pos) (tst (opC g g' fa fb fc)) := by
  obtain ⟨ta, a1, a2⟩ := ha
  obtain ⟨tb, b1, b2⟩ := hb
  obtain ⟨tc, c1, c2⟩ := hc
  exact ⟨_, pt_chain k.ok k'.ok a1 b1 c1 hm, (Ev.chain k k' a2 b2 c2).test⟩

/-! ### argument lists, displays -/
def aNil : En → R (List D) := fun env => .ok [] env
def aCons (u : En → R D) (r : En → R (List D)) : En → R (List D) := fun env => (u env).bind fun d env1 => (r env1).bind fun ds env2 => .ok (d :: ds) env2
theorem ea_nil : EvA Γ [] aNil := ⟨_, pa_nil, fun σ H Z env φ S Q P => Post.here P S .nil⟩
theorem ea_cons {es : List Expr} {r : En → R (List D)} (ha : EvV Γ e u) (hr : EvA Γ es r) (hs : starEach (e :: es) Γ.X.env = (false, eval e Γ.X.env) :: starEach es Γ.X.env := by rfl) : EvA Γ (e :: es) (aCons u r) := by
  obtain ⟨t, h1, h2⟩ := ha
  obtain ⟨w, k1, k2⟩ := hr
  refine ⟨_, pa_cons h1 k1 hs, fun σ H Z env φ S Q P => ?_⟩
  refine h2.bind S P fun d env1 x H1 Z1 φ1 A e1 S1 q1 dj1 ev1 P1 => ?_
  refine k2.bind S1 (P1.mono (Evo.refl.sub fun _ z => .inl z)) fun ds env2 xs H2 Z2 φ2 B e2 S2 q2 dj2 ev2 P2 => ?_
  exact Post.here (P2.mono (Evo.refl.sub fun _ z => .inl z)) S2 (.cons (Sh.ext (S1.ext ev2) _ _ q1) q2)
def tupE (r : En → R (List D)) : En → R D := fun env => (r env).bind fun ds env1 => if ds.length ≤ lim then .ok (.tup ds) env1 else .no
def lstE (r : En → R (List D)) : En → R (D × Nat) := fun env => (r env).bind fun ds env1 => if ds.length ≤ lim then .ok (.lst ds, 1) env1 else .no
theorem ev_tup {es : List Expr} {r : En → R (List D)} {k : Nat} (h : EvA Γ es r) : EvV Γ (.Tuple es k pos) (tupE r) := by
  obtain ⟨t, h1, h2⟩ := h
  refine ⟨_, pe_tup h1, fun σ H Z env φ S Q P => ?_⟩
  refine h2.bind S P fun ds env1 xs H1 Z1 φ1 A e1 S1 q1 dj1 ev1 P1 => ?_
  have P2 := P1.mono (Evo.refl.sub (F2 := Tot φ1) fun _ z => .inl z)
  have r : ShL Γ.C Z1 H1 xs ds := q1
  by_cases hz : ds.length ≤ lim
  · rw [if_pos hz] at P2
    refine ⟨by rw [r.length]; exact lim_le hz, fun p hp => ?_⟩
    exact Post.newT P2 S1 hp (.tup (SqT.of upd_same) (ShL.ext (Ext.new hp) _ _ r))
  · rw [if_neg hz] at P2; exact P2.elim
theorem ev_lst {es : List Expr} {r : En → R (List D)} (h : EvA Γ es r) : EvE Γ (.List es pos) (lstE r) := by
  obtain ⟨t, h1, h2⟩ := h
  refine ⟨_, pe_lst h1, fun σ H Z env φ S Q P => ?_⟩
  refine h2.bind S P fun ds env1 xs H1 Z1 φ1 A e1 S1 q1 dj1 ev1 P1 => ?_
  have P2 := P1.mono (Evo.refl.sub (F2 := Tot φ1) fun _ z => .inl z)
  have r : ShL Γ.C Z1 H1 xs ds := q1
  by_cases hz : ds.length ≤ lim
  · rw [if_pos hz] at P2
    refine ⟨by rw [r.length]; exact lim_le hz, fun p hp => ?_⟩
    exact Post.newL P2 S1 hp (Ow.lst1 upd_same (ShL.ext (Ext.new hp) _ _ r))
  · rw [if_neg hz] at P2; exact P2.elim
/-- {} (keys will be ints or texts) -/
def dicE : En → R (D × Nat) := fun env => .ok (.dic [] [], 1) env
theorem ev_dic : EvE Γ (.Dict [] [] pos) dicE :=
  ⟨_, pe_dnewK, fun σ H Z env φ S Q P p hp => Post.newL P S hp (Ow.dic1 (ks := []) (xs := []) upd_same rfl .nil)⟩
/-! ### unary minus -/
def op1 (g : D → Option (D × Nat)) (fa : En → R Opd) : En → R (D × Nat) := fun env => (fa env).bind fun oa env1 => match oa.get env1 with
  | some x => R.of (g x) env1
  | none => .no
def Does1 (Γ : Ct) (g : D → Option (D × Nat)) (r : V → Hp → VK → Prop) : Prop :=
  ∀ σ H Z env φ, SttC Γ Z σ H env φ → ∀ x d p, Rd1 Γ.C Z H x d → g d = some p → ∀ Q : VK, Post Γ σ Z H (Tot φ) (ER Γ.C σ) (.ok p env) Q → r x H Q
theorem Ev.op1 {g : D → Option (D × Nat)} {r : V → Hp → VK → Prop} {t : TE} (a2 : Ev Γ (OR Γ.C) fa t) (hr : Does1 Γ g r) : Ev Γ (ER Γ.C) (op1 g fa) (tUn r t) := by
  intro σ H Z env φ S Q P
  refine a2.bind S P fun oa env1 x H1 Z1 φ1 A e1 S1 q1 dj1 ev1 P1 => ?_
  have P3 := P1.mono (Evo.refl.sub (F2 := Tot φ1) fun _ z => .inl z)
  cases ga : oa.get env1 with
  | none => rw [ga] at P3; exact P3.elim
  | some d =>
    simp only [ga] at P3
    cases gg : g d with
    | none => rw [gg] at P3; exact P3.elim
    | some p =>
      rw [gg] at P3
      exact hr σ H1 Z1 env1 φ1 S1 x d p (Opd.rd S1 q1 ga) gg Q P3
def negD : D → Option (D × Nat)
  | .int i => some (.int (-i), 0)
  | _ => none
theorem ev_neg (ha : EvO Γ a fa) : EvE Γ (.UnaryOp .USub a pos) (op1 negD fa) := by
  obtain ⟨t, h1, h2⟩ := ha
  refine ⟨_, pe_un un_neg h1, h2.op1 fun σ H Z env φ S x d p hx hg Q P => ?_⟩
  unfold negD at hg
  split at hg
  · cases hg
    rw [hx.intI]
    exact ⟨_, rfl, Post.here P S (Ow.sh (.int _))⟩
  · cases hg

/-! ### subscripts -/
def keyV (ks : List Key) (vs : List D) (k : Key) : Option D := ((ks.zip vs).find? fun p => decide (p.1 = k)).map (·.2)
theorem keyV_val {C : RC} {Z : Fp} {H : Hp} : ∀ {ks : List Key} {xs : List V} {ds : List D} {k : Key} {d : D}, ShL C Z H xs ds → keyV ks ds k = some d → ∃ x, valV (ks.zip xs) k = some x ∧ Sh C Z H x d
  | [], _, _, _, _, _, h => by simp [keyV] at h
  | _ :: _, _, _, _, _, .nil, h => by simp [keyV] at h
  | j :: ks, _, _, k, d, .cons (v := x) (d := d') h1 r, h => by
    rw [List.zip_cons_cons]
    unfold keyV at h
    rw [List.zip_cons_cons, List.find?_cons] at h
    by_cases e : j = k
    · rw [valV_pos e]
      simp only [e, decide_true, Option.map_some, Option.some.injEq] at h
      exact ⟨x, rfl, h ▸ h1⟩
    · rw [valV_neg e]
      simp only [e, decide_false] at h
      exact keyV_val r h
def idxD : D → D → Option (D × Nat)
  | .tup xs, .int i => (atI xs i).map (·, 0)
  | .lst xs, .int i => (atI xs i).map (·, 0)
  | .scr ns, .int i => (atI ns i).map fun n => (.int n, 0)
  | .str z, .int i => if z.length ≤ lim then (atI z.cps.toList i).map fun c => (.str ⟨#[c]⟩, 0) else none
  | .dic ks vs, d => (keyD d).bind fun k => (keyV ks vs k).map (·, 0)
  | _, _ => none
theorem atI_sh {C : RC} {Z : Fp} {H : Hp} {xs : List V} {ds : List D} {i : Int} {d : D} (r : ShL C Z H xs ds) (h : atI ds i = some d) : ∃ x, atI xs i = some x ∧ Sh C Z H x d := by
  unfold atI at h ⊢
  rw [r.length]
  cases e : ixN ds.length i with
  | none => rw [e] at h; cases h
  | some j => rw [e] at h; exact r.get' h
abbrev rIxA (K : PySem.W.Frag) : R2 := fun x y H Q => rIx K x y H Q ∨ ∃ a v, x = .ref a ∧ DGet H a y (some v) ∧ Q v H
theorem ix_dict {X : Cx} (hu : X.A.units + 1 < cLine) : IxR X (fun x y H Q => ∃ a v, x = .ref a ∧ DGet H a y (some v) ∧ Q v H) := by
  intro value slice pins s σ H x y v u Q I rx ry h hs
  obtain ⟨a, z, rfl, g, q⟩ := h
  cases rx
  have hT := dict_typeIs I g
  unfold subscriptTail
  refine wpAny_bind ?_
  rw [getitemInPython_of_ne hT.not_modules]
  refine wpAny_bind (wpAny_specialOf hT PySem.F.slot_dict_getitem.lookup ?_)
  have fin : wpAny (model X.prog X.w) X.A (subscripted slice false (.ref a) u) (fun r s₃ => wpAny (model X.prog X.w) X.A (letTemporaryGo value (.ref a) r >>= fun _ => pure r) (EP X pins σ Q) X.xe s₃) X.xe s := by
    rw [hs]
    exact wpAny_operating (d_getItem hu I g ry fun w' s' I' r' => wpAny_bind (wpAny_letTemporaryGo (wpAny_pure ⟨z, H, I', r', q⟩)))
  first
    | exact wpAny_pure (wpAny_bind fin)
    | exact wpAny_bind (wpAny_pure (wpAny_bind fin))
    | exact wpAny_bind fin
end
end Pv
end

section
set_option Elab.async false
set_option linter.all false
set_option maxRecDepth 100000
set_option maxHeartbeats 4000000
/-! Pv6: subscripts, slices, calls of built-ins. -/
namespace Pv
open PySem PySem.Spec PyProof.Rows L2

theorem CallR.or {X : Cx} {f : Value} {r r' : List V → Hp → VK → Prop} (h : CallR X f r) (h' : CallR X f r') : CallR X f (fun xs H Q => r xs H Q ∨ r' xs H Q) := by
  intro pins s σ H xs us Q I rx q
  rcases q with q | q
  · exact h pins s σ H xs us Q I rx q
  · exact h' pins s σ H xs us Q I rx q
section
variable {Γ : Ct} {e a b c : Expr} {fa fb fc : En → R Opd} {pos p q : Pos} {x : Str}
theorem does_idx (G : Good Γ) : Does2 Γ idxD (rIxA Γ.X.K) := by
  intro σ H Z env φ S x y d e p hx hy hg Q P
  unfold idxD at hg
  split at hg
  · rename_i xs i
    obtain ⟨z, e1, rfl⟩ := Option.map_eq_some_iff.mp hg
    obtain ⟨a, us, rfl, ha, ra⟩ := hx.tupI
    obtain ⟨w, h1, h2⟩ := atI_sh ra e1
    rw [G.hK] at ha
    rw [hy.intI]
    exact .inl (.inr (.inl ⟨a, us, i, w, rfl, rfl, ha, h1, Post.here P S (Ow.sh h2)⟩))
  · rename_i xs i
    obtain ⟨z, e1, rfl⟩ := Option.map_eq_some_iff.mp hg
    obtain ⟨a, us, rfl, ha, ra⟩ := hx.lstI
    obtain ⟨w, h1, h2⟩ := atI_sh ra e1
    rw [hy.intI]
    exact .inl (.inl ⟨a, us, i, w, rfl, rfl, SqL.of ha, h1, Post.here P S (Ow.sh h2)⟩)
  · rename_i ns i
    obtain ⟨z, e1, rfl⟩ := Option.map_eq_some_iff.mp hg
    obtain ⟨a, rfl, ha⟩ := hx.scrI
    obtain ⟨w, h1, h2⟩ := atI_sh (C := Γ.C) (Z := Z) (H := H) (shl_ints (ns := ns)) (i := i) (d := .int z) (by
      unfold atI at e1 ⊢
      rw [List.length_map]
      cases q : ixN ns.length i with
      | none => rw [q] at e1; cases e1
      | some j =>
        rw [q] at e1
        have e1 : ns[j]? = some z := e1
        show (ns.map D.int)[j]? = _
        rw [List.getElem?_map, e1]; rfl)
    rw [G.hK] at ha
    rw [hy.intI]
    exact .inl (.inl ⟨a, _, i, w, rfl, rfl, ha, h1, Post.here P S (Ow.sh h2)⟩)
  · rename_i z i
    split at hg
    · rename_i hz
      obtain ⟨c, e1, rfl⟩ := Option.map_eq_some_iff.mp hg
      rw [hx.strI, hy.intI]
      exact .inl (.inr (.inr ⟨z, i, c, rfl, rfl, lim_le hz, e1, Post.here P S (Ow.sh (.str _))⟩))
    · cases hg
  · rename_i ks vs d
    obtain ⟨k, e1, e2⟩ := Option.bind_eq_some_iff.mp hg
    obtain ⟨z, e3, rfl⟩ := Option.map_eq_some_iff.mp e2
    obtain ⟨a, us, rfl, ha, hl, ra⟩ := hx.dicI
    obtain ⟨w, h1, h2⟩ := keyV_val ra e3
    have ey := keyD_eq e1 hy
    subst ey
    have g := DGet.k (k := k) ha
    rw [h1] at g
    exact .inr ⟨a, w, rfl, g, Post.here P S (Ow.sh h2)⟩
  · cases hg
theorem ev_idx (G : Good Γ) {k : Nat} (hr : Room k Γ.X.A) (ha : EvO Γ a fa) (hb : EvO Γ b fb) (hs : PlainIx b := by exact fun _ _ => rfl) : EvE Γ (.Subscript a b pos) (op2 idxD fa fb) :=
  ev_op2 (ta := rIsA) (mk := fun x _ => x) ha hb (fun _ _ p q => pe_ix (ix_seq.or (ix_dict (by have := hr.un; omega))) p q hs) (does_idx G)

/-! ### slices -/
def cutD {α : Type} (xs : List α) (lo hi : Option Int) : List α := (xs.drop (HT.sIx xs.length 0 lo)).take (HT.sIx xs.length xs.length hi - HT.sIx xs.length 0 lo)
theorem cut_sh {C : RC} {Z : Fp} {H : Hp} {us : List V} {ds : List D} (r : ShL C Z H us ds) (lo hi : Option Int) : ShL C Z H (cutV us lo hi) (cutD ds lo hi) := by
  unfold cutV cutD
  rw [r.length]
  exact (r.drop _).take _
def slD (d : D) (lo hi : Option Int) : Option (D × Nat) :=
  match d with
  | .tup xs => some (.tup (cutD xs lo hi), 0)
  | .lst xs => some (.lst (cutD xs lo hi), 1)
  | .scr ns => some (.lst ((cutD ns lo hi).map D.int), 1)
  | _ => none
/-- a part of a slice -/
def EvP (Γ : Ct) (e : Option Expr) (f : En → R (Option Int)) : Prop := ∃ t, PO Γ.X e t ∧ Ev Γ (fun _ _ _ _ (i : Option Int) (j : Option Int) => i = j) f t
def pNone : En → R (Option Int) := fun env => .ok none env
def pSome (f : En → R D) : En → R (Option Int) := fun env => (f env).bind fun d env1 => match d with
  | .int i => .ok (some i) env1
  | _ => .no
theorem ep_none : EvP Γ none pNone := ⟨_, po_none, fun σ H Z env φ S Q P => Post.here P S rfl⟩
theorem ep_some {f : En → R D} (h : EvV Γ e f) : EvP Γ (some e) (pSome f) := by
  obtain ⟨t, h1, h2⟩ := h
  refine ⟨_, po_some h1, fun σ H Z env φ S Q P => ?_⟩
  refine h2.bind S P fun d env1 v H1 Z1 φ1 A e1 S1 o dj ev P1 => ?_
  have P2 := P1.mono (Evo.refl.sub (F2 := Tot φ1) fun _ z => .inl z)
  cases d with
  | int i => exact ⟨i, (Rd1.sh (C := Γ.C) o).intI, Post.here P2 S1 rfl⟩
  | _ => exact P2.elim
def opS (fa : En → R Opd) (fl fu : En → R (Option Int)) : En → R (D × Nat) := fun env => (fa env).bind fun oa env1 => (fl env1).bind fun l env2 => (fu env2).bind fun u env3 =>
  match oa.get env3 with
  | some d => R.of (slD d l u) env3
  | none => .no
abbrev rSlAll (K : PySem.W.Frag) : V → Option Int → Option Int → Hp → VK → Prop := fun x lo hi H Q => rSlL K x lo hi H Q ∨ rSlA K x lo hi H Q
theorem ev_slice (G : Good Γ) {lo hi : Option Expr} {fl fu : En → R (Option Int)} (ha : EvO Γ a fa) (hl : EvP Γ lo fl) (hu : EvP Γ hi fu) : EvE Γ (.Subscript a (.Slice lo hi none q) pos) (opS fa fl fu) := by
  obtain ⟨ta, a1, a2⟩ := ha
  obtain ⟨tl, l1, l2⟩ := hl
  obtain ⟨tu, u1, u2⟩ := hu
  refine ⟨_, pe_slice (sl_list.or sl_tupA) a1 l1 u1, fun σ H Z env φ S Q P => ?_⟩
  refine a2.bind S P fun oa env1 x H1 Z1 φ1 A e1 S1 q1 dj1 ev1 P1 => ?_
  refine l2.bind S1 (P1.mono (Evo.refl.sub fun _ z => .inl z)) fun l env2 l' H2 Z2 φ2 B e2 S2 q2 dj2 ev2 P2 => ?_
  cases (show l = l' from q2)
  refine u2.bind S2 (P2.mono (Evo.refl.sub fun _ z => .inl z)) fun u env3 u' H3 Z3 φ3 B3 e3 S3 q3 dj3 ev3 P3 => ?_
  cases (show u = u' from q3)
  have P4 := P3.mono (Evo.refl.sub (F2 := Tot φ3) fun _ z => .inl z)
  have q1' : OR Γ.C σ B3 Z3 H3 oa x := OR.go (S2.ext ev3) (OR.go (B := B) (S1.ext ev2) q1)
  cases ga : oa.get env3 with
  | none => rw [ga] at P4; exact P4.elim
  | some d =>
    simp only [ga] at P4
    have rd := Opd.rd S3 q1' ga
    unfold slD at P4
    split at P4
    · rename_i xs
      obtain ⟨z, us, rfl, hz, r⟩ := rd.tupI
      have hz' := hz
      rw [G.hK] at hz'
      refine .inr ⟨z, us, rfl, hz', fun hw => ?_, fun hw p hp => ?_⟩
      · have e : cutD xs l u = xs := by
          unfold cutD
          rw [← r.length, hw.1, hw.2, List.drop_zero, Nat.sub_zero, r.length, List.take_length]
        rw [e] at P4
        exact Post.here P4 S3 (Ow.sh (.tup hz r))
      · exact Post.newT P4 S3 hp (Ow.sh (.tup (SqT.of upd_same) ((cut_sh r l u).ext (Ext.new hp))))
    · rename_i xs
      obtain ⟨z, us, rfl, hz, r⟩ := rd.lstI
      exact .inl ⟨z, us, rfl, SqL.of hz, fun p hp => Post.newL P4 S3 hp (Ow.lst1 upd_same ((cut_sh r l u).ext (Ext.new hp)))⟩
    · rename_i ns
      obtain ⟨z, rfl, hz⟩ := rd.scrI
      rw [G.hK] at hz
      refine .inl ⟨z, _, rfl, hz, fun p hp => ?_⟩
      have r : ShL Γ.C Z3 H3 (cutV (ns.map V.int) l u) ((cutD ns l u).map D.int) := by
        have e : cutV (ns.map V.int) l u = (cutD ns l u).map V.int := by
          unfold cutV cutD
          rw [List.length_map, List.map_take, List.map_drop]
        rw [e]
        exact shl_ints
      exact Post.newL P4 S3 hp (Ow.lst1 upd_same (r.ext (Ext.new hp)))
    · exact P4.elim

/-! ### calls of built-ins -/
theorem ev_b1 {id : String} {r : List V → Hp → VK → Prop} {g : D → Option (D × Nat)} (hc : CallR Γ.X (.builtin id) r) (hr : Does1 Γ g (fun v H Q => r [v] H Q)) (hg : Gl Γ.X x) (hm : Γ.X.mg x = none) (hv : bootBuiltins x = some (.builtin id)) (ha : EvO Γ a fa)
    (hn : x ≠ "__name__" := by decide) (hdb : (x == ("__debug__" : Str)) = false := by decide) (hs : starEach [a] Γ.X.env = [(false, eval a Γ.X.env)] := by rfl) : EvE Γ (.Call (.Name x p) [a] [] pos) (op1 g fa) := by
  obtain ⟨t, h1, h2⟩ := ha
  have pa : PA Γ.X [a] (tCons t tNil) := pa_cons h1 pa_nil hs
  exact ⟨_, pe_callB hc hg hm hv pa hn hdb hs rfl, h2.op1 hr⟩
theorem ev_t1 {T : String} {r : List V → Hp → VK → Prop} {g : D → Option (D × Nat)} (hc : CallR Γ.X (.type T) r) (hr : Does1 Γ g (fun v H Q => r [v] H Q)) (hg : Gl Γ.X x) (hm : Γ.X.mg x = none) (hv : bootBuiltins x = some (.type T)) (ha : EvO Γ a fa)
    (hn : x ≠ "__name__" := by decide) (hdb : (x == ("__debug__" : Str)) = false := by decide) (hs : starEach [a] Γ.X.env = [(false, eval a Γ.X.env)] := by rfl) : EvE Γ (.Call (.Name x p) [a] [] pos) (op1 g fa) := by
  obtain ⟨t, h1, h2⟩ := ha
  have pa : PA Γ.X [a] (tCons t tNil) := pa_cons h1 pa_nil hs
  exact ⟨_, pe_callTy hc hg hm hv pa hn hdb hs rfl, h2.op1 hr⟩
theorem ev_b2 {id : String} {r : List V → Hp → VK → Prop} {g : D → D → Option (D × Nat)} (hc : CallR Γ.X (.builtin id) r) (hr : Does2 Γ g (fun v w H Q => r [v, w] H Q)) (hg : Gl Γ.X x) (hm : Γ.X.mg x = none) (hv : bootBuiltins x = some (.builtin id)) (ha : EvO Γ a fa) (hb : EvO Γ b fb)
    (hn : x ≠ "__name__" := by decide) (hdb : (x == ("__debug__" : Str)) = false := by decide) (hs : starEach [a, b] Γ.X.env = [(false, eval a Γ.X.env), (false, eval b Γ.X.env)] := by rfl) (hs2 : starEach [b] Γ.X.env = [(false, eval b Γ.X.env)] := by rfl) : EvE Γ (.Call (.Name x p) [a, b] [] pos) (op2 g fa fb) := by
  refine ev_op2 (ta := rIsA) (mk := fun x _ => x) ha hb (fun ta tb h1 h2 => ?_) hr
  have pb : PA Γ.X [b] (tCons tb tNil) := pa_cons h2 pa_nil hs2
  have pa : PA Γ.X [a, b] (tCons ta (tCons tb tNil)) := pa_cons h1 pb (by rw [hs, hs2])
  exact pe_callB hc hg hm hv pa hn hdb (by rw [hs, hs2]) (by rw [hs2]; rfl)
theorem does1_here {g : D → Option (D × Nat)} {r : V → Hp → VK → Prop} (k : ∀ (Z : Fp) (H : Hp) (x : V) (d e : D), Rd1 Γ.C Z H x d → g d = some (e, 0) → ∀ Q : VK, (∀ v, Sh Γ.C Z H v e → Q v H) → r x H Q) (h0 : ∀ d p, g d = some p → p.2 = 0) : Does1 Γ g r := by
  intro σ H Z env φ S x d p hx hg Q P
  obtain ⟨e, n⟩ := p
  have en := h0 d _ hg
  simp only at en
  subst en
  exact k Z H x d e hx hg Q fun v hv => Post.here P S (Ow.sh hv)

def lenD : D → Option (D × Nat)
  | .tup xs => some (.int xs.length, 0)
  | .lst xs => some (.int xs.length, 0)
  | .scr ns => some (.int ns.length, 0)
  | .str z => if z.length ≤ lim then some (.int z.length, 0) else none
  | .dic ks _ => some (.int ks.length, 0)
  | _ => none
abbrev rLenA (K : PySem.W.Frag) : List V → Hp → VK → Prop := fun xs H Q => (∃ p ys, xs = [.ref p] ∧ (SqL K H p ys ∨ SqT K H p ys) ∧ Q (.int ys.length) H) ∨ (∃ z, xs = [.str z] ∧ z.length ≤ sizeLine ∧ Q (.int z.length) H) ∨ (∃ a kvs, xs = [V.ref a] ∧ H a = some (.dK kvs) ∧ Q (.int kvs.length) H)
theorem does_len (G : Good Γ) : Does1 Γ lenD (fun v H Q => rLenA Γ.X.K [v] H Q) := by
  intro σ H Z env φ S x d p hx hg Q P
  unfold lenD at hg
  split at hg
  · cases hg
    obtain ⟨a, us, rfl, ha, r⟩ := hx.tupI
    rw [G.hK] at ha
    exact .inl ⟨a, us, rfl, .inr ha, by rw [r.length]; exact Post.here P S (Ow.sh (.int _))⟩
  · cases hg
    obtain ⟨a, us, rfl, ha, r⟩ := hx.lstI
    exact .inl ⟨a, us, rfl, .inl (SqL.of ha), by rw [r.length]; exact Post.here P S (Ow.sh (.int _))⟩
  · cases hg
    obtain ⟨a, rfl, ha⟩ := hx.scrI
    rw [G.hK] at ha
    exact .inl ⟨a, _, rfl, .inl ha, by rw [List.length_map]; exact Post.here P S (Ow.sh (.int _))⟩
  · split at hg
    · rename_i hz
      cases hg
      rw [hx.strI]
      exact .inr (.inl ⟨_, rfl, lim_le hz, Post.here P S (Ow.sh (.int _))⟩)
    · cases hg
  · cases hg
    obtain ⟨a, us, rfl, ha, hl, r⟩ := hx.dicI
    refine .inr (.inr ⟨a, _, rfl, ha, ?_⟩)
    rw [List.length_zip, hl, Nat.min_self, ← hl]
    exact Post.here P S (Ow.sh (.int _))
  · cases hg
theorem ev_len (G : Good Γ) (hg : Gl Γ.X "len") (hm : Γ.X.mg "len" = none) (ha : EvO Γ a fa) (hs : starEach [a] Γ.X.env = [(false, eval a Γ.X.env)] := by rfl) : EvE Γ (.Call (.Name "len" p) [a] [] pos) (op1 lenD fa) :=
  ev_b1 (CallR.or call_len_seq (CallR.or call_len_str call_lenD)) (does_len G) hg hm PySem.boot_len ha (hs := hs)

def intD : D → Option (D × Nat)
  | .int i => some (.int i, 0)
  | .bl b => some (.int (if b then 1 else 0), 0)
  | _ => none
theorem ev_int1 (hg : Gl Γ.X "int") (hm : Γ.X.mg "int" = none) (ha : EvO Γ a fa) (hs : starEach [a] Γ.X.env = [(false, eval a Γ.X.env)] := by rfl) : EvE Γ (.Call (.Name "int" p) [a] [] pos) (op1 intD fa) :=
  ev_t1 call_int1 (fun σ H Z env φ S x d p hx hg Q P => by
    unfold intD at hg
    split at hg
    · cases hg
      rw [hx.intI]
      exact .inl ⟨_, rfl, Post.here P S (Ow.sh (.int _))⟩
    · cases hg
      rw [hx.blI]
      exact .inr ⟨_, rfl, Post.here P S (Ow.sh (.int _))⟩
    · cases hg) hg hm (by decide +kernel) ha (hs := hs)
def tupD : D → Option (D × Nat)
  | .tup xs => some (.tup xs, 0)
  | .lst xs => some (.tup xs, 0)
  | _ => none
theorem ev_tuple (G : Good Γ) (hg : Gl Γ.X "tuple") (hm : Γ.X.mg "tuple" = none) (ha : EvO Γ a fa) (hs : starEach [a] Γ.X.env = [(false, eval a Γ.X.env)] := by rfl) : EvE Γ (.Call (.Name "tuple" p) [a] [] pos) (op1 tupD fa) :=
  ev_t1 call_tuple_of (fun σ H Z env φ S x d p hx hg Q P => by
    unfold tupD at hg
    split at hg
    · cases hg
      obtain ⟨a, us, rfl, ha, r⟩ := hx.tupI
      have ha' := ha
      rw [G.hK] at ha'
      exact ⟨a, us, rfl, .inr ⟨ha', Post.here P S (Ow.sh (.tup ha r))⟩⟩
    · cases hg
      obtain ⟨a, us, rfl, ha, r⟩ := hx.lstI
      exact ⟨a, us, rfl, .inl ⟨SqL.of ha, fun l hl => Post.newT P S hl (Ow.sh (.tup (SqT.of upd_same) (r.ext (Ext.new hl))))⟩⟩
    · cases hg) hg hm (by decide +kernel) ha (hs := hs)
def lisD : D → Option (D × Nat)
  | .tup xs => some (.lst xs, 1)
  | .lst xs => some (.lst xs, 1)
  | .scr ns => some (.lst (ns.map D.int), 1)
  | _ => none
theorem ev_list (G : Good Γ) (hg : Gl Γ.X "list") (hm : Γ.X.mg "list" = none) (ha : EvO Γ a fa) (hs : starEach [a] Γ.X.env = [(false, eval a Γ.X.env)] := by rfl) : EvE Γ (.Call (.Name "list" p) [a] [] pos) (op1 lisD fa) :=
  ev_t1 call_list_of (fun σ H Z env φ S x d p hx hg Q P => by
    unfold lisD at hg
    split at hg
    · cases hg
      obtain ⟨a, us, rfl, ha, r⟩ := hx.tupI
      rw [G.hK] at ha
      exact ⟨a, us, rfl, .inr ha, fun l hl => Post.newL P S hl (Ow.lst1 upd_same (r.ext (Ext.new hl)))⟩
    · cases hg
      obtain ⟨a, us, rfl, ha, r⟩ := hx.lstI
      exact ⟨a, us, rfl, .inl (SqL.of ha), fun l hl => Post.newL P S hl (Ow.lst1 upd_same (r.ext (Ext.new hl)))⟩
    · cases hg
      obtain ⟨a, rfl, ha⟩ := hx.scrI
      rw [G.hK] at ha
      exact ⟨a, _, rfl, .inl ha, fun l hl => Post.newL P S hl (Ow.lst1 upd_same (shl_ints.ext (Ext.new hl)))⟩
    · cases hg) hg hm (by decide +kernel) ha (hs := hs)
def absD : D → Option (D × Nat)
  | .int i => some (.int (if i < 0 then -i else i), 0)
  | _ => none
theorem ev_abs (hg : Gl Γ.X "abs") (hm : Γ.X.mg "abs" = none) (ha : EvO Γ a fa) (hs : starEach [a] Γ.X.env = [(false, eval a Γ.X.env)] := by rfl) : EvE Γ (.Call (.Name "abs" p) [a] [] pos) (op1 absD fa) :=
  ev_b1 call_abs (fun σ H Z env φ S x d p hx hg Q P => by
    unfold absD at hg
    split at hg
    · cases hg
      rw [hx.intI]
      exact ⟨_, rfl, Post.here P S (Ow.sh (.int _))⟩
    · cases hg) hg hm (by decide +kernel) ha (hs := hs)
def sumD : D → Option (D × Nat)
  | .lst xs => (D.ints xs).map fun ns => (.int ns.sum, 0)
  | _ => none
theorem ev_sum (G : Good Γ) (hg : Gl Γ.X "sum") (hm : Γ.X.mg "sum" = none) (ha : EvO Γ a fa) (hs : starEach [a] Γ.X.env = [(false, eval a Γ.X.env)] := by rfl) : EvE Γ (.Call (.Name "sum" p) [a] [] pos) (op1 sumD fa) :=
  ev_b1 (cr_sum G.calm) (fun σ H Z env φ S x d p hx hg Q P => by
    unfold sumD at hg
    split at hg
    · obtain ⟨ns, e1, rfl⟩ := Option.map_eq_some_iff.mp hg
      obtain ⟨a, us, rfl, ha, r⟩ := hx.lstI
      rw [D.ints_eq e1] at r
      rw [r.ints] at ha
      exact ⟨a, ns, rfl, SqL.of ha, Post.here P S (Ow.sh (.int _))⟩
    · cases hg) hg hm (by decide +kernel) ha (hs := hs)
def D.bls : List D → Option (List Bool)
  | [] => some []
  | .bl i :: r => (D.bls r).map (i :: ·)
  | _ :: _ => none
theorem D.bls_eq : ∀ {ds : List D} {ns : List Bool}, D.bls ds = some ns → ds = ns.map D.bl
  | [], ns, h => by cases h; rfl
  | .bl i :: r, ns, h => by
    unfold D.bls at h
    obtain ⟨ms, e, rfl⟩ := Option.map_eq_some_iff.mp h
    rw [List.map_cons, ← D.bls_eq e]
  | .non :: _, _, h => by cases h
  | .int _ :: _, _, h => by cases h
  | .str _ :: _, _, h => by cases h
  | .fn _ :: _, _, h => by cases h
  | .tup _ :: _, _, h => by cases h
  | .lst _ :: _, _, h => by cases h
  | .dic _ _ :: _, _, h => by cases h
  | .scr _ :: _, _, h => by cases h
@[simp] theorem D.bls_map : ∀ ns : List Bool, D.bls (ns.map D.bl) = some ns
  | [] => rfl
  | n :: ns => by rw [List.map_cons, D.bls, D.bls_map ns]; rfl
def anyD : D → Option (D × Nat)
  | .lst xs => (D.bls xs).map fun ns => (.bl (ns.any id), 0)
  | _ => none
def allD : D → Option (D × Nat)
  | .lst xs => (D.bls xs).map fun ns => (.bl (ns.all id), 0)
  | _ => none
theorem ev_any (G : Good Γ) (hg : Gl Γ.X "any") (hm : Γ.X.mg "any" = none) (ha : EvO Γ a fa) (hs : starEach [a] Γ.X.env = [(false, eval a Γ.X.env)] := by rfl) : EvE Γ (.Call (.Name "any" p) [a] [] pos) (op1 anyD fa) :=
  ev_b1 (cr_any G.calm) (fun σ H Z env φ S x d p hx hg Q P => by
    unfold anyD at hg
    split at hg
    · obtain ⟨ns, e1, rfl⟩ := Option.map_eq_some_iff.mp hg
      obtain ⟨a, us, rfl, ha, r⟩ := hx.lstI
      rw [D.bls_eq e1] at r
      rw [r.bools] at ha
      exact ⟨a, ns, rfl, SqL.of ha, Post.here P S (Ow.sh (.bl _))⟩
    · cases hg) hg hm (by decide +kernel) ha (hs := hs)
theorem ev_all (G : Good Γ) (hg : Gl Γ.X "all") (hm : Γ.X.mg "all" = none) (ha : EvO Γ a fa) (hs : starEach [a] Γ.X.env = [(false, eval a Γ.X.env)] := by rfl) : EvE Γ (.Call (.Name "all" p) [a] [] pos) (op1 allD fa) :=
  ev_b1 (cr_all G.calm) (fun σ H Z env φ S x d p hx hg Q P => by
    unfold allD at hg
    split at hg
    · obtain ⟨ns, e1, rfl⟩ := Option.map_eq_some_iff.mp hg
      obtain ⟨a, us, rfl, ha, r⟩ := hx.lstI
      rw [D.bls_eq e1] at r
      rw [r.bools] at ha
      exact ⟨a, ns, rfl, SqL.of ha, Post.here P S (Ow.sh (.bl _))⟩
    · cases hg) hg hm (by decide +kernel) ha (hs := hs)

/-! max, min of two ints, of a list or tuple of ints -/
def max2D : D → D → Option (D × Nat)
  | .int i, .int j => some (.int (max i j), 0)
  | _, _ => none
def min2D : D → D → Option (D × Nat)
  | .int i, .int j => some (.int (min i j), 0)
  | _, _ => none
theorem ev_max2 (G : Good Γ) (hg : Gl Γ.X "max") (hm : Γ.X.mg "max" = none) (ha : EvO Γ a fa) (hb : EvO Γ b fb) (hs : starEach [a, b] Γ.X.env = [(false, eval a Γ.X.env), (false, eval b Γ.X.env)] := by rfl) (hs2 : starEach [b] Γ.X.env = [(false, eval b Γ.X.env)] := by rfl) : EvE Γ (.Call (.Name "max" p) [a, b] [] pos) (op2 max2D fa fb) :=
  ev_b2 (call_max2 G.calm) (fun σ H Z env φ S x y d e p hx hy hg Q P => by
    unfold max2D at hg
    split at hg
    · rename_i i j
      cases hg
      rw [hx.intI, hy.intI]
      refine ⟨_, _, rfl, ?_⟩
      have e : (if j > i then j else i) = max i j := by rw [Int.max_def]; split <;> split <;> omega
      rw [e]
      exact Post.here P S (Ow.sh (.int _))
    · cases hg) hg hm (by decide +kernel) ha hb (hs := hs) (hs2 := hs2)
theorem ev_min2 (G : Good Γ) (hg : Gl Γ.X "min") (hm : Γ.X.mg "min" = none) (ha : EvO Γ a fa) (hb : EvO Γ b fb) (hs : starEach [a, b] Γ.X.env = [(false, eval a Γ.X.env), (false, eval b Γ.X.env)] := by rfl) (hs2 : starEach [b] Γ.X.env = [(false, eval b Γ.X.env)] := by rfl) : EvE Γ (.Call (.Name "min" p) [a, b] [] pos) (op2 min2D fa fb) :=
  ev_b2 (call_min2 G.calm) (fun σ H Z env φ S x y d e p hx hy hg Q P => by
    unfold min2D at hg
    split at hg
    · rename_i i j
      cases hg
      rw [hx.intI, hy.intI]
      refine ⟨_, _, rfl, ?_⟩
      have e : (if j < i then j else i) = min i j := by rw [Int.min_def]; split <;> split <;> omega
      rw [e]
      exact Post.here P S (Ow.sh (.int _))
    · cases hg) hg hm (by decide +kernel) ha hb (hs := hs) (hs2 := hs2)
theorem foldl_max_le (ns : List Int) : ∀ n : Int, n ≤ ns.foldl max n ∧ ∀ y ∈ ns, y ≤ ns.foldl max n := by
  induction ns with
  | nil => intro n; exact ⟨Int.le_refl _, fun _ h => by cases h⟩
  | cons m ns ih =>
    intro n
    obtain ⟨h1, h2⟩ := ih (max n m)
    rw [List.foldl_cons]
    exact ⟨by omega, fun y hy => (List.mem_cons.mp hy).elim (fun e => by subst e; omega) (h2 y)⟩
theorem foldl_max_mem (ns : List Int) : ∀ n : Int, ns.foldl max n = n ∨ ns.foldl max n ∈ ns := by
  induction ns with
  | nil => intro n; exact .inl rfl
  | cons m ns ih =>
    intro n
    rw [List.foldl_cons]
    rcases ih (max n m) with h | h
    · rw [h]
      rcases Int.le_total n m with q | q
      · rw [Int.max_eq_right q]; exact .inr List.mem_cons_self
      · rw [Int.max_eq_left q]; exact .inl rfl
    · exact .inr (List.mem_cons_of_mem _ h)
theorem foldl_min_le (ns : List Int) : ∀ n : Int, ns.foldl min n ≤ n ∧ ∀ y ∈ ns, ns.foldl min n ≤ y := by
  induction ns with
  | nil => intro n; exact ⟨Int.le_refl _, fun _ h => by cases h⟩
  | cons m ns ih =>
    intro n
    obtain ⟨h1, h2⟩ := ih (min n m)
    rw [List.foldl_cons]
    exact ⟨by omega, fun y hy => (List.mem_cons.mp hy).elim (fun e => by subst e; omega) (h2 y)⟩
theorem foldl_min_mem (ns : List Int) : ∀ n : Int, ns.foldl min n = n ∨ ns.foldl min n ∈ ns := by
  induction ns with
  | nil => intro n; exact .inl rfl
  | cons m ns ih =>
    intro n
    rw [List.foldl_cons]
    rcases ih (min n m) with h | h
    · rw [h]
      rcases Int.le_total n m with q | q
      · rw [Int.min_eq_left q]; exact .inl rfl
      · rw [Int.min_eq_right q]; exact .inr List.mem_cons_self
    · exact .inr (List.mem_cons_of_mem _ h)
def maxI : List Int → Option Int
  | [] => none
  | n :: ns => some (ns.foldl max n)
def minI : List Int → Option Int
  | [] => none
  | n :: ns => some (ns.foldl min n)
def seqI : D → Option (List Int)
  | .lst xs => D.ints xs
  | .tup xs => D.ints xs
  | _ => none
def maxD1 (d : D) : Option (D × Nat) := (seqI d).bind fun ns => (maxI ns).map fun m => (.int m, 0)
def minD1 (d : D) : Option (D × Nat) := (seqI d).bind fun ns => (minI ns).map fun m => (.int m, 0)
def rMaxT (K : PySem.W.Frag) : List V → Hp → VK → Prop := fun vs H Q => ∃ (a : Addr) (n : Int) (ns : List Int), vs = [V.ref a] ∧ SqT K H a ((n :: ns).map V.int) ∧ Q (.int (ns.foldl max n)) H
def rMinT (K : PySem.W.Frag) : List V → Hp → VK → Prop := fun vs H Q => ∃ (a : Addr) (n : Int) (ns : List Int), vs = [V.ref a] ∧ SqT K H a ((n :: ns).map V.int) ∧ Q (.int (ns.foldl min n)) H
theorem readsAll_ints {h : Heap} : ∀ {ns : List Int} {us : List Value}, Vals (ns.map V.int) us → ∃ as, ReadsAll h us (ns.map PyData.int) as
  | [], _, r => by cases r; exact ⟨_, .nil⟩
  | n :: ns, _, r => by
    cases r with
    | cons r rr =>
      obtain ⟨t, rfl⟩ := r
      obtain ⟨as, q⟩ := readsAll_ints rr
      exact ⟨_, .cons (Reads.int n t) q⟩
theorem alikeAll_ints (ns : List Int) : PySem.W.AlikeAll (ns.map PyData.int) := by
  refine ⟨fun x hx y hy => ?_, fun x hx e => ?_⟩
  · obtain ⟨i, _, rfl⟩ := List.mem_map.mp hx
    obtain ⟨j, _, rfl⟩ := List.mem_map.mp hy
    rfl
  · obtain ⟨i, _, rfl⟩ := List.mem_map.mp hx
    cases e
theorem depthAll_ints (ns : List Int) : PyData.depthAll (ns.map PyData.int) = 0 := by
  induction ns with
  | nil => simp [PyData.depthAll]
  | cons n ns ih =>
    rw [List.map_cons, PyData.depthAll, ih]
    simp [PyData.depth]
theorem cr_maxT {X : Cx} {k : Nat} (hc : X.calm = true) (hr : Room k X.A) : CallR X (.builtin "max") (rMaxT X.K) := by
  intro pins s σ H vs us Q I r h
  obtain ⟨a, n, ns, rfl, hs, q⟩ := h
  obtain ⟨its, rv, hl, _⟩ := I.tuple hs
  rw [Vals.ref1 r]
  obtain ⟨as, ra⟩ := readsAll_ints (h := s.heap) rv
  refine PySem.W.max_tuple_data (I.ok.hd hc) (show s.heap.IsTuple a its.toArray from hl) (x := .int n) (xs := ns.map .int) (as := as) (by simpa using ra) (by simpa using alikeAll_ints (n :: ns)) (by
    have := hr.un
    have e := depthAll_ints (n :: ns)
    rw [List.map_cons] at e
    rw [e]; omega) fun i v h' tk bs hi hv hk => ?_
  rw [PySem.W.maxD_ints] at hv
  cases hv with
  | int _ t => exact ⟨.int _, H, I.kept hk, ⟨t, rfl⟩, q⟩
theorem cr_minT {X : Cx} {k : Nat} (hc : X.calm = true) (hr : Room k X.A) : CallR X (.builtin "min") (rMinT X.K) := by
  intro pins s σ H vs us Q I r h
  obtain ⟨a, n, ns, rfl, hs, q⟩ := h
  obtain ⟨its, rv, hl, _⟩ := I.tuple hs
  rw [Vals.ref1 r]
  obtain ⟨as, ra⟩ := readsAll_ints (h := s.heap) rv
  refine PySem.W.min_tuple_data (I.ok.hd hc) (show s.heap.IsTuple a its.toArray from hl) (x := .int n) (xs := ns.map .int) (as := as) (by simpa using ra) (by simpa using alikeAll_ints (n :: ns)) (by
    have := hr.un
    have e := depthAll_ints (n :: ns)
    rw [List.map_cons] at e
    rw [e]; omega) fun i v h' tk bs hi hv hk => ?_
  rw [PySem.W.minD_ints] at hv
  cases hv with
  | int _ t => exact ⟨.int _, H, I.kept hk, ⟨t, rfl⟩, q⟩
theorem ev_max1 (G : Good Γ) {k : Nat} (hr : Room k Γ.X.A) (hg : Gl Γ.X "max") (hm : Γ.X.mg "max" = none) (ha : EvO Γ a fa) (hs : starEach [a] Γ.X.env = [(false, eval a Γ.X.env)] := by rfl) : EvE Γ (.Call (.Name "max" p) [a] [] pos) (op1 maxD1 fa) :=
  ev_b1 (CallR.or (cr_max G.calm) (cr_maxT G.calm hr)) (fun σ H Z env φ S x d p hx hg Q P => by
    unfold maxD1 at hg
    obtain ⟨ns, e1, e2⟩ := Option.bind_eq_some_iff.mp hg
    obtain ⟨m, e3, rfl⟩ := Option.map_eq_some_iff.mp e2
    cases ns with
    | nil => cases e3
    | cons n ns =>
      cases e3
      unfold seqI at e1
      split at e1
      · obtain ⟨a, us, rfl, ha, r⟩ := hx.lstI
        rw [D.ints_eq e1] at r
        rw [r.ints] at ha
        refine .inl ⟨a, n :: ns, rfl, SqL.of ha, Nat.zero_lt_succ _, fun m hm h => ?_⟩
        have e : m = ns.foldl max n := by
          obtain ⟨h1, h2⟩ := foldl_max_le ns n
          have h3 : m ≤ ns.foldl max n := (List.mem_cons.mp hm).elim (fun e => by rw [e]; exact h1) (h2 m)
          have h4 : ns.foldl max n ≤ m := by
            rcases foldl_max_mem ns n with e | e
            · rw [e]; exact h n List.mem_cons_self
            · exact h _ (List.mem_cons_of_mem _ e)
          omega
        rw [e]
        exact Post.here P S (Ow.sh (.int _))
      · obtain ⟨a, us, rfl, ha, r⟩ := hx.tupI
        rw [D.ints_eq e1] at r
        rw [r.ints, G.hK] at ha
        exact .inr ⟨a, n, ns, rfl, ha, Post.here P S (Ow.sh (.int _))⟩
      · cases e1) hg hm (by decide +kernel) ha (hs := hs)
theorem ev_min1 (G : Good Γ) {k : Nat} (hr : Room k Γ.X.A) (hg : Gl Γ.X "min") (hm : Γ.X.mg "min" = none) (ha : EvO Γ a fa) (hs : starEach [a] Γ.X.env = [(false, eval a Γ.X.env)] := by rfl) : EvE Γ (.Call (.Name "min" p) [a] [] pos) (op1 minD1 fa) :=
  ev_b1 (CallR.or (cr_min G.calm) (cr_minT G.calm hr)) (fun σ H Z env φ S x d p hx hg Q P => by
    unfold minD1 at hg
    obtain ⟨ns, e1, e2⟩ := Option.bind_eq_some_iff.mp hg
    obtain ⟨m, e3, rfl⟩ := Option.map_eq_some_iff.mp e2
    cases ns with
    | nil => cases e3
    | cons n ns =>
      cases e3
      unfold seqI at e1
      split at e1
      · obtain ⟨a, us, rfl, ha, r⟩ := hx.lstI
        rw [D.ints_eq e1] at r
        rw [r.ints] at ha
        refine .inl ⟨a, n :: ns, rfl, SqL.of ha, Nat.zero_lt_succ _, fun m hm h => ?_⟩
        have e : m = ns.foldl min n := by
          obtain ⟨h1, h2⟩ := foldl_min_le ns n
          have h3 : ns.foldl min n ≤ m := (List.mem_cons.mp hm).elim (fun e => by rw [e]; exact h1) (h2 m)
          have h4 : m ≤ ns.foldl min n := by
            rcases foldl_min_mem ns n with e | e
            · rw [e]; exact h n List.mem_cons_self
            · exact h _ (List.mem_cons_of_mem _ e)
          omega
        rw [e]
        exact Post.here P S (Ow.sh (.int _))
      · obtain ⟨a, us, rfl, ha, r⟩ := hx.tupI
        rw [D.ints_eq e1] at r
        rw [r.ints, G.hK] at ha
        exact .inr ⟨a, n, ns, rfl, ha, Post.here P S (Ow.sh (.int _))⟩
      · cases e1) hg hm (by decide +kernel) ha (hs := hs)

/-! ### isinstance(e, T), T a built-in type -/
/-- the type's name of what data tells it -/
def tyD : D → Option String
  | .non => some "NoneType"
  | .bl _ => some "bool"
  | .int _ => some "int"
  | .str _ => some "str"
  | .tup _ => some "tuple"
  | .lst _ => some "list"
  | .dic _ _ => some "dict"
  | .scr _ => some "list"
  | .fn _ => none
def isiD (T : String) (d : D) : Option (D × Nat) := (tyD d).bind fun s => if s = T then some (.bl true, 0) else if s = "bool" ∧ T = "int" then some (.bl true, 0) else some (.bl false, 0)
end
theorem SqT.tyx {K : PySem.W.Frag} {H : Hp} {a : Addr} {xs : List V} (h : SqT K H a xs) : TyX K H (.ref a) (.type "tuple") := by
  rcases h with (h | ⟨o, h⟩) | ⟨o, its, n, h1, h2, _⟩
  · exact .base (.tup h)
  · exact .fTuple h
  · exact .kTuple h1 h2
theorem SqL.tyx {K : PySem.W.Frag} {H : Hp} {a : Addr} {xs : List V} (h : SqL K H a xs) : TyX K H (.ref a) (.type "list") := by
  rcases h with (h | ⟨o, h⟩) | ⟨o, its, n, h1, h2, _⟩
  · exact .base (.lst h)
  · exact .base (.frz h)
  · exact .kList h1 h2
theorem tyD_x {C : RC} {Z : Fp} {H : Hp} {v : V} {d : D} {T : String} (h : Rd1 C Z H v d) (e : tyD d = some T) : TyX C.K H v (.type T) := by
  cases h with
  | sh h =>
    cases h with
    | non => cases e; exact .base .non
    | bl b => cases e; exact .base (.bl b)
    | int i => cases e; exact .base (.int i)
    | str x => cases e; exact .base (.str x)
    | fn _ => cases e
    | tup s r => cases e; exact SqT.tyx s
    | lst s z r => cases e; exact .base (.lst s)
    | dic s z l r => cases e; exact .base (.dK s)
    | scr s => cases e; exact SqL.tyx s.sqL
  | lst s r => cases e; exact .base (.lst s)
  | dic s l r => cases e; exact .base (.dK s)
/-- the types that the programs ask for -/
def isiTs : List String := ["int", "bool", "str", "tuple", "list", "dict"]
theorem kit_all : ∀ s ∈ ["NoneType", "bool", "int", "str", "tuple", "list", "dict"], ∀ T ∈ isiTs, kitB s T = some (decide (s = T) || (decide (s = "bool") && decide (T = "int"))) := by decide +kernel
theorem tyD_mem {d : D} {s : String} (h : tyD d = some s) : s ∈ ["NoneType", "bool", "int", "str", "tuple", "list", "dict"] := by
  cases d <;> first | (cases h; decide) | cases h
section
variable {Γ : Ct} {e a b c : Expr} {fa fb fc : En → R Opd} {pos p q : Pos} {x : Str}
theorem ev_isi (G : Good Γ) {T : String} (hT : T ∈ isiTs) (hx : bootBuiltins x = some (.type T)) (hg : Gl Γ.X "isinstance") (hm : Γ.X.mg "isinstance" = none) (hg2 : Gl Γ.X x) (hm2 : Γ.X.mg x = none) (ha : EvO Γ a fa)
    (hn : x ≠ "__name__" := by decide) (hdb : (x == ("__debug__" : Str)) = false := by decide) (hs : starEach [a, .Name x q] Γ.X.env = [(false, eval a Γ.X.env), (false, eval (.Name x q) Γ.X.env)] := by rfl) : EvE Γ (.Call (.Name "isinstance" p) [a, .Name x q] [] pos) (op1 (isiD T) fa) := by
  obtain ⟨t, h1, h2⟩ := ha
  have pb : PA Γ.X [.Name x q] (tCons (tC (.ty T)) tNil) := pa_cons (pe_bltn hg2 hm2 hx rfl hn hdb) pa_nil
  have pa : PA Γ.X [a, .Name x q] (tCons t (tCons (tC (.ty T)) tNil)) := pa_cons h1 pb (by rw [hs]; rfl)
  refine ⟨_, pe_callB call_isi hg hm (by decide +kernel) pa (by decide) (by decide) (by rw [hs]; rfl) rfl, ?_⟩
  have h3 := Ev.op1 (g := isiD T) (r := fun v H Q => rIsi Γ.X.K [v, .ty T] H Q) h2 (fun σ H Z env φ S x d p hx hg Q P => by
    unfold isiD at hg
    obtain ⟨s, e1, e2⟩ := Option.bind_eq_some_iff.mp hg
    have k := kit_all s (tyD_mem e1) T hT
    have ty := tyD_x hx e1
    rw [G.hK] at ty
    refine ⟨x, .ty T, _, _, _, rfl, .ty T, ty, kit_ty k, ?_⟩
    have e3 : p = (.bl (decide (s = T) || (decide (s = "bool") && decide (T = "int"))), 0) := by
      by_cases h : s = T
      · rw [if_pos h] at e2
        cases e2
        simp [h]
      · rw [if_neg h] at e2
        by_cases h' : s = "bool" ∧ T = "int"
        · rw [if_pos h'] at e2
          cases e2
          simp [h'.1, h'.2]
        · rw [if_neg h'] at e2
          cases e2
          have : (decide (s = T) || (decide (s = "bool") && decide (T = "int"))) = false := by
            rw [Bool.or_eq_false_iff, Bool.and_eq_false_iff]
            refine ⟨decide_eq_false h, ?_⟩
            by_cases q : s = "bool"
            · exact .inr (decide_eq_false fun z => h' ⟨q, z⟩)
            · exact .inl (decide_eq_false q)
          rw [this]
    rw [e3] at P
    exact Post.here P S (Ow.sh (.bl _)))
  exact h3
end
end Pv
end

section
set_option Elab.async false
set_option linter.all false
set_option maxRecDepth 100000
set_option maxHeartbeats 4000000
/-! Pv7: statements, blocks, defs and their calls. -/
namespace Pv
open PySem PySem.Spec PyProof.Rows L2

/-! ### statements -/
inductive SR where
  | nx (e : En) | ret (p : D × Nat) (e : En) | bk (e : En) | ct (e : En) | ex (x : Xn) | no
def PostS (Γ : Ct) (Z : Fp) (H : Hp) (F : Fp) (r : SR) (Dn : Ends) : Prop :=
  match r with
  | .nx env' => ∀ σ' H' Z' φ', SttC Γ Z' σ' H' env' φ' → Evo Z H F Z' H' (Tot φ') → Dn.nx σ' H'
  | .bk env' => ∀ σ' H' Z' φ', SttC Γ Z' σ' H' env' φ' → Evo Z H F Z' H' (Tot φ') → Dn.bk σ' H'
  | .ct env' => ∀ σ' H' Z' φ', SttC Γ Z' σ' H' env' φ' → Evo Z H F Z' H' (Tot φ') → Dn.ct σ' H'
  | .ret p env' => ∀ v σ' H' Z' φ' A, SttC Γ Z' σ' H' env' φ' → Ow Γ.C Z' H' p.2 v p.1 A → (∀ x, A x → ¬ Tot φ' x ∧ ¬ Z' x) → Evo Z H F Z' H' (fun x => Tot φ' x ∨ A x) → Dn.rt v H'
  | .ex x => ∀ σ', (∀ i ∈ Γ.io, σ'[i]? = Γ.σ₀[i]?) → (Γ.io ≠ [] → σ'.length = Γ.σ₀.length) → PostX Γ σ' Z H F x
  | .no => False
def EvsT (Γ : Ct) (f : En → SR) (t : TS) : Prop := ∀ σ H Z env φ, SttC Γ Z σ H env φ → ∀ Dn : Ends, PostS Γ Z H (Tot φ) (f env) Dn → t Dn σ H
def EvS (Γ : Ct) (st : Stmt) (f : En → SR) : Prop := ∃ t, PS Γ.X st t ∧ EvsT Γ f t
def EvB (Γ : Ct) (st : List Stmt) (f : En → SR) : Prop := ∃ t, PSs Γ.X st t ∧ EvsT Γ f t
section
variable {Γ : Ct} {α β γ δ : Type} {σ : L2.St} {Z Z1 : Fp} {H H1 : Hp} {F F1 : Fp}
theorem PostS.mono {r : SR} {Dn : Ends} (h : PostS Γ Z H F r Dn) (e : Evo Z H F Z1 H1 F1) : PostS Γ Z1 H1 F1 r Dn := by
  cases r with
  | nx env => exact fun σ' H' Z' φ' S e2 => h σ' H' Z' φ' S (e.trans e2)
  | bk env => exact fun σ' H' Z' φ' S e2 => h σ' H' Z' φ' S (e.trans e2)
  | ct env => exact fun σ' H' Z' φ' S e2 => h σ' H' Z' φ' S (e.trans e2)
  | ret p env => exact fun v σ' H' Z' φ' A S o d e2 => h v σ' H' Z' φ' A S o d (e.trans e2)
  | ex x => exact fun σ' hσ hl => (h σ' hσ hl).mono e
  | no => exact h
/-- an expression's result, then a statement's -/
def R.then {α : Type} (r : R α) (g : α → En → SR) : SR :=
  match r with
  | .ok a e => g a e
  | .ex x => .ex x
  | .no => .no
@[simp] theorem R.then_ok (a : α) (e : En) (g : α → En → SR) : (R.ok a e).then g = g a e := rfl
@[simp] theorem R.then_ex (x : Xn) (g : α → En → SR) : (R.ex x : R α).then g = .ex x := rfl
@[simp] theorem R.then_no (g : α → En → SR) : (R.no : R α).then g = .no := rfl
theorem Ev.then {rel1 : L2.St → Rel α β} {f : En → R α} {t : L2.St → Hp → (β → Hp → Prop) → Prop} (h : Ev Γ rel1 f t) {env : En} {φ : Nat → Fp} (S : SttC Γ Z σ H env φ) {g : α → En → SR} {Dn : Ends} {Q1 : β → Hp → Prop}
    (P : PostS Γ Z H (Tot φ) ((f env).then g) Dn)
    (k : ∀ a env1 b H1 Z1 φ1 A, f env = .ok a env1 → SttC Γ Z1 σ H1 env1 φ1 → rel1 σ A Z1 H1 a b → (∀ x, A x → ¬ Tot φ1 x ∧ ¬ Z1 x) → Evo Z H (Tot φ) Z1 H1 (fun x => Tot φ1 x ∨ A x) →
      PostS Γ Z1 H1 (fun x => Tot φ1 x ∨ A x) (g a env1) Dn → Q1 b H1) : t σ H Q1 := by
  refine h σ H Z env φ S Q1 ?_
  cases e : f env with
  | ok a env1 =>
    rw [e] at P
    exact fun b H1 Z1 φ1 A S1 q d ev => k a env1 b H1 Z1 φ1 A e S1 q d ev (PostS.mono P ev)
  | ex x => rw [e] at P; exact P σ S.io S.l0
  | no => rw [e] at P; exact P
theorem Evo.dropA {φ : Nat → Fp} {A : Fp} : Evo Z H (fun x => Tot φ x ∨ A x) Z H (Tot φ) := Evo.refl.sub fun _ z => .inl z
theorem PostS.here {env : En} {φ : Nat → Fp} {Dn : Ends} (h : PostS Γ Z H (Tot φ) (.nx env) Dn) (S : SttC Γ Z σ H env φ) : Dn.nx σ H := h σ H Z φ S Evo.refl

/-! ### blocks -/
def passS : En → SR := fun env => .nx env
def seqS (f g : En → SR) : En → SR := fun env => match f env with
  | .nx e => g e
  | r => r
variable {st : Stmt} {rest body : List Stmt} {f g : En → SR} {e : Expr} {pos : Pos}
theorem eb_nil : EvB Γ [] passS := ⟨_, pss_nil, fun σ H Z env φ S Dn P => PostS.here P S⟩
theorem eb_one (h : EvS Γ st f) : EvB Γ [st] f := by
  obtain ⟨t, h1, h2⟩ := h
  exact ⟨t, pss_one h1, h2⟩
theorem eb_cons (h : EvS Γ st f) (k : EvB Γ rest g) : EvB Γ (st :: rest) (seqS f g) := by
  obtain ⟨t, h1, h2⟩ := h
  obtain ⟨u, k1, k2⟩ := k
  refine ⟨_, pss_cons h1 k1, fun σ H Z env φ S Dn P => ?_⟩
  refine h2 σ H Z env φ S _ ?_
  unfold seqS at P
  cases e : f env with
  | nx env1 =>
    rw [e] at P
    exact fun σ' H' Z' φ' S' ev => k2 σ' H' Z' env1 φ' S' Dn (PostS.mono P ev)
  | bk env1 => rw [e] at P; exact P
  | ct env1 => rw [e] at P; exact P
  | ret p env1 => rw [e] at P; exact P
  | ex x => rw [e] at P; exact P
  | no => rw [e] at P; exact P
theorem es_pass : EvS Γ (.Pass pos) passS := ⟨_, ps_pass, fun σ H Z env φ S Dn P => PostS.here P S⟩
theorem es_break : EvS Γ (.Break pos) (fun env => .bk env) := ⟨_, ps_break, fun σ H Z env φ S Dn P => P σ H Z φ S Evo.refl⟩
theorem es_continue : EvS Γ (.Continue pos) (fun env => .ct env) := ⟨_, ps_continue, fun σ H Z env φ S Dn P => P σ H Z φ S Evo.refl⟩
theorem es_doc {x j pos'} : EvS Γ (.Expr (.Constant (.str x) j pos) pos') passS := ⟨_, ps_doc, fun σ H Z env φ S Dn P => PostS.here P S⟩
/-- nothing is told of a statement -/
def noS : En → SR := fun _ => .no
theorem es_no : EvS Γ st noS := ⟨_, ps_never, fun _ _ _ _ _ _ _ P => P.elim⟩
theorem eb_no : EvB Γ rest noS := ⟨_, pss_never, fun _ _ _ _ _ _ _ P => P.elim⟩
def exprS (fe : En → R (D × Nat)) : En → SR := fun env => (fe env).then fun _ env1 => .nx env1
theorem es_expr {fe : En → R (D × Nat)} (h : EvE Γ e fe) (hs : swapsWith e none pos.line Γ.X.env = pure false := by rfl) : EvS Γ (.Expr e pos) (exprS fe) := by
  obtain ⟨t, h1, h2⟩ := h
  refine ⟨_, ps_expr h1 hs, fun σ H Z env φ S Dn P => ?_⟩
  refine h2.then S P fun p env1 v H1 Z1 φ1 A e1 S1 o dj ev P1 => ?_
  exact PostS.here (P1.mono Evo.dropA) S1
def retS (fe : En → R (D × Nat)) : En → SR := fun env => (fe env).then fun p env1 => .ret p env1
theorem es_ret {fe : En → R (D × Nat)} (h : EvE Γ e fe) : EvS Γ (.Return (some e) pos) (retS fe) := by
  obtain ⟨t, h1, h2⟩ := h
  refine ⟨_, ps_ret h1, fun σ H Z env φ S Dn P => ?_⟩
  refine h2.then S P fun p env1 v H1 Z1 φ1 A e1 S1 o dj ev P1 => ?_
  exact P1 v σ H1 Z1 φ1 A S1 o dj Evo.refl
def retN : En → SR := fun env => .ret (.non, 0) env
theorem es_retN : EvS Γ (.Return none pos) retN :=
  ⟨_, ps_retN, fun σ H Z env φ S Dn P => P .non σ H Z φ (fun _ => False) S (Ow.sh .non) (fun _ z => z.elim) (Evo.refl.sub fun _ z => z.elim id fun z => z.elim)⟩
/-- return x, x a local that dies: its lists go along -/
def retM (i : Nat) : En → SR := fun env => match env[i]? with
  | some (some p) => .ret p (env.set i none)
  | _ => .no
theorem es_retM {i : Nat} {x : Str} {pos' : Pos} (hN : Γ.X.N[i]? = some x) (hv : Vis Γ.X.env.scope x) (hd : (x == ("__debug__" : Str)) = false := by decide) (hcd : (x == ("__classdict__" : Str)) = false := by decide) : EvS Γ (.Return (some (.Name x pos')) pos) (retM i) := by
  refine ⟨_, ps_ret (pe_var hN hv hd hcd), fun σ H Z env φ S Dn P => ?_⟩
  unfold retM at P
  split at P
  · rename_i p h
    obtain ⟨d, k⟩ := p
    obtain ⟨v, h1, o⟩ := S.slot i d k h
    refine ⟨v, h1, P v σ H Z _ (φ i) (S.drop i) o (fun x z => ⟨fun ⟨j, q, y⟩ => q (S.dj j i x y z), S.nz i x z⟩) ⟨fun _ _ q _ => q, fun _ z => z, fun _ z => .inl z, fun x z => .inl (z.elim (fun ⟨j, _, y⟩ => ⟨j, y⟩) fun z => ⟨i, z⟩)⟩⟩
  · exact P.elim
/-- x = e -/
def putE (env : En) (i : Nat) (p : D × Nat) : SR := if i < env.length then .nx (env.set i (some p)) else .no
def setS (i : Nat) (fe : En → R (D × Nat)) : En → SR := fun env => (fe env).then fun p env1 => putE env1 i p
theorem put_ok {i : Nat} {env : En} {φ : Nat → Fp} (hio : i ∉ Γ.io) (S : SttC Γ Z σ H env φ) {p : D × Nat} {v : V} {A : Fp} (o : Ow Γ.C Z H p.2 v p.1 A) (dj : ∀ x, A x → ¬ Tot φ x ∧ ¬ Z x) {Dn : Ends} (P : PostS Γ Z H (fun x => Tot φ x ∨ A x) (putE env i p) Dn) : Dn.nx (σ.set i (some v)) H := by
  unfold putE at P
  split at P
  · rename_i hi
    refine P _ H Z _ (S.put hi hio o (fun j a _ h z => (dj a z).1 ⟨j, h⟩) fun a z => (dj a z).2) ⟨fun _ _ q _ => q, fun _ z => z, fun _ z => .inl z, fun x ⟨j, z⟩ => .inl ?_⟩
    by_cases q : j = i
    · simp only [if_pos q] at z; exact .inr z
    · simp only [if_neg q] at z; exact .inl ⟨j, z⟩
  · exact P.elim
theorem es_set {i : Nat} {x : Str} {pos' : Pos} {fe : En → R (D × Nat)} (G : Good Γ) (hi : Γ.X.N[i]? = some x) (hx : Loc Γ.X.env.scope x) (hio : i ∉ Γ.io) (h : EvE Γ e fe) (hs : swapsWith e (some (.Name x pos')) pos.line Γ.X.env = pure false := by rfl)
    (hf : Γ.X.fn x = true ∨ Γ.X.env.scope.names.lookup x = some .local := by first | exact .inl rfl | exact .inr rfl | assumption) : EvS Γ (.Assign [.Name x pos'] e pos) (setS i fe) := by
  obtain ⟨t, h1, h2⟩ := h
  refine ⟨_, ps_set G.nd hi hx h1 hs hf, fun σ H Z env φ S Dn P => ?_⟩
  refine h2.then S P fun p env1 v H1 Z1 φ1 A e1 S1 o dj ev P1 => ?_
  exact put_ok hio S1 o dj P1
def iteS (c : En → R Bool) (f g : En → SR) : En → SR := fun env => (c env).then fun b env1 => if b = true then f env1 else g env1
theorem es_if {c : Expr} {fc : En → R Bool} {els : List Stmt} (hc : EvT Γ c fc) (ha : EvB Γ body f) (hb : EvB Γ els g) : EvS Γ (.If c body els pos) (iteS fc f g) := by
  obtain ⟨t, h1, h2⟩ := hc
  obtain ⟨u, k1, k2⟩ := ha
  obtain ⟨w, l1, l2⟩ := hb
  refine ⟨_, ps_if h1 k1 l1, fun σ H Z env φ S Dn P => ?_⟩
  refine h2.then S P fun b env1 b' H1 Z1 φ1 A e1 S1 q dj ev P1 => ?_
  cases (show b = b' from q)
  have P2 := P1.mono Evo.dropA
  cases b with
  | true => exact k2 σ H1 Z1 env1 φ1 S1 Dn P2
  | false => exact l2 σ H1 Z1 env1 φ1 S1 Dn P2

/-! ### several values, each with its own lists -/
inductive OwL (C : RC) (Z : Fp) (H : Hp) : List V → List (D × Nat) → Fp → Prop
  | nil {A : Fp} : (∀ a, ¬ A a) → OwL C Z H [] [] A
  | cons {v : V} {vs : List V} {p : D × Nat} {ps : List (D × Nat)} {A B U : Fp} : Ow C Z H p.2 v p.1 A → OwL C Z H vs ps B → (∀ a, A a → ¬ B a) → (∀ a, U a ↔ A a ∨ B a) → OwL C Z H (v :: vs) (p :: ps) U
abbrev LR (C : RC) : L2.St → Rel (List (D × Nat)) (List V) := fun _ A Z H ps vs => OwL C Z H vs ps A
def EvL (Γ : Ct) (es : List Expr) (f : En → R (List (D × Nat))) : Prop := ∃ t, PA Γ.X es t ∧ Ev Γ (LR Γ.C) f t
def lNil : En → R (List (D × Nat)) := fun env => .ok [] env
def lCons (u : En → R (D × Nat)) (r : En → R (List (D × Nat))) : En → R (List (D × Nat)) := fun env => (u env).bind fun d env1 => (r env1).bind fun ds env2 => .ok (d :: ds) env2
theorem el_nil : EvL Γ [] lNil := ⟨_, pa_nil, fun σ H Z env φ S Q P => Post.here P S (.nil fun _ z => z)⟩
theorem el_cons {es : List Expr} {u : En → R (D × Nat)} {r : En → R (List (D × Nat))} (ha : EvE Γ e u) (hr : EvL Γ es r) (hs : starEach (e :: es) Γ.X.env = (false, eval e Γ.X.env) :: starEach es Γ.X.env := by rfl) : EvL Γ (e :: es) (lCons u r) := by
  obtain ⟨t, h1, h2⟩ := ha
  obtain ⟨w, k1, k2⟩ := hr
  refine ⟨_, pa_cons h1 k1 hs, fun σ H Z env φ S Q P => ?_⟩
  refine h2.bind S P fun d env1 x H1 Z1 φ1 A e1 S1 q1 dj1 ev1 P1 => ?_
  -- the values in hand are kept apart: they are shared by no slot
  have P1' : Post Γ σ Z1 H1 (fun x => Tot φ1 x ∨ A x) (LR Γ.C σ) ((r env1).bind fun ds env2 => .ok (d :: ds) env2) Q := P1
  refine k2 σ H1 Z1 env1 φ1 S1 _ ?_
  cases e2 : r env1 with
  | ok ds env2 =>
    rw [e2] at P1'
    intro xs H2 Z2 φ2 B S2 q2 dj2 ev2
    have am := Ow.mut q1
    have aF : ∀ a, A a → ¬ Tot φ1 a := fun a z => (dj1 a z).1
    have aZ : ∀ a, A a → ¬ Z2 a := fun a z y => by
      rcases ev2.zn a y with y | y | y
      · exact (dj1 a z).2 y
      · exact aF a z y
      · have := am a z; rw [y] at this; exact this
    have aT : ∀ a, A a → ¬ (Tot φ2 a ∨ B a) := fun a z y => by
      rcases ev2.fn a y with y | y
      · exact aF a z y
      · have := am a z; rw [y] at this; exact this
    refine P1' (x :: xs) H2 Z2 φ2 (fun a => A a ∨ B a) S2 (.cons (Ow.ext (S1.ext ev2) q1 fun a o z h => ev2.keep a o h (aF a z)) q2 (fun a z y => aT a z (.inr y)) fun _ => Iff.rfl) (fun a z => z.elim (fun z => ⟨fun y => aT a z (.inl y), aZ a z⟩) (dj2 a)) ?_
    refine ⟨fun a o h n => ev2.keep a o h fun z => n (.inl z), ev2.zm, fun a z => (ev2.zn a z).imp id fun q => q.imp .inl id, fun a z => ?_⟩
    rcases z with z | z | z
    · exact (ev2.fn a (.inl z)).imp .inl id
    · exact .inl (.inr z)
    · exact (ev2.fn a (.inr z)).imp .inl id
  | ex x => rw [e2] at P1'; exact PostX.mono P1' (Evo.refl.sub fun _ z => .inl z)
  | no => rw [e2] at P1'; exact P1'
/-- a, b = x, y -/
def parS (i j : Nat) (fa : En → R (List (D × Nat))) : En → SR := fun env => (fa env).then fun ps env1 => match ps with
  | [p, q] => if i < env1.length ∧ j < env1.length then .nx ((env1.set i (some p)).set j (some q)) else .no
  | _ => .no
theorem es_par {i j : Nat} {x y : Str} {a b : Expr} {fa : En → R (List (D × Nat))} {px py pt : Pos} {kt k2 : Nat} {pt2 : Pos} (G : Good Γ) (hi : Γ.X.N[i]? = some x) (hj : Γ.X.N[j]? = some y) (hij : i ≠ j) (hio : i ∉ Γ.io) (hjo : j ∉ Γ.io)
    (hx : Γ.X.env.scope.names.lookup x = some .local) (hy : Γ.X.env.scope.names.lookup y = some .local) (ha : EvL Γ [a, b] fa)
    (hw : swappedStores [.Tuple [.Name x px, .Name y py] kt pt] (.Tuple [a, b] k2 pt2) Γ.X.env = pure (some [x, y]) := by rfl)
    (hs : swapsWithSole [.Tuple [.Name x px, .Name y py] kt pt] (.Tuple [a, b] k2 pt2) pos.line Γ.X.env = pure false := by rfl) :
    EvS Γ (.Assign [.Tuple [.Name x px, .Name y py] kt pt] (.Tuple [a, b] k2 pt2) pos) (parS i j fa) := by
  obtain ⟨t, h1, h2⟩ := ha
  refine ⟨_, ps_par G.calm G.nd hi hj hij hx hy h1 hw hs, fun σ H Z env φ S Dn P => ?_⟩
  refine h2.then S P fun ps env1 vs H1 Z1 φ1 A e1 S1 q1 dj1 ev1 P1 => ?_
  have q1 : OwL Γ.C Z1 H1 vs ps A := q1
  cases q1 with
  | nil _ => exact P1.elim
  | @cons v vs p ps A1 B U o r d1 u1 =>
    cases r with
    | nil _ => exact P1.elim
    | @cons w ws q qs A2 B2 U2 o2 r2 d2 u2 =>
      cases r2 with
      | cons _ _ _ _ => exact P1.elim
      | nil n2 =>
        refine ⟨v, w, rfl, ?_⟩
        simp only at P1
        split at P1
        · rename_i hl
          have S2 := S1.put hl.1 hio o (fun j a _ h z => (dj1 a ((u1 a).mpr (.inl z))).1 ⟨j, h⟩) fun a z => (dj1 a ((u1 a).mpr (.inl z))).2
          have S3 := S2.put (i := j) (by simpa using hl.2) hjo o2 (fun l a hlj h z => by
            by_cases q : l = i
            · simp only [if_pos q] at h
              exact d1 a h ((u2 a).mpr (.inl z))
            · simp only [if_neg q] at h
              exact (dj1 a ((u1 a).mpr (.inr ((u2 a).mpr (.inl z))))).1 ⟨l, h⟩) fun a z => (dj1 a ((u1 a).mpr (.inr ((u2 a).mpr (.inl z))))).2
          refine P1 _ H1 Z1 _ S3 ⟨fun _ _ q _ => q, fun _ z => z, fun _ z => .inl z, fun x ⟨l, z⟩ => .inl ?_⟩
          by_cases q : l = j
          · simp only [if_pos q] at z; exact .inr ((u1 x).mpr (.inr ((u2 x).mpr (.inl z))))
          · simp only [if_neg q] at z
            by_cases q2 : l = i
            · simp only [if_pos q2] at z; exact .inr ((u1 x).mpr (.inl z))
            · simp only [if_neg q2] at z; exact .inl ⟨l, z⟩
        · exact P1.elim
end

/-! ### defs -/
/-- what a call hands back -/
inductive FR where
  | ok (p : D × Nat) (fin : Sl) | ex (x : Xn) | no
/-- what the first argument's lists are behind the call -/
def FinOk (C : RC) (Z : Fp) (H : Hp) (v₀ : V) (s : Sl) (φ : Fp) : Prop :=
  match s with
  | some q => Ow C Z H q.2 v₀ q.1 φ
  | none => ∀ a, ¬ φ a
/-- a def's promise: F of the arguments' data. io: the first argument's lists may be changed, then what they are stands in fin -/
def spF (C : RC) (n : Nat) (io : Bool) (F : Sl → List D → FR) : Sp := fun vs H Q E => vs.length = n ∧
  match io, vs with
  | false, vs => ∃ ds Z, ShL C Z H vs ds ∧ (∀ a, Z a → H a ≠ none) ∧ (match F none ds with
    | .ok p _ => ∀ v H' Z' A, Ow C Z' H' p.2 v p.1 A → (∀ a, A a → ¬ Z' a) → (∀ a, Z' a → H' a ≠ none) → Evo Z H (fun _ => False) Z' H' A → Q v H'
    | .ex x => ∀ cls dx H' Z', Evo Z H (fun _ => False) Z' H' (fun _ => False) → (∀ a, Z' a → H' a ≠ none) → ExR C Z' H' x cls dx → E cls dx H'
    | .no => False)
  | true, [] => False
  | true, v₀ :: vs => ∃ p₀ ds Z A₀, Ow C Z H p₀.2 v₀ p₀.1 A₀ ∧ ShL C Z H vs ds ∧ (∀ a, A₀ a → ¬ Z a) ∧ (∀ a, Z a → H a ≠ none) ∧ (match F (some p₀) ds with
    | .ok p fin => ∀ v H' Z' A φ, Ow C Z' H' p.2 v p.1 A → FinOk C Z' H' v₀ fin φ → (∀ a, A a → ¬ φ a ∧ ¬ Z' a) → (∀ a, φ a → ¬ Z' a) → (∀ a, Z' a → H' a ≠ none) → Evo Z H A₀ Z' H' (fun a => φ a ∨ A a) → Q v H'
    | .ex x => ∀ cls dx H' Z', Evo Z H A₀ Z' H' (fun _ => False) → (∀ a, Z' a → H' a ≠ none) → ExR C Z' H' x cls dx → E cls dx H'
    | .no => False)
abbrev FnV (P : Program) (w : World) (K : PySem.W.Frag) (mg : Str → Option Value) (base : Heap) (C : RC) (k : Nat) (f : Addr) (fd : FuncData) (ps : List Str) (io : Bool) (F : Sl → List D → FR) : Prop :=
  FnOk P w K mg base (L2.CX P w) k f fd ps (spF C ps.length io F)
/-- the slots at the entry -/
def en0 (n : Nat) (a₀ : Sl) (ds : List D) : En := (match a₀ with
  | some p => [some p]
  | none => []) ++ ds.map (fun d => some (d, 0)) ++ List.replicate (n - ((match a₀ with
  | some _ => 1
  | none => 0) + ds.length)) none
/-- what a body makes of the entry -/
def fnF (n : Nat) (io : Bool) (f : En → SR) : Sl → List D → FR := fun a₀ ds =>
  match f (en0 n a₀ ds) with
  | .nx e => .ok (.non, 0) (if io then (e[0]?).getD none else none)
  | .ret p e => .ok p (if io then (e[0]?).getD none else none)
  | .ex x => .ex x
  | _ => .no
end Pv
end

section
set_option Elab.async false
set_option linter.all false
set_option maxRecDepth 100000
set_option maxHeartbeats 4000000
/-! Pv8: a def by its body; calls of defs. -/
namespace Pv
open PySem PySem.Spec PyProof.Rows L2

/-- the place where a body's proof stands -/
def bodyCt (P : Program) (w : World) (K : PySem.W.Frag) (mg : Str → Option Value) (base : Heap) (C : RC) (N : List Str) (qual : Str) (sc : Scope) (f : Addr) (fx : List Nat) (cdv : Value) (A : Around) (outer : List Env) (s : Shared) (H : Hp) (E : XK) (σ₀ : L2.St) : Ct :=
  ⟨cxOf (L2.CX P w) P w K mg base N qual sc f cdv A outer s H E, C, fun cls d _ H' => E cls d H', fx, σ₀⟩
theorem en0_none {n : Nat} {ds : List D} {i : Nat} {d : D} {k : Nat} (h : (en0 n none ds)[i]? = some (some (d, k))) : ds[i]? = some d ∧ k = 0 := by
  unfold en0 at h
  rw [List.nil_append] at h
  by_cases hi : i < ds.length
  · rw [List.getElem?_append_left (by simpa using hi), List.getElem?_map] at h
    cases e : ds[i]? with
    | none => rw [e] at h; cases h
    | some d' => rw [e] at h; cases h; exact ⟨rfl, rfl⟩
  · rw [List.getElem?_append_right (by simpa using Nat.le_of_not_lt hi), List.getElem?_replicate] at h
    exact absurd h (by split <;> simp)
theorem start_get {N : List Str} {vs : List V} {i : Nat} {v : V} (h : vs[i]? = some v) : (start N vs)[i]? = some (some v) := by
  unfold L2.start
  have hi := (List.getElem?_eq_some_iff.mp h).1
  rw [List.getElem?_append_left (by simpa using hi), List.getElem?_map, h]
  rfl
theorem en0_len {N : List Str} {vs : List V} {a₀ : Sl} {ds : List D} {m : Nat} (hv : vs.length = m) (hm : m ≤ N.length) (hd : (match a₀ with
    | some _ => 1
    | none => 0) + ds.length = m) : (start N vs).length = (en0 N.length a₀ ds).length := by
  unfold L2.start en0
  cases a₀ with
  | none => simp at hd ⊢; omega
  | some p => simp at hd ⊢; omega
section
variable {P : Program} {w : World} {K : PySem.W.Frag} {mg : Str → Option Value} {base : Heap} {C : RC}
theorem fnV_of {x qual : Str} {st : Stmt} {f : Addr} {fd : FuncData} {N ps : List Str} {k : Nat} {g : En → SR} (F : Fun K x qual st f fd) (S : FnScope N ps (defScope st)) (io : Bool) (fx : List Nat) (hC : C.K = K)
    (hio : io = true → 0 < ps.length ∧ 0 ∈ fx)
    (hb : ∀ cdv A outer s H E σ₀, Room k (A.deeper (envOfC qual (defScope st) s.heap.objs.size f cdv)) → Good (bodyCt P w K mg base C N qual (defScope st) f fx cdv A outer s H E σ₀) → EvB (bodyCt P w K mg base C N qual (defScope st) f fx cdv A outer s H E σ₀) (defBody st) g) :
    FnV P w K mg base C (k + 1) f fd ps io (fnF N.length io g) := by
  have hpn : ps.length ≤ N.length := by
    have := congrArg List.length S.pre
    rw [List.length_take] at this
    omega
  refine F.okX S (fun vs H Q E h => h.1) fun cdv A outer s H vs Q E hr h => ?_
  have G : Good (bodyCt P w K mg base C N qual (defScope st) f fx cdv A outer s H E (start N vs)) := ⟨hC, S.nd, rfl, takes_of rfl rfl rfl rfl⟩
  obtain ⟨t, h1, h2⟩ := hb cdv A outer s H E (start N vs) hr G
  refine ⟨t, h1, ?_⟩
  obtain ⟨hl, h⟩ := h
  cases io with
  | false =>
    obtain ⟨ds, Z, r, zh, q⟩ := h
    have St0 : SttC (bodyCt P w K mg base C N qual (defScope st) f fx cdv A outer s H E (start N vs)) Z (start N vs) H (en0 N.length none ds) (fun _ _ => False) :=
      { len := en0_len hl hpn (by simp only [Nat.zero_add]; rw [← r.length]; exact hl)
        slot := fun i d k hi => by
          obtain ⟨e1, rfl⟩ := en0_none hi
          obtain ⟨v, e2, e3⟩ := r.get' e1
          exact ⟨v, start_get e2, e3, fun _ z => z⟩
        off := fun _ _ _ z => z
        dj := fun _ _ _ z => z.elim
        nz := fun _ _ z => z.elim
        zh := zh
        io := fun _ _ => rfl
        l0 := fun _ => rfl }
    have T0 : ∀ a, ¬ Tot (fun (_ : Nat) (_ : Addr) => False) a := fun a ⟨_, z⟩ => z
    have ev0 : ∀ {Z' H' F'}, Evo Z H (Tot (fun (_ : Nat) (_ : Addr) => False)) Z' H' F' → ∀ {F2 : Fp}, (∀ a, F2 a → F' a) → Evo Z H (fun _ => False) Z' H' F2 := fun {Z' H' F'} e {F2} hs => (e.sub hs).mono0 T0
    refine h2 _ H Z _ _ St0 _ ?_
    unfold fnF at q
    cases e : g (en0 N.length none ds) with
    | nx env =>
      rw [e] at q
      exact fun σ' H' Z' φ' S' ev => q .non H' Z' (fun _ => False) (Ow.sh .non) (fun _ z => z.elim) S'.zh (ev0 ev fun _ z => z.elim)
    | ret p env =>
      rw [e] at q
      exact fun v σ' H' Z' φ' B S' o d ev => q v H' Z' B o (fun a z => (d a z).2) S'.zh (ev0 ev fun _ z => .inr z)
    | ex x =>
      rw [e] at q
      exact fun σ' _ _ cls dx H' Z' ev zh' xr => q cls dx H' Z' (ev0 ev fun _ z => z.elim) zh' xr
    | bk env => rw [e] at q; exact q.elim
    | ct env => rw [e] at q; exact q.elim
    | no => rw [e] at q; exact q.elim
  | true =>
    cases vs with
    | nil => exact h.elim
    | cons v₀ vs =>
      obtain ⟨p₀, ds, Z, A₀, o₀, r, nz₀, zh, q⟩ := h
      obtain ⟨hp0, hfx⟩ := hio rfl
      have get1 : ∀ i d k, (en0 N.length (some p₀) ds)[i + 1]? = some (some (d, k)) → ds[i]? = some d ∧ k = 0 := fun i d k hi => by
        have : (en0 N.length (some p₀) ds)[i + 1]? = (ds.map (fun d => some (d, 0)) ++ List.replicate (N.length - (1 + ds.length)) (none : Sl))[i]? := by
          unfold en0
          simp only [List.cons_append, List.nil_append, List.getElem?_cons_succ]
        rw [this] at hi
        by_cases hi2 : i < ds.length
        · rw [List.getElem?_append_left (by simpa using hi2), List.getElem?_map] at hi
          cases e : ds[i]? with
          | none => rw [e] at hi; cases hi
          | some d' => rw [e] at hi; cases hi; exact ⟨rfl, rfl⟩
        · rw [List.getElem?_append_right (by simpa using Nat.le_of_not_lt hi2), List.getElem?_replicate] at hi
          exact absurd hi (by split <;> simp)
      have St0 : SttC (bodyCt P w K mg base C N qual (defScope st) f fx cdv A outer s H E (start N (v₀ :: vs))) Z (start N (v₀ :: vs)) H (en0 N.length (some p₀) ds) (fun i a => i = 0 ∧ A₀ a) :=
        { len := en0_len hl hpn (by have := r.length; simp at hl ⊢; omega)
          slot := fun i d k hi => by
            cases i with
            | zero =>
              have e : p₀ = (d, k) := by
                have : (en0 N.length (some p₀) ds)[0]? = some (some p₀) := by unfold en0; simp
                rw [this] at hi
                exact Option.some.inj (Option.some.inj hi)
              subst e
              exact ⟨v₀, start_get rfl, o₀.congr fun a => ⟨fun z => ⟨rfl, z⟩, fun z => z.2⟩⟩
            | succ i =>
              obtain ⟨e1, rfl⟩ := get1 i d k hi
              obtain ⟨v, e2, e3⟩ := r.get' e1
              exact ⟨v, start_get (by simpa using e2), e3, fun _ z => nomatch z.1⟩
          off := fun i h a z => by
            obtain ⟨rfl, z⟩ := z
            exact h p₀ (by unfold en0; simp)
          dj := fun _ _ _ z y => z.1.trans y.1.symm
          nz := fun _ a z => nz₀ a z.2
          zh := zh
          io := fun _ _ => rfl
          l0 := fun _ => rfl }
      have T0 : ∀ a, Tot (fun (i : Nat) (a : Addr) => i = 0 ∧ A₀ a) a ↔ A₀ a := fun a => ⟨fun ⟨_, z⟩ => z.2, fun z => ⟨0, rfl, z⟩⟩
      have ev0 : ∀ {Z' H' F'}, Evo Z H (Tot (fun (i : Nat) (a : Addr) => i = 0 ∧ A₀ a)) Z' H' F' → ∀ {F2 : Fp}, (∀ a, F2 a → F' a) → Evo Z H A₀ Z' H' F2 := fun {Z' H' F'} e {F2} hs => (e.sub hs).more fun a z => (T0 a).mp z
      have fin : ∀ {σ' : L2.St} {H' : Hp} {Z' : Fp} {φ' : Nat → Fp} {env : En}, SttC (bodyCt P w K mg base C N qual (defScope st) f fx cdv A outer s H E (start N (v₀ :: vs))) Z' σ' H' env φ' →
          FinOk C Z' H' v₀ ((env[0]?).getD none) (φ' 0) := fun {σ' H' Z' φ' env} S' => by
        cases e : (env[0]?).getD none with
        | none =>
          refine S'.off 0 fun p hp => ?_
          rw [hp] at e; cases e
        | some q =>
          obtain ⟨d, k⟩ := q
          have e2 : env[0]? = some (some (d, k)) := by
            cases e3 : env[0]? with
            | none => rw [e3] at e; cases e
            | some y => rw [e3] at e; exact congrArg some e
          obtain ⟨v, hv, o⟩ := S'.slot 0 d k e2
          have hs : σ'[0]? = (start N (v₀ :: vs))[0]? := S'.io 0 hfx
          rw [hs, start_get (v := v₀) rfl] at hv
          cases hv
          exact o
      refine h2 _ H Z _ _ St0 _ ?_
      unfold fnF at q
      cases e : g (en0 N.length (some p₀) ds) with
      | nx env =>
        rw [e] at q
        exact fun σ' H' Z' φ' S' ev => q .non H' Z' (fun _ => False) (φ' 0) (Ow.sh .non) (fin S') (fun _ z => z.elim) (fun a z => S'.nz 0 a z) S'.zh (ev0 ev fun a z => z.elim (fun z => ⟨0, z⟩) fun z => z.elim)
      | ret p env =>
        rw [e] at q
        exact fun v σ' H' Z' φ' B S' o d ev => q v H' Z' B (φ' 0) o (fin S') (fun a z => ⟨fun y => (d a z).1 ⟨0, y⟩, (d a z).2⟩) (fun a z => S'.nz 0 a z) S'.zh (ev0 ev fun a z => z.imp (fun z => ⟨0, z⟩) id)
      | ex x =>
        rw [e] at q
        exact fun σ' _ _ cls dx H' Z' ev zh' xr => q cls dx H' Z' (ev0 ev fun _ z => z.elim) zh' xr
      | bk env => rw [e] at q; exact q.elim
      | ct env => rw [e] at q; exact q.elim
      | no => rw [e] at q; exact q.elim
end

/-! ### calls -/
section
variable {Γ : Ct} {k : Nat} {f : Addr} {fd : FuncData} {ps : List Str} {F : Sl → List D → FR} {x : Str} {p pos : Pos} {e : Expr} {es : List Expr}
abbrev FnC (Γ : Ct) (k : Nat) (f : Addr) (fd : FuncData) (ps : List Str) (io : Bool) (F : Sl → List D → FR) : Prop := FnV Γ.X.prog Γ.X.w Γ.X.K Γ.X.mg Γ.X.base Γ.C k f fd ps io F
def frR (r : FR) (env : En) : R (D × Nat) :=
  match r with
  | .ok p _ => .ok p env
  | .ex x => .ex x
  | .no => .no
def callF (n : Nat) (F : Sl → List D → FR) (r : En → R (List D)) : En → R (D × Nat) := fun env => (r env).bind fun ds env1 => if ds.length = n then frR (F none ds) env1 else .no
theorem call_core {σ : L2.St} {Z : Fp} {H : Hp} {env : En} {φ : Nat → Fp} (S : SttC Γ Z σ H env φ) {vs : List V} {ds : List D} {n : Nat} (hn : ∀ H Q E, spF Γ.C n false F vs H Q E → vs.length = n) (hl : vs.length = n) (r : ShL Γ.C Z H vs ds) {Q : VK}
    (P : Post Γ σ Z H (Tot φ) (ER Γ.C σ) (frR (F none ds) env) Q) : spF Γ.C n false F vs H Q (WE Γ.W σ) := by
  refine ⟨hl, ds, Z, r, S.zh, ?_⟩
  have go : ∀ {Z' H' A}, Evo Z H (fun _ => False) Z' H' A → (∀ a, Z' a → H' a ≠ none) → SttC Γ Z' σ H' env φ := fun {Z' H' A} ev zh => S.go (ev.ext (fun _ z => z.elim) fun _ z => z.elim) (fun a o _ h => ev.keep a o h fun z => z) (fun a z y => by
    rcases ev.zn a y with y | y | y
    · exact S.tnz a z y
    · exact y
    · have := S.mu a z; rw [y] at this; exact this) zh
  cases e : F none ds with
  | ok q fin =>
    rw [e] at P
    intro v H' Z' A o nz zh ev
    refine P v H' Z' φ A (go ev zh) o (fun a z => ⟨fun y => ?_, nz a z⟩) ⟨fun a u h _ => ev.keep a u h fun z => z, ev.zm, fun a z => (ev.zn a z).imp id fun q => q.imp (fun z => z.elim) id, fun a z => z.elim .inl fun z => .inr ((ev.fn a z).elim (fun z => z.elim) id)⟩
    rcases ev.fn a z with z | z
    · exact z
    · have := S.mu a y; rw [z] at this; exact this
  | ex x =>
    rw [e] at P
    exact fun cls dx H' Z' ev zh xr => P cls dx H' Z' (ev.more fun _ z => z.elim) zh xr
  | no => rw [e] at P; exact P
theorem ev_call (G : Good Γ) (hF : FnC Γ k f fd ps false F) (hr : Room k Γ.X.A) (hg : Gl Γ.X x) (hm : Γ.X.mg x = some (.ref f)) (hk : PySem.W.keepIn Γ.X.K (.ref f) = true) (hb : Binds Γ.X.K fd ps []) {r : En → R (List D)} (ha : EvA Γ (e :: es) r) 
    (hdb : (x == ("__debug__" : Str)) = false := by decide) (he : starEach (e :: es) Γ.X.env = (false, eval e Γ.X.env) :: starEach es Γ.X.env := by rfl) (hpl : (backTo pos (starEach es Γ.X.env)).any (·.1) = false := by rfl) :
    EvE Γ (.Call (.Name x p) (e :: es) [] pos) (callF ps.length F r) := by
  obtain ⟨t, h1, h2⟩ := ha
  refine ⟨_, pe_callS hF hr hg hm hk hb (passAt G.tk) h1 hdb he hpl, fun σ H Z env φ S Q P => ?_⟩
  refine h2.bind S P fun ds env1 vs H1 Z1 φ1 A e1 S1 q1 dj1 ev1 P1 => ?_
  have q1 : ShL Γ.C Z1 H1 vs ds := q1
  have P2 := P1.mono Evo.dropA
  by_cases hl : ds.length = ps.length
  · rw [if_pos hl] at P2
    exact call_core S1 (fun _ _ _ h => h.1) (by rw [q1.length]; exact hl) q1 P2
  · rw [if_neg hl] at P2; exact P2.elim

/-! a def that a slot holds -/
/-- which def stands for the number, at which place -/
structure FnT (Γ : Ct) (k : Nat) (T : Nat → Option (Nat × (Sl → List D → FR))) : Prop where
  at' : ∀ i n F, T i = some (n, F) → ∀ a, Γ.C.fa i = some a → ∃ fd ps, FnC Γ k a fd ps false F ∧ PySem.W.keepIn Γ.X.K (.ref a) = true ∧ Binds Γ.X.K fd ps [] ∧ ps.length = n
def callL (T : Nat → Option (Nat × (Sl → List D → FR))) (i : Nat) (r : En → R (List D)) : En → R (D × Nat) := fun env => match env[i]? with
  | some (some (.fn m, _)) => (match T m with
    | some (n, F) => callF n F r env
    | none => .no)
  | _ => .no
def tCallX (W : WX) (i : Nat) (S : Addr → Sp → Prop) (t : TA) : TE := fun σ H Q => ∃ f sp, σ[i]? = some (some (.ref f)) ∧ S f sp ∧ t σ H fun vs H1 => sp vs H1 Q (WE W σ)
theorem pe_callX {X : Cx} {W : WX} {i : Nat} {S : Addr → Sp → Prop} {t : TA} (tk : Takes X W) (hS : ∀ f sp, S f sp → ∃ fd ps, FnOk X.prog X.w X.K X.mg X.base (L2.CX X.prog X.w) k f fd ps sp ∧ PySem.W.keepIn X.K (.ref f) = true ∧ Binds X.K fd ps []) (hr : Room k X.A) (hN : X.N[i]? = some x) (hv : Vis X.env.scope x) (ha : PA X (e :: es) t)
    (hdb : (x == ("__debug__" : Str)) = false := by decide) (hcd : (x == ("__classdict__" : Str)) = false := by decide)
    (he : starEach (e :: es) X.env = (false, eval e X.env) :: starEach es X.env := by rfl) (hpl : (backTo pos (starEach es X.env)).any (·.1) = false := by rfl) : PE X (.Call (.Name x p) (e :: es) [] pos) (tCallX W i S t) := by
  refine ⟨fun pins s σ H Q I h => ?_⟩
  obtain ⟨f, sp, hs, hSf, ht⟩ := h
  obtain ⟨fd, ps, F, hk, hb⟩ := hS f sp hSf
  refine wpAny_Call_Name_kw (thn ((pe_var (pos := p) hN hv hdb hcd).run pins s σ H (fun v H1 => v = .ref f ∧ H1 = H) I ⟨.ref f, hs, rfl, rfl⟩) fun u s1 ⟨v, H1, I1, r1, q1⟩ => ?_)
  obtain ⟨rfl, rfl⟩ := q1
  cases r1
  refine PySem.W.callWith_K (h₀ := X.base) I.ok.mod.kin hk (thn (ha.run pos pins s1 σ _ _ I1 ht) fun us s2 ⟨vs, H2, I2, r, q⟩ => ⟨I2.kIn, ?_⟩) he hpl
  exact run_fnS (E := WE W) F hr hb (passAt tk σ) I2 r q
theorem ev_callL (G : Good Γ) {T : Nat → Option (Nat × (Sl → List D → FR))} {i : Nat} (hT : FnT Γ k T) (hr : Room k Γ.X.A) (hN : Γ.X.N[i]? = some x) (hv : Vis Γ.X.env.scope x) {r : En → R (List D)} (ha : EvA Γ (e :: es) r)
    (hdb : (x == ("__debug__" : Str)) = false := by decide) (hcd : (x == ("__classdict__" : Str)) = false := by decide) (he : starEach (e :: es) Γ.X.env = (false, eval e Γ.X.env) :: starEach es Γ.X.env := by rfl) (hpl : (backTo pos (starEach es Γ.X.env)).any (·.1) = false := by rfl) :
    EvE Γ (.Call (.Name x p) (e :: es) [] pos) (callL T i r) := by
  obtain ⟨t, h1, h2⟩ := ha
  refine ⟨_, pe_callX (k := k) (W := Γ.W) (i := i) (S := fun f sp => ∃ m n F, Γ.C.fa m = some f ∧ T m = some (n, F) ∧ sp = spF Γ.C n false F) G.tk (fun f sp ⟨m, n, F, e1, e2, e3⟩ => ?_) hr hN hv h1 hdb hcd he hpl, fun σ H Z env φ S Q P => ?_⟩
  · obtain ⟨fd, ps, q1, q2, q3, q4⟩ := hT.at' m n F e2 f e1
    subst e3 q4
    exact ⟨fd, ps, q1, q2, q3⟩
  · unfold callL at P
    split at P
    · rename_i m d0 hm
      obtain ⟨v, hv1, o⟩ := S.slot i _ _ hm
      have sh := o.im_inv rfl
      cases sh with
      | @fn _ f0 hf =>
        cases eT : T m with
        | none => rw [eT] at P; exact P.elim
        | some nF =>
          obtain ⟨n, F⟩ := nF
          rw [eT] at P
          refine ⟨f0, spF Γ.C n false F, hv1, ⟨m, n, F, hf, eT, rfl⟩, ?_⟩
          refine h2.bind S P fun ds env1 vs H1 Z1 φ1 A e1 S1 q1 dj1 ev1 P1 => ?_
          have q1 : ShL Γ.C Z1 H1 vs ds := q1
          have P2 := P1.mono Evo.dropA
          by_cases hl : ds.length = n
          · rw [if_pos hl] at P2
            exact call_core S1 (fun _ _ _ h => h.1) (by rw [q1.length]; exact hl) q1 P2
          · rw [if_neg hl] at P2; exact P2.elim
    · exact P.elim

/-! a def that changes its first argument's lists -/
def callI (n : Nat) (F : Sl → List D → FR) (i : Nat) (r : En → R (List D)) : En → R (D × Nat) := fun env => match env[i]? with
  | some (some _) => (r env).bind fun ds env1 => if ds.length + 1 = n then
    (match env1[i]? with
      | some (some q) => (match F (some q) ds with
        | .ok p fin => .ok p (env1.set i fin)
        | .ex x => .ex x
        | .no => .no)
      | _ => .no) else .no
  | _ => .no
theorem Stt.putSl {i : Nat} {C : RC} {io : List Nat} {σ₀ σ : L2.St} {Z : Fp} {H : Hp} {env : En} {φ : Nat → Fp} (S : Stt C io σ₀ Z σ H (env.set i none) φ) {v : V} (hi : i < env.length) (hv : σ[i]? = some (some v)) {s : Sl} {A : Fp} (o : FinOk C Z H v s A) (dj : ∀ j a, j ≠ i → φ j a → ¬ A a) (nz : ∀ a, A a → ¬ Z a) :
    Stt C io σ₀ Z σ H (env.set i s) (fun j => if j = i then A else φ j) := by
  cases s with
  | some q =>
    have S2 := S.reput (i := i) (by simpa using hi) hv o dj nz
    have e1 : (env.set i none).set i (some (q.1, q.2)) = env.set i (some q) := by rw [List.set_set]
    rw [e1] at S2
    exact S2
  | none =>
    have o : ∀ a, ¬ A a := o
    have h0 : ∀ a, ¬ φ i a := S.off i fun p h => by rw [List.getElem?_set_self hi] at h; cases h
    have e : (fun j => if j = i then A else φ j) = φ := by
      funext j
      by_cases q : j = i
      · rw [if_pos q]
        funext a
        exact propext ⟨fun z => (o a z).elim, fun z => (h0 a (q ▸ z)).elim⟩
      · rw [if_neg q]
    rw [e]
    exact S
theorem ev_callI (G : Good Γ) (hF : FnC Γ k f fd ps true F) (hr : Room k Γ.X.A) (hg : Gl Γ.X x) (hm : Γ.X.mg x = some (.ref f)) (hk : PySem.W.keepIn Γ.X.K (.ref f) = true) (hb : Binds Γ.X.K fd ps []) {i : Nat} {y : Str} {yp : Pos} (hN : Γ.X.N[i]? = some y) (hv : Vis Γ.X.env.scope y) {r : En → R (List D)} (ha : EvA Γ es r)
    (hdb : (x == ("__debug__" : Str)) = false := by decide) (hdy : (y == ("__debug__" : Str)) = false := by decide) (hcy : (y == ("__classdict__" : Str)) = false := by decide) (he : starEach (.Name y yp :: es) Γ.X.env = (false, eval (.Name y yp) Γ.X.env) :: starEach es Γ.X.env := by rfl) (hpl : (backTo pos (starEach es Γ.X.env)).any (·.1) = false := by rfl) :
    EvE Γ (.Call (.Name x p) (.Name y yp :: es) [] pos) (callI ps.length F i r) := by
  obtain ⟨t, h1, h2⟩ := ha
  refine ⟨_, pe_callS hF hr hg hm hk hb (passAt G.tk) (pa_cons (pe_var hN hv hdy hcy) h1 he) hdb he hpl, fun σ H Z env φ S Q P => ?_⟩
  show ∃ v, σ[i]? = some (some v) ∧ t σ H fun vs H1 => spF Γ.C ps.length true F (v :: vs) H1 Q (WE Γ.W σ)
  unfold callI at P
  split at P
  case h_2 => exact P.elim
  rename_i q₀ hq₀
  obtain ⟨v₀, hv₀, _⟩ := S.slot i q₀.1 q₀.2 hq₀
  refine ⟨v₀, hv₀, ?_⟩
  suffices key : ∀ v, σ[i]? = some (some v) → t σ H fun vs H1 => spF Γ.C ps.length true F (v :: vs) H1 Q (WE Γ.W σ) from key v₀ hv₀
  intro v hv0
  · refine h2.bind S P fun ds env1 vs H1 Z1 φ1 A e1 S1 q1 dj1 ev1 P1 => ?_
    have q1 : ShL Γ.C Z1 H1 vs ds := q1
    have P2 := P1.mono Evo.dropA
    by_cases hl : ds.length + 1 = ps.length
    · rw [if_pos hl] at P2
      split at P2
      · rename_i q hq
        obtain ⟨d0, k0⟩ := q
        obtain ⟨v', hv', o⟩ := S1.slot i d0 k0 hq
        rw [hv0] at hv'; cases hv'
        have hi : i < env1.length := (List.getElem?_eq_some_iff.mp hq).1
        refine ⟨by rw [List.length_cons, q1.length]; exact hl, (d0, k0), ds, Z1, φ1 i, o, q1, fun a z => S1.nz i a z, S1.zh, ?_⟩
        have Sd := S1.drop i
        have go : ∀ {Z' H' B}, Evo Z1 H1 (φ1 i) Z' H' B → (∀ a, Z' a → H' a ≠ none) → SttC Γ Z' σ H' (env1.set i none) (fun j a => j ≠ i ∧ φ1 j a) := fun {Z' H' B} ev zh =>
          Sd.go (ev.ext (fun a z => S1.mu a ⟨i, z⟩) fun a z => S1.nz i a z) (fun a u ⟨j, hj, z⟩ h => ev.keep a u h fun y => hj (S1.dj j i a z y)) (fun a ⟨j, hj, z⟩ y => by
            rcases ev.zn a y with y | y | y
            · exact S1.nz j a z y
            · exact hj (S1.dj j i a z y)
            · have := S1.mu a ⟨j, z⟩; rw [y] at this; exact this) zh
        cases eF : F (some (d0, k0)) ds with
        | ok p' fin =>
          rw [eF] at P2
          intro w H' Z' B φ₀ o' fo d1 d2 zh ev
          have S3 := go ev zh
          have fr : ∀ a, (φ₀ a ∨ B a) → ∀ j, j ≠ i → ¬ φ1 j a := fun a z j hj y => by
            rcases ev.fn a z with z | z
            · exact hj (S1.dj j i a y z)
            · have := S1.mu a ⟨j, y⟩; rw [z] at this; exact this
          have S4 := S3.putSl hi hv0 fo (fun j a hj z y => fr a (.inl y) j hj z.2) d2
          refine P2 w H' Z' _ B S4 o' (fun a z => ⟨fun ⟨j, y⟩ => ?_, (d1 a z).2⟩) ⟨fun a u h n => ev.keep a u h fun z => n ⟨i, z⟩, ev.zm, fun a z => (ev.zn a z).imp id fun q => q.imp (fun z => ⟨i, z⟩) id, fun a z => ?_⟩
          · by_cases q : j = i
            · simp only [if_pos q] at y; exact (d1 a z).1 y
            · simp only [if_neg q] at y; exact fr a (.inr z) j q y.2
          · rcases z with ⟨j, z⟩ | z
            · by_cases q : j = i
              · simp only [if_pos q] at z; exact (ev.fn a (.inl z)).imp (fun z => ⟨i, z⟩) id
              · simp only [if_neg q] at z; exact .inl ⟨j, z.2⟩
            · exact (ev.fn a (.inr z)).imp (fun z => ⟨i, z⟩) id
        | ex x =>
          rw [eF] at P2
          exact fun cls dx H' Z' ev zh xr => P2 cls dx H' Z' (ev.more fun a z => ⟨i, z⟩) zh xr
        | no => rw [eF] at P2; exact P2
      · exact P2.elim
    · rw [if_neg hl] at P2; exact P2.elim
end
end Pv
end

section
set_option Elab.async false
set_option linter.all false
set_option maxRecDepth 100000
set_option maxHeartbeats 4000000
/-! Pv9: targets, what is walked, for, while, list comprehensions. -/
namespace Pv
open PySem PySem.Spec PyProof.Rows L2

/-! ### targets -/
section
variable {Γ : Ct} {x : Str} {p pos : Pos} {e a b : Expr} {es : List Expr}
def EvG (Γ : Ct) (tg : Expr) (ws : List Nat) (g : D → En → Option En) : Prop := ∃ t, PG Γ.X tg t ∧ ∀ σ H Z env φ, SttC Γ Z σ H env φ → ∀ v d env', Sh Γ.C Z H v d → g d env = some env' → ∀ Q : L2.St → Hp → Prop,
  (∀ σ' φ', SttC Γ Z σ' H env' φ' → (∀ a, Tot φ' a → Tot φ a) → (σ'.length = σ.length ∧ ∀ i, i ∉ ws → σ'[i]? = σ[i]?) → Q σ' H) → t v σ H Q
def EvGs (Γ : Ct) (tgs : List Expr) (ws : List Nat) (g : List D → En → Option En) : Prop := ∃ t, PGs Γ.X tgs t ∧ ∀ σ H Z env φ, SttC Γ Z σ H env φ → ∀ vs ds env', ShL Γ.C Z H vs ds → g ds env = some env' → ∀ Q : L2.St → Hp → Prop,
  (∀ σ' φ', SttC Γ Z σ' H env' φ' → (∀ a, Tot φ' a → Tot φ a) → (σ'.length = σ.length ∧ ∀ i, i ∉ ws → σ'[i]? = σ[i]?) → Q σ' H) → t vs σ H Q
def nameG (i : Nat) : D → En → Option En := fun d env => if i < env.length then some (env.set i (some (d, 0))) else none
theorem eg_name {i : Nat} (G : Good Γ) (hi : Γ.X.N[i]? = some x) (hx : Loc Γ.X.env.scope x) (hio : i ∉ Γ.io) (hf : Γ.X.fn x = true ∨ Γ.X.env.scope.names.lookup x = some .local := by first | exact .inl rfl | exact .inr rfl | assumption) : EvG Γ (.Name x pos) [i] (nameG i) := by
  refine ⟨_, pg_name G.nd hi hx hf, fun σ H Z env φ S v d env' sh hg Q q => ?_⟩
  unfold nameG at hg
  split at hg
  · rename_i hl
    cases hg
    refine q _ _ (S.put hl hio (Ow.sh sh) (fun _ _ _ _ z => z) fun _ z => z.elim) (fun a ⟨j, z⟩ => ?_) ⟨List.length_set, fun j hj => ?_⟩
    · by_cases q : j = i
      · simp only [if_pos q] at z
      · simp only [if_neg q] at z; exact ⟨j, z⟩
    · rw [List.getElem?_set_ne (by simpa [eq_comm] using hj)]
  · cases hg
def nilG : List D → En → Option En := fun ds env => if ds.isEmpty then some env else none
def consG (g : D → En → Option En) (r : List D → En → Option En) : List D → En → Option En := fun ds env => match ds with
  | d :: ds => (g d env).bind fun env1 => r ds env1
  | [] => none
theorem egs_nil : EvGs Γ [] [] nilG := by
  refine ⟨_, pgs_nil, fun σ H Z env φ S vs ds env' sh hg Q q => ?_⟩
  unfold nilG at hg
  split at hg
  · rename_i h
    cases hg
    cases sh with
    | nil => exact ⟨rfl, q σ φ S (fun _ z => z) ⟨rfl, fun _ _ => rfl⟩⟩
    | cons _ _ => cases h
  · cases hg
theorem egs_cons {ws us : List Nat} {g : D → En → Option En} {r : List D → En → Option En} (h1 : EvG Γ e ws g) (h2 : EvGs Γ es us r) (hs : (assignEach (e :: es) Γ.X.env).map (·.2) = assign e Γ.X.env :: (assignEach es Γ.X.env).map (·.2) := by rfl) : EvGs Γ (e :: es) (ws ++ us) (consG g r) := by
  obtain ⟨t, a1, a2⟩ := h1
  obtain ⟨u, b1, b2⟩ := h2
  refine ⟨_, pgs_cons a1 b1 hs, fun σ H Z env φ S vs ds env' sh hg Q q => ?_⟩
  unfold consG at hg
  cases sh with
  | nil => cases hg
  | @cons v vs d ds h r0 =>
    obtain ⟨env1, e1, e2⟩ := Option.bind_eq_some_iff.mp hg
    refine ⟨v, vs, rfl, a2 σ H Z env φ S v d env1 h e1 _ fun σ1 φ1 S1 t1 k1 => ?_⟩
    refine b2 σ1 H Z env1 φ1 S1 vs ds env' r0 e2 _ fun σ2 φ2 S2 t2 k2 => ?_
    exact q σ2 φ2 S2 (fun a z => t1 a (t2 a z)) ⟨k2.1.trans k1.1, fun i hi => (k2.2 i fun z => hi (List.mem_append_right _ z)).trans (k1.2 i fun z => hi (List.mem_append_left _ z))⟩
def tupG (n : Nat) (r : List D → En → Option En) : D → En → Option En := fun d env => match d with
  | .tup ds => if ds.length = n then r ds env else none
  | _ => none
theorem eg_tup {k : Nat} {ws : List Nat} {n : Nat} {r : List D → En → Option En} (G : Good Γ) (h : EvGs Γ es ws r) (hn : (assignEach es Γ.X.env).length = n := by rfl) (hst : (assignEach es Γ.X.env).findIdx? (·.1) = none := by rfl) : EvG Γ (.Tuple es k pos) ws (tupG n r) := by
  obtain ⟨t, h1, h2⟩ := h
  refine ⟨_, pg_tup G.calm h1 hn hst, fun σ H Z env φ S v d env' sh hg Q q => ?_⟩
  unfold tupG at hg
  split at hg
  · split at hg
    · rename_i hl
      cases sh with
      | tup s r0 =>
        have s' := s
        rw [G.hK] at s'
        exact ⟨_, _, rfl, s', by rw [r0.length]; exact hl, h2 σ H Z env φ S _ _ env' r0 hg Q q⟩
    · cases hg
  · cases hg
/-- target = value, the target of any form -/
def asgS (g : D → En → Option En) (f : En → R D) : En → SR := fun env => (f env).then fun d env1 => match g d env1 with
  | some e => .nx e
  | none => .no
theorem es_asg {ws : List Nat} {g : D → En → Option En} {f : En → R D} (he : EvV Γ e f) (hg : EvG Γ a ws g) (hs : swapsWithSole [a] e pos.line Γ.X.env = pure false := by rfl) (hw : swappedStores [a] e Γ.X.env = pure none := by rfl)
    (h1 : (assignEach [a] Γ.X.env).map (·.2) = [assign a Γ.X.env] := by rfl) : EvS Γ (.Assign [a] e pos) (asgS g f) := by
  obtain ⟨t, a1, a2⟩ := he
  obtain ⟨u, b1, b2⟩ := hg
  refine ⟨_, ps_asg a1 b1 hs hw h1, fun σ H Z env φ S Dn P => ?_⟩
  refine a2.then S P fun d env1 v H1 Z1 φ1 A e1 S1 q dj ev P1 => ?_
  have P2 := P1.mono Evo.dropA
  cases hg : g d env1 with
  | none => rw [hg] at P2; exact P2.elim
  | some env2 =>
    rw [hg] at P2
    exact b2 σ H1 Z1 env1 φ1 S1 v d env2 q hg _ fun σ' φ' S' t' _ => P2 σ' H1 Z1 φ' S' (Evo.refl.sub t')

/-! ### what is walked -/
def Grow (H H' : Hp) : Prop := H' = H ∨ ∃ T o, H T = none ∧ H' = upd H T o
def ItD (C : RC) (J : It) (ds : List D) (Z₀ : Fp) (H₀ : Hp) : Prop := ∀ Z H, Ext Z₀ H₀ Z H → J.stop ds.length H ∧ ∀ i d, ds[i]? = some d → J.go i H ∧ ∀ x H', J.yld i H x H' → Sh C Z H' x d ∧ Grow H H'
def EvI (Γ : Ct) (tg iter : Expr) (f : En → R (List D)) : Prop := ∃ wi, PI Γ.X tg iter wi ∧ ∀ σ H Z env φ, SttC Γ Z σ H env φ → ∀ R : It → Hp → Prop, (match f env with
  | .ok ds env1 => ∀ J H1 Z1 φ1, SttC Γ Z1 σ H1 env1 φ1 → ItD Γ.C J ds Z1 H1 → Evo Z H (Tot φ) Z1 H1 (Tot φ1) → R J H1
  | .ex x => PostX Γ σ Z H (Tot φ) x
  | .no => False) → wi σ H R
def iSeq (K : PySem.W.Frag) (tl : TE) : TI := fun σ H R => tl σ H fun v H1 => (∃ a xs, v = .ref a ∧ SqL K H1 a xs ∧ R (Itl K a) H1) ∨ (∃ a xs, v = .ref a ∧ SqT K H1 a xs ∧ R (Itt K a) H1) ∨ ∃ x, v = .str x ∧ R (Its x) H1
theorem pi_seq {X : Cx} {tg l : Expr} {tl : TE} (hl : PE X l tl) : PI X tg l (iSeq X.K tl) := by
  refine ⟨fun pins s σ H R I h => ?_⟩
  refine thn (hl.run pins s σ H _ I h) fun v s1 ⟨x, H1, I1, r1, q1⟩ => ?_
  rcases q1 with ⟨a, xs, rfl, hq, q⟩ | ⟨a, xs, rfl, hq, q⟩ | ⟨y, rfl, q⟩
  · have hk : PI X tg l (iList X.K tl) := pi_list hl
    cases r1
    obtain ⟨its, rv, p, hz⟩ := I1.list hq
    refine wpAny_pyIter_list p.isList ?_
    refine ⟨s1.heap.objs.size, [s1.heap.objs.size], _, _, H1, rfl, I1.kept (t' := s1.toks) fun b o e => Heap.get?_push_of_some _ e, turn_list a _, ⟨_, Heap.get?_push_size _ rfl, rfl, rfl⟩, fun b hb => ?_, q⟩
    have e : b = s1.heap.objs.size := by simpa using hb
    subst e
    exact I1.fpOk (Nat.le_refl _) (I1.hok.fresh (Nat.le_refl _))
  · cases r1
    obtain ⟨its, rv, p, hz⟩ := I1.tuple hq
    refine wpAny_pyIter_tuple (show s1.heap.IsTuple a its.toArray from p) ?_
    refine ⟨s1.heap.objs.size, [s1.heap.objs.size], _, _, H1, rfl, I1.kept (t' := s1.toks) fun b o e => Heap.get?_push_of_some _ e, turn_tuple a _, ⟨_, Heap.get?_push_size _ rfl, rfl, rfl⟩, fun b hb => ?_, q⟩
    have e : b = s1.heap.objs.size := by simpa using hb
    subst e
    exact I1.fpOk (Nat.le_refl _) (I1.hok.fresh (Nat.le_refl _))
  · obtain ⟨t, rfl⟩ := r1
    cases ha : y.cps.all (· < 128)
    · exact wpAny_pyIter_wide ha (pi_one (tk := s1.toks) I1 _ (turn_str _ y t "str_iterator" (.inr rfl)) ⟨_, Heap.get?_push_size _ rfl, rfl, rfl⟩ q)
    · exact wpAny_pyIter_ascii ha (pi_one (tk := s1.toks) I1 _ (turn_str _ y t "str_ascii_iterator" (.inl rfl)) ⟨_, Heap.get?_push_size _ rfl, rfl, rfl⟩ q)
/-- the items of a value that is walked -/
def itsD : D → Option (List D)
  | .lst ds => some ds
  | .tup ds => some ds
  | .scr ns => some (ns.map .int)
  | .str x => some (x.cps.toList.map fun c => .str ⟨#[c]⟩)
  | _ => none
def seqI' (f : En → R D) : En → R (List D) := fun env => (f env).bind fun d env1 => R.of (itsD d) env1
theorem ei_seq {tg l : Expr} {f : En → R D} (G : Good Γ) (h : EvV Γ l f) : EvI Γ tg l (seqI' f) := by
  obtain ⟨t, h1, h2⟩ := h
  refine ⟨_, pi_seq h1, fun σ H Z env φ S R P => ?_⟩
  refine h2 σ H Z env φ S _ ?_
  unfold seqI' at P
  cases e : f env with
  | ex x => rw [e] at P; exact P
  | no => rw [e] at P; exact P
  | ok d env1 =>
    rw [e] at P
    intro v H1 Z1 φ1 A S1 sh dj ev
    have ev' := ev.sub (F2 := Tot φ1) fun _ z => .inl z
    have sh : Sh Γ.C Z1 H1 v d := sh
    cases sh with
    | @lst a xs ds hs z r =>
      refine .inl ⟨a, xs, rfl, SqL.of hs, P (Itl Γ.X.K a) H1 Z1 φ1 S1 (fun Z2 H2 x => ?_) ev'⟩
      have h2' := x.zk a _ z hs
      have r2 := r.ext x
      refine ⟨⟨xs, SqL.of h2', by rw [r.length]; exact Nat.le_refl _⟩, fun i d hd => ?_⟩
      obtain ⟨w, hw, hwd⟩ := r2.get' hd
      refine ⟨⟨xs, w, SqL.of h2', hw⟩, fun y H' hy => ?_⟩
      obtain ⟨rfl, hy⟩ := hy
      have := hy xs (SqL.of h2')
      rw [hw] at this; cases this
      exact ⟨hwd, .inl rfl⟩
    | @tup a xs ds hs r =>
      have hs' := hs
      rw [G.hK] at hs'
      refine .inr (.inl ⟨a, xs, rfl, hs', P (Itt Γ.X.K a) H1 Z1 φ1 S1 (fun Z2 H2 x => ?_) ev'⟩)
      have h2' : SqT Γ.X.K H2 a xs := by rw [← G.hK]; exact x.sqT hs
      have r2 := r.ext x
      refine ⟨⟨xs, h2', by rw [r.length]; exact Nat.le_refl _⟩, fun i d hd => ?_⟩
      obtain ⟨w, hw, hwd⟩ := r2.get' hd
      refine ⟨⟨xs, w, h2', hw⟩, fun y H' hy => ?_⟩
      obtain ⟨rfl, hy⟩ := hy
      have := hy xs h2'
      rw [hw] at this; cases this
      exact ⟨hwd, .inl rfl⟩
    | @scr a ns hs =>
      have hq := hs.sqL
      rw [G.hK] at hq
      refine .inl ⟨a, _, rfl, hq, P (Itl Γ.X.K a) H1 Z1 φ1 S1 (fun Z2 H2 x => ?_) ev'⟩
      have h2' : SqL Γ.X.K H2 a (ns.map V.int) := by rw [← G.hK]; exact (x.scr hs).sqL
      have r2 : ShL Γ.C Z2 H2 (ns.map V.int) (ns.map D.int) := shl_ints
      refine ⟨⟨_, h2', by rw [List.length_map, List.length_map]; exact Nat.le_refl _⟩, fun i d hd => ?_⟩
      obtain ⟨w, hw, hwd⟩ := r2.get' hd
      refine ⟨⟨_, w, h2', hw⟩, fun y H' hy => ?_⟩
      obtain ⟨rfl, hy⟩ := hy
      have := hy _ h2'
      rw [hw] at this; cases this
      exact ⟨hwd, .inl rfl⟩
    | str y =>
      refine .inr (.inr ⟨y, rfl, P (Its y) H1 Z1 φ1 S1 (fun Z2 H2 x => ?_) ev'⟩)
      have hl : ∀ i : Nat, (y.cps.toList)[i]? = y.cps[i]? := fun i => Array.getElem?_toList
      refine ⟨(show y.cps.size ≤ (y.cps.toList.map fun c => D.str ⟨#[c]⟩).length by rw [List.length_map, Array.length_toList]; exact Nat.le_refl _), fun i d hd => ?_⟩
      rw [List.getElem?_map, hl] at hd
      obtain ⟨c, hc, rfl⟩ := Option.map_eq_some_iff.mp hd
      refine ⟨(Array.getElem?_eq_some_iff.mp hc).1, fun z H' hz => ?_⟩
      obtain ⟨rfl, c', hc', rfl⟩ := hz
      rw [hc] at hc'; cases hc'
      exact ⟨.str _, .inl rfl⟩
    | non => exact P.elim
    | bl _ => exact P.elim
    | int _ => exact P.elim
    | fn _ => exact P.elim
    | dic _ _ _ _ => exact P.elim
def rgB (lo hi : Int) : Bool := Nat.ble lo.natAbs 4611686018427387903 && Nat.ble hi.natAbs 4611686018427387903
theorem rgB_ok {lo hi : Int} (h : rgB lo hi = true) : -(2 ^ 62) ≤ lo ∧ lo < 2 ^ 62 ∧ -(2 ^ 62) ≤ hi ∧ hi < 2 ^ 62 := by
  unfold rgB at h
  rw [Bool.and_eq_true] at h
  have h1 := Nat.le_of_ble_eq_true h.1
  have h2 := Nat.le_of_ble_eq_true h.2
  omega
def rgD (lo hi : Int) : Option (List D) := if rgB lo hi = true then some ((List.range (hi - lo).toNat).map fun k : Nat => .int (lo + k)) else none
theorem itr_d {C : RC} {lo : Int} {n : Nat} {Z : Fp} {H : Hp} : ItD C (Itr lo n) ((List.range n).map fun k : Nat => .int (lo + k)) Z H := fun Z2 H2 x => by
  refine ⟨(show n ≤ ((List.range n).map fun k : Nat => D.int (lo + k)).length by simp), fun i d hd => ?_⟩
  rw [List.getElem?_map] at hd
  obtain ⟨j, hj, rfl⟩ := Option.map_eq_some_iff.mp hd
  obtain ⟨h1, h2⟩ := List.getElem?_eq_some_iff.mp hj
  rw [List.length_range] at h1
  rw [List.getElem_range] at h2
  subst h2
  exact ⟨h1, fun y H' ⟨e1, e2⟩ => by subst e1 e2; exact ⟨.int _, .inl rfl⟩⟩
def rg1D : List D → Option (List D)
  | [.int j] => rgD 0 j
  | _ => none
def rg2D : List D → Option (List D)
  | [.int i, .int j] => rgD i j
  | _ => none
def rg1 (f : En → R (List D)) : En → R (List D) := fun env => (f env).bind fun ds env1 => R.of (rg1D ds) env1
def rg2 (f : En → R (List D)) : En → R (List D) := fun env => (f env).bind fun ds env1 => R.of (rg2D ds) env1
theorem ei_rg1 {tg : Expr} {f : En → R (List D)} (hg : Gl Γ.X "range") (hm : Γ.X.mg "range" = none) (ha : EvA Γ [a] f) (hs : starEach [a] Γ.X.env = [(false, eval a Γ.X.env)] := by rfl) : EvI Γ tg (.Call (.Name "range" p) [a] [] pos) (rg1 f) := by
  obtain ⟨t, h1, h2⟩ := ha
  refine ⟨_, pi_range1 hg hm h1 hs, fun σ H Z env φ S R P => ?_⟩
  refine h2 σ H Z env φ S _ ?_
  unfold rg1 at P
  cases e : f env with
  | ex x => rw [e] at P; exact P
  | no => rw [e] at P; exact P
  | ok ds env1 =>
    rw [e] at P
    simp only [Pv.R.bind_ok] at P
    intro vs H1 Z1 φ1 A S1 sh0 dj ev
    have ev' := ev.sub (F2 := Tot φ1) fun _ z => .inl z
    have sh : ShL Γ.C Z1 H1 vs ds := sh0
    cases eD : rg1D ds with
    | none => rw [eD] at P; exact P.elim
    | some items =>
      rw [eD] at P
      unfold rg1D at eD
      split at eD
      · rename_i j
        cases sh with
        | cons h r =>
          cases r
          cases h
          unfold rgD at eD
          split at eD
          · rename_i hb
            have hb := rgB_ok hb
            cases eD
            have e0 : (j - 0).toNat = j.toNat := by rw [Int.sub_zero]
            refine ⟨j, rfl, hb.2.2.1, hb.2.2.2, P _ H1 Z1 φ1 S1 ?_ ev'⟩
            rw [e0]
            exact itr_d
          · cases eD
      · cases eD
theorem ei_rg2 {tg : Expr} {f : En → R (List D)} (hg : Gl Γ.X "range") (hm : Γ.X.mg "range" = none) (ha : EvA Γ [a, b] f) (hs : starEach [a, b] Γ.X.env = [(false, eval a Γ.X.env), (false, eval b Γ.X.env)] := by rfl) (hs2 : starEach [b] Γ.X.env = [(false, eval b Γ.X.env)] := by rfl) : EvI Γ tg (.Call (.Name "range" p) [a, b] [] pos) (rg2 f) := by
  obtain ⟨t, h1, h2⟩ := ha
  refine ⟨_, pi_range2 hg hm h1 hs hs2, fun σ H Z env φ S R P => ?_⟩
  refine h2 σ H Z env φ S _ ?_
  unfold rg2 at P
  cases e : f env with
  | ex x => rw [e] at P; exact P
  | no => rw [e] at P; exact P
  | ok ds env1 =>
    rw [e] at P
    simp only [Pv.R.bind_ok] at P
    intro vs H1 Z1 φ1 A S1 sh0 dj ev
    have ev' := ev.sub (F2 := Tot φ1) fun _ z => .inl z
    have sh : ShL Γ.C Z1 H1 vs ds := sh0
    cases eD : rg2D ds with
    | none => rw [eD] at P; exact P.elim
    | some items =>
      rw [eD] at P
      unfold rg2D at eD
      split at eD
      · rename_i i j
        cases sh with
        | cons h r =>
          cases r with
          | cons h' r =>
            cases r
            cases h
            cases h'
            unfold rgD at eD
            split at eD
            · rename_i hb
              have hb := rgB_ok hb
              cases eD
              exact ⟨i, j, rfl, hb, P _ H1 Z1 φ1 S1 itr_d ev'⟩
            · cases eD
      · cases eD
/-- zip of two lists or two tuples -/
def zipD : D → D → Option (List D)
  | .lst xs, .lst ys => some ((xs.zip ys).map fun q => .tup [q.1, q.2])
  | .tup xs, .tup ys => some ((xs.zip ys).map fun q => .tup [q.1, q.2])
  | _, _ => none
def zipD2 : List D → Option (List D)
  | [d, e] => zipD d e
  | _ => none
def zipI (f : En → R (List D)) : En → R (List D) := fun env => (f env).bind fun ds env1 => R.of (zipD2 ds) env1
theorem zip_get {α β : Type} {xs : List α} {ys : List β} {i : Nat} {q : α × β} (h : (xs.zip ys)[i]? = some q) : xs[i]? = some q.1 ∧ ys[i]? = some q.2 := by
  rw [List.zip, List.getElem?_zipWith] at h
  cases e1 : xs[i]? with
  | none => rw [e1] at h; simp at h
  | some x =>
    cases e2 : ys[i]? with
    | none => rw [e1, e2] at h; simp at h
    | some y => rw [e1, e2] at h; simp at h; subst h; exact ⟨rfl, rfl⟩
theorem ei_zip {ts : List Expr} {kk : Nat} {tpos : Pos} {f : En → R (List D)} (G : Good Γ) (hg : Gl Γ.X "zip") (hm : Γ.X.mg "zip" = none) (ha : EvA Γ [a, b] f)
    (hs : starEach [a, b] Γ.X.env = (false, eval a Γ.X.env) :: starEach [b] Γ.X.env := by rfl) (hpl : (backTo pos (starEach [b] Γ.X.env)).any (·.1) = false := by rfl) : EvI Γ (.Tuple ts kk tpos) (.Call (.Name "zip" p) [a, b] [] pos) (zipI f) := by
  obtain ⟨t, h1, h2⟩ := ha
  refine ⟨_, RZ.pi_zipA hg hm h1 hs hpl, fun σ H Z env φ S R P => ?_⟩
  refine h2 σ H Z env φ S _ ?_
  unfold zipI at P
  cases e : f env with
  | ex x => rw [e] at P; exact P
  | no => rw [e] at P; exact P
  | ok ds env1 =>
    rw [e] at P
    simp only [Pv.R.bind_ok] at P
    intro vs H1 Z1 φ1 A S1 sh0 dj ev
    have ev' := ev.sub (F2 := Tot φ1) fun _ z => .inl z
    have sh : ShL Γ.C Z1 H1 vs ds := sh0
    cases eD : zipD2 ds with
    | none => rw [eD] at P; exact P.elim
    | some items =>
     rw [eD] at P
     unfold zipD2 at eD
     split at eD
     · rename_i d e
       cases sh with
       | cons h r =>
         cases r with
         | cons h' r =>
           cases r
           unfold zipD at eD
           split at eD
           · rename_i xs ys
             cases eD
             cases h with
             | @lst a us _ ha za ra =>
               cases h' with
               | @lst b ws _ hb zb rb =>
                 refine ⟨a, b, us, ws, rfl, .inl ⟨SqL.of ha, SqL.of hb, P _ H1 Z1 φ1 S1 (fun Z2 H2 x => ?_) ev'⟩⟩
                 have ha2 := x.zk a _ za ha
                 have hb2 := x.zk b _ zb hb
                 have ra2 := ra.ext x
                 have rb2 := rb.ext x
                 refine ⟨⟨us, ws, SqL.of ha2, SqL.of hb2, by rw [List.length_map, List.length_zip, ra.length, rb.length]; omega⟩, fun i d hd => ?_⟩
                 rw [List.getElem?_map] at hd
                 obtain ⟨q, hq, rfl⟩ := Option.map_eq_some_iff.mp hd
                 obtain ⟨q1, q2⟩ := zip_get hq
                 obtain ⟨w1, e1, s1⟩ := ra2.get' q1
                 obtain ⟨w2, e2, s2⟩ := rb2.get' q2
                 refine ⟨⟨us, ws, w1, w2, SqL.of ha2, SqL.of hb2, e1, e2⟩, fun y H' hy => ?_⟩
                 obtain ⟨T, y1, y2, rfl, hT, rfl, k1, k2⟩ := hy
                 have f1 := k1 us (SqL.of ha2)
                 have f2 := k2 ws (SqL.of hb2)
                 rw [e1] at f1; cases f1
                 rw [e2] at f2; cases f2
                 have xn : Ext Z2 H2 Z2 (upd H2 T (.tup [w1, w2])) := Ext.new hT
                 exact ⟨.tup (SqT.of upd_same) (.cons (s1.ext xn) (.cons (s2.ext xn) .nil)), .inr ⟨T, _, hT, rfl⟩⟩
           · rename_i xs ys
             cases eD
             cases h with
             | @tup a us _ ha ra =>
               cases h' with
               | @tup b ws _ hb rb =>
                 have ha' := ha
                 have hb' := hb
                 rw [G.hK] at ha' hb'
                 refine ⟨a, b, us, ws, rfl, .inr ⟨ha', hb', P _ H1 Z1 φ1 S1 (fun Z2 H2 x => ?_) ev'⟩⟩
                 have ha2 : SqT Γ.X.K H2 a us := by rw [← G.hK]; exact x.sqT ha
                 have hb2 : SqT Γ.X.K H2 b ws := by rw [← G.hK]; exact x.sqT hb
                 have ra2 := ra.ext x
                 have rb2 := rb.ext x
                 refine ⟨⟨us, ws, ha2, hb2, by rw [List.length_map, List.length_zip, ra.length, rb.length]; omega⟩, fun i d hd => ?_⟩
                 rw [List.getElem?_map] at hd
                 obtain ⟨q, hq, rfl⟩ := Option.map_eq_some_iff.mp hd
                 obtain ⟨q1, q2⟩ := zip_get hq
                 obtain ⟨w1, e1, s1⟩ := ra2.get' q1
                 obtain ⟨w2, e2, s2⟩ := rb2.get' q2
                 refine ⟨⟨us, ws, w1, w2, ha2, hb2, e1, e2⟩, fun y H' hy => ?_⟩
                 obtain ⟨T, y1, y2, rfl, hT, rfl, k1, k2⟩ := hy
                 have f1 := k1 us ha2
                 have f2 := k2 ws hb2
                 rw [e1] at f1; cases f1
                 rw [e2] at f2; cases f2
                 have xn : Ext Z2 H2 Z2 (upd H2 T (.tup [w1, w2])) := Ext.new hT
                 exact ⟨.tup (SqT.of upd_same) (.cons (s1.ext xn) (.cons (s2.ext xn) .nil)), .inr ⟨T, _, hT, rfl⟩⟩
           · cases eD
     · cases eD

/-! ### for -/
def loopS (g : D → En → Option En) (body : En → SR) : List D → En → SR
  | [], env => .nx env
  | d :: ds, env => match g d env with
    | none => .no
    | some env1 => match body env1 with
      | .nx e => loopS g body ds e
      | .ct e => loopS g body ds e
      | .bk e => .nx e
      | .ret p e => .ret p e
      | .ex x => .ex x
      | .no => .no
def forS (fi : En → R (List D)) (g : D → En → Option En) (body : En → SR) : En → SR := fun env => (fi env).then fun ds env1 => loopS g body ds env1
theorem Grow.stt {σ : L2.St} {H H' : Hp} {Z : Fp} {env : En} {φ : Nat → Fp} (h : Grow H H') (S : SttC Γ Z σ H env φ) : SttC Γ Z σ H' env φ ∧ Ext Z H Z H' ∧ Evo Z H (Tot φ) Z H' (Tot φ) := by
  rcases h with rfl | ⟨T, o, hT, rfl⟩
  · exact ⟨S, Ext.refl, Evo.refl⟩
  · exact ⟨S.new hT, Ext.new hT, Evo.new hT fun _ z => .inl z⟩
theorem es_for {tg iter : Expr} {ws : List Nat} {body : List Stmt} {fi : En → R (List D)} {g : D → En → Option En} {fb : En → SR} (G : Good Γ) (hp : PassesOwn (model Γ.X.prog Γ.X.w) Γ.X.A Γ.X.env Γ.X.xe) (hi : EvI Γ tg iter fi) (hg : EvG Γ tg ws g) (hb : EvB Γ body fb)
    (hs : ∀ x, foldedSetIterable iter Γ.X.env x = pure x := by intro _; rfl) : EvS Γ (.For tg iter body [] pos) (forS fi g fb) := by
  obtain ⟨wi, i1, i2⟩ := hi
  obtain ⟨t, g1, g2⟩ := hg
  obtain ⟨u, b1, b2⟩ := hb
  refine ⟨_, ps_for hp G.calm i1 g1 b1 hs, fun σ H Z env φ S Dn P => ?_⟩
  refine i2 σ H Z env φ S _ ?_
  unfold forS at P
  cases e : fi env with
  | ex x => rw [e] at P; exact P σ S.io S.l0
  | no => rw [e] at P; exact P
  | ok ds env1 =>
    rw [e] at P
    simp only [Pv.R.then_ok] at P
    intro J H1 Z1 φ1 S1 it ev
    have P1 := PostS.mono P ev
    refine ⟨fun i m σ' H' => m = ds.length - i ∧ i ≤ ds.length ∧ ∃ env' Z' φ', SttC Γ Z' σ' H' env' φ' ∧ Ext Z1 H1 Z' H' ∧ PostS Γ Z' H' (Tot φ') (loopS g fb (ds.drop i) env') Dn, ⟨ds.length, by simp, Nat.zero_le _, env1, Z1, φ1, S1, Ext.refl, by rw [List.drop_zero]; exact P1⟩, ?_⟩
    rintro i m σ' H' ⟨rfl, hi, env', Z', φ', S', x', P'⟩
    obtain ⟨stop, go⟩ := it Z' H' x'
    by_cases hlt : i < ds.length
    · obtain ⟨hgo, hy⟩ := go i ds[i] (List.getElem?_eq_getElem hlt)
      refine .inr ⟨hgo, fun σ2 H2 => ∃ env2 Z2 φ2, SttC Γ Z2 σ2 H2 env2 φ2 ∧ Ext Z1 H1 Z2 H2 ∧ PostS Γ Z2 H2 (Tot φ2) (loopS g fb (ds.drop (i + 1)) env2) Dn, fun σ2 H2 ⟨env2, Z2, φ2, S2, x2, P2⟩ => ⟨ds.length - (i + 1), by omega, rfl, hlt, env2, Z2, φ2, S2, x2, P2⟩, fun v H2 hv => ?_⟩
      obtain ⟨sh, gr⟩ := hy v H2 hv
      obtain ⟨S2, x2, ev2⟩ := gr.stt S'
      have P2 := PostS.mono P' ev2
      rw [List.drop_eq_getElem_cons hlt] at P2
      unfold loopS at P2
      cases eg : g ds[i] env' with
      | none => rw [eg] at P2; exact P2.elim
      | some env2 =>
        rw [eg] at P2
        simp only at P2
        refine g2 σ' H2 Z' env' φ' S2 v ds[i] env2 sh eg _ fun σ3 φ3 S3 t3 _ => ?_
        have P3 := PostS.mono P2 (Evo.refl.sub t3)
        refine b2 σ3 H2 Z' env2 φ3 S3 _ ?_
        cases eb : fb env2 with
        | nx e =>
          rw [eb] at P3
          exact fun σ4 H4 Z4 φ4 S4 ev4 => ⟨e, Z4, φ4, S4, (x'.trans x2).trans (S3.ext ev4), PostS.mono P3 ev4⟩
        | ct e =>
          rw [eb] at P3
          exact fun σ4 H4 Z4 φ4 S4 ev4 => ⟨e, Z4, φ4, S4, (x'.trans x2).trans (S3.ext ev4), PostS.mono P3 ev4⟩
        | bk e => rw [eb] at P3; exact P3
        | ret p e => rw [eb] at P3; exact P3
        | ex x => rw [eb] at P3; exact P3
        | no => rw [eb] at P3; exact P3
    · have e1 : i = ds.length := by omega
      subst e1
      rw [List.drop_length] at P'
      exact .inl ⟨stop, PostS.here P' S'⟩

/-! ### while -/
def whileS (c : En → R Bool) (body : En → SR) : Nat → En → SR
  | 0, _ => .no
  | n + 1, env => (c env).then fun b env1 => if b = true then (match body env1 with
      | .nx e => whileS c body n e
      | .ct e => whileS c body n e
      | .bk e => .nx e
      | .ret p e => .ret p e
      | .ex x => .ex x
      | .no => .no) else .nx env1
theorem es_while {c : Expr} {body : List Stmt} {fc : En → R Bool} {fb : En → SR} (n : Nat) (hp : PassesOwn (model Γ.X.prog Γ.X.w) Γ.X.A Γ.X.env Γ.X.xe) (hc : EvT Γ c fc) (hb : EvB Γ body fb) : EvS Γ (.While c body [] pos) (whileS fc fb n) := by
  obtain ⟨t, c1, c2⟩ := hc
  obtain ⟨u, b1, b2⟩ := hb
  refine ⟨_, ps_while hp c1 b1, fun σ H Z env φ S Dn P => ?_⟩
  refine ⟨fun m σ' H' => ∃ env' Z' φ', SttC Γ Z' σ' H' env' φ' ∧ PostS Γ Z' H' (Tot φ') (whileS fc fb m env') Dn, ⟨n, env, Z, φ, S, P⟩, ?_⟩
  rintro m σ' H' ⟨env', Z', φ', S', P'⟩
  cases m with
  | zero => exact P'.elim
  | succ m =>
    unfold whileS at P'
    refine c2.then S' P' fun b env1 b' H1 Z1 φ1 A e1 S1 q dj ev P1 => ?_
    cases (show b = b' from q)
    have P2 := P1.mono Evo.dropA
    cases b with
    | false =>
      rw [if_neg Bool.false_ne_true] at P2 ⊢
      exact PostS.here P2 S1
    | true =>
      rw [if_pos rfl] at P2 ⊢
      refine ⟨fun σ2 H2 => ∃ env2 Z2 φ2, SttC Γ Z2 σ2 H2 env2 φ2 ∧ PostS Γ Z2 H2 (Tot φ2) (whileS fc fb m env2) Dn, fun σ2 H2 h => ⟨m, Nat.lt_succ_self m, h⟩, ?_⟩
      refine b2 σ' H1 Z1 env1 φ1 S1 _ ?_
      cases eb : fb env1 with
      | nx e =>
        rw [eb] at P2
        exact fun σ4 H4 Z4 φ4 S4 ev4 => ⟨e, Z4, φ4, S4, PostS.mono P2 ev4⟩
      | ct e =>
        rw [eb] at P2
        exact fun σ4 H4 Z4 φ4 S4 ev4 => ⟨e, Z4, φ4, S4, PostS.mono P2 ev4⟩
      | bk e => rw [eb] at P2; exact P2
      | ret p e => rw [eb] at P2; exact P2
      | ex x => rw [eb] at P2; exact P2
      | no => rw [eb] at P2; exact P2
end
end Pv
end

section
set_option Elab.async false
set_option linter.all false
set_option maxRecDepth 100000
set_option maxHeartbeats 4000000
/-! Pv10: list comprehensions. -/
namespace Pv
open PySem PySem.Spec PyProof.Rows L2

def wipeE (env : En) : List Nat → En
  | [] => env
  | v :: vs => (wipeE env vs).set v none
theorem wipeE_length (env : En) : ∀ vs : List Nat, (wipeE env vs).length = env.length
  | [] => rfl
  | v :: vs => by unfold wipeE; rw [List.length_set, wipeE_length env vs]
theorem wipeE_out {env : En} {i : Nat} : ∀ {vs : List Nat}, i ∉ vs → (wipeE env vs)[i]? = env[i]?
  | [], _ => rfl
  | v :: vs, h => by
    unfold wipeE
    rw [List.getElem?_set_ne (fun e => h (by rw [e]; exact List.mem_cons_self)), wipeE_out fun z => h (List.mem_cons_of_mem _ z)]
theorem wipeE_in {env : En} {i : Nat} {p : D × Nat} : ∀ {vs : List Nat}, i ∈ vs → (wipeE env vs)[i]? ≠ some (some p)
  | v :: vs, h, e => by
    unfold wipeE at e
    by_cases hv : v = i
    · subst hv
      by_cases hl : v < (wipeE env vs).length
      · rw [List.getElem?_set_self hl] at e; cases e
      · rw [List.getElem?_eq_none (by simpa using hl)] at e; cases e
    · rw [List.getElem?_set_ne hv] at e
      exact wipeE_in ((List.mem_cons.mp h).resolve_left fun z => hv z.symm) e
theorem wipe_of {σ σ2 : L2.St} {vs ws : List Nat} (hs : ∀ i ∈ ws, i ∈ vs) (hl : σ2.length = (wipe σ vs).length) (h : ∀ i, i ∉ ws → σ2[i]? = (wipe σ vs)[i]?) : wipe σ2 vs = wipe σ vs := by
  apply List.ext_getElem?
  intro i
  by_cases hi : i ∈ vs
  · have lk : ∀ (τ : L2.St) (us : List Nat), i ∈ us → (wipe τ us)[i]? = if i < τ.length then some none else none := fun τ us => by
      induction us with
      | nil => intro h; cases h
      | cons v us ih =>
        intro hm
        unfold wipe
        by_cases hv : v = i
        · subst hv
          by_cases hl2 : v < (wipe τ us).length
          · rw [List.getElem?_set_self hl2, if_pos (by rwa [wipe_length] at hl2)]
          · rw [List.getElem?_eq_none (by simpa using hl2), if_neg (by rwa [wipe_length] at hl2)]
        · rw [List.getElem?_set_ne hv]
          exact ih ((List.mem_cons.mp hm).resolve_left fun z => hv z.symm)
    rw [lk _ _ hi, lk _ _ hi, hl, wipe_length]
  · rw [wipe_out hi, h i fun z => hi (hs i z)]
section
variable {C : RC} {σ : L2.St} {Z : Fp} {H : Hp} {env : En} {φ : Nat → Fp}
theorem Stt.wipe {io : List Nat} {σ₀ : L2.St} (S : Stt C io σ₀ Z σ H env φ) (vs : List Nat) : Stt C [] [] Z (L2.wipe σ vs) H (wipeE env vs) (fun i a => i ∉ vs ∧ φ i a) where
  len := by rw [wipe_length, wipeE_length, S.len]
  slot := fun i d k h => by
    by_cases hi : i ∈ vs
    · exact (wipeE_in hi h).elim
    · rw [wipeE_out hi] at h
      obtain ⟨v, h1, h2⟩ := S.slot i d k h
      exact ⟨v, by rw [wipe_out hi]; exact h1, h2.congr fun a => ⟨fun z => ⟨hi, z⟩, fun z => z.2⟩⟩
  off := fun i h a ⟨hi, z⟩ => S.off i (fun p => by have := h p; rwa [wipeE_out hi] at this) a z
  dj := fun i j a h1 h2 => S.dj i j a h1.2 h2.2
  nz := fun i a h => S.nz i a h.2
  zh := S.zh
  io := fun _ h => by cases h
  l0 := fun h => (h rfl).elim
end
/-- behind the comprehension: its own slots are as they were (what was shared) -/
def backE (env1 env2 : En) : List Nat → En
  | [] => env2
  | v :: vs => (backE env1 env2 vs).set v (match env1[v]? with
    | some (some (d, 0)) => some (d, 0)
    | _ => none)
theorem backE_length (env1 env2 : En) : ∀ vs : List Nat, (backE env1 env2 vs).length = env2.length
  | [] => rfl
  | v :: vs => by unfold backE; rw [List.length_set, backE_length env1 env2 vs]
theorem backE_out {env1 env2 : En} {i : Nat} : ∀ {vs : List Nat}, i ∉ vs → (backE env1 env2 vs)[i]? = env2[i]?
  | [], _ => rfl
  | v :: vs, h => by
    unfold backE
    rw [List.getElem?_set_ne (fun e => h (by rw [e]; exact List.mem_cons_self)), backE_out fun z => h (List.mem_cons_of_mem _ z)]
theorem backE_in {env1 env2 : En} {i : Nat} {p : D × Nat} : ∀ {vs : List Nat}, i ∈ vs → (backE env1 env2 vs)[i]? = some (some p) → env1[i]? = some (some p) ∧ p.2 = 0
  | v :: vs, h, e => by
    unfold backE at e
    by_cases hv : v = i
    · subst hv
      by_cases hl : v < (backE env1 env2 vs).length
      · rw [List.getElem?_set_self hl] at e
        split at e
        · rename_i d h1
          cases e
          exact ⟨h1, rfl⟩
        · cases e
      · rw [List.getElem?_eq_none (by simpa using hl)] at e; cases e
    · rw [List.getElem?_set_ne hv] at e
      exact backE_in ((List.mem_cons.mp h).resolve_left fun z => hv z.symm) e
def R.noX {α : Type} (r : R α) : R α :=
  match r with
  | .ok a e => .ok a e
  | _ => .no
@[simp] theorem R.noX_ok {α : Type} (a : α) (e : En) : (R.ok a e).noX = .ok a e := rfl
/-- the turns: m is the depth that the items own -/
def compL (g : D → En → Option En) (tt : En → R Bool) (te : En → R (D × Nat)) (m : Nat) (vs : List Nat) : List D → En → List D → R (List D)
  | [], env, acc => .ok acc env
  | d :: ds, env, acc => match g d env with
    | none => .no
    | some env1 => (tt env1).noX.bind fun b env2 => if b = true then
        (te env2).noX.bind fun y env3 => if y.2 = m ∧ acc.length < lim then compL g tt te m vs ds (wipeE env3 vs) (acc ++ [y.1]) else .no
      else compL g tt te m vs ds (wipeE env2 vs) acc
def comp (fi : En → R (List D)) (g : D → En → Option En) (tt : En → R Bool) (te : En → R (D × Nat)) (m : Nat) (vs : List Nat) : En → R (D × Nat) := fun env =>
  (fi env).bind fun ds env1 => (compL g tt te m vs ds (wipeE env1 vs) []).bind fun acc env2 => .ok (.lst acc, m + 1) (backE env1 env2 vs)

/-- the place of a comprehension's block -/
abbrev blkCt (Γ : Ct) (scope : Scope) (s : Shared) (H : Hp) (c : Addr) (cl : List (Str × Addr)) (fp : List Addr) : Ct :=
  ⟨Γ.X.blk s H scope (compEnvC scope cl c Γ.X.env) fp, Γ.C, fun _ _ _ _ => False, [], []⟩
theorem Good.blk {Γ : Ct} (G : Good Γ) {scope : Scope} {s : Shared} {H : Hp} {c : Addr} {cl : List (Str × Addr)} {fp : List Addr} : Good (blkCt Γ scope s H c cl fp) :=
  ⟨G.hK, G.nd, G.calm, fun _ _ ⟨_, _, _, _, _, _, _, _, _, _, _, _, _, _, _, _, w⟩ => w.elim⟩
/-- the data's side of a block's place -/
abbrev blk0 (Γ : Ct) : Ct := ⟨Γ.X, Γ.C, fun _ _ _ _ => False, [], []⟩
section
variable {Γ : Ct} {scope : Scope} {elt tg iter : Expr} {ifs : List Expr}
theorem pe_weak {X : Cx} {e : Expr} {t t' : TE} (h : PE X e t) (k : ∀ σ H Q, t' σ H Q → t σ H Q) : PE X e t' := ⟨fun pins s σ H Q I q => h.run pins s σ H Q I (k _ _ _ q)⟩
theorem blk_e {f : En → R (D × Nat)} (h : ∀ s H c cl fp, EvE (blkCt Γ scope s H c cl fp) elt f) :
    ∃ te, (∀ (s : Shared) (H : Hp) (c : Addr) (cl : List (Str × Addr)) (fp : List Addr), PE (Γ.X.blk s H scope (compEnvC scope cl c Γ.X.env) fp) elt te) ∧ Ev (blk0 Γ) (ER Γ.C) f te := by
  refine ⟨fun σ H Q => ∀ s H0 c cl fp, Classical.choose (h s H0 c cl fp) σ H Q, fun s H c cl fp => pe_weak (Classical.choose_spec (h s H c cl fp)).1 fun σ H' Q q => q s H c cl fp, fun σ H Z env φ S Q P s H0 c cl fp => ?_⟩
  exact (Classical.choose_spec (h s H0 c cl fp)).2 σ H Z env φ S Q P
theorem blk_g {ws : List Nat} {g : D → En → Option En} (h : ∀ s H c cl fp, EvG (blkCt Γ scope s H c cl fp) tg ws g) :
    ∃ t, (∀ (s : Shared) (H : Hp) (c : Addr) (cl : List (Str × Addr)) (fp : List Addr), PG (Γ.X.blk s H scope (compEnvC scope cl c Γ.X.env) fp) tg t) ∧
      ∀ σ H Z env φ, SttC (blk0 Γ) Z σ H env φ → ∀ v d env', Sh Γ.C Z H v d → g d env = some env' → ∀ Q : L2.St → Hp → Prop, (∀ σ' φ', SttC (blk0 Γ) Z σ' H env' φ' → (∀ a, Tot φ' a → Tot φ a) → (σ'.length = σ.length ∧ ∀ i, i ∉ ws → σ'[i]? = σ[i]?) → Q σ' H) → t v σ H Q := by
  refine ⟨fun v σ H Q => ∀ s H0 c cl fp, Classical.choose (h s H0 c cl fp) v σ H Q, fun s H c cl fp => ⟨fun pins s' σ H' v u Q I r q => (Classical.choose_spec (h s H c cl fp)).1.run pins s' σ H' v u Q I r (q s H c cl fp)⟩, fun σ H Z env φ S v d env' sh hg Q q s H0 c cl fp => ?_⟩
  exact (Classical.choose_spec (h s H0 c cl fp)).2 σ H Z env φ S v d env' sh hg Q q
/-- a clause's tests -/
def EvPT (Γ : Ct) (ifs : List Expr) (f : En → R Bool) : Prop := ∃ t, PTs Γ.X ifs t ∧ Ev Γ TR f t
def yesT : En → R Bool := fun env => .ok true env
theorem ept_nil : EvPT Γ [] yesT := ⟨_, pts_nil, fun σ H Z env φ S Q P => Post.here P S rfl⟩
theorem ept_one {c : Expr} {f : En → R Bool} (h : EvT Γ c f) : EvPT Γ [c] f := by
  obtain ⟨t, h1, h2⟩ := h
  exact ⟨t, pts_one h1, h2⟩
theorem blk_t {f : En → R Bool} (h : ∀ s H c cl fp, EvPT (blkCt Γ scope s H c cl fp) ifs f) :
    ∃ t, (∀ (s : Shared) (H : Hp) (c : Addr) (cl : List (Str × Addr)) (fp : List Addr), PTs (Γ.X.blk s H scope (compEnvC scope cl c Γ.X.env) fp) ifs t) ∧ Ev (blk0 Γ) TR f t := by
  refine ⟨fun σ H Q => ∀ s H0 c cl fp, Classical.choose (h s H0 c cl fp) σ H Q, fun s H c cl fp => ⟨fun pins s' σ H' Q I q => (Classical.choose_spec (h s H c cl fp)).1.run pins s' σ H' Q I (q s H c cl fp)⟩, fun σ H Z env φ S Q P s H0 c cl fp => ?_⟩
  exact (Classical.choose_spec (h s H0 c cl fp)).2 σ H Z env φ S Q P

/-- the list that is made: its items own what stands at B -/
structure Acc (C : RC) (Z : Fp) (H : Hp) (m : Nat) (D₀ : Addr) (vs : List V) (ds : List D) (B : Nat → Fp) : Prop where
  at' : H D₀ = some (.lst vs)
  len : vs.length = ds.length
  ow : ∀ (i : Nat) (x : V) (e : D), vs[i]? = some x → ds[i]? = some e → Ow C Z H m x e (B i)
  dj : ∀ i j b, B i b → B j b → i = j
  nd : ∀ i, ¬ B i D₀
  off : ∀ i b, B i b → i < vs.length
theorem Acc.fin {C : RC} {Z : Fp} {H : Hp} {m : Nat} {D₀ : Addr} {vs : List V} {ds : List D} {B : Nat → Fp} (a : Acc C Z H m D₀ vs ds B) : Ow C Z H (m + 1) (.ref D₀) (.lst ds) (fun b => b = D₀ ∨ ∃ i, B i b) :=
  .inr (.inl ⟨D₀, vs, ds, B, rfl, rfl, a.at', a.len, a.ow, a.dj, a.nd, a.off, fun _ => Iff.rfl⟩)
theorem Acc.mut {C : RC} {Z : Fp} {H : Hp} {m : Nat} {D₀ : Addr} {vs : List V} {ds : List D} {B : Nat → Fp} (a : Acc C Z H m D₀ vs ds B) {b : Addr} {i : Nat} (h : B i b) : isM (H b) := by
  have hi := a.off i b h
  exact (a.ow i vs[i] (ds[i]'(a.len ▸ hi)) (List.getElem?_eq_getElem hi) (List.getElem?_eq_getElem _)).mut b h
theorem Acc.ext {C : RC} {Z Z' : Fp} {H H' : Hp} {m : Nat} {D₀ : Addr} {vs : List V} {ds : List D} {B : Nat → Fp} (a : Acc C Z H m D₀ vs ds B) (x : Ext Z H Z' H') (k : ∀ b o, (b = D₀ ∨ ∃ i, B i b) → H b = some o → H' b = some o) : Acc C Z' H' m D₀ vs ds B :=
  ⟨k _ _ (.inl rfl) a.at', a.len, fun i y e h1 h2 => (a.ow i y e h1 h2).ext x fun b o q => k b o (.inr ⟨i, q⟩), a.dj, a.nd, a.off⟩
abbrev AT (D₀ : Addr) (B : Nat → Fp) : Fp := fun b => b = D₀ ∨ ∃ i, B i b
theorem Acc.snoc {C : RC} {Z : Fp} {H : Hp} {m : Nat} {D₀ : Addr} {vs : List V} {ds : List D} {B : Nat → Fp} (a : Acc C Z H m D₀ vs ds B) (nz : ¬ Z D₀) {v : V} {d : D} {A : Fp} (o : Ow C Z H m v d A) (hA : ∀ b, A b → ¬ AT D₀ B b) :
    Acc C Z (upd H D₀ (.lst (vs ++ [v]))) m D₀ (vs ++ [v]) (ds ++ [d]) (fun i => if i = vs.length then A else B i) ∧ Ext Z H Z (upd H D₀ (.lst (vs ++ [v]))) := by
  have x : Ext Z H Z (upd H D₀ (.lst (vs ++ [v]))) := ⟨fun b u z h => by rw [upd_ne fun e : b = D₀ => nz (by rw [← e]; exact z)]; exact h, fun _ z => z, fun b u h => by rw [upd_ne (ne_of h a.at' fun e => by cases e)]; exact h, fun b u w h => by rw [upd_ne (ne_of h a.at' fun e => by cases e)]; exact h⟩
  have hB : ∀ b, B vs.length b → False := fun b z => Nat.lt_irrefl _ (a.off _ b z)
  refine ⟨⟨upd_same, by rw [List.length_append, List.length_append, a.len]; rfl, fun i y e h1 h2 => ?_, fun i j b h1 h2 => ?_, fun i h => ?_, fun i b h => ?_⟩, x⟩
  · by_cases hi : i = vs.length
    · subst hi
      have e1 : y = v := by simpa using h1.symm
      have e2 : e = d := by rw [a.len] at h2; simpa using h2.symm
      subst e1 e2
      rw [if_pos rfl]
      exact o.ext x fun b u q h => by rw [upd_ne fun z => hA b q (.inl z)]; exact h
    · rw [if_neg hi]
      have hl : i < vs.length := by
        have := (List.getElem?_eq_some_iff.mp h1).1
        rw [List.length_append] at this
        simp at this
        omega
      rw [List.getElem?_append_left hl] at h1
      rw [List.getElem?_append_left (a.len ▸ hl)] at h2
      exact (a.ow i y e h1 h2).ext x fun b u q h => by rw [upd_ne fun z : b = D₀ => a.nd i (by rw [← z]; exact q)]; exact h
  · by_cases hi : i = vs.length
    · rw [if_pos hi] at h1
      by_cases hj : j = vs.length
      · omega
      · rw [if_neg hj] at h2
        exact (hA b h1 (.inr ⟨j, h2⟩)).elim
    · rw [if_neg hi] at h1
      by_cases hj : j = vs.length
      · rw [if_pos hj] at h2
        exact (hA b h2 (.inr ⟨i, h1⟩)).elim
      · rw [if_neg hj] at h2
        exact a.dj i j b h1 h2
  · by_cases hi : i = vs.length
    · rw [if_pos hi] at h; exact hA _ h (.inl rfl)
    · rw [if_neg hi] at h; exact a.nd i h
  · rw [List.length_append]
    by_cases hi : i = vs.length
    · rw [hi]; simp
    · rw [if_neg hi] at h
      have := a.off i b h
      simp; omega
theorem lc_ev {vs ws : List Nat} {wi : TI} {tG : TG} {tT : TT} {tE : TE} {fi : En → R (List D)} {g : D → En → Option En} {tt : En → R Bool} {te : En → R (D × Nat)} (m : Nat)
    (i2 : ∀ σ H Z env φ, SttC Γ Z σ H env φ → ∀ R : It → Hp → Prop, (match fi env with
      | .ok ds env1 => ∀ J H1 Z1 φ1, SttC Γ Z1 σ H1 env1 φ1 → ItD Γ.C J ds Z1 H1 → Evo Z H (Tot φ) Z1 H1 (Tot φ1) → R J H1
      | .ex x => PostX Γ σ Z H (Tot φ) x
      | .no => False) → wi σ H R)
    (g2 : ∀ σ H Z env φ, SttC (blk0 Γ) Z σ H env φ → ∀ v d env', Sh Γ.C Z H v d → g d env = some env' → ∀ Q : L2.St → Hp → Prop, (∀ σ' φ', SttC (blk0 Γ) Z σ' H env' φ' → (∀ a, Tot φ' a → Tot φ a) → (σ'.length = σ.length ∧ ∀ i, i ∉ ws → σ'[i]? = σ[i]?) → Q σ' H) → tG v σ H Q)
    (t2 : Ev (blk0 Γ) TR tt tT) (e2 : Ev (blk0 Γ) (ER Γ.C) te tE) (hws : ∀ i ∈ ws, i ∈ vs) : Ev Γ (ER Γ.C) (comp fi g tt te m vs) (tLc wi tG tT tE vs) := by
  intro σ H Z env φ S Q P
  refine i2 σ H Z env φ S _ ?_
  unfold comp at P
  cases e : fi env with
  | ex x => rw [e] at P; exact P
  | no => rw [e] at P; exact P
  | ok ds env1 =>
    rw [e] at P
    simp only [Pv.R.bind_ok] at P
    intro J H1 Z1 φ1 S1 it ev D₀ hD
    have P1 := Post.mono P ev
    have Sw := S1.wipe vs
    have nD : ¬ Z1 D₀ ∧ ¬ Tot φ1 D₀ := S1.fresh hD
    -- the place at a turn
    let Inv' : Nat → Hp → Prop := fun i H' => ∃ env' Z' φ' accV accD B, SttC (blk0 Γ) Z' (L2.wipe σ vs) H' env' φ' ∧ Ext Z1 H1 Z' H' ∧ Acc Γ.C Z' H' m D₀ accV accD B ∧
      (∀ b, AT D₀ B b → ¬ Tot φ' b ∧ ¬ Z' b) ∧ (∀ v ∈ vs, ∀ p, env'[v]? ≠ some (some p)) ∧ Post Γ σ Z' H' (fun a => Tot φ' a ∨ AT D₀ B a) (ER Γ.C σ) ((compL g tt te m vs (ds.drop i) env' accD).bind fun acc env2 => .ok (.lst acc, m + 1) (backE env1 env2 vs)) Q
    have ev0 : Evo Z1 H1 (Tot φ1) Z1 (upd H1 D₀ (.lst [])) (fun a => Tot (fun i a => i ∉ vs ∧ φ1 i a) a ∨ AT D₀ (fun _ _ => False) a) := Evo.new hD fun a z => z.elim (fun ⟨j, z⟩ => .inl ⟨j, z.2⟩) fun z => z.elim .inr fun ⟨_, z⟩ => z.elim
    refine ⟨fun i k H' => k = ds.length - i ∧ i ≤ ds.length ∧ Inv' i H', ⟨ds.length, by simp, Nat.zero_le _, wipeE env1 vs, Z1, _, [], [], fun _ _ => False, Sw.new hD, Ext.new hD, ⟨upd_same, rfl, fun i x e h => by simp at h, fun _ _ _ z => z.elim, fun _ z => z, fun _ _ z => z.elim⟩, fun b z => ?_, fun v hv p => wipeE_in hv, ?_⟩, ?_⟩
    · rcases z with rfl | ⟨_, z⟩
      · exact ⟨fun ⟨j, z⟩ => nD.2 ⟨j, z.2⟩, nD.1⟩
      · exact z.elim
    · rw [List.drop_zero]
      exact Post.mono P1 ev0
    rintro i k H' ⟨rfl, hi, env', Z', φ', accV, accD, B, S', x', a, hA, hw, P'⟩
    obtain ⟨stop, go⟩ := it Z' H' x'
    by_cases hlt : i < ds.length
    · obtain ⟨hgo, hy⟩ := go i ds[i] (List.getElem?_eq_getElem hlt)
      refine .inr ⟨hgo, fun H2 => Inv' (i + 1) H2, fun H2 h2 => ⟨ds.length - (i + 1), by omega, rfl, hlt, h2⟩, fun v H2 hv => ?_⟩
      obtain ⟨sh, gr⟩ := hy v H2 hv
      obtain ⟨S2, x2, ev2⟩ := gr.stt (Γ := blk0 Γ) S'
      -- what is made stands through a step
      have kept : ∀ {Za Zb : Fp} {Ha Hb : Hp} {Fb : Fp} {φa : Nat → Fp}, Evo Za Ha (Tot φa) Zb Hb Fb → Ext Za Ha Zb Hb → Acc Γ.C Za Ha m D₀ accV accD B → (∀ b, AT D₀ B b → ¬ Tot φa b ∧ ¬ Za b) →
          Acc Γ.C Zb Hb m D₀ accV accD B ∧ (∀ b, AT D₀ B b → ¬ Fb b ∧ ¬ Zb b) := fun {Za Zb Ha Hb Fb φa} e x a0 h0 => by
        have hn : ∀ b, AT D₀ B b → Ha b ≠ none := fun b hb z => by
          rcases hb with rfl | ⟨j, hb⟩
          · rw [a0.at'] at z; cases z
          · have := a0.mut hb; rw [z] at this; exact this
        refine ⟨a0.ext x fun b o hb h => e.keep b o h (h0 b hb).1, fun b hb => ⟨fun z => ?_, fun z => ?_⟩⟩
        · rcases e.fn b z with z | z
          · exact (h0 b hb).1 z
          · exact hn b hb z
        · rcases e.zn b z with z | z | z
          · exact (h0 b hb).2 z
          · exact (h0 b hb).1 z
          · exact hn b hb z
      have lift : ∀ {Za Zb : Fp} {Ha Hb : Hp} {φa : Nat → Fp} {Fb : Fp}, Evo Za Ha (Tot φa) Zb Hb Fb → Evo Za Ha (fun b => Tot φa b ∨ AT D₀ B b) Zb Hb (fun b => Fb b ∨ AT D₀ B b) := fun {Za Zb Ha Hb φa Fb} e =>
        ⟨fun b o h n => e.keep b o h fun z => n (.inl z), e.zm, fun b z => (e.zn b z).imp id fun q => q.imp .inl id, fun b z => z.elim (fun z => (e.fn b z).imp .inl id) fun z => .inl (.inr z)⟩
      obtain ⟨a2, hA2⟩ := kept ev2 x2 a hA
      have P2 := Post.mono P' (lift ev2)
      rw [List.drop_eq_getElem_cons hlt] at P2
      unfold compL at P2
      cases eg : g ds[i] env' with
      | none => rw [eg] at P2; exact P2.elim
      | some env2 =>
        rw [eg] at P2
        simp only at P2
        refine g2 (L2.wipe σ vs) H2 Z' env' φ' S2 v ds[i] env2 sh eg _ fun σ3 φ3 S3 t3 k3 => ?_
        have hwσ : L2.wipe σ3 vs = L2.wipe σ vs := by
          have := wipe_of (σ := σ) (σ2 := σ3) hws k3.1 k3.2
          exact this
        refine ⟨hwσ, ?_⟩
        have hA3 : ∀ b, AT D₀ B b → ¬ Tot φ3 b ∧ ¬ Z' b := fun b hb => ⟨fun z => (hA2 b hb).1 (t3 b z), (hA2 b hb).2⟩
        have P3 := Post.mono P2 (show Evo Z' H2 (fun b => Tot φ' b ∨ AT D₀ B b) Z' H2 (fun b => Tot φ3 b ∨ AT D₀ B b) from Evo.refl.sub fun b z => z.imp (t3 b) id)
        -- the tests
        refine t2 σ3 H2 Z' env2 φ3 S3 _ ?_
        cases et : tt env2 with
        | ex x => rw [et] at P3; exact P3.elim
        | no => rw [et] at P3; exact P3.elim
        | ok b env3 =>
          rw [et] at P3
          intro b' H3 Z3 φ4 A3 S4 eb dj3 ev3
          cases (show b = b' from eb)
          have ev3' := ev3.sub (F2 := Tot φ4) fun _ z => .inl z
          have x3 := S3.ext ev3'
          obtain ⟨a4, hA4⟩ := kept ev3' x3 a2 hA3
          have P4 := Post.mono P3 (lift ev3')
          cases b with
          | false =>
            rw [if_neg Bool.false_ne_true]
            simp only [R.noX_ok, Pv.R.bind_ok, if_neg Bool.false_ne_true] at P4
            have S5 := S4.wipe vs
            rw [hwσ] at S5
            exact ⟨_, Z3, _, accV, accD, B, S5, (x'.trans x2).trans x3, a4, fun c hc => ⟨fun ⟨j, z⟩ => (hA4 c hc).1 ⟨j, z.2⟩, (hA4 c hc).2⟩, fun u hu p => wipeE_in hu, P4.mono (Evo.refl.sub fun c z => z.imp (fun ⟨j, z⟩ => ⟨j, z.2⟩) id)⟩
          | true =>
            rw [if_pos rfl]
            simp only [R.noX_ok, Pv.R.bind_ok, if_true] at P4
            refine e2 σ3 H3 Z3 env3 φ4 S4 _ ?_
            cases ee : te env3 with
            | ex x => rw [ee] at P4; exact P4.elim
            | no => rw [ee] at P4; exact P4.elim
            | ok y env4 =>
              rw [ee] at P4
              simp only [R.noX_ok, Pv.R.bind_ok] at P4
              intro yv H5 Z5 φ5 A5 S5 o5 dj5 ev5
              have x5 := S4.ext ev5
              obtain ⟨a5, hA5⟩ := kept ev5 x5 a4 hA4
              have P5 := Post.mono P4 (lift ev5)
              by_cases hy2 : y.2 = m ∧ accD.length < lim
              · rw [if_pos hy2] at P5
                obtain ⟨yd, yk⟩ := y
                obtain ⟨rfl, hz⟩ := hy2
                refine ⟨accV, a5.at', by rw [a5.len]; exact Nat.lt_of_lt_of_le hz (lim_le (Nat.le_refl _)), ?_⟩
                obtain ⟨a6, x6⟩ := a5.snoc (hA5 D₀ (.inl rfl)).2 o5 (fun b hb z => (hA5 b z).1 (.inr hb))
                have S6 := S5.go (Z' := Z5) x6 (fun b u hb h => by
                  rw [upd_ne fun z : b = D₀ => (hA5 D₀ (.inl rfl)).1 (.inl (by rw [← z]; exact hb))]
                  exact h) S5.tnz fun b z => by
                    by_cases q : b = D₀
                    · rw [q, upd_same]; exact Option.some_ne_none _
                    · rw [upd_ne q]; exact S5.zh b z
                have S7 := S6.wipe vs
                rw [hwσ] at S7
                have hAT : ∀ c, AT D₀ (fun i => if i = accV.length then A5 else B i) c → AT D₀ B c ∨ A5 c := fun c hc => by
                  rcases hc with rfl | ⟨j, hc⟩
                  · exact .inl (.inl rfl)
                  · by_cases q : j = accV.length
                    · simp only [if_pos q] at hc; exact .inr hc
                    · simp only [if_neg q] at hc; exact .inl (.inr ⟨j, hc⟩)
                refine ⟨_, Z5, _, _, _, _, S7, ((x'.trans x2).trans x3).trans (x5.trans x6), a6, fun c hc => ?_, fun u hu p => wipeE_in hu, P5.mono ?_⟩
                · rcases hAT c hc with h | h
                  · exact ⟨fun ⟨j, z⟩ => (hA5 c h).1 (.inl ⟨j, z.2⟩), (hA5 c h).2⟩
                  · exact ⟨fun ⟨j, z⟩ => (dj5 c h).1 ⟨j, z.2⟩, (dj5 c h).2⟩
                · refine ⟨fun b u h n => ?_, fun _ z => z, fun _ z => .inl z, fun b z => .inl ?_⟩
                  · rw [upd_ne fun z : b = D₀ => n (.inr (.inl z))]; exact h
                  · rcases z with ⟨j, z⟩ | z
                    · exact .inl (.inl ⟨j, z.2⟩)
                    · rcases hAT b z with h | h
                      · exact .inr h
                      · exact .inl (.inr h)
              · rw [if_neg hy2] at P5; exact P5.elim
    · have e1 : i = ds.length := by omega
      subst e1
      refine .inl ⟨stop, ?_⟩
      rw [List.drop_length] at P'
      simp only [compL, Pv.R.bind_ok] at P'
      -- the slots behind
      refine P' (.ref D₀) H' Z' (fun i c => i ∉ vs ∧ φ' i c) (AT D₀ B) ?_ a.fin (fun c hc => ⟨fun ⟨j, z⟩ => (hA c hc).1 ⟨j, z.2⟩, (hA c hc).2⟩) (Evo.refl.sub fun c z => z.imp (fun ⟨j, z⟩ => ⟨j, z.2⟩) id)
      refine ⟨?_, fun i d k h => ?_, fun i h c ⟨hi, z⟩ => ?_, fun i j c h1 h2 => S'.dj i j c h1.2 h2.2, fun i c h => S'.nz i c h.2, S'.zh, S1.l0, S1.io⟩
      · rw [backE_length, ← S'.len, wipe_length]
      · by_cases hi : i ∈ vs
        · obtain ⟨h1, h2⟩ := backE_in hi h
          simp only at h2
          subst h2
          obtain ⟨w, q1, q2⟩ := S1.slot i d 0 h1
          exact ⟨w, q1, q2.1.ext x', fun c z => z.1 hi⟩
        · rw [backE_out hi] at h
          obtain ⟨w, q1, q2⟩ := S'.slot i d k h
          rw [wipe_out hi] at q1
          exact ⟨w, q1, q2.congr fun c => ⟨fun z => ⟨hi, z⟩, fun z => z.2⟩⟩
      · exact S'.off i (fun p => by have := h p; rwa [backE_out hi] at this) c z
theorem ev_lc {own : List (Str × Nat)} {vs ws : List Nat} {pos : Pos} {fi : En → R (List D)} {g : D → En → Option En} {tt : En → R Bool} {te : En → R (D × Nat)} (m : Nat) (G : Good Γ) (hi : EvI Γ tg iter fi) (ok : BlkOk Γ.X.N Γ.X.env.scope scope own) (hvs : own.map (·.2) = vs) (hws : ∀ i ∈ ws, i ∈ vs)
    (hg : ∀ s H c cl fp, EvG (blkCt Γ scope s H c cl fp) tg ws g) (ht : ∀ s H c cl fp, EvPT (blkCt Γ scope s H c cl fp) ifs tt) (he : ∀ s H c cl fp, EvE (blkCt Γ scope s H c cl fp) elt te) (hs : ∀ x, foldedSetIterable iter Γ.X.env x = pure x := by intro _; rfl) :
    EvE Γ (.ListComp elt [⟨tg, iter, ifs, 0⟩] scope pos) (comp fi g tt te m vs) := by
  obtain ⟨wi, i1, i2⟩ := hi
  obtain ⟨tG, g1, g2⟩ := blk_g hg
  obtain ⟨tT, t1, t2⟩ := blk_t ht
  obtain ⟨tE, e1, e2⟩ := blk_e he
  have p0 := pe_lc (pos := pos) G.calm G.nd i1 ok g1 t1 e1 hs
  rw [hvs] at p0
  exact ⟨_, p0, lc_ev m i2 g2 t2 e2 hws⟩
end
end Pv
end

section
set_option Elab.async false
set_option linter.all false
set_option maxRecDepth 100000
set_option maxHeartbeats 4000000
/-! Pv11: what is changed in place; y = [..]; x op= e; raise; try. -/
namespace Pv
open PySem PySem.Spec PyProof.Rows L2

section
variable {C : RC} {io : List Nat} {σ₀ σ : L2.St} {Z : Fp} {H : Hp} {env : En} {φ : Nat → Fp}
/-- a list or dict that nobody shares is written -/
theorem Ext.upd {a : Addr} {o u : HO} (h : H a = some u) (nz : ¬ Z a) (mu : isM (some u)) : Ext Z H Z (upd H a o) :=
  ⟨fun b w z e => by rw [upd_ne fun q : b = a => nz (by rw [← q]; exact z)]; exact e, fun _ z => z, fun b w e => by rw [upd_ne (ne_of e h fun q => by subst q; exact mu)]; exact e, fun b w v e => by rw [upd_ne (ne_of e h fun q => by subst q; exact mu)]; exact e⟩
theorem Stt.upd (S : Stt C io σ₀ Z σ H env φ) {i : Nat} {a : Addr} {o u : HO} {d : D} {k : Nat} (hv : σ[i]? = some (some (.ref a))) (hi : i < env.length) (h : H a = some u) (mu : isM (some u)) (hφ : φ i a) {A : Fp} (hA : ∀ b, A b → φ i b) (ow : Ow C Z (upd H a o) k (.ref a) d A) :
    Stt C io σ₀ Z σ (upd H a o) (env.set i (some (d, k))) (fun j => if j = i then A else φ j) ∧ Evo Z H (Tot φ) Z (upd H a o) (Tot fun j => if j = i then A else φ j) := by
  have nz := S.nz i a hφ
  have x : Ext Z H Z (L2.upd H a o) := Ext.upd h nz mu
  have Sd := S.drop i
  have S1 := Sd.go x (fun b w ⟨j, hj, z⟩ e => by
    rw [upd_ne fun q : b = a => hj (S.dj j i b z (by rw [q]; exact hφ))]; exact e) (fun b ⟨j, _, z⟩ => S.nz j b z) fun b z => by
      by_cases q : b = a
      · rw [q, upd_same]; exact Option.some_ne_none _
      · rw [upd_ne q]; exact S.zh b z
  have S2 := S1.reput (i := i) (by simpa using hi) hv ow (fun j b hj z y => hj (S.dj j i b z.2 (hA b y))) (fun b z => S.nz i b (hA b z))
  rw [List.set_set] at S2
  have e2 : (fun j => if j = i then A else fun b => j ≠ i ∧ φ j b) = fun j => if j = i then A else φ j := by
    funext j
    by_cases q : j = i
    · rw [if_pos q, if_pos q]
    · rw [if_neg q, if_neg q]
      funext b
      exact propext ⟨fun z => z.2, fun z => ⟨q, z⟩⟩
  rw [e2] at S2
  refine ⟨S2, ⟨fun b w e n => by rw [upd_ne fun q : b = a => n ⟨i, by rw [q]; exact hφ⟩]; exact e, fun _ z => z, fun _ z => .inl z, fun b ⟨j, z⟩ => .inl ?_⟩⟩
  by_cases q : j = i
  · simp only [if_pos q] at z; exact ⟨i, hA b z⟩
  · simp only [if_neg q] at z; exact ⟨j, z⟩
theorem Ow.lst_at {k : Nat} {v : V} {ds : List D} {A : Fp} (h : Ow C Z H k v (.lst ds) A) : ∃ a xs, v = .ref a ∧ H a = some (.lst xs) ∧ xs.length = ds.length := by
  cases k with
  | zero => cases h.1 with | lst s z r => exact ⟨_, _, rfl, s, r.length⟩
  | succ k =>
    rcases h with ⟨m, _⟩ | ⟨b, xs, ds', B, rfl, e0, hb, hl, _⟩ | ⟨_, _, _, _, _, e, _⟩
    · cases m
    · cases e0; exact ⟨b, xs, rfl, hb, hl⟩
    · cases e
end

section
variable {Γ : Ct} {x : Str} {p pos apos cpos : Pos} {e a b : Expr} {es : List Expr}
/-- y = [..] on one line -/
theorem es_setLc {elt tg iter : Expr} {ifs : List Expr} {scope : Scope} {i : Nat} {y : Str} {py spos : Pos} {own : List (Str × Nat)} {vs ws : List Nat} {fi : En → R (List D)} {g : D → En → Option En} {tt : En → R Bool} {te : En → R (D × Nat)} (m : Nat) (G : Good Γ) (hy : Γ.X.N[i]? = some y) (hyl : Γ.X.env.scope.names.lookup y = some .local) (hio : i ∉ Γ.io)
    (hsw : swapsWith (.ListComp elt [⟨tg, iter, ifs, 0⟩] scope pos) (some (.Name y py)) spos.line Γ.X.env = pure true)
    (hi : EvI Γ tg iter fi) (ok : BlkOk Γ.X.N Γ.X.env.scope scope own) (hvs : own.map (·.2) = vs) (hws : ∀ i ∈ ws, i ∈ vs)
    (hg : ∀ s H c cl fp, EvG (blkCt Γ scope s H c cl fp) tg ws g) (ht : ∀ s H c cl fp, EvPT (blkCt Γ scope s H c cl fp) ifs tt) (he : ∀ s H c cl fp, EvE (blkCt Γ scope s H c cl fp) elt te) (hs : ∀ x, foldedSetIterable iter Γ.X.env x = pure x := by intro _; rfl) :
    EvS Γ (.Assign [.Name y py] (.ListComp elt [⟨tg, iter, ifs, 0⟩] scope pos) spos) (setS i (comp fi g tt te m vs)) := by
  obtain ⟨wi, i1, i2⟩ := hi
  obtain ⟨tG, g1, g2⟩ := blk_g hg
  obtain ⟨tT, t1, t2⟩ := blk_t ht
  obtain ⟨tE, e1, e2⟩ := blk_e he
  have p0 := ps_setLc (i := i) (py := py) (spos := spos) (pos := pos) G.calm G.nd hy hyl hsw i1 ok g1 t1 e1 hs
  rw [hvs] at p0
  refine ⟨_, p0, fun σ H Z env φ S Dn P => ?_⟩
  refine (lc_ev m i2 g2 t2 e2 hws).then S P fun p env1 v H1 Z1 φ1 A e1 S1 o dj ev P1 => ?_
  exact put_ok hio S1 o dj P1
/-! ### xs.append(e), xs.extend(e), xs.pop() -/
def isLst (s : Option Sl) : Bool := match s with
  | some (some (.lst _, _)) => true
  | _ => false
def appS (i : Nat) (fe : En → R D) : En → SR := fun env => if isLst env[i]? = true then (fe env).then fun d env1 => match env1[i]? with
    | some (some (.lst ds, 1)) => if ds.length < lim then .nx (env1.set i (some (.lst (ds ++ [d]), 1))) else .no
    | _ => .no
  else .no
theorem isLst_at {σ : L2.St} {Z : Fp} {H : Hp} {env : En} {φ : Nat → Fp} (S : SttC Γ Z σ H env φ) {i : Nat} (h : isLst env[i]? = true) : ∃ a xs, σ[i]? = some (some (.ref a)) ∧ H a = some (.lst xs) := by
  unfold isLst at h
  split at h
  · rename_i ds k hi
    obtain ⟨v, hv, o⟩ := S.slot i _ _ hi
    obtain ⟨a, xs, rfl, ha, _⟩ := o.lst_at
    exact ⟨a, xs, hv, ha⟩
  · cases h
theorem es_app {i : Nat} {fe : En → R D} (G : Good Γ) (hN : Γ.X.N[i]? = some x) (hv : Vis Γ.X.env.scope x) (he : EvV Γ e fe) (hd : (x == ("__debug__" : Str)) = false := by decide) (hcd : (x == ("__classdict__" : Str)) = false := by decide)
    (hfew : ((backTo cpos (starEach [e] Γ.X.env)).all (fun x => !x.1) && (backToKw cpos (keywordEach [] Γ.X.env)).all (fun x => x.1.isSome) && decide ([e].length + ([] : List Keyword).length + (if ([] : List Keyword).isEmpty then 0 else 1) < 30)) = true := by rfl)
    (hline : (apos.endLine == cpos.line) = true := by rfl) (hs : starEach [e] Γ.X.env = (false, eval e Γ.X.env) :: starEach [] Γ.X.env := by rfl) (hsw : swapsWith (.Call (.Attribute (.Name x p) "append" apos) [e] [] cpos) none pos.line Γ.X.env = pure false := by rfl) :
    EvS Γ (.Expr (.Call (.Attribute (.Name x p) "append" apos) [e] [] cpos) pos) (appS i fe) := by
  obtain ⟨t, h1, h2⟩ := he
  refine ⟨_, ps_expr (pe_bm PySem.F.plainAttrs_list PySem.F.slot_list_append PySem.F.type_list_append mt_append (pe_var hN hv hd hcd) (pa_cons h1 pa_nil hs) rfl hfew hline hs rfl) hsw, fun σ H Z env φ S Dn P => ?_⟩
  unfold appS at P
  split at P
  · rename_i hl
    obtain ⟨a, xs, hv0, ha0⟩ := isLst_at S hl
    refine ⟨.ref a, hv0, .inl ⟨rfl, xs, SqL.of ha0⟩, ?_⟩
    refine h2.then S P fun d env1 w H1 Z1 φ1 A e1 S1 q1 dj1 ev1 P1 => ?_
    have P2 := P1.mono Evo.dropA
    split at P2
    · rename_i ds hds
      split at P2
      · rename_i hz
        obtain ⟨v, hv1, o⟩ := S1.slot i _ _ hds
        rw [hv0] at hv1; cases hv1
        obtain ⟨a', ys, e0, ha, r, hφ⟩ := o.lst_inv
        cases e0
        refine ⟨a, ys, w, rfl, rfl, ha, by rw [r.length]; exact Nat.lt_of_lt_of_le hz (lim_le (Nat.le_refl _)), ?_⟩
        have x : Ext Z1 H1 Z1 (upd H1 a (.lst (ys ++ [w]))) := Ext.upd ha (S1.nz i a ((hφ a).mpr rfl)) trivial
        obtain ⟨S2, ev2⟩ := S1.upd (o := .lst (ys ++ [w])) (A := fun b => b = a) hv0 (List.getElem?_eq_some_iff.mp hds).1 ha trivial ((hφ a).mpr rfl) (fun b hb => (hφ b).mpr hb) (Ow.lst1 upd_same ((r.snoc q1).ext x))
        exact PostS.here (P2.mono ev2) S2
      · exact P2.elim
    · exact P2.elim
  · exact P.elim
def extS (i : Nat) (fe : En → R D) : En → SR := fun env => if isLst env[i]? = true then (fe env).then fun d env1 => match env1[i]?, d with
    | some (some (.lst ds, 1)), .lst fs => if ds.length + fs.length ≤ lim then .nx (env1.set i (some (.lst (ds ++ fs), 1))) else .no
    | _, _ => .no
  else .no
theorem es_ext {i : Nat} {fe : En → R D} (G : Good Γ) (hN : Γ.X.N[i]? = some x) (hv : Vis Γ.X.env.scope x) (he : EvV Γ e fe) (hd : (x == ("__debug__" : Str)) = false := by decide) (hcd : (x == ("__classdict__" : Str)) = false := by decide)
    (hfew : ((backTo cpos (starEach [e] Γ.X.env)).all (fun x => !x.1) && (backToKw cpos (keywordEach [] Γ.X.env)).all (fun x => x.1.isSome) && decide ([e].length + ([] : List Keyword).length + (if ([] : List Keyword).isEmpty then 0 else 1) < 30)) = true := by rfl)
    (hline : (apos.endLine == cpos.line) = true := by rfl) (hs : starEach [e] Γ.X.env = (false, eval e Γ.X.env) :: starEach [] Γ.X.env := by rfl) (hsw : swapsWith (.Call (.Attribute (.Name x p) "extend" apos) [e] [] cpos) none pos.line Γ.X.env = pure false := by rfl) :
    EvS Γ (.Expr (.Call (.Attribute (.Name x p) "extend" apos) [e] [] cpos) pos) (extS i fe) := by
  obtain ⟨t, h1, h2⟩ := he
  refine ⟨_, ps_expr (pe_bm PySem.F.plainAttrs_list PySem.F.slot_list_extend PySem.F.type_list_extend mt_extend (pe_var hN hv hd hcd) (pa_cons h1 pa_nil hs) rfl hfew hline hs rfl) hsw, fun σ H Z env φ S Dn P => ?_⟩
  unfold extS at P
  split at P
  · rename_i hl
    obtain ⟨a, xs, hv0, ha0⟩ := isLst_at S hl
    refine ⟨.ref a, hv0, .inl ⟨rfl, xs, SqL.of ha0⟩, ?_⟩
    refine h2.then S P fun d env1 w H1 Z1 φ1 A e1 S1 q1 dj1 ev1 P1 => ?_
    have P2 := P1.mono Evo.dropA
    split at P2
    · rename_i ds fs hds
      split at P2
      · rename_i hz
        obtain ⟨v, hv1, o⟩ := S1.slot i _ _ hds
        rw [hv0] at hv1; cases hv1
        obtain ⟨a', ys, e0, ha, r, hφ⟩ := o.lst_inv
        cases e0
        have q1 : Sh Γ.C Z1 H1 w (.lst fs) := q1
        cases q1 with
        | @lst b us _ hb zb rb =>
          refine ⟨a, b, ys, us, rfl, rfl, ha, hb, by rw [r.length, rb.length]; exact lim_le hz, ?_⟩
          have x : Ext Z1 H1 Z1 (upd H1 a (.lst (ys ++ us))) := Ext.upd ha (S1.nz i a ((hφ a).mpr rfl)) trivial
          obtain ⟨S2, ev2⟩ := S1.upd (o := .lst (ys ++ us)) (A := fun b => b = a) hv0 (List.getElem?_eq_some_iff.mp hds).1 ha trivial ((hφ a).mpr rfl) (fun b hb => (hφ b).mpr hb) (Ow.lst1 upd_same ((r.append rb).ext x))
          exact PostS.here (P2.mono ev2) S2
      · exact P2.elim
    · exact P2.elim
  · exact P.elim

/-! ### found[x].append(y), x and y names or constants -/
/-- a value that is there without a step -/
def EvK (Γ : Ct) (e : Expr) (f : En → Option D) : Prop := ∃ t, PE Γ.X e t ∧ ∀ σ H Z env φ, SttC Γ Z σ H env φ → ∀ d, f env = some d → ∀ Q : VK, (∀ v, Sh Γ.C Z H v d → Q v H) → t σ H Q
def nmK (i : Nat) : En → Option D := fun env => match env[i]? with
  | some (some (d, k)) => if k = 0 ∨ d.isMut = false then some d else none
  | _ => none
theorem ek_name {i : Nat} (hN : Γ.X.N[i]? = some x) (hv : Vis Γ.X.env.scope x) (hd : (x == ("__debug__" : Str)) = false := by decide) (hcd : (x == ("__classdict__" : Str)) = false := by decide) : EvK Γ (.Name x pos) (nmK i) := by
  refine ⟨_, pe_var hN hv hd hcd, fun σ H Z env φ S d h Q q => ?_⟩
  unfold nmK at h
  split at h
  · rename_i d' k hi
    split at h
    · rename_i hk
      cases h
      obtain ⟨v, hv1, o⟩ := S.slot i d k hi
      refine ⟨v, hv1, q v ?_⟩
      rcases hk with rfl | hm
      · exact o.1
      · exact o.im_inv hm
    · cases h
  · cases h
theorem ek_int {i : Int} {j} : EvK Γ (.Constant (.int i) j pos) (fun _ => some (.int i)) := ⟨_, pe_int, fun σ H Z env φ S d h Q q => by cases h; exact q _ (.int i)⟩
def app2S (i : Nat) (fi fe : En → Option D) : En → SR := fun env => match env[i]?, fi env, fe env with
  | some (some (.lst dss, 2)), some (.int j), some d => (match ixN dss.length j with
    | some m => (match dss[m]? with
      | some (.lst ds) => if ds.length < lim then .nx (env.set i (some (.lst (dss.set m (.lst (ds ++ [d]))), 2))) else .no
      | _ => .no)
    | none => .no)
  | _, _, _ => .no
theorem es_app2 {i : Nat} {sp : Pos} {fi fe : En → Option D} {ie : Expr} (G : Good Γ) (hN : Γ.X.N[i]? = some x) (hv : Vis Γ.X.env.scope x) (hi : EvK Γ ie fi) (he : EvK Γ e fe) (hd : (x == ("__debug__" : Str)) = false := by decide) (hcd : (x == ("__classdict__" : Str)) = false := by decide) (hpi : PlainIx ie := by exact fun _ _ => rfl)
    (hfew : ((backTo cpos (starEach [e] Γ.X.env)).all (fun x => !x.1) && (backToKw cpos (keywordEach [] Γ.X.env)).all (fun x => x.1.isSome) && decide ([e].length + ([] : List Keyword).length + (if ([] : List Keyword).isEmpty then 0 else 1) < 30)) = true := by rfl)
    (hbase : attributeBase (.Subscript (.Name x p) ie sp) "append" Γ.X.env (eval (.Subscript (.Name x p) ie sp) Γ.X.env) = eval (.Subscript (.Name x p) ie sp) Γ.X.env := by rfl)
    (hline : (apos.endLine == cpos.line) = true := by rfl) (hs : starEach [e] Γ.X.env = (false, eval e Γ.X.env) :: starEach [] Γ.X.env := by rfl) (hsw : swapsWith (.Call (.Attribute (.Subscript (.Name x p) ie sp) "append" apos) [e] [] cpos) none pos.line Γ.X.env = pure false := by rfl) :
    EvS Γ (.Expr (.Call (.Attribute (.Subscript (.Name x p) ie sp) "append" apos) [e] [] cpos) pos) (app2S i fi fe) := by
  obtain ⟨ti, i1, i2⟩ := hi
  obtain ⟨t, h1, h2⟩ := he
  refine ⟨_, ps_expr (pe_bm PySem.F.plainAttrs_list PySem.F.slot_list_append PySem.F.type_list_append mt_append (pe_ix ix_list (pe_var hN hv hd hcd) i1 hpi) (pa_cons h1 pa_nil hs) hbase hfew hline hs rfl) hsw, fun σ H Z env φ S Dn P => ?_⟩
  unfold app2S at P
  split at P
  · rename_i dss j d hd1 hi1 he1
    split at P
    · rename_i m hm
      split at P
      · rename_i ds hds
        split at P
        · rename_i hz
          obtain ⟨v, hv1, o⟩ := S.slot i _ _ hd1
          have o0 := o
          rcases o with ⟨mm, _⟩ | ⟨A, xs, ds', B, rfl, e0, hA, hl, hc, hdj, hna, hoff, hφ⟩ | ⟨_, _, _, _, _, e, _⟩
          · cases mm
          · cases e0
            have hmx : m < xs.length := by rw [hl]; exact (List.getElem?_eq_some_iff.mp hds).1
            have hcm := hc m xs[m] (.lst ds) (List.getElem?_eq_getElem hmx) hds
            obtain ⟨q, us, eq, hq, r, hB⟩ := hcm.lst_inv
            refine ⟨.ref A, hv1, i2 σ H Z env φ S _ hi1 _ fun w hw => ?_⟩
            cases hw with
            | int _ =>
              refine ⟨A, xs, j, xs[m], rfl, rfl, SqL.of hA, ?_, ?_⟩
              · unfold atI
                rw [hl, hm]
                exact List.getElem?_eq_getElem hmx
              rw [eq]
              refine ⟨.inl ⟨rfl, us, SqL.of hq⟩, ?_⟩
              refine h2 σ H Z env φ S d he1 _ fun y hy => ?_
              have Bq : B m q := (hB q).mpr rfl
              have φq : φ i q := (hφ q).mpr (.inr ⟨m, Bq⟩)
              have nq : q ≠ A := fun z => hna m (by rw [← z]; exact Bq)
              refine ⟨q, us, y, rfl, rfl, hq, by rw [r.length]; exact Nat.lt_of_lt_of_le hz (lim_le (Nat.le_refl _)), ?_⟩
              have x : Ext Z H Z (upd H q (.lst (us ++ [y]))) := Ext.upd hq (S.nz i q φq) trivial
              have ow : Ow Γ.C Z (upd H q (.lst (us ++ [y]))) 2 (.ref A) (.lst (dss.set m (.lst (ds ++ [d])))) (φ i) := by
                refine .inr (.inl ⟨A, xs, _, B, rfl, rfl, by rw [upd_ne (Ne.symm nq)]; exact hA, by rw [List.length_set]; exact hl, fun l u f h1 h2 => ?_, hdj, hna, hoff, hφ⟩)
                by_cases hlm : l = m
                · subst hlm
                  rw [List.getElem?_set_self (by rw [← hl]; exact hmx)] at h2
                  cases h2
                  rw [List.getElem?_eq_getElem hmx] at h1
                  cases h1
                  rw [eq]
                  exact (Ow.lst1 upd_same ((r.snoc hy).ext x)).congr fun c => (hB c).symm
                · rw [List.getElem?_set_ne (Ne.symm hlm)] at h2
                  exact (hc l u f h1 h2).ext x fun c w z h => by
                    rw [upd_ne fun z2 : c = q => hlm (hdj l m c z (by rw [z2]; exact Bq))]; exact h
              -- the list of lists stands, its item was changed
              have Sd := S.drop i
              have S1 := Sd.go x (fun c w ⟨l, hl2, z⟩ h => by
                rw [upd_ne fun z2 : c = q => hl2 (S.dj l i c z (by rw [z2]; exact φq))]; exact h) (fun c ⟨l, _, z⟩ => S.nz l c z) fun c z => by
                  by_cases z2 : c = q
                  · rw [z2, upd_same]; exact Option.some_ne_none _
                  · rw [upd_ne z2]; exact S.zh c z
              have S2 := S1.reput (i := i) (by simpa using (List.getElem?_eq_some_iff.mp hd1).1) hv1 ow (fun l c hl2 z y => hl2 (S.dj l i c z.2 y)) (fun c z => S.nz i c z)
              rw [List.set_set] at S2
              refine P σ _ Z _ S2 ⟨fun c w h n => by rw [upd_ne fun z : c = q => n ⟨i, by rw [z]; exact φq⟩]; exact h, fun _ z => z, fun _ z => .inl z, fun c ⟨l, z⟩ => .inl ?_⟩
              by_cases z2 : l = i
              · simp only [if_pos z2] at z; exact ⟨i, z⟩
              · simp only [if_neg z2] at z; exact ⟨l, z.2⟩
          · cases e
        · exact P.elim
      · exact P.elim
    · exact P.elim
  · exact P.elim

/-! ### o[i] = e -/
def putVs (ks : List Key) (vs : List D) (k : Key) (d : D) : List D := (ks.zip vs).map fun q => if q.1 = k then d else q.2
def putD (d : D) (di v : D) : Option D :=
  match d with
  | .lst ds => match di with
    | .int j => (ixN ds.length j).map fun m => .lst (ds.set m v)
    | _ => none
  | .dic ks vs => (keyD di).bind fun k => if ks.length < lim then some (if hasK ks k then .dic ks (putVs ks vs k v) else .dic (ks ++ [k]) (vs ++ [v])) else none
  | _ => none
abbrev rSetA : TSet := fun o i v H Q => rSetL o i v H Q ∨ rSetD o i v H Q
theorem pset_or {X : Cx} {r r' : TSet} (h : PSet X r) (h' : PSet X r') : PSet X (fun o i v H Q => r o i v H Q ∨ r' o i v H Q) := by
  intro pins s σ H o i v ov iv u Q I ro ri rv q
  rcases q with q | q
  · exact h pins s σ H o i v ov iv u Q I ro ri rv q
  · exact h' pins s σ H o i v ov iv u Q I ro ri rv q
def sItS (i : Nat) (fe fi : En → R D) : En → SR := fun env => (fe env).then fun v env1 => match env1[i]? with
  | some (some _) => (fi env1).then fun di env2 => match env2[i]? with
    | some (some (d, 1)) => (match putD d di v with
      | some d' => .nx (env2.set i (some (d', 1)))
      | none => .no)
    | _ => .no
  | _ => .no
theorem put_zip {ks : List Key} {xs : List V} {k : Key} {y : V} (hl : ks.length = xs.length) : putK (ks.zip xs) k y = if hasK ks k = true then ks.zip ((ks.zip xs).map fun q => if q.1 = k then y else q.2) else (ks ++ [k]).zip (xs ++ [y]) := by
  unfold putK
  have e : ((ks.zip xs).any fun kv => decide (kv.1 = k)) = hasK ks k := by
    have := cval ks xs k hl
    rw [← this]
    exact valV_any k (ks.zip xs)
  rw [e]
  by_cases h : hasK ks k = true
  · rw [if_pos h, if_pos h]
    clear e h
    induction ks generalizing xs with
    | nil => rfl
    | cons j ks ih =>
      cases xs with
      | nil => rfl
      | cons x xs =>
        rw [List.zip_cons_cons, List.map_cons, List.map_cons, List.zip_cons_cons]
        rw [ih (by simpa using hl)]
        by_cases q : j = k
        · simp [q]
        · simp [q]
  · rw [if_neg h, if_neg h]
    rw [List.zip_append hl]
    rfl
theorem putVs_sh {C : RC} {Z : Fp} {H : Hp} {ks : List Key} {xs : List V} {ds : List D} {k : Key} {y : V} {d : D} (r : ShL C Z H xs ds) (h : Sh C Z H y d) (hl : ks.length = xs.length) : ShL C Z H ((ks.zip xs).map fun q => if q.1 = k then y else q.2) (putVs ks ds k d) := by
  unfold putVs
  induction ks generalizing xs ds with
  | nil => exact .nil
  | cons j ks ih =>
    cases r with
    | nil => exact .nil
    | cons h1 r =>
      rw [List.zip_cons_cons, List.zip_cons_cons, List.map_cons, List.map_cons]
      refine .cons ?_ (ih r (by simpa using hl))
      by_cases q : j = k
      · simp only [q, if_true]; exact h
      · simp only [q, if_false]; exact h1
theorem es_sub {i : Nat} {ie : Expr} {fe fi : En → R D} {k : Nat} (G : Good Γ) (hr : Room k Γ.X.A) (hN : Γ.X.N[i]? = some x) (hv : Vis Γ.X.env.scope x) (he : EvV Γ e fe) (hi : EvV Γ ie fi) (hd : (x == ("__debug__" : Str)) = false := by decide) (hcd : (x == ("__classdict__" : Str)) = false := by decide)
    (ha : ∀ v, assign (.Subscript (.Name x p) ie apos) Γ.X.env v = (do
      let ov ← holding [v] (eval (.Name x p) Γ.X.env)
      let iv ← holding [v, ov] (eval ie Γ.X.env)
      standAt apos
      holding [v, ov, iv] (setItem ov iv v)
      release [v, ov, iv] []) := by intro _; rfl)
    (hs : swapsWithSole [.Subscript (.Name x p) ie apos] e pos.line Γ.X.env = pure false := by rfl) (hw : swappedStores [.Subscript (.Name x p) ie apos] e Γ.X.env = pure none := by rfl)
    (h1 : (assignEach [.Subscript (.Name x p) ie apos] Γ.X.env).map (·.2) = [assign (.Subscript (.Name x p) ie apos) Γ.X.env] := by rfl) :
    EvS Γ (.Assign [.Subscript (.Name x p) ie apos] e pos) (sItS i fe fi) := by
  obtain ⟨t, a1, a2⟩ := he
  obtain ⟨u, b1, b2⟩ := hi
  refine ⟨_, ps_asg a1 (pg_sub (pe_var hN hv hd hcd) b1 (pset_or set_list (set_dict (hu_of hr))) ha) hs hw h1, fun σ H Z env φ S Dn P => ?_⟩
  refine a2.then S P fun v env1 vv H1 Z1 φ1 A e1 S1 q1 dj1 ev1 P1 => ?_
  have P1' := P1.mono Evo.dropA
  split at P1'
  · rename_i p0 hp0
    obtain ⟨ov, hov, _⟩ := S1.slot i p0.1 p0.2 hp0
    refine ⟨ov, hov, ?_⟩
    refine b2.then S1 P1' fun di env2 iv H2 Z2 φ2 B e2 S2 q2 dj2 ev2 P2 => ?_
    have P2' := P2.mono Evo.dropA
    have q1' : Sh Γ.C Z2 H2 vv v := Sh.ext (S1.ext ev2) v vv q1
    split at P2'
    · rename_i d hd2
      obtain ⟨ov', hov', o⟩ := S2.slot i _ _ hd2
      rw [hov] at hov'; cases hov'
      have hi2 := (List.getElem?_eq_some_iff.mp hd2).1
      cases ep : putD d di v with
      | none => rw [ep] at P2'; exact P2'.elim
      | some d' =>
        rw [ep] at P2'
        simp only at P2'
        unfold putD at ep
        split at ep
        · rename_i ds
          split at ep
          · rename_i j
            obtain ⟨m, hm, rfl⟩ := Option.map_eq_some_iff.mp ep
            obtain ⟨a, ys, rfl, ha2, r, hφ⟩ := o.lst_inv
            have q2 : Sh Γ.C Z2 H2 iv (.int j) := q2
            cases q2
            refine .inl ⟨a, ys, j, m, rfl, rfl, ha2, by rw [r.length]; exact hm, ?_⟩
            have x : Ext Z2 H2 Z2 (upd H2 a (.lst (ys.set m vv))) := Ext.upd ha2 (S2.nz i a ((hφ a).mpr rfl)) trivial
            obtain ⟨S3, ev3⟩ := S2.upd (o := .lst (ys.set m vv)) (A := fun b => b = a) hov hi2 ha2 trivial ((hφ a).mpr rfl) (fun b hb => (hφ b).mpr hb) (Ow.lst1 upd_same ((ShL.set q1' m r).ext x))
            exact PostS.here (P2'.mono ev3) S3
          · cases ep
        · rename_i ks vs
          obtain ⟨key, hk, ep⟩ := Option.bind_eq_some_iff.mp ep
          split at ep
          · rename_i hz
            obtain ⟨a, ys, rfl, ha2, hl, r, hφ⟩ := o.dic_inv
            have ei := keyD_eq hk (Rd1.sh (C := Γ.C) q2)
            subst ei
            have hlen : (ks.zip ys).length < sizeLine := by rw [List.length_zip, hl, Nat.min_self, ← hl]; exact Nat.lt_of_lt_of_le hz (lim_le (Nat.le_refl _))
            refine .inr ⟨a, _, rfl, DPut.k ha2 hlen, ?_⟩
            have pz := put_zip (k := key) (y := vv) hl
            by_cases hh : hasK ks key = true
            · rw [if_pos hh] at ep pz
              cases ep
              rw [pz]
              have x : Ext Z2 H2 Z2 (upd H2 a (.dK (ks.zip ((ks.zip ys).map fun q => if q.1 = key then vv else q.2)))) := Ext.upd ha2 (S2.nz i a ((hφ a).mpr rfl)) trivial
              have r2 := putVs_sh (k := key) r q1' hl
              obtain ⟨S3, ev3⟩ := S2.upd (o := .dK (ks.zip ((ks.zip ys).map fun q => if q.1 = key then vv else q.2))) (A := fun b => b = a) hov hi2 ha2 trivial ((hφ a).mpr rfl) (fun b hb => (hφ b).mpr hb)
                (Ow.dic1 upd_same (by rw [List.length_map, List.length_zip, hl, Nat.min_self]) (r2.ext x))
              exact PostS.here (P2'.mono ev3) S3
            · rw [if_neg hh] at ep pz
              cases ep
              rw [pz]
              have x : Ext Z2 H2 Z2 (upd H2 a (.dK ((ks ++ [key]).zip (ys ++ [vv])))) := Ext.upd ha2 (S2.nz i a ((hφ a).mpr rfl)) trivial
              obtain ⟨S3, ev3⟩ := S2.upd (o := .dK ((ks ++ [key]).zip (ys ++ [vv]))) (A := fun b => b = a) hov hi2 ha2 trivial ((hφ a).mpr rfl) (fun b hb => (hφ b).mpr hb)
                (Ow.dic1 upd_same (by rw [List.length_append, List.length_append, hl]; rfl) ((r.snoc q1').ext x))
              exact PostS.here (P2'.mono ev3) S3
          · cases ep
        · cases ep
    · exact P2'.elim
  · exact P1'.elim

/-! ### x op= e -/
def augS (g : D → D → Option (D × Nat)) (i : Nat) (fe : En → R D) : En → SR := fun env => match env[i]? with
  | some (some (d, _)) => if d.isMut = false then (fe env).then fun e env1 => (match g d e with
    | some q => putE env1 i q
    | none => .no) else .no
  | _ => .no
theorem es_aug {i : Nat} {fe : En → R D} {op : Operator} {g : D → D → Option (D × Nat)} {r : R2} (G : Good Γ) (ho : OpR Γ.X (inplaceOp op) r) (hD : Does2 Γ g r) (hi : Γ.X.N[i]? = some x) (hx : Loc Γ.X.env.scope x) (hio : i ∉ Γ.io) (he : EvV Γ e fe)
    (hf : Γ.X.fn x = true ∨ Γ.X.env.scope.names.lookup x = some .local := by first | exact .inl rfl | exact .inr rfl | assumption) : EvS Γ (.AugAssign (.Name x p) op e pos) (augS g i fe) := by
  obtain ⟨t, a1, a2⟩ := he
  refine ⟨_, ps_aug G.nd hi hx a1 (op := op) (ti := r) (fun pins s σ H x y v u Q I rx ry h => ho pins s σ H x y v u Q I rx ry h) hf, fun σ H Z env φ S Dn P => ?_⟩
  unfold augS at P
  split at P
  · rename_i d k hd
    split at P
    · rename_i hm
      obtain ⟨v, hv, o⟩ := S.slot i d k hd
      have sh := o.im_inv hm
      refine ⟨v, hv, ?_⟩
      refine a2.then S P fun e env1 w H1 Z1 φ1 A e1 S1 q1 dj1 ev1 P1 => ?_
      have P2 := P1.mono Evo.dropA
      cases eg : g d e with
      | none => rw [eg] at P2; exact P2.elim
      | some q =>
        rw [eg] at P2
        refine hD σ H1 Z1 env1 φ1 S1 v w d e q (.sh (Sh.ext (S.ext (ev1.sub (F2 := Tot φ1) fun _ z => .inl z)) d v sh)) (.sh q1) eg _ ?_
        exact fun b H' Z' φ' B S' ob dj ev => put_ok hio S' ob dj (PostS.mono P2 ev)
    · exact P.elim
  · exact P.elim
abbrev rAddI : R2 := fun x y H Q => rI0 (fun i j => .int (i + j)) x y H Q
def iaddD : D → D → Option (D × Nat)
  | .int i, .int j => some (.int (i + j), 0)
  | _, _ => none
def imulD : D → D → Option (D × Nat)
  | .int i, .int j => if mulOk i j then some (.int (i * j), 0) else none
  | _, _ => none
theorem iop_mulZ {X : Cx} : OpR X (inplaceOp .Mult) rMulZ := by
  intro pins s σ H x y v u Q I rx ry h
  obtain ⟨i, j, rfl, rfl, hc, q⟩ := h
  obtain ⟨t, rfl⟩ := rx
  obtain ⟨t', rfl⟩ := ry
  exact imul_int ⟨.int _, H, I.tok _, ⟨_, rfl⟩, q⟩ hc
theorem does_iadd : Does2 Γ iaddD (rI0 fun i j => .int (i + j)) := by
  intro σ H Z env φ S x y d e p hx hy hg Q P
  unfold iaddD at hg
  split at hg
  · cases hg
    rw [hx.intI, hy.intI]
    exact ⟨_, _, rfl, rfl, Post.here P S (Ow.sh (.int _))⟩
  · cases hg
theorem does_imul : Does2 Γ imulD rMulZ := by
  intro σ H Z env φ S x y d e p hx hy hg Q P
  unfold imulD at hg
  split at hg
  · split at hg
    · rename_i hz
      cases hg
      rw [hx.intI, hy.intI]
      exact ⟨_, _, rfl, rfl, mulOk.ok hz, Post.here P S (Ow.sh (.int _))⟩
    · cases hg
  · cases hg
theorem es_iadd {i : Nat} {fe : En → R D} (G : Good Γ) (hi : Γ.X.N[i]? = some x) (hx : Loc Γ.X.env.scope x) (hio : i ∉ Γ.io) (he : EvV Γ e fe) (hf : Γ.X.fn x = true ∨ Γ.X.env.scope.names.lookup x = some .local := by first | exact .inl rfl | exact .inr rfl | assumption) : EvS Γ (.AugAssign (.Name x p) .Add e pos) (augS iaddD i fe) := es_aug G iop_add does_iadd hi hx hio he hf
theorem es_isub {i : Nat} {fe : En → R D} (G : Good Γ) (hi : Γ.X.N[i]? = some x) (hx : Loc Γ.X.env.scope x) (hio : i ∉ Γ.io) (he : EvV Γ e fe) (hf : Γ.X.fn x = true ∨ Γ.X.env.scope.names.lookup x = some .local := by first | exact .inl rfl | exact .inr rfl | assumption) : EvS Γ (.AugAssign (.Name x p) .Sub e pos) (augS subD i fe) := es_aug G iop_sub does_sub hi hx hio he hf
theorem es_imul {i : Nat} {fe : En → R D} (G : Good Γ) (hi : Γ.X.N[i]? = some x) (hx : Loc Γ.X.env.scope x) (hio : i ∉ Γ.io) (he : EvV Γ e fe) (hf : Γ.X.fn x = true ∨ Γ.X.env.scope.names.lookup x = some .local := by first | exact .inl rfl | exact .inr rfl | assumption) : EvS Γ (.AugAssign (.Name x p) .Mult e pos) (augS imulD i fe) := es_aug G iop_mulZ does_imul hi hx hio he hf
theorem es_idiv {i : Nat} {fe : En → R D} (G : Good Γ) (hi : Γ.X.N[i]? = some x) (hx : Loc Γ.X.env.scope x) (hio : i ∉ Γ.io) (he : EvV Γ e fe) (hf : Γ.X.fn x = true ∨ Γ.X.env.scope.names.lookup x = some .local := by first | exact .inl rfl | exact .inr rfl | assumption) : EvS Γ (.AugAssign (.Name x p) .FloorDiv e pos) (augS fdivD i fe) := es_aug G iop_divZ does_fdiv hi hx hio he hf

/-! ### raise -/
/-- an error class without an __init__ of its own: its number, its facts -/
structure ExcC (Γ : Ct) (x : Str) (c : Nat) (a : Addr) : Prop where
  g : Γ.X.mg x = some (.ref a)
  k : PySem.W.keepIn Γ.X.K (.ref a) = true
  q : PySem.W.excIn Γ.X.K a [.type "ValueError", .type "Exception", .type "BaseException", .type "object"] "ValueError.__new__" = true
  r : Raises Γ.X (.ref a)
  n : Γ.C.ca c = some a
def raiseS (c : Nat) : En → SR := fun _ => .ex (.mk c [])
theorem es_raise {c : Nat} {a0 : Addr} {m : Str} {j : Nat} {p2 : Pos} (G : Good Γ) (E : ExcC Γ x c a0) (hg : Gl Γ.X x) (hdb : (x == ("__debug__" : Str)) = false := by decide) : EvS Γ (.Raise (some (.Call (.Name x p) [.Constant (.str m) j p2] [] cpos)) none pos) (raiseS c) := by
  refine ⟨_, ps_raise G.calm G.tk (pmk_own PySem.F.excBase_ValueError E.q E.g E.k E.r hg hdb), fun σ H Z env φ S Dn P => ?_⟩
  exact P σ S.io S.l0 (.ref a0) none H Z (Evo.refl.sub fun _ z => z.elim) S.zh ⟨a0, E.n, rfl, .inl rfl⟩
end
end Pv
end

section
set_option Elab.async false
set_option linter.all false
set_option maxRecDepth 100000
set_option maxHeartbeats 4000000
/-! Pv12: try .. except X: suite (the first clause takes what comes); the end of a law. -/
namespace Pv
open PySem PySem.Spec PyProof.Rows L2

/-- what the first clause wishes of an exception of the body -/
def wFst (K : PySem.W.Frag) (c : Value) (ts : Addr → Value → Option Addr → TS) (D : Ends) : WX := fun cls d σ H => PySem.W.exmOne K cls c = some true ∧ ∀ a, H a = none → ts a cls d D σ H
section
variable {X : Cx} {body : List Stmt} {pos : Pos} {tb : WX → TS}
theorem ps_try_fst {x : Str} {c : Value} {ts : Addr → Value → Option Addr → TS} {b₀ : Stmt} {suite : List Stmt} {np pos' : Pos} {hds : List ExceptHandler} (hs : X.stack = X.env :: X.outer) (hf : X.env.frame = some X.env.locals)
    (hb : ∀ (W : WX) (pn : List (Addr × Obj)) (xe : Value → Shared → Prop), Takes (X.tr pn xe) W → PassesOwn (model X.prog X.w) X.A X.env xe → PSs (X.tr pn xe) body (tb W))
    (hc : Names X x c) (hsu : ∀ (a : Addr) (oe : Obj) (cls : Value) (d : Option Addr) (pn : List (Addr × Obj)), Zc cls d oe → (∃ vs, oe.data = .fields vs) → PSs (X.suite a ((a, oe) :: pn)) (b₀ :: suite) (ts a cls d)) :
    PS X (.Try body (.ExceptHandler (some (.Name x np)) none (b₀ :: suite) pos' :: hds) [] [] pos) (fun D σ H => tb (wFst X.K c ts D) D σ H) := by
  refine ⟨fun pins s σ H D I h => ?_⟩
  have ok := I.ok
  have hfr : X.A.frames = some (X.env :: X.outer) := by rw [ok.frames, hs]
  refine wpAny_Try_except ?_
  refine wpAny_mono ((hb (wFst X.K c ts D) (X.pn ++ pins) (fun e s₁ => wpAny (model X.prog X.w) X.A (noteFrame e X.env) (fun _ s₂ => wpAny (model X.prog X.w) X.A (setFlight e none) (fun _ s₃ =>
    wpAny (model X.prog X.w) X.A (handleBy e X.env (.ExceptHandler (some (.Name x np)) none (b₀ :: suite) pos' :: hds)) (SP X pins D) X.xe s₃) X.xe s₂) X.xe s₁) (fun u s' xx => ?_) PassesOwn.looking).run [] s σ H D (I.toTry _) h) (fun f s1 hsp => ?_) (fun e s1 he => he)
  · obtain ⟨a, B, sI, pins', σ', H', cls, d, rfl, J', nb, up, sky, na, os, ag, w⟩ := xx
    have J : Inv X pins σ' H' sI := J'.ofTry ok
    have sky' : Sky B (X.env :: X.outer) a (Zc cls d) X.env.locals s'.heap := by rw [← hs]; exact sky
    show wpAny (model X.prog X.w) X.A (noteFrame (.ref a) X.env) _ _ _
    refine Sky.land Zc.steady hfr hf sky' fun h3 fl3 up3 => ?_
    have J3 : Inv X pins σ' H' { s' with heap := h3 } := J.landed nb fl3.1 (up.trans up3) os ag
    obtain ⟨oe3, vs3, he3, hz3, hd3⟩ := fl3.there
    have notFr : ∀ {h : Heap} {o : Obj} {vs : Array Value}, h.FunFrames B (X.env :: X.outer) → h.get? a = some o → o.data = .fields vs → a ∉ frs (X.env :: X.outer) := fun {h o vs} ff e dd hm => by
      obtain ⟨_, o', e', hnf⟩ := ff.mem hm
      rw [e] at e'; cases e'
      exact hnf _ dd
    have nfr := notFr fl3.2.2.1 he3 hd3
    have nL : a ≠ X.env.locals := fun z => nfr (List.mem_filterMap.mpr ⟨X.env, List.mem_cons_self, by rw [hf, z]⟩)
    have nF : a ∉ X.fs := fun hm => by
      obtain ⟨e, he, q⟩ := List.mem_filterMap.mp hm
      exact nfr (List.mem_filterMap.mpr ⟨e, List.mem_cons_of_mem _ he, q⟩)
    have S3 := J3.suite he3 hd3 na nL nF
    obtain ⟨hb1, hyes⟩ := w
    refine wpAny_handleBy_cons (codeAny_handlers_test ?_) (by intro q; cases q)
    have LT : PySem.W.Looks (model X.prog X.w) h3 (typeOf (.ref a)) cls := fun A Q E s k q => wpAny_typeOf_ref (k _ _ he3) (by rw [hz3.1]; exact q)
    have LM := PySem.W.exm_one (M := model X.prog X.w) (J3.kIn) LT hb1
    have test : ∀ {Q : Value → Shared → Prop} {E : Value → Shared → Prop}, Q c { s' with heap := h3 } → wpAny (model X.prog X.w) (X.A.mark (some (.ref a))) (eval (.Name x np) X.env) Q E { s' with heap := h3 } := fun {Q E} q => by
      obtain ⟨hg, hdbg, hm | ⟨hm, hv, hnn⟩⟩ := hc
      · exact ld_glob (X := X.suite a ((a, oe3) :: (X.pn ++ pins))) S3 hg hm q hdbg
      · exact ld_blt (X := X.suite a ((a, oe3) :: (X.pn ++ pins))) S3 hg hm hv q hnn hdbg
    refine test (LM.here ?_)
    refine codeAny_handlers_suite ?_
    refine HandSPX.lands_againZ fl3 fun h4 fl4 up4 => ?_
    have J4 : Inv X pins σ' H' { s' with heap := h4 } := J.landed nb fl4.1 ((up.trans up3).trans up4) os ag
    obtain ⟨oe4, vs4, he4, hz4, hd4⟩ := fl4.there
    have S4 := J4.suite he4 hd4 na nL nF
    refine wpAny_mono ((hsu a oe4 cls d (X.pn ++ pins) hz4 ⟨_, hd4⟩).run [] _ _ H' _ S4 (hyes a na)) (fun f s6 hsp => ?_) (fun _ _ z => False.elim z)
    cases f with
    | next =>
      obtain ⟨σ6, H6, S6, q6⟩ := hsp
      exact ⟨_, _, S6.unsuite ok, q6⟩
    | brk =>
      obtain ⟨σ6, H6, S6, q6⟩ := hsp
      exact ⟨_, _, S6.unsuite ok, q6⟩
    | cont =>
      obtain ⟨σ6, H6, S6, q6⟩ := hsp
      exact ⟨_, _, S6.unsuite ok, q6⟩
    | ret u =>
      obtain ⟨v6, σ6, H6, S6, r6, q6⟩ := hsp
      exact ⟨_, _, _, S6.unsuite ok, r6, q6⟩
  · cases f with
    | next =>
      obtain ⟨σ', H', J', q⟩ := hsp
      exact wpAny_execs_nil ⟨σ', H', J'.ofTry ok, q⟩
    | brk =>
      obtain ⟨σ', H', J', q⟩ := hsp
      exact ⟨σ', H', J'.ofTry ok, q⟩
    | cont =>
      obtain ⟨σ', H', J', q⟩ := hsp
      exact ⟨σ', H', J'.ofTry ok, q⟩
    | ret u =>
      obtain ⟨v, σ', H', J', r, q⟩ := hsp
      exact ⟨v, σ', H', J'.ofTry ok, r, q⟩
end

/-- the slots that a clause may read: those never stored, and of them what is shared -/
def keepE (io : List Nat) (env : En) : En := env.mapIdx fun i s => if i ∈ io then (match s with
  | some (d, 0) => some (d, 0)
  | _ => none) else none
theorem keepE_at {io : List Nat} {env : En} {i : Nat} {d : D} {k : Nat} (h : (keepE io env)[i]? = some (some (d, k))) : i ∈ io ∧ env[i]? = some (some (d, 0)) ∧ k = 0 := by
  unfold keepE at h
  rw [List.getElem?_mapIdx] at h
  cases e : env[i]? with
  | none => rw [e] at h; cases h
  | some s =>
    rw [e] at h
    have h := Option.some.inj h
    split at h
    · rename_i hi
      simp only at h
      split at h
      · cases h; exact ⟨hi, rfl, rfl⟩
      · cases h
    · cases h
abbrev tryCt (Γ : Ct) (pn : List (Addr × Obj)) (xe : Value → Shared → Prop) (W : WX) : Ct := ⟨Γ.X.tr pn xe, Γ.C, W, Γ.io, Γ.σ₀⟩
abbrev suiCt (Γ : Ct) (a : Addr) (oe : Obj) (pn : List (Addr × Obj)) : Ct := ⟨Γ.X.suite a ((a, oe) :: pn), Γ.C, fun _ _ _ _ => False, Γ.io, Γ.σ₀⟩
theorem Good.tryG {Γ : Ct} (G : Good Γ) {pn : List (Addr × Obj)} {xe : Value → Shared → Prop} {W : WX} (tk : Takes (Γ.X.tr pn xe) W) : Good (tryCt Γ pn xe W) := ⟨G.hK, G.nd, G.calm, tk⟩
def SR.noX (r : SR) : SR := match r with
  | .ex _ => .no
  | r => r
def tryS (io : List Nat) (c : Nat) (f h : En → SR) : En → SR := fun env => match f env with
  | .ex (.mk c' _) => if c' = c then (h (keepE io env)).noX else .no
  | r => r
section
variable {Γ : Ct} {body : List Stmt} {pos : Pos} {f g : En → SR}
theorem es_try {x : Str} {c : Nat} {a₀ : Addr} {b₀ : Stmt} {suite : List Stmt} {np pos' : Pos} {hds : List ExceptHandler} (G : Good Γ) (hs : Γ.X.stack = Γ.X.env :: Γ.X.outer) (hf : Γ.X.env.frame = some Γ.X.env.locals) (hio : Γ.io ≠ [])
    (hb : ∀ W pn xe, Takes (Γ.X.tr pn xe) W → PassesOwn (model Γ.X.prog Γ.X.w) Γ.X.A Γ.X.env xe → EvB (tryCt Γ pn xe W) body f)
    (hg : Gl Γ.X x) (hm : Γ.X.mg x = some (.ref a₀)) (hn : Γ.C.ca c = some a₀) (hx : PySem.W.exmOne Γ.X.K (.ref a₀) (.ref a₀) = some true) (hsu : ∀ a oe pn, EvB (suiCt Γ a oe pn) (b₀ :: suite) g) (hdb : (x == ("__debug__" : Str)) = false := by decide) :
    EvS Γ (.Try body (.ExceptHandler (some (.Name x np)) none (b₀ :: suite) pos' :: hds) [] [] pos) (tryS Γ.io c f g) := by
  have nm : Names Γ.X x (.ref a₀) := ⟨hg, hdb, .inl hm⟩
  refine ⟨_, ps_try_fst (tb := fun W D σ H => ∀ pn xe tk po, Classical.choose (hb W pn xe tk po) D σ H) (ts := fun a _ _ D σ H => ∀ oe pn, Classical.choose (hsu a oe pn) D σ H) hs hf (fun W pn xe tk po => ⟨fun pins s σ H D I h => (Classical.choose_spec (hb W pn xe tk po)).1.run pins s σ H D I (h pn xe tk po)⟩) nm
    (fun a oe cls d pn _ _ => ⟨fun pins s σ H D I h => (Classical.choose_spec (hsu a oe pn)).1.run pins s σ H D I (h oe pn)⟩), fun σ H Z env φ S Dn P pn xe tk po => ?_⟩
  refine (Classical.choose_spec (hb _ pn xe tk po)).2 σ H Z env φ S Dn ?_
  unfold tryS at P
  cases e : f env with
  | nx env1 => rw [e] at P; exact P
  | bk env1 => rw [e] at P; exact P
  | ct env1 => rw [e] at P; exact P
  | ret p env1 => rw [e] at P; exact P
  | no => rw [e] at P; exact P
  | ex x =>
    obtain ⟨c', fs⟩ := x
    rw [e] at P
    simp only at P
    by_cases hcc : c' = c
    · rw [if_pos hcc] at P
      subst hcc
      intro σ' k1 k2 cls dx H' Z' ev zh xr
      obtain ⟨a1, h1, rfl, _⟩ := xr
      have h1 : Γ.C.ca c' = some a1 := h1
      rw [hn] at h1; cases h1
      refine ⟨hx, fun a ha oe pn2 => ?_⟩
      have S' : SttC (suiCt Γ a oe pn2) Z' σ' H' (keepE Γ.io env) (fun _ _ => False) :=
        { len := by
            have l1 := S.l0 hio
            have l2 : σ'.length = Γ.σ₀.length := k2 hio
            have l3 := S.len
            show σ'.length = (keepE Γ.io env).length
            unfold keepE
            rw [List.length_mapIdx]
            omega
          slot := fun i d k h => by
            obtain ⟨hi, h0, rfl⟩ := keepE_at h
            obtain ⟨v, hv, o⟩ := S.slot i d 0 h0
            refine ⟨v, by rw [k1 i hi, ← S.io i hi]; exact hv, o.1.ext (S.ext ev), fun _ z => z⟩
          off := fun _ _ _ z => z
          dj := fun _ _ _ z => z.elim
          nz := fun _ _ z => z.elim
          zh := zh
          l0 := k2
          io := k1 }
      refine (Classical.choose_spec (hsu a oe pn2)).2 σ' H' Z' _ _ S' Dn ?_
      have P2 := PostS.mono P (ev.sub (F2 := Tot fun (_ : Nat) (_ : Addr) => False) fun a ⟨_, z⟩ => z.elim)
      cases eg : g (keepE Γ.io env) with
      | nx env1 => rw [eg] at P2; exact P2
      | bk env1 => rw [eg] at P2; exact P2
      | ct env1 => rw [eg] at P2; exact P2
      | ret p env1 => rw [eg] at P2; exact P2
      | no => rw [eg] at P2; exact P2
      | ex y => rw [eg] at P2; exact P2.elim
    · rw [if_neg hcc] at P; exact P.elim
end
end Pv
end

section
set_option Elab.async false
set_option linter.all false
set_option maxRecDepth 100000
set_option maxHeartbeats 4000000
/-! Pv13: sorted, ranges with a step, three stores at once, <= of tuples. -/
namespace Pv
open PySem PySem.Spec PyProof.Rows L2
open PySem.Calls (call_function_entry)

/-! ### sorted -/
def encD (d : D) : PyData := d.py.getD .none
structure SortOk (ds : List D) : Prop where
  py : ∀ d ∈ ds, d.py ≠ none
  al : PySem.W.AllAlike (ds.map encD)
  so : PySem.W.Sortable (ds.map encD)
  dp : ∀ d ∈ ds, (encD d).depth ≤ 16
/-- merging and sorting that can be reckoned out -/
def mrg {α : Type} (le : α → α → Bool) : Nat → List α → List α → List α
  | 0, xs, ys => xs ++ ys
  | k + 1, xs, ys => match xs, ys with
    | [], ys => ys
    | x :: xs, [] => x :: xs
    | x :: xs, y :: ys => if le x y then x :: mrg le k xs (y :: ys) else y :: mrg le k (x :: xs) ys
theorem mrg_eq {α : Type} (le : α → α → Bool) : ∀ (k : Nat) (xs ys : List α), xs.length + ys.length ≤ k → mrg le k xs ys = List.merge xs ys le
  | 0, xs, ys, h => by
    have h1 : xs = [] := List.length_eq_zero_iff.mp (by omega)
    have h2 : ys = [] := List.length_eq_zero_iff.mp (by omega)
    subst h1 h2
    simp [mrg]
  | k + 1, [], ys, h => by simp [mrg]
  | k + 1, x :: xs, [], h => by simp [mrg]
  | k + 1, x :: xs, y :: ys, h => by
    simp only [List.length_cons] at h
    show (if le x y then x :: mrg le k xs (y :: ys) else y :: mrg le k (x :: xs) ys) = _
    rw [List.merge, mrg_eq le k xs (y :: ys) (by simp; omega), mrg_eq le k (x :: xs) ys (by simp; omega)]
def msr {α : Type} (le : α → α → Bool) : Nat → List α → List α
  | 0, xs => xs
  | k + 1, xs => match xs with
    | [] => []
    | [a] => [a]
    | a :: b :: r => mrg le ((a :: b :: r).length) (msr le k ((a :: b :: r).take (((a :: b :: r).length + 1) / 2))) (msr le k ((a :: b :: r).drop (((a :: b :: r).length + 1) / 2)))
theorem msr_eq {α : Type} (le : α → α → Bool) : ∀ (k : Nat) (xs : List α), xs.length ≤ k + 1 → msr le k xs = xs.mergeSort le
  | 0, [], _ => by simp [msr]
  | 0, [a], _ => by simp [msr]
  | 0, _ :: _ :: _, h => by simp at h
  | k + 1, [], _ => by simp [msr]
  | k + 1, [a], _ => by simp [msr]
  | k + 1, a :: b :: r, h => by
    simp only [List.length_cons] at h
    unfold msr
    rw [List.mergeSort]
    simp only [List.MergeSort.Internal.splitInTwo_fst, List.MergeSort.Internal.splitInTwo_snd]
    have l1 : ((a :: b :: r).take (((a :: b :: r).length + 1) / 2)).length ≤ k + 1 := by simp; omega
    have l2 : ((a :: b :: r).drop (((a :: b :: r).length + 1) / 2)).length ≤ k + 1 := by simp; omega
    rw [msr_eq le k _ l1, msr_eq le k _ l2]
    exact mrg_eq le _ _ _ (by simp [List.length_mergeSort]; omega)
def lexLe : List Int → List Int → Bool
  | [], _ => true
  | _ :: _, [] => false
  | x :: xs, y :: ys => if x = y then lexLe xs ys else decide (x < y)
def leK : D → D → Bool
  | .tup xs, .tup ys => match D.ints xs, D.ints ys with
    | some ns, some ms => lexLe ns ms
    | _, _ => PySem.W.dataLe false encD (.tup xs) (.tup ys)
  | d, e => PySem.W.dataLe false encD d e
theorem pyL_ints : ∀ ns : List Int, D.pyL (ns.map D.int) = some (ns.map PyData.int)
  | [] => rfl
  | n :: ns => by
    show D.pyL (.int n :: ns.map D.int) = _
    rw [D.pyL, pyL_ints ns]
    rfl
theorem encD_ints (ns : List Int) : encD (.tup (ns.map D.int)) = .tuple (ns.map PyData.int) := by
  unfold encD
  rw [D.py, pyL_ints]
  rfl
theorem lexLe_eq : ∀ xs ys : List Int, lexLe xs ys = !decide (ys < xs)
  | [], ys => by
    have : ¬ ys < [] := List.not_lt_nil ys
    simp [lexLe, this]
  | x :: xs, [] => by simp [lexLe]
  | x :: xs, y :: ys => by
    unfold lexLe
    rw [lexLe_eq xs ys]
    simp only [List.cons_lt_cons_iff]
    by_cases h : x = y
    · subst h
      simp
    · have h' : ¬ y = x := fun e => h e.symm
      simp only [if_neg h, h', false_and, or_false]
      by_cases h2 : x < y
      · have : ¬ y < x := by omega
        simp [h2, this]
      · have : y < x := by omega
        simp [h2, this]
theorem leK_eq : leK = PySem.W.dataLe false encD := by
  funext d e
  unfold leK
  split
  · split
    · rename_i xs ys ns ms e1 e2
      rw [D.ints_eq e1, D.ints_eq e2, lexLe_eq]
      show _ = (!PySem.W.dataLt (encD (.tup (ms.map D.int))) (encD (.tup (ns.map D.int))))
      rw [encD_ints, encD_ints, PySem.W.dataLt_tuple]
      exact congrArg (!·) (PySem.W.dataLt_ints ms ns).symm
    · rfl
  · rfl
def srt (ds : List D) : List D := msr leK ds.length ds
theorem srt_eq (ds : List D) : srt ds = ds.mergeSort (PySem.W.dataLe false encD) := by
  unfold srt
  rw [msr_eq leK _ _ (Nat.le_succ _), leK_eq]
def intTup : D → Bool
  | .tup (x :: xs) => (D.ints (x :: xs)).isSome
  | _ => false
def isInt : D → Bool
  | .int _ => true
  | _ => false
def isStr : D → Bool
  | .str _ => true
  | _ => false
def neTup : PyData → Bool
  | .tuple (_ :: _) => true
  | _ => false
def noTup : PyData → Bool
  | .tuple _ => false
  | .none => false
  | _ => true
def sortOkG (ds : List D) : Bool := ds.all (fun d => d.py.isSome && decide ((encD d).depth ≤ 16)) && (ds.all (fun d => ds.all fun e => PySem.W.alike (encD d) (encD e)) && (ds.all (fun d => neTup (encD d)) || ds.all (fun d => noTup (encD d))))
def sortOkB (ds : List D) : Bool := ds.all intTup || ds.all isInt || ds.all isStr || sortOkG ds
theorem intTup_eq {d : D} (h : intTup d = true) : ∃ n ns, d = .tup ((n :: ns).map D.int) := by
  unfold intTup at h
  split at h
  · rename_i x xs
    cases e : D.ints (x :: xs) with
    | none => rw [e] at h; cases h
    | some ns =>
      have := D.ints_eq e
      cases ns with
      | nil => cases this
      | cons n ns => exact ⟨n, ns, by rw [this]⟩
  · cases h
theorem sortOk_of {ds : List D} (h : sortOkB ds = true) : SortOk ds := by
  unfold sortOkB at h
  simp only [Bool.or_eq_true, List.all_eq_true] at h
  rcases h with ((h | h) | h) | h
  · have q : ∀ d ∈ ds, ∃ n ns, d = .tup ((n :: ns).map D.int) := fun d hd => intTup_eq (h d hd)
    have pe : ∀ d ∈ ds, ∃ n ns, encD d = .tuple ((n :: ns).map PyData.int) := fun d hd => by
      obtain ⟨n, ns, rfl⟩ := q d hd
      exact ⟨n, ns, encD_ints _⟩
    refine ⟨fun d hd e => ?_, fun a ha b hb => ?_, .inl fun a ha => ?_, fun d hd => ?_⟩
    · obtain ⟨n, ns, rfl⟩ := q d hd
      rw [D.py, pyL_ints] at e; cases e
    · obtain ⟨d, hd, rfl⟩ := List.mem_map.mp ha
      obtain ⟨e, he, rfl⟩ := List.mem_map.mp hb
      obtain ⟨n, ns, e1⟩ := pe d hd
      obtain ⟨m, ms, e2⟩ := pe e he
      rw [e1, e2]
      show PySem.W.alikeAll _ _ = true
      exact PySem.W.alike_ints _ _
    · obtain ⟨d, hd, rfl⟩ := List.mem_map.mp ha
      obtain ⟨n, ns, e1⟩ := pe d hd
      exact ⟨_, _, e1⟩
    · obtain ⟨n, ns, e1⟩ := pe d hd
      rw [e1]
      simp only [PyData.depth]
      rw [PySem.W.depth_ints]
      omega
  · have q : ∀ d ∈ ds, ∃ n, d = .int n := fun d hd => by
      have := h d hd
      unfold isInt at this
      split at this
      · exact ⟨_, rfl⟩
      · cases this
    refine ⟨fun d hd e => ?_, fun a ha b hb => ?_, .inr fun a ha => ?_, fun d hd => ?_⟩
    · obtain ⟨n, rfl⟩ := q d hd
      cases e
    · obtain ⟨d, hd, rfl⟩ := List.mem_map.mp ha
      obtain ⟨e, he, rfl⟩ := List.mem_map.mp hb
      obtain ⟨n, rfl⟩ := q d hd
      obtain ⟨m, rfl⟩ := q e he
      rfl
    · obtain ⟨d, hd, rfl⟩ := List.mem_map.mp ha
      obtain ⟨n, rfl⟩ := q d hd
      exact ⟨nofun, fun xs => nofun⟩
    · obtain ⟨n, rfl⟩ := q d hd
      show PyData.depth (.int n) ≤ 16
      simp [PyData.depth]
  · have q : ∀ d ∈ ds, ∃ n, d = .str n := fun d hd => by
      have := h d hd
      unfold isStr at this
      split at this
      · exact ⟨_, rfl⟩
      · cases this
    refine ⟨fun d hd e => ?_, fun a ha b hb => ?_, .inr fun a ha => ?_, fun d hd => ?_⟩
    · obtain ⟨n, rfl⟩ := q d hd
      cases e
    · obtain ⟨d, hd, rfl⟩ := List.mem_map.mp ha
      obtain ⟨e, he, rfl⟩ := List.mem_map.mp hb
      obtain ⟨n, rfl⟩ := q d hd
      obtain ⟨m, rfl⟩ := q e he
      rfl
    · obtain ⟨d, hd, rfl⟩ := List.mem_map.mp ha
      obtain ⟨n, rfl⟩ := q d hd
      exact ⟨nofun, fun xs => nofun⟩
    · obtain ⟨n, rfl⟩ := q d hd
      show PyData.depth (.str n) ≤ 16
      simp [PyData.depth]
  · unfold sortOkG at h
    simp only [Bool.and_eq_true, Bool.or_eq_true, List.all_eq_true, decide_eq_true_eq] at h
    obtain ⟨h1, h2, h3⟩ := h
    refine ⟨fun d hd e => ?_, fun a ha b hb => ?_, ?_, fun d hd => (h1 d hd).2⟩
    · have := (h1 d hd).1
      rw [e] at this; cases this
    · obtain ⟨d, hd, rfl⟩ := List.mem_map.mp ha
      obtain ⟨e, he, rfl⟩ := List.mem_map.mp hb
      exact h2 d hd e he
    · rcases h3 with h3 | h3
      · refine .inl fun a ha => ?_
        obtain ⟨d, hd, rfl⟩ := List.mem_map.mp ha
        have := h3 d hd
        unfold neTup at this
        split at this
        · rename_i x r e; exact ⟨x, r, e⟩
        · cases this
      · refine .inr fun a ha => ?_
        obtain ⟨d, hd, rfl⟩ := List.mem_map.mp ha
        have := h3 d hd
        refine ⟨fun e => ?_, fun xs e => ?_⟩
        · rw [e] at this; cases this
        · rw [e] at this; cases this
def sortL (ds : List D) : Option (D × Nat) := if sortOkB ds = true then some (.lst (srt ds), 1) else none
theorem sortL_ok {ds : List D} {p : D × Nat} (h : sortL ds = some p) : SortOk ds ∧ p = (.lst (srt ds), 1) := by
  unfold sortL at h
  split at h
  · rename_i e
    cases h
    exact ⟨sortOk_of e, rfl⟩
  · cases h
def sortD : D → Option (D × Nat)
  | .lst ds => sortL ds
  | .tup ds => sortL ds
  | _ => none
section
variable {C : RC} {Z : Fp} {H : Hp}
theorem each_of : ∀ {xs : List V} {us : List Value} {ds : List D}, Vals xs us → ShL C Z H xs ds → PySem.W.EachIs (fun u d => ∃ v, RelV v u ∧ Sh C Z H v d) us ds
  | [], _, _, r, h => by cases r; cases h; exact .nil
  | x :: xs, u :: us, ds, r, h => by
    cases r with
    | cons r rr =>
      cases h with
      | cons h hh => exact PySem.W.EachIs.cons ⟨x, r, h⟩ (each_of rr hh)
theorem of_each : ∀ {us : List Value} {ds : List D}, PySem.W.EachIs (fun u d => ∃ v, RelV v u ∧ Sh C Z H v d) us ds → ∃ ys, Vals ys us ∧ ShL C Z H ys ds
  | _, _, .nil => ⟨[], .nil, .nil⟩
  | _, _, .cons ⟨v, r, h⟩ t => by
    obtain ⟨ys, a, b⟩ := of_each t
    exact ⟨v :: ys, .cons r a, .cons h b⟩
theorem each_reads {X : Cx} {pins : List (Addr × Obj)} {σ : L2.St} {s : Shared} (I : Inv X pins σ H s) (hK : C.K = X.K) : ∀ {us : List Value} {ds : List D}, (∀ d ∈ ds, d.py ≠ none) → PySem.W.EachIs (fun u d => ∃ v, RelV v u ∧ Sh C Z H v d) us ds → PySem.W.EachIs (fun u d => ∃ as, Reads s.heap u (encD d) as) us ds
  | _, _, _, .nil => .nil
  | _, d :: _, hp, .cons ⟨v, r, h⟩ t => by
    refine .cons ?_ (each_reads I hK (fun d hd => hp d (List.mem_cons_of_mem _ hd)) t)
    cases e : d.py with
    | none => exact absurd e (hp d List.mem_cons_self)
    | some p =>
      have q := Sh.dp d v p h e
      rw [hK] at q
      have e2 : encD d = p := by unfold encD; rw [e]; rfl
      rw [e2]
      exact Dp.reads I p v _ q r
end
/-- sorted(xs) over a sequence's object -/
theorem sorted_seq {prog : Program} {w : World} {A : Around} {E : Value → Shared → Prop} {s : Shared} {β : Type} {vs : List Value} {bs : List β} {enc : β → PyData} {R : Value → β → Prop} {l : Addr} {T : String} {o : Obj} {n : Nat} {Q : Value → Shared → Prop}
    (hT : T = "list" ∨ T = "tuple") (ho : s.heap.get? l = some o) (hc : o.cls = .type T) (hd : o.data = .seq vs.toArray n) (e : PySem.W.EachIs R vs bs) (er : PySem.W.EachIs (fun v b => ∃ as, Reads s.heap v (enc b) as) vs bs) (hal : PySem.W.AllAlike (bs.map enc)) (hk : PySem.W.Sortable (bs.map enc)) (hL : vs.length ≤ sizeLine)
    (hu : ∀ b, b ∈ bs → A.units + 2 + (enc b).depth < cLine) (h : ∀ (h1 : Heap) (out : List Value) (h' : Heap) (a e' : Nat), (∀ b u, s.heap.get? b = some u → h1.get? b = some u) → (∀ b u, h1.get? b = some u → h'.get? b = some u) → h1.objs.size ≤ a → h'.get? a = some (seqObj "list" (List.toArray out) e') → out.length = bs.length → PySem.W.EachIs R out (bs.mergeSort (PySem.W.dataLe false enc)) → Q (.ref a) { s with heap := h' }) :
    wpAny (model prog w) A (call (.builtin "sorted") [.ref l]) Q E s := by
  refine PySem.Calls.call_function_entry kind_sorted plain_sorted entry_sorted (args_sorted1 _) ?_
  unfold Builtin.«sorted»
  refine wpAny_bind (m := checkCount "sorted" 1 1 _) (wpAny_pure ?_)
  refine wpAny_bind (wpAny_collect_seq l hT ho hc hd (fun h1 k1 => ?_) (by simpa using hL))
  refine wpAny_bind (wpAny_newList ?_ hL)
  have ha : (h1.push (seqObj "list" vs.toArray 0)).get? h1.objs.size = some (seqObj "list" vs.toArray 0) := Heap.get?_push_size _ rfl
  have k2 : ∀ b u, s.heap.get? b = some u → (h1.push (seqObj "list" vs.toArray 0)).get? b = some u := fun b u q => by
    rw [Heap.get?_push_ne _ _ _ (Nat.ne_of_lt (Heap.lt_size (k1 b u q)))]; exact k1 b u q
  have nb : ∀ b u, s.heap.get? b = some u → b ≠ h1.objs.size := fun b u q => Nat.ne_of_lt (Heap.lt_size (k1 b u q))
  have er' : PySem.W.EachIs (fun v b => ∃ as, Reads (PySem.W.sortingHeap (h1.push (seqObj "list" vs.toArray 0)) h1.objs.size vs) v (enc b) as) vs bs := er.mono fun _ _ ⟨as, r⟩ => ⟨as, PyProof.Rows.Reads.keeps (fun b u q => PySem.W.sortingHeap_old (nb b u q) (k2 b u q)) r⟩
  refine wpAny_bind (wpAny_holding (wpAny_call_entry_kw slot_list_sort ⟨_, ha, rfl⟩ entry_list_sort ?body (args_list_sort _)))
  case body =>
    show wpAny (model prog w) A.in1.in1 (Builtin.«list.sort» ⟨[.ref h1.objs.size], []⟩) _ _ _
    refine PySem.W.list_sort_vals (κ := PySem.W.dataKind _ (bs.map enc)) ha (PySem.W.SortsAt.data (PySem.W.each_map (R := fun v d => ∃ as, Reads _ v d as) enc er') hal hk (PySem.W.bound_map hu)) hL ⟨_, rfl, wpAny_pure ⟨_, rfl, ?_⟩⟩
    obtain ⟨e9, he9⟩ := PyProof.Rows.sortedHeap_at (h := h1.push (seqObj "list" vs.toArray 0)) (out := (PySem.W.sortVals (PySem.W.dataKind (PySem.W.sortingHeap (h1.push (seqObj "list" vs.toArray 0)) h1.objs.size vs) (bs.map enc)) false vs vs).toArray) ha
    refine h h1 _ _ _ _ k1 (fun b u q => ?_) (Nat.le_refl _) he9 (by rw [PySem.W.sortVals_length false rfl]; exact e.length) (PySem.W.sortVals_data false e er' hal)
    have hb : (h1.push (seqObj "list" vs.toArray 0)).get? b = some u := by
      rw [Heap.get?_push_ne _ _ _ (Nat.ne_of_lt (Heap.lt_size q))]; exact q
    rw [PyProof.Rows.sortedHeap_old (Nat.ne_of_lt (Heap.lt_size q)) (Heap.lt_size hb)]
    exact hb

def rSortA (C : RC) (K : PySem.W.Frag) : List V → Hp → VK → Prop := fun vs H Q => ∃ a xs ds Z, vs = [V.ref a] ∧ (SqL K H a xs ∨ SqT K H a xs) ∧ ShL C Z H xs ds ∧ SortOk ds ∧ C.K = K ∧
  ∀ ys p, H p = none → ShL C Z H ys (srt ds) → Q (.ref p) (upd H p (.lst ys))
theorem cr_sortA {X : Cx} {C : RC} {k : Nat} (hr : Room k X.A) : CallR X (.builtin "sorted") (rSortA C X.K) := by
  intro pins s σ H vs us Q I r h
  obtain ⟨a, xs, ds, Z, rfl, hs, sh, ok, hK, q⟩ := h
  rw [Vals.ref1 r]
  obtain ⟨its, T, o, n, hT, rv, ho, hc, hd, hz⟩ : ∃ its T o n, (T = "list" ∨ T = "tuple") ∧ Vals xs its ∧ s.heap.get? a = some o ∧ o.cls = .type T ∧ o.data = .seq its.toArray n ∧ its.length ≤ sizeLine := by
    rcases hs with hs | hs
    · obtain ⟨its, rv, ⟨o, n, ho, hc, _, hd⟩, hz⟩ := I.list hs
      exact ⟨its, "list", o, n, .inl rfl, rv, ho, hc, hd, by rw [← rv.length]; exact hz⟩
    · obtain ⟨its, rv, ⟨o, ho, hc, n, hd⟩, hz⟩ := I.tuple hs
      exact ⟨its, "tuple", o, n, .inr rfl, rv, ho, hc, hd, by rw [← rv.length]; exact hz⟩
  have e := each_of rv sh
  refine sorted_seq hT ho hc hd e (each_reads I hK ok.py e) ok.al ok.so hz (fun d hd => by have := ok.dp d hd; have := hr.un; omega) fun h1 out h' p e9 k1 k2 hp hat hlen ee => ?_
  obtain ⟨ys, ry, sy⟩ := of_each ee
  rw [← srt_eq] at sy
  have I1 := I.kept (t' := s.toks) k1
  have hlen2 : ys.length ≤ sizeLine := by rw [ry.length, hlen, ← e.length]; exact hz
  exact ⟨.ref p, upd H p (.lst ys), I1.laid (t' := s.toks) k2 hp ⟨hlen2, out, e9, ry, hat⟩, rfl, q ys p (I1.hok.fresh hp) sy⟩
section
variable {Γ : Ct} {e a b c : Expr} {fa fb fc : En → R Opd} {pos p q : Pos} {x : Str}
theorem ev_sorted (G : Good Γ) {k : Nat} (hr : Room k Γ.X.A) (hg : Gl Γ.X "sorted") (hm : Γ.X.mg "sorted" = none) (ha : EvO Γ a fa) (hs : starEach [a] Γ.X.env = [(false, eval a Γ.X.env)] := by rfl) : EvE Γ (.Call (.Name "sorted" p) [a] [] pos) (op1 sortD fa) :=
  ev_b1 (cr_sortA (C := Γ.C) hr) (fun σ H Z env φ S x d p hx hg Q P => by
    unfold sortD at hg
    split at hg
    · obtain ⟨ok, rfl⟩ := sortL_ok hg
      obtain ⟨a, us, rfl, ha, r⟩ := hx.lstI
      exact ⟨a, us, _, Z, rfl, .inl (SqL.of ha), r, ok, G.hK, fun ys l hl sy => Post.newL P S hl (Ow.lst1 upd_same (sy.ext (Ext.new hl)))⟩
    · obtain ⟨ok, rfl⟩ := sortL_ok hg
      obtain ⟨a, us, rfl, ha, r⟩ := hx.tupI
      rw [G.hK] at ha
      exact ⟨a, us, _, Z, rfl, .inr ha, r, ok, G.hK, fun ys l hl sy => Post.newL P S hl (Ow.lst1 upd_same (sy.ext (Ext.new hl)))⟩
    · cases hg) hg hm (by decide +kernel) ha (hs := hs)

/-! ### range(i, j, c) -/
def rg3D : List D → Option (List D)
  | [.int i, .int j, .int c] => if c ≠ 0 ∧ c.natAbs < 1073741824 ∧ Builtin.Range.small i j c = true ∧ 0 ≤ Builtin.Range.rangeSize i j c then some ((List.range (Builtin.Range.rangeSize i j c).toNat).map fun k : Nat => .int (i + k * c)) else none
  | _ => none
theorem itc_d {C : RC} {lo c : Int} {n : Nat} {Z : Fp} {H : Hp} : ItD C (Itc lo c n) ((List.range n).map fun k : Nat => .int (lo + k * c)) Z H := fun Z2 H2 x => by
  refine ⟨(show n ≤ ((List.range n).map fun k : Nat => D.int (lo + k * c)).length by simp), fun i d hd => ?_⟩
  rw [List.getElem?_map] at hd
  obtain ⟨j, hj, rfl⟩ := Option.map_eq_some_iff.mp hd
  obtain ⟨h1, h2⟩ := List.getElem?_eq_some_iff.mp hj
  rw [List.length_range] at h1
  rw [List.getElem_range] at h2
  subst h2
  exact ⟨h1, fun y H' ⟨e1, e2⟩ => by subst e1 e2; exact ⟨.int _, .inl rfl⟩⟩
def rg3 (f : En → R (List D)) : En → R (List D) := fun env => (f env).bind fun ds env1 => R.of (rg3D ds) env1
theorem ei_rg3 {tg : Expr} {f : En → R (List D)} (hg : Gl Γ.X "range") (hm : Γ.X.mg "range" = none) (ha : EvA Γ [a, b, c] f) (hs : starEach [a, b, c] Γ.X.env = (false, eval a Γ.X.env) :: starEach [b, c] Γ.X.env := by rfl) (hpl : (backTo pos (starEach [b, c] Γ.X.env)).any (·.1) = false := by rfl) : EvI Γ tg (.Call (.Name "range" p) [a, b, c] [] pos) (rg3 f) := by
  obtain ⟨t, h1, h2⟩ := ha
  refine ⟨_, pi_range3 hg hm h1 hs hpl, fun σ H Z env φ S R P => ?_⟩
  refine h2 σ H Z env φ S _ ?_
  unfold rg3 at P
  cases e : f env with
  | ex x => rw [e] at P; exact P
  | no => rw [e] at P; exact P
  | ok ds env1 =>
    rw [e] at P
    simp only [Pv.R.bind_ok] at P
    intro vs H1 Z1 φ1 A S1 sh0 dj ev
    have ev' := ev.sub (F2 := Tot φ1) fun _ z => .inl z
    have sh : ShL Γ.C Z1 H1 vs ds := sh0
    cases eD : rg3D ds with
    | none => rw [eD] at P; exact P.elim
    | some items =>
      rw [eD] at P
      unfold rg3D at eD
      split at eD
      · rename_i i j c
        cases sh with
        | cons h r =>
          cases r with
          | cons h' r =>
            cases r with
            | cons h'' r =>
              cases r
              cases h
              cases h'
              cases h''
              split at eD
              · rename_i hb
                cases eD
                exact ⟨i, j, c, _, rfl, ⟨hb.1, hb.2.1, hb.2.2.1, by rw [Int.toNat_of_nonneg hb.2.2.2]⟩, P _ H1 Z1 φ1 S1 itc_d ev'⟩
              · cases eD
      · cases eD

/-! ### <= of tuples of ints -/
def leTD : D → D → Option (D × Nat)
  | .int i, .int j => some (.bl (decide (i ≤ j)), 0)
  | .tup xs, .tup ys => match D.ints xs, D.ints ys with
    | some ns, some ms => some (.bl (Ob.lexAt (fun j => decide (ns.getD j 0 = ms.getD j 0)) (fun j => decide (ns.getD j 0 ≤ ms.getD j 0)) (decide (ns.length ≤ ms.length)) 0 (min ns.length ms.length)), 0)
    | _, _ => none
  | _, _ => none
theorem does_leT (G : Good Γ) : Does2 Γ leTD (fun x y H Q => rI0 (fun i j => .bl (decide (i ≤ j))) x y H Q ∨ rLeT Γ.X.K x y H Q) := by
  intro σ H Z env φ S x y d e p hx hy hg Q P
  unfold leTD at hg
  split at hg
  · cases hg
    exact .inl ⟨_, _, hx.intI, hy.intI, Post.here P S (Ow.sh (.bl _))⟩
  · split at hg
    · rename_i ns ms e1 e2
      cases hg
      obtain ⟨a, us, rfl, ha, r⟩ := hx.tupI
      obtain ⟨b, ws, rfl, hb, r'⟩ := hy.tupI
      rw [D.ints_eq e1] at r
      rw [D.ints_eq e2] at r'
      rw [r.ints] at ha
      rw [r'.ints] at hb
      rw [G.hK] at ha hb
      exact .inr ⟨a, b, ns, ms, rfl, rfl, ha, hb, Post.here P S (Ow.sh (.bl _))⟩
    · cases hg
  · cases hg
def cLeT (G : Good Γ) {k : Nat} (hr : Room k Γ.X.A) : CmpR Γ .LtE leTD := ⟨_, op_le.or (op_leT hr.units0), does_leT G⟩

/-! ### a, b, c = x, y, z -/
def par3S (i j l : Nat) (fa : En → R (List (D × Nat))) : En → SR := fun env => (fa env).then fun ps env1 => match ps with
  | [p, q, r] => if i < env1.length ∧ j < env1.length ∧ l < env1.length then .nx (((env1.set i (some p)).set j (some q)).set l (some r)) else .no
  | _ => .no
theorem es_par3 {i j l : Nat} {x y z : Str} {a b c : Expr} {fa : En → R (List (D × Nat))} {px py pz pt : Pos} {kt k2 : Nat} {pt2 : Pos} (G : Good Γ) (hi : Γ.X.N[i]? = some x) (hj : Γ.X.N[j]? = some y) (hl : Γ.X.N[l]? = some z) (hij : i ≠ j) (hil : i ≠ l) (hjl : j ≠ l) (hio : i ∉ Γ.io) (hjo : j ∉ Γ.io) (hlo : l ∉ Γ.io)
    (hx : Γ.X.env.scope.names.lookup x = some .local) (hy : Γ.X.env.scope.names.lookup y = some .local) (hz : Γ.X.env.scope.names.lookup z = some .local) (ha : EvL Γ [a, b, c] fa)
    (hw : swappedStores [.Tuple [.Name x px, .Name y py, .Name z pz] kt pt] (.Tuple [a, b, c] k2 pt2) Γ.X.env = pure (some [x, y, z]) := by rfl)
    (hs : swapsWithSole [.Tuple [.Name x px, .Name y py, .Name z pz] kt pt] (.Tuple [a, b, c] k2 pt2) pos.line Γ.X.env = pure false := by rfl) :
    EvS Γ (.Assign [.Tuple [.Name x px, .Name y py, .Name z pz] kt pt] (.Tuple [a, b, c] k2 pt2) pos) (par3S i j l fa) := by
  obtain ⟨t, h1, h2⟩ := ha
  refine ⟨_, ps_par3 G.calm G.nd hi hj hl hij hil hjl hx hy hz h1 hw hs, fun σ H Z env φ S Dn P => ?_⟩
  refine h2.then S P fun ps env1 vs H1 Z1 φ1 A e1 S1 q1 dj1 ev1 P1 => ?_
  have q1 : OwL Γ.C Z1 H1 vs ps A := q1
  cases q1 with
  | nil _ => exact P1.elim
  | @cons v vs p ps A1 B U o r d1 u1 =>
    cases r with
    | nil _ => exact P1.elim
    | @cons w ws q qs A2 B2 U2 o2 r2 d2 u2 =>
      cases r2 with
      | nil _ => exact P1.elim
      | @cons w3 ws3 q3 qs3 A3 B3 U3 o3 r3 d3 u3 =>
        cases r3 with
        | cons _ _ _ _ => exact P1.elim
        | nil n3 =>
          refine ⟨v, w, w3, rfl, ?_⟩
          simp only at P1
          have a1 : ∀ a, A1 a → A a := fun a z => (u1 a).mpr (.inl z)
          have a2 : ∀ a, A2 a → A a := fun a z => (u1 a).mpr (.inr ((u2 a).mpr (.inl z)))
          have a3 : ∀ a, A3 a → A a := fun a z => (u1 a).mpr (.inr ((u2 a).mpr (.inr ((u3 a).mpr (.inl z)))))
          have n12 : ∀ a, A1 a → ¬ A2 a := fun a z y => d1 a z ((u2 a).mpr (.inl y))
          have n13 : ∀ a, A1 a → ¬ A3 a := fun a z y => d1 a z ((u2 a).mpr (.inr ((u3 a).mpr (.inl y))))
          have n23 : ∀ a, A2 a → ¬ A3 a := fun a z y => d2 a z ((u3 a).mpr (.inl y))
          split at P1
          · rename_i hl
            have S2 := S1.put hl.1 hio o (fun j a _ h z => (dj1 a (a1 a z)).1 ⟨j, h⟩) fun a z => (dj1 a (a1 a z)).2
            have S3 := S2.put (i := j) (by simpa using hl.2.1) hjo o2 (fun m a hm h z => by
              by_cases q : m = i
              · simp only [if_pos q] at h
                exact n12 a h z
              · simp only [if_neg q] at h
                exact (dj1 a (a2 a z)).1 ⟨m, h⟩) fun a z => (dj1 a (a2 a z)).2
            have S4 := S3.put (i := l) (by simpa using hl.2.2) hlo o3 (fun m a hm h z => by
              by_cases q : m = j
              · simp only [if_pos q] at h
                exact n23 a h z
              · simp only [if_neg q] at h
                by_cases q2 : m = i
                · simp only [if_pos q2] at h
                  exact n13 a h z
                · simp only [if_neg q2] at h
                  exact (dj1 a (a3 a z)).1 ⟨m, h⟩) fun a z => (dj1 a (a3 a z)).2
            refine P1 _ H1 Z1 _ S4 ⟨fun _ _ q _ => q, fun _ z => z, fun _ z => .inl z, fun x ⟨m, z⟩ => .inl ?_⟩
            by_cases q : m = l
            · simp only [if_pos q] at z; exact .inr (a3 x z)
            · simp only [if_neg q] at z
              by_cases q2 : m = j
              · simp only [if_pos q2] at z; exact .inr (a2 x z)
              · simp only [if_neg q2] at z
                by_cases q3 : m = i
                · simp only [if_pos q3] at z; exact .inr (a1 x z)
                · simp only [if_neg q3] at z; exact .inl ⟨m, z⟩
          · exact P1.elim
end
end Pv
end

section
set_option Elab.async false
set_option linter.all false
set_option maxRecDepth 100000
set_option maxHeartbeats 4000000
/-! Pv14: a law's facts, its end. -/
namespace Pv
open PySem PySem.Spec PyProof.Rows L2

/-- a def of the program: where it stands -/
structure DA (K : PySem.W.Frag) (mg : Str → Option Value) (x : Str) (st : Stmt) (ps : List Str) where
  f : Addr
  fd : FuncData
  F : Fun K x x st f fd
  m : mg x = some (.ref f)
  b : Binds K fd ps []
def DA.of {K : PySem.W.Frag} {h : Heap} {mg : Str → Option Value} (X : K.In h) (G : h.Ns mainGlobals mg) {x : Str} {st : Stmt} {ps : List Str} {f : Addr} {oc : Value} {od an : Option Addr} {sl : Array (Option Value)} {kV dc pm cd ct : Value}
    (a : PySem.W.nsIn K mainGlobals x = some (some (.ref f))) (l : K.lookup f = some ⟨oc, od, .func (PySem.W.fnOf x x (defArgs st) (defBody st) (defScope st) .none kV dc pm an cd ct), sl⟩) (c : PySem.W.codeIn K cd x = true) (k : PySem.W.keepIn K (.ref f) = true)
    (hb : ∀ (kV doc pm : Value) (an : Option Addr) (cdv ct : Value) (us : List Value), us.length = ps.length → bindArgs (PySem.W.fnOf x x (defArgs st) (defBody st) (defScope st) .none kV doc pm an cdv ct) ⟨us, []⟩ = pure (ps.zip us)) : DA K mg x st ps :=
  ⟨f, _, fun_mk l c k, PySem.W.mg_of X G a, (fun_mk l c k).binds hb⟩
/-- an error class of the program without an __init__ -/
structure XA (K : PySem.W.Frag) (mg : Str → Option Value) (x : Str) where
  a : Addr
  m : mg x = some (.ref a)
  k : PySem.W.keepIn K (.ref a) = true
  q : PySem.W.excIn K a [.type "ValueError", .type "Exception", .type "BaseException", .type "object"] "ValueError.__new__" = true
  s : PySem.W.subIn K (.ref a) (.type "BaseException") = some true
  t : PySem.W.typeIn K (.ref a) = some (.type "type")
  i : PySem.W.isClsIn K a = true
  f : PySem.W.subIn K (.ref a) (.ref a) = some true
theorem XA.e {K : PySem.W.Frag} {mg : Str → Option Value} {x : Str} (A : XA K mg x) : PySem.W.exmOne K (.ref A.a) (.ref A.a) = some true := by
  have h1 := A.s
  have h2 := A.i
  have h3 := A.t
  have h4 := A.f
  have e1 : (PySem.W.subIn K (.ref A.a) (.type "BaseException") == some true) = true := by rw [h1]; rfl
  have e2 : ((PySem.W.clsIn K A.a).isSome && PySem.W.typeIn K (.ref A.a) == some (.type "type")) = true := by
    have h2' : (PySem.W.clsIn K A.a).isSome = true := h2
    rw [h2', h3]; rfl
  show (if (PySem.W.subIn K (.ref A.a) (.type "BaseException") == some true) = true then (if ((PySem.W.clsIn K A.a).isSome && PySem.W.typeIn K (.ref A.a) == some (.type "type")) = true then PySem.W.subIn K (.ref A.a) (.ref A.a) else none) else none) = some true
  rw [if_pos e1, if_pos e2]
  exact h4
theorem XA.excC {K : PySem.W.Frag} {mg : Str → Option Value} {x : Str} (A : XA K mg x) {Γ : Ct} {c : Nat} (hn : Γ.C.ca c = some A.a) (hm : Γ.X.mg = mg := by rfl) (hK : Γ.X.K = K := by rfl) : ExcC Γ x c A.a := by
  subst hm hK
  exact ⟨A.m, A.k, A.q, raises_own A.s A.t, hn⟩
theorem fnV_no {P : Program} {w : World} {K : PySem.W.Frag} {mg : Str → Option Value} {base : Heap} {C : RC} {k : Nat} {f : Addr} {fd : FuncData} {ps : List Str} {io : Bool} : FnV P w K mg base C k f fd ps io (fun _ _ => .no) :=
  ⟨fun _ _ _ _ h => h.1, fun A outer s H args us vs Q E _ _ _ _ h => by
    obtain ⟨_, h⟩ := h
    cases io with
    | false =>
      obtain ⟨_, _, _, _, q⟩ := h
      exact q.elim
    | true =>
      cases vs with
      | nil => exact h.elim
      | cons v vs =>
        obtain ⟨_, _, _, _, _, _, _, _, q⟩ := h
        exact q.elim⟩
def lawSp (K : PySem.W.Frag) (F : Sl → List D → FR) : Sp := fun vs H Q E => vs.length = 1 ∧ ∀ C : RC, C.K = K → spF C 1 false F vs H Q E
theorem lawSp_of {P : Program} {w : World} {K : PySem.W.Frag} {mg : Str → Option Value} {base : Heap} {C : RC} {k : Nat} {f : Addr} {fd : FuncData} {x : Str} {F : Sl → List D → FR} (hC : C.K = K) (h : FnV P w K mg base C k f fd [x] false F) : FnOk P w K mg base (L2.CX P w) k f fd [x] (lawSp K F) :=
  FnOk.imp h fun vs H Q E q => q.2 C hC
theorem lawSp_in {K : PySem.W.Frag} {F : Sl → List D → FR} {H : Hp} {a : Addr} {ns : List Int} (hO : L2.Only H) (hS : SqL K H a (ns.map V.int)) (hF : ∃ fin, F none [.scr ns] = .ok (.bl true, 0) fin) : lawSp K F [.ref a] H (fun v _ => v = .bl true) fun _ _ _ => False := by
  refine ⟨rfl, fun C hC => ⟨rfl, [.scr ns], fun _ => False, .cons (.scr ?_) .nil, fun _ z => z.elim, ?_⟩⟩
  · rw [← hC] at hS
    rcases hS with (hS | ⟨o, hS⟩) | hS
    · rcases hO a with e | ⟨o, xs, e⟩
      · rw [hS] at e; cases e
      · rw [hS] at e; cases e
    · exact .inl ⟨o, hS⟩
    · exact .inr (.inr hS)
  · obtain ⟨fin, e⟩ := hF
    rw [e]
    intro v H' Z' A o _ _ _
    have := o.1
    cases this
    rfl
theorem cx_no {P : Program} {w : World} {H : Hp} {s s' : Shared} {e : Value} (h : L2.CX P w [] H s (fun _ _ _ => False) e s') : False := by
  obtain ⟨_, _, _, _, _, _, _, _, _, _, _, _, h⟩ := h
  exact h
section
variable {Γ : Ct} {scope : Scope} {s : Shared} {H : Hp} {c : Addr} {cl : List (Str × Addr)} {fp : List Addr}
theorem blkG {tg : Expr} {ws : List Nat} {g : D → En → Option En} (G : Good Γ) (h : Good (blkCt Γ scope s H c cl fp) → EvG (blkCt Γ scope s H c cl fp) tg ws g) : EvG (blkCt Γ scope s H c cl fp) tg ws g := h G.blk
theorem blkT {ifs : List Expr} {f : En → R Bool} (G : Good Γ) (h : Good (blkCt Γ scope s H c cl fp) → EvPT (blkCt Γ scope s H c cl fp) ifs f) : EvPT (blkCt Γ scope s H c cl fp) ifs f := h G.blk
theorem blkE {e : Expr} {f : En → R (D × Nat)} (G : Good Γ) (h : Good (blkCt Γ scope s H c cl fp) → EvE (blkCt Γ scope s H c cl fp) e f) : EvE (blkCt Γ scope s H c cl fp) e f := h G.blk
end
end Pv
end

section
set_option Elab.async false
set_option linter.all false
set_option maxRecDepth 100000
set_option maxHeartbeats 4000000
/-! Pv15: reckoning with the combinators. -/
namespace Pv
open PySem PySem.Spec PyProof.Rows L2

theorem at_0 {α : Type} {x : α} {xs : List α} : atI (x :: xs) 0 = some x := by simp [atI, ixN]
theorem at_1 {α : Type} {x y : α} {xs : List α} : atI (x :: y :: xs) 1 = some y := by
  have h : (1 : Int) < (xs.length : Int) + 1 + 1 := by omega
  simp [atI, ixN, h]
theorem at_nat {α : Type} {xs : List α} {k : Nat} (h : k < xs.length) : atI xs (k : Int) = some xs[k] := by
  have h1 : (0 : Int) ≤ (k : Int) := by omega
  have h2 : (k : Int) < (xs.length : Int) := by omega
  simp [atI, ixN, h1, h2, h]
@[simp] theorem le_lim {n : Nat} (h : n ≤ 100000) : n ≤ lim := Nat.le_trans h (by decide)
@[simp] theorem lt_lim {n : Nat} (h : n < 100000) : n < lim := Nat.lt_of_lt_of_le h (by decide)
theorem seqS_nx {f g : En → SR} {env e : En} (h : f env = .nx e) : seqS f g env = g e := by
  unfold seqS; rw [h]
theorem seqS_ret {f g : En → SR} {env e : En} {p : D × Nat} (h : f env = .ret p e) : seqS f g env = .ret p e := by
  unfold seqS; rw [h]
theorem seqS_ex {f g : En → SR} {env : En} {x : Xn} (h : f env = .ex x) : seqS f g env = .ex x := by
  unfold seqS; rw [h]
theorem fnF_ret {n : Nat} {g : En → SR} {ds : List D} {p : D × Nat} {e : En} (h : g (en0 n none ds) = .ret p e) : fnF n false g none ds = .ok p none := by
  unfold fnF; rw [h]; rfl
theorem fnF_nx {n : Nat} {g : En → SR} {ds : List D} {e : En} (h : g (en0 n none ds) = .nx e) : fnF n false g none ds = .ok (.non, 0) none := by
  unfold fnF; rw [h]; rfl
theorem fnF_ex {n : Nat} {g : En → SR} {ds : List D} {x : Xn} (h : g (en0 n none ds) = .ex x) : fnF n false g none ds = .ex x := by
  unfold fnF; rw [h]
theorem iteS_t {c : En → R Bool} {f g : En → SR} {env e : En} (h : c env = .ok true e) : iteS c f g env = f e := by
  unfold iteS; rw [h]; rfl
theorem iteS_f {c : En → R Bool} {f g : En → SR} {env e : En} (h : c env = .ok false e) : iteS c f g env = g e := by
  unfold iteS; rw [h]; rfl
/-- a comprehension's turns: what each item gives -/
theorem compL_map {g : D → En → Option En} {tt : En → R Bool} {te : En → R (D × Nat)} {m : Nat} {vs : List Nat} (I : En → Prop) (f : D → D) : ∀ (ds : List D) (env : En) (acc : List D), I env → acc.length + ds.length ≤ lim →
    (∀ d ∈ ds, ∀ env, I env → ∃ e1 e2 e3, g d env = some e1 ∧ tt e1 = .ok true e2 ∧ te e2 = .ok (f d, m) e3 ∧ I (wipeE e3 vs)) → ∃ e, compL g tt te m vs ds env acc = .ok (acc ++ ds.map f) e ∧ I e
  | [], env, acc, hI, _, _ => ⟨env, by simp [compL], hI⟩
  | d :: ds, env, acc, hI, hl, h => by
    obtain ⟨e1, e2, e3, h1, h2, h3, h4⟩ := h d List.mem_cons_self env hI
    have hl' : acc.length < lim := by simp only [List.length_cons] at hl; omega
    obtain ⟨e, q1, q2⟩ := compL_map I f ds (wipeE e3 vs) (acc ++ [f d]) h4 (by simp only [List.length_append, List.length_cons, List.length_nil] at hl ⊢; omega) fun d' hd => h d' (List.mem_cons_of_mem _ hd)
    refine ⟨e, ?_, q2⟩
    unfold compL
    rw [h1]
    simp only [h2, h3, R.noX_ok, R.bind_ok, if_true, hl', and_self, q1, List.append_assoc, List.singleton_append, List.map_cons]
theorem comp_fix {fi : En → R (List D)} {g : D → En → Option En} {tt : En → R Bool} {te : En → R (D × Nat)} {m : Nat} {vs : List Nat} (f : D → D) {env env1 env0 env2 : En} {ds : List D} (hfi : fi env = .ok ds env1) (h0 : wipeE env1 vs = env0) (hb : backE env1 env0 vs = env2) (hl : ds.length ≤ lim)
    (h : ∀ d ∈ ds, ∃ e1 e2 e3, g d env0 = some e1 ∧ tt e1 = .ok true e2 ∧ te e2 = .ok (f d, m) e3 ∧ wipeE e3 vs = env0) : comp fi g tt te m vs env = .ok (.lst (ds.map f), m + 1) env2 := by
  obtain ⟨e, q1, q2⟩ := compL_map (g := g) (tt := tt) (te := te) (m := m) (vs := vs) (fun e => e = env0) f ds (wipeE env1 vs) [] h0 (by simpa using hl) (fun d hd e he => by subst he; exact h d hd)
  subst q2
  unfold comp
  rw [hfi]
  simp only [R.bind_ok, q1, List.nil_append, hb]
/-- with a test that each item answers -/
theorem compL_filter {g : D → En → Option En} {tt : En → R Bool} {te : En → R (D × Nat)} {m : Nat} {vs : List Nat} (env0 : En) (q : D → Bool) (f : D → D) : ∀ (ds : List D) (acc : List D), acc.length + ds.length ≤ lim →
    (∀ d ∈ ds, ∃ e1 e2, g d env0 = some e1 ∧ tt e1 = .ok (q d) e2 ∧ (q d = false → wipeE e2 vs = env0) ∧ (q d = true → ∃ e3, te e2 = .ok (f d, m) e3 ∧ wipeE e3 vs = env0)) → compL g tt te m vs ds env0 acc = .ok (acc ++ (ds.filter q).map f) env0
  | [], acc, _, _ => by simp [compL]
  | d :: ds, acc, hl, h => by
    obtain ⟨e1, e2, h1, h2, h3, h4⟩ := h d List.mem_cons_self
    have hl' : acc.length < lim := by simp only [List.length_cons] at hl; omega
    unfold compL
    rw [h1]
    simp only [h2, R.noX_ok, R.bind_ok]
    cases hq : q d with
    | false =>
      have ih := compL_filter env0 q f ds acc (by simp only [List.length_cons] at hl; omega) fun d' hd => h d' (List.mem_cons_of_mem _ hd)
      simp only [Bool.false_eq_true, if_false, h3 hq, ih, List.filter_cons, hq]
    | true =>
      obtain ⟨e3, h5, h6⟩ := h4 hq
      have ih := compL_filter env0 q f ds (acc ++ [f d]) (by simp only [List.length_append, List.length_cons, List.length_nil] at hl ⊢; omega) fun d' hd => h d' (List.mem_cons_of_mem _ hd)
      simp only [if_true, h5, R.noX_ok, R.bind_ok, hl', and_self, h6, ih, List.filter_cons, hq, List.map_cons, List.append_assoc, List.singleton_append]
theorem comp_filter {fi : En → R (List D)} {g : D → En → Option En} {tt : En → R Bool} {te : En → R (D × Nat)} {m : Nat} {vs : List Nat} (q : D → Bool) (f : D → D) {env env1 env0 env2 : En} {ds : List D} (hfi : fi env = .ok ds env1) (h0 : wipeE env1 vs = env0) (hb : backE env1 env0 vs = env2) (hl : ds.length ≤ lim)
    (h : ∀ d ∈ ds, ∃ e1 e2, g d env0 = some e1 ∧ tt e1 = .ok (q d) e2 ∧ (q d = false → wipeE e2 vs = env0) ∧ (q d = true → ∃ e3, te e2 = .ok (f d, m) e3 ∧ wipeE e3 vs = env0)) : comp fi g tt te m vs env = .ok (.lst ((ds.filter q).map f), m + 1) env2 := by
  have h1 := compL_filter (g := g) (tt := tt) (te := te) (m := m) (vs := vs) env0 q f ds [] (by simpa using hl) h
  subst h0
  unfold comp
  rw [hfi]
  simp only [R.bind_ok, h1, List.nil_append, hb]
/-- a loop that keeps what P tells -/
theorem loopS_inv {g : D → En → Option En} {body : En → SR} (P : En → Prop) : ∀ (ds : List D) (env : En), P env → (∀ d ∈ ds, ∀ env, P env → ∃ e1 e2, g d env = some e1 ∧ body e1 = .nx e2 ∧ P e2) → ∃ e, loopS g body ds env = .nx e ∧ P e
  | [], env, hP, _ => ⟨env, rfl, hP⟩
  | d :: ds, env, hP, h => by
    obtain ⟨e1, e2, h1, h2, h3⟩ := h d List.mem_cons_self env hP
    obtain ⟨e, q1, q2⟩ := loopS_inv P ds e2 h3 fun d' hd => h d' (List.mem_cons_of_mem _ hd)
    refine ⟨e, ?_, q2⟩
    unfold loopS
    rw [h1]
    simp only [h2]
    exact q1
theorem rgD_ok {l n : Nat} (hl : l ≤ 16000000) (hn : n ≤ 16000000) : rgD l n = some ((List.range (n - l)).map fun k : Nat => .int (l + k : Nat)) := by
  have h1 : (n : Int) < 4611686018427387904 := by omega
  have h2 : -4611686018427387904 ≤ (n : Int) := by omega
  have h3 : (l : Int) < 4611686018427387904 := by omega
  have h4 : -4611686018427387904 ≤ (l : Int) := by omega
  have e : ((n : Int) - (l : Int)).toNat = n - l := by omega
  unfold rgD
  have hb : rgB l n = true := by
    unfold rgB
    rw [Bool.and_eq_true]
    exact ⟨Nat.ble_eq_true_of_le (by omega), Nat.ble_eq_true_of_le (by omega)⟩
  rw [if_pos hb, e]
  simp
theorem rg2D_ok {l n : Nat} (hl : l ≤ 16000000) (hn : n ≤ 16000000) : rg2D [.int l, .int n] = some ((List.range (n - l)).map fun k : Nat => .int (l + k : Nat)) := by
  unfold rg2D
  exact rgD_ok hl hn
theorem rg1D_ok {n : Nat} (hn : n ≤ 16000000) : rg1D [.int n] = some ((List.range n).map fun k : Nat => .int k) := by
  have h := rgD_ok (l := 0) (Nat.zero_le _) hn
  simp only [Nat.zero_add, Nat.sub_zero] at h
  exact h
theorem rg1_ok {f : En → R (List D)} {env env1 : En} {n : Nat} (h : f env = .ok [.int n] env1) (hn : n ≤ 16000000) : rg1 f env = .ok ((List.range n).map fun k : Nat => .int k) env1 := by
  unfold rg1
  rw [h, R.bind_ok, rg1D_ok hn, R.of_some]
theorem rg2_ok {f : En → R (List D)} {env env1 : En} {l n : Nat} (h : f env = .ok [.int l, .int n] env1) (hl : l ≤ 16000000) (hn : n ≤ 16000000) : rg2 f env = .ok ((List.range (n - l)).map fun k : Nat => .int (l + k : Nat)) env1 := by
  unfold rg2
  rw [h, R.bind_ok, rg2D_ok hl hn, R.of_some]
/-- a for loop's turns -/
theorem loopS_map {α β : Type} {g : D → En → Option En} {body : En → SR} (f : β → D) (T : α → β → α) (J : α → En) (P : α → Prop) : ∀ (bs : List β) (a : α), P a →
    (∀ b ∈ bs, ∀ a, P a → ∃ e1, g (f b) (J a) = some e1 ∧ body e1 = .nx (J (T a b)) ∧ P (T a b)) → loopS g body (bs.map f) (J a) = .nx (J (bs.foldl T a)) ∧ P (bs.foldl T a)
  | [], a, hP, _ => ⟨rfl, hP⟩
  | b :: bs, a, hP, h => by
    obtain ⟨e1, h1, h2, h3⟩ := h b List.mem_cons_self a hP
    have ih := loopS_map (g := g) (body := body) f T J P bs (T a b) h3 fun b' hb => h b' (List.mem_cons_of_mem _ hb)
    rw [List.map_cons, List.foldl_cons]
    refine ⟨?_, ih.2⟩
    unfold loopS
    rw [h1]
    simp only [h2]
    exact ih.1
/-- a for loop, turn by turn -/
theorem loopS_idx {β : Type} {g : D → En → Option En} {body : En → SR} (f : β → D) : ∀ (bs : List β) (J : Nat → En),
    (∀ i (h : i < bs.length), ∃ e1, g (f bs[i]) (J i) = some e1 ∧ body e1 = .nx (J (i + 1))) → loopS g body (bs.map f) (J 0) = .nx (J bs.length)
  | [], J, _ => rfl
  | b :: bs, J, h => by
    obtain ⟨e1, h1, h2⟩ := h 0 (by simp)
    have ih := loopS_idx (g := g) (body := body) f bs (fun i => J (i + 1)) fun i hi => by
      obtain ⟨e2, q1, q2⟩ := h (i + 1) (by simpa using hi)
      exact ⟨e2, by simpa using q1, q2⟩
    rw [List.map_cons]
    unfold loopS
    rw [show g (f b) (J 0) = some e1 from h1]
    simp only [h2]
    exact ih
theorem loopS_ex {β : Type} {g : D → En → Option En} {body : En → SR} (f : β → D) : ∀ (bs : List β) (P : Nat → En → Prop) (env : En), P 0 env →
    (∀ i (h : i < bs.length) env, P i env → ∃ e1 e2, g (f bs[i]) env = some e1 ∧ body e1 = .nx e2 ∧ P (i + 1) e2) → ∃ e, loopS g body (bs.map f) env = .nx e ∧ P bs.length e
  | [], P, env, h0, _ => ⟨env, rfl, h0⟩
  | b :: bs, P, env, h0, h => by
    obtain ⟨e1, e2, h1, h2, h3⟩ := h 0 (by simp) env h0
    obtain ⟨e, q1, q2⟩ := loopS_ex (g := g) (body := body) f bs (fun i => P (i + 1)) e2 h3 fun i hi env hP => by
      obtain ⟨a, b, r1, r2, r3⟩ := h (i + 1) (by simpa using hi) env hP
      exact ⟨a, b, by simpa using r1, r2, r3⟩
    refine ⟨e, ?_, q2⟩
    rw [List.map_cons]
    unfold loopS
    rw [show g (f b) env = some e1 from h1]
    simp only [h2]
    exact q1
theorem loopS_range {g : D → En → Option En} {body : En → SR} (f : Nat → D) (n : Nat) (J : Nat → En)
    (h : ∀ i, i < n → ∃ e1, g (f i) (J i) = some e1 ∧ body e1 = .nx (J (i + 1))) : loopS g body ((List.range n).map f) (J 0) = .nx (J n) := by
  have := loopS_idx (g := g) (body := body) f (List.range n) J fun i hi => by
    simp only [List.length_range] at hi
    simpa using h i hi
  simpa using this
theorem forS_ok {fi : En → R (List D)} {g : D → En → Option En} {body : En → SR} {env env1 : En} {ds : List D} (h : fi env = .ok ds env1) : forS fi g body env = loopS g body ds env1 := by
  unfold forS
  rw [h]
  rfl
@[simp] theorem eqB_int (i j : Int) : eqB (.int i) (.int j) = some (decide (i = j)) := by
  simp [eqB, D.py, SeqAt.shaped, PyData.eqv, PyData.canLay0, PyData.depth]
  first | rfl | (cases i <;> cases j <;> rfl)
@[simp] theorem eqB_bl (i j : Bool) : eqB (.bl i) (.bl j) = some (decide (i = j)) := by
  simp [eqB, D.py, SeqAt.shaped, PyData.eqv, PyData.canLay0, PyData.depth]
  first | rfl | (cases i <;> cases j <;> rfl)
theorem eqB_str {i j : Str} (h : PyData.strOk i = true) (h' : PyData.strOk j = true) : eqB (.str i) (.str j) = some (decide (i = j)) := by
  simp [eqB, D.py, SeqAt.shaped, PyData.eqv, PyData.canLay0, PyData.depth, h, h']
  by_cases e : i = j
  · simp [e]
  · simp [e]
@[simp] theorem eqD_int (i j : Int) : eqD (.int i) (.int j) = some (.bl (decide (i = j)), 0) := by simp [eqD]
@[simp] theorem eqD_bl (i j : Bool) : eqD (.bl i) (.bl j) = some (.bl (decide (i = j)), 0) := by simp [eqD]
theorem eqD_str {i j : Str} (h : PyData.strOk i = true) (h' : PyData.strOk j = true) : eqD (.str i) (.str j) = some (.bl (decide (i = j)), 0) := by simp [eqD, eqB_str h h']
@[simp] theorem neD_int (i j : Int) : neD (.int i) (.int j) = some (.bl (!decide (i = j)), 0) := by simp [neD]
theorem neD_str {i j : Str} (h : PyData.strOk i = true) (h' : PyData.strOk j = true) : neD (.str i) (.str j) = some (.bl (!decide (i = j)), 0) := by simp [neD, eqB_str h h']
/-- sorting goes through a map -/
theorem mrg_map {α β : Type} {le : α → α → Bool} {le' : β → β → Bool} {f : β → α} (h : ∀ a b, le (f a) (f b) = le' a b) : ∀ (k : Nat) (xs ys : List β), mrg le k (xs.map f) (ys.map f) = (mrg le' k xs ys).map f
  | 0, xs, ys => by simp [mrg]
  | k + 1, [], ys => by simp [mrg]
  | k + 1, x :: xs, [] => by simp [mrg]
  | k + 1, x :: xs, y :: ys => by
    show (if le (f x) (f y) then f x :: mrg le k (xs.map f) ((y :: ys).map f) else f y :: mrg le k ((x :: xs).map f) (ys.map f)) = (if le' x y then x :: mrg le' k xs (y :: ys) else y :: mrg le' k (x :: xs) ys).map f
    rw [h, mrg_map h k xs (y :: ys), mrg_map h k (x :: xs) ys]
    split <;> rfl
theorem msr_map {α β : Type} {le : α → α → Bool} {le' : β → β → Bool} {f : β → α} (h : ∀ a b, le (f a) (f b) = le' a b) : ∀ (k : Nat) (xs : List β), msr le k (xs.map f) = (msr le' k xs).map f
  | 0, xs => by simp [msr]
  | k + 1, [] => by simp [msr]
  | k + 1, [a] => by simp [msr]
  | k + 1, a :: b :: r => by
    show mrg le (((a :: b :: r).map f).length) (msr le k (((a :: b :: r).map f).take ((((a :: b :: r).map f).length + 1) / 2))) (msr le k (((a :: b :: r).map f).drop ((((a :: b :: r).map f).length + 1) / 2))) = (mrg le' ((a :: b :: r).length) (msr le' k ((a :: b :: r).take (((a :: b :: r).length + 1) / 2))) (msr le' k ((a :: b :: r).drop (((a :: b :: r).length + 1) / 2)))).map f
    rw [List.length_map, ← List.map_take, ← List.map_drop, msr_map h k, msr_map h k, mrg_map h]
theorem msr_perm {α : Type} (le : α → α → Bool) (xs : List α) : (msr le xs.length xs).Perm xs := by
  rw [msr_eq le _ _ (Nat.le_succ _)]
  exact List.mergeSort_perm _ _
end Pv
end

section
set_option Elab.async false
set_option linter.all false
set_option maxRecDepth 100000
set_option maxHeartbeats 4000000
/-! Pv16: how each law draws its numbers. -/
namespace Pv
open PySem PySem.Spec PyProof.Rows L2

def stB : En → SR := (seqS
  (setS 1 ((op2 addD (oOfV ((vOfE (op2 mulD (nmO 1) (oOfV (kI 1000003)))))) (oOfV ((vOfE (op1 absD (nmO 3)))))))) (setS 2 ((op2 modD (oOfV ((vOfE (op1 intD (oOfV ((vOfE (op2 addD (oOfV ((vOfE (op2 mulD (nmO 2) (oOfV (kI 48271)))))) (nmO 3))))))))) (oOfV (kI 2147483647))))))
def lawState : Sl → List D → FR := fnF 4 false (seqS (setS 1 ((eOfV (kI 0)))) (seqS (setS 2 ((eOfV (kI 1)))) (seqS (forS (seqI' ((vOfE (opS (nmO 0) pNone (pSome (kI 63)))))) (nameG 3) stB) (retS ((lstE (aCons ((nmV 1)) (aCons ((nmV 2)) aNil))))))))
def lawTake : Sl → List D → FR := fnF 3 true (seqS
  (iteS (tst (op2 (cmpD fun i j => decide (j < i)) (oOfV ((vOfE (op2 idxD (nmO 0) (oOfV (kI 0)))))) (oOfV (kI 0)))) (seqS
  (setS 2 ((op2 modD (oOfV ((vOfE (op1 intD (oOfV ((vOfE (op2 idxD (nmO 0) (oOfV (kI 0)))))))))) (nmO 1)))) (seqS
  (sItS 0 ((vOfE (op2 fdivD (oOfV ((vOfE (op2 idxD (nmO 0) (oOfV (kI 0)))))) (nmO 1)))) (kI 0)) (retM 2))) passS) (seqS
  (sItS 0 ((vOfE (op2 modD (oOfV ((vOfE (op1 intD (oOfV ((vOfE (op2 addD (oOfV ((vOfE (op2 mulD (oOfV ((vOfE (op2 idxD (nmO 0) (oOfV (kI 1)))))) (oOfV (kI 48271)))))) (oOfV (kI 11)))))))))) (oOfV (kI 2147483647))))) (kI 1)) (retS ((op2 modD (oOfV ((vOfE (op1 intD (oOfV ((vOfE (op2 fdivD (oOfV ((vOfE (op2 idxD (nmO 0) (oOfV (kI 1)))))) (oOfV (kI 7)))))))))) (nmO 1))))))
theorem sml1 : sml 1000003 = true := by decide
theorem sml2 : sml 48271 = true := by decide
theorem mul1 (a : Int) : mulD (.int a) (.int 1000003) = some (.int (a * 1000003), 0) := by simp [mulD, mulOk, sml1]
theorem mul2 (a : Int) : mulD (.int a) (.int 48271) = some (.int (a * 48271), 0) := by simp [mulD, mulOk, sml2]
theorem state_step (s z : Sl) (a b c : Int) : stB [s, some (.int a, 0), some (.int b, 0), some (.int c, 0)] = .nx [s, some (.int (a * 1000003 + if c < 0 then -c else c), 0), some (.int ((b * 48271 + c).fmod 2147483647), 0), some (.int c, 0)] := by
  unfold stB
  refine (seqS_nx (show setS 1 _ _ = .nx [s, some (.int (a * 1000003 + if c < 0 then -c else c), 0), some (.int b, 0), some (.int c, 0)] by simp [-List.map_map, fnF, en0, seqS, passS, noS, exprS, retS, retN, retM, putE, setS, iteS, vOfE, eOfV, oOfV, kI, kB, kS, kN, nmV, nmO, op1, op2, opC, tst, tru, truD, notT, andT, orT, blV, vbl, andV, orV, notV, iteE, aNil, aCons, lNil, lCons, tupE, lstE, dicE, Opd.get, callF, frR, callI, callL, own1, addD, subD, negD, cmpD, lenD, intD, tupD, lisD, absD, isiD, tyD, min2D, max2D, Pv.R.of, raiseS, asgS, nameG, nilG, consG, tupG, isD, nisD, isNB, opS, pNone, pSome, seqI', itsD, sItS, putD, wipeE, backE, mul1])).trans ?_
  simp [-List.map_map, fnF, en0, seqS, passS, noS, exprS, retS, retN, retM, putE, setS, iteS, vOfE, eOfV, oOfV, kI, kB, kS, kN, nmV, nmO, op1, op2, opC, tst, tru, truD, notT, andT, orT, blV, vbl, andV, orV, notV, iteE, aNil, aCons, lNil, lCons, tupE, lstE, dicE, Opd.get, callF, frR, callI, callL, own1, addD, subD, negD, cmpD, lenD, intD, tupD, lisD, absD, isiD, tyD, min2D, max2D, Pv.R.of, raiseS, asgS, nameG, nilG, consG, tupG, isD, nisD, isNB, opS, pNone, pSome, seqI', itsD, sItS, putD, wipeE, backE, mul2, modD]
theorem lawState_ok (ns : List Int) : ∃ a b : Int, lawState none [.scr ns] = .ok (.lst [.int a, .int b], 1) none := by
  have hl := loopS_map (g := nameG 3) (body := stB) D.int (fun (q : (Int × Int) × Sl) (c : Int) => ((q.1.1 * 1000003 + (if c < 0 then -c else c), (q.1.2 * 48271 + c).fmod 2147483647), some (.int c, 0)))
    (fun q => [some (.scr ns, 0), some (.int q.1.1, 0), some (.int q.1.2, 0), q.2]) (fun _ => True) (cutD ns none (some 63)) ((0, 1), none) trivial (fun c _ q _ => ⟨[some (.scr ns, 0), some (.int q.1.1, 0), some (.int q.1.2, 0), some (.int c, 0)], by simp [-List.map_map, fnF, en0, seqS, passS, noS, exprS, retS, retN, retM, putE, setS, iteS, vOfE, eOfV, oOfV, kI, kB, kS, kN, nmV, nmO, op1, op2, opC, tst, tru, truD, notT, andT, orT, blV, vbl, andV, orV, notV, iteE, aNil, aCons, lNil, lCons, tupE, lstE, dicE, Opd.get, callF, frR, callI, callL, own1, addD, subD, negD, cmpD, lenD, intD, tupD, lisD, absD, isiD, tyD, min2D, max2D, Pv.R.of, raiseS, asgS, nameG, nilG, consG, tupG, isD, nisD, isNB, opS, pNone, pSome, seqI', itsD, sItS, putD, wipeE, backE], state_step _ none _ _ _, trivial⟩)
  have hf : forS (seqI' ((vOfE (opS (nmO 0) pNone (pSome (kI 63)))))) (nameG 3) stB [some (.scr ns, 0), some (.int 0, 0), some (.int 1, 0), none] = loopS (nameG 3) stB ((cutD ns none (some 63)).map D.int) [some (.scr ns, 0), some (.int 0, 0), some (.int 1, 0), none] := forS_ok (by simp [-List.map_map, fnF, en0, seqS, passS, noS, exprS, retS, retN, retM, putE, setS, iteS, vOfE, eOfV, oOfV, kI, kB, kS, kN, nmV, nmO, op1, op2, opC, tst, tru, truD, notT, andT, orT, blV, vbl, andV, orV, notV, iteE, aNil, aCons, lNil, lCons, tupE, lstE, dicE, Opd.get, callF, frR, callI, callL, own1, addD, subD, negD, cmpD, lenD, intD, tupD, lisD, absD, isiD, tyD, min2D, max2D, Pv.R.of, raiseS, asgS, nameG, nilG, consG, tupG, isD, nisD, isNB, opS, pNone, pSome, seqI', itsD, sItS, putD, wipeE, backE, slD])
  have h2 := hf.trans hl.1
  generalize hq : List.foldl (fun (q : (Int × Int) × Sl) (c : Int) => ((q.1.1 * 1000003 + (if c < 0 then -c else c), (q.1.2 * 48271 + c).fmod 2147483647), some (D.int c, 0))) ((0, 1), none) (cutD ns none (some 63)) = q at h2
  refine ⟨q.1.1, q.1.2, fnF_ret (e := [some (.scr ns, 0), some (.int q.1.1, 0), some (.int q.1.2, 0), q.2]) ((seqS_nx (show setS 1 _ (en0 4 none [.scr ns]) = .nx [some (.scr ns, 0), some (.int 0, 0), none, none] by simp [-List.map_map, fnF, en0, seqS, passS, noS, exprS, retS, retN, retM, putE, setS, iteS, vOfE, eOfV, oOfV, kI, kB, kS, kN, nmV, nmO, op1, op2, opC, tst, tru, truD, notT, andT, orT, blV, vbl, andV, orV, notV, iteE, aNil, aCons, lNil, lCons, tupE, lstE, dicE, Opd.get, callF, frR, callI, callL, own1, addD, subD, negD, cmpD, lenD, intD, tupD, lisD, absD, isiD, tyD, min2D, max2D, Pv.R.of, raiseS, asgS, nameG, nilG, consG, tupG, isD, nisD, isNB, opS, pNone, pSome, seqI', itsD, sItS, putD, wipeE, backE])).trans ((seqS_nx (show setS 2 _ _ = .nx [some (.scr ns, 0), some (.int 0, 0), some (.int 1, 0), none] by simp [-List.map_map, fnF, en0, seqS, passS, noS, exprS, retS, retN, retM, putE, setS, iteS, vOfE, eOfV, oOfV, kI, kB, kS, kN, nmV, nmO, op1, op2, opC, tst, tru, truD, notT, andT, orT, blV, vbl, andV, orV, notV, iteE, aNil, aCons, lNil, lCons, tupE, lstE, dicE, Opd.get, callF, frR, callI, callL, own1, addD, subD, negD, cmpD, lenD, intD, tupD, lisD, absD, isiD, tyD, min2D, max2D, Pv.R.of, raiseS, asgS, nameG, nilG, consG, tupG, isD, nisD, isNB, opS, pNone, pSome, seqI', itsD, sItS, putD, wipeE, backE])).trans ((seqS_nx h2).trans (by simp [-List.map_map, fnF, en0, seqS, passS, noS, exprS, retS, retN, retM, putE, setS, iteS, vOfE, eOfV, oOfV, kI, kB, kS, kN, nmV, nmO, op1, op2, opC, tst, tru, truD, notT, andT, orT, blV, vbl, andV, orV, notV, iteE, aNil, aCons, lNil, lCons, tupE, lstE, dicE, Opd.get, callF, frR, callI, callL, own1, addD, subD, negD, cmpD, lenD, intD, tupD, lisD, absD, isiD, tyD, min2D, max2D, Pv.R.of, raiseS, asgS, nameG, nilG, consG, tupG, isD, nisD, isNB, opS, pNone, pSome, seqI', itsD, sItS, putD, wipeE, backE]))))⟩
theorem log7 : Nat.log2 7 < 9000 := by decide
theorem lawTake_ok (a b : Int) (m : Int) (hm : 0 < m) (hl : m.natAbs.log2 < 9000) : ∃ v a' b' : Int, lawTake (some (.lst [.int a, .int b], 1)) [.int m] = .ok (.int v, 0) (some (.lst [.int a', .int b'], 1)) ∧ 0 ≤ v ∧ v < m := by
  have hm0 : m ≠ 0 := by omega
  by_cases h : 0 < a
  · refine ⟨a.fmod m, a.fdiv m, b, ?_, Int.fmod_nonneg_of_pos _ hm, Int.fmod_lt_of_pos _ hm⟩
    unfold lawTake
    simp [-List.map_map, fnF, en0, seqS, passS, noS, exprS, retS, retN, retM, putE, setS, iteS, vOfE, eOfV, oOfV, kI, kB, kS, kN, nmV, nmO, op1, op2, opC, tst, tru, truD, notT, andT, orT, blV, vbl, andV, orV, notV, iteE, aNil, aCons, lNil, lCons, tupE, lstE, dicE, Opd.get, callF, frR, callI, callL, own1, addD, subD, negD, cmpD, lenD, intD, tupD, lisD, absD, isiD, tyD, min2D, max2D, Pv.R.of, raiseS, asgS, nameG, nilG, consG, tupG, isD, nisD, isNB, opS, pNone, pSome, seqI', itsD, sItS, putD, wipeE, backE, at_0, at_1, idxD, h, modD, fdivD, hm0, hl, ixN]
  · refine ⟨(((b * 48271 + 11).fmod 2147483647).fdiv 7).fmod m, a, (b * 48271 + 11).fmod 2147483647, ?_, Int.fmod_nonneg_of_pos _ hm, Int.fmod_lt_of_pos _ hm⟩
    unfold lawTake
    simp [-List.map_map, fnF, en0, seqS, passS, noS, exprS, retS, retN, retM, putE, setS, iteS, vOfE, eOfV, oOfV, kI, kB, kS, kN, nmV, nmO, op1, op2, opC, tst, tru, truD, notT, andT, orT, blV, vbl, andV, orV, notV, iteE, aNil, aCons, lNil, lCons, tupE, lstE, dicE, Opd.get, callF, frR, callI, callL, own1, addD, subD, negD, cmpD, lenD, intD, tupD, lisD, absD, isiD, tyD, min2D, max2D, Pv.R.of, raiseS, asgS, nameG, nilG, consG, tupG, isD, nisD, isNB, opS, pNone, pSome, seqI', itsD, sItS, putD, wipeE, backE, at_0, at_1, idxD, h, modD, fdivD, hm0, hl, mul2, ixN, log7]
end Pv
end

section
set_option Elab.async false
set_option linter.all false
set_option maxRecDepth 100000
set_option maxHeartbeats 4000000
/-! Pv17: lists of lists: x[i][j] read and written. -/
namespace Pv
open PySem PySem.Spec PyProof.Rows L2
section
variable {Γ : Ct} {x : Str} {p pos apos cpos sp : Pos} {e a b : Expr} {es : List Expr}
def kOp (g : Int → Int → Int) (fa fb : En → Option D) : En → Option D := fun env => match fa env, fb env with
  | some (.int i), some (.int j) => some (.int (g i j))
  | _, _ => none
theorem ek_op {op : Operator} {g : Int → Int → Int} {fa fb : En → Option D} (ho : OpR Γ.X (binaryOp op) (rI0 fun i j => .int (g i j))) (ha : EvK Γ a fa) (hb : EvK Γ b fb) : EvK Γ (.BinOp a op b pos) (kOp g fa fb) := by
  obtain ⟨ta, a1, a2⟩ := ha
  obtain ⟨tb, b1, b2⟩ := hb
  refine ⟨_, pe_op ho a1 b1, fun σ H Z env φ S d hd Q q => ?_⟩
  unfold kOp at hd
  split at hd
  · rename_i i j e1 e2
    cases hd
    refine a2 σ H Z env φ S _ e1 _ fun v hv => ?_
    cases hv
    refine b2 σ H Z env φ S _ e2 _ fun w hw => ?_
    cases hw
    exact ⟨i, j, rfl, rfl, q _ (.int _)⟩
  · cases hd
theorem ek_add {fa fb : En → Option D} (ha : EvK Γ a fa) (hb : EvK Γ b fb) : EvK Γ (.BinOp a .Add b pos) (kOp (· + ·) fa fb) := ek_op op_add ha hb
theorem ek_sub {fa fb : En → Option D} (ha : EvK Γ a fa) (hb : EvK Γ b fb) : EvK Γ (.BinOp a .Sub b pos) (kOp (· - ·) fa fb) := ek_op op_sub ha hb
/-- x[i][j] of a list of lists: nothing is shared by the reading -/
def get2 (dss : List D) (i j : Int) : Option D := (ixN dss.length i).bind fun m => match dss[m]? with
  | some (.lst ds) => atI ds j
  | _ => none
def ix2 (i : Nat) (fi fj : En → Option D) : En → R D := fun env => match env[i]?, fi env, fj env with
  | some (some (.lst dss, 2)), some (.int a), some (.int b) => R.of (get2 dss a b) env
  | _, _, _ => .no
theorem ev_ix2 {i : Nat} {fi fj : En → Option D} {ie je : Expr} {sp2 : Pos} (hN : Γ.X.N[i]? = some x) (hv : Vis Γ.X.env.scope x) (hi : EvK Γ ie fi) (hj : EvK Γ je fj) (hd : (x == ("__debug__" : Str)) = false := by decide) (hcd : (x == ("__classdict__" : Str)) = false := by decide) (hpi : PlainIx ie := by exact fun _ _ => rfl) (hpj : PlainIx je := by exact fun _ _ => rfl) :
    EvV Γ (.Subscript (.Subscript (.Name x p) ie sp) je sp2) (ix2 i fi fj) := by
  obtain ⟨ti, i1, i2⟩ := hi
  obtain ⟨tj, j1, j2⟩ := hj
  refine ⟨_, pe_ix ix_list (pe_ix ix_list (pe_var hN hv hd hcd) i1 hpi) j1 hpj, fun σ H Z env φ S Q P => ?_⟩
  unfold ix2 at P
  split at P
  · rename_i dss a b hd1 hi1 hj1
    cases eg : get2 dss a b with
    | none => rw [eg] at P; exact P.elim
    | some d =>
      rw [eg] at P
      unfold get2 at eg
      obtain ⟨m, hm, eg⟩ := Option.bind_eq_some_iff.mp eg
      split at eg
      · rename_i ds hds
        obtain ⟨v, hv1, o⟩ := S.slot i _ _ hd1
        rcases o with ⟨mm, _⟩ | ⟨A, xs, ds', B, rfl, e0, hA, hl, hc, hdj, hna, hoff, hφ⟩ | ⟨_, _, _, _, _, e, _⟩
        · cases mm
        · cases e0
          have hmx : m < xs.length := by rw [hl]; exact (List.getElem?_eq_some_iff.mp hds).1
          have hcm := hc m xs[m] (.lst ds) (List.getElem?_eq_getElem hmx) hds
          obtain ⟨q, us, eq, hq, r, hB⟩ := hcm.lst_inv
          refine ⟨.ref A, hv1, i2 σ H Z env φ S _ hi1 _ fun w hw => ?_⟩
          cases hw with
          | int _ =>
            refine ⟨A, xs, a, xs[m], rfl, rfl, SqL.of hA, ?_, ?_⟩
            · unfold atI
              rw [hl, hm]
              exact List.getElem?_eq_getElem hmx
            rw [eq]
            refine j2 σ H Z env φ S _ hj1 _ fun w hw => ?_
            cases hw with
            | int _ =>
              obtain ⟨y, hy1, hy2⟩ := atI_sh r eg
              exact ⟨q, us, b, y, rfl, rfl, SqL.of hq, hy1, Post.here P S hy2⟩
        · cases e
      · cases eg
  · exact P.elim
/-- x[i][j] = e -/
def sIt2 (i : Nat) (fe : En → R D) (fi fj : En → Option D) : En → SR := fun env => (fe env).then fun d env1 => match env1[i]?, fi env1, fj env1 with
  | some (some (.lst dss, 2)), some (.int a), some (.int b) => (match ixN dss.length a with
    | some m => (match dss[m]? with
      | some (.lst ds) => (match ixN ds.length b with
        | some l => .nx (env1.set i (some (.lst (dss.set m (.lst (ds.set l d))), 2)))
        | none => .no)
      | _ => .no)
    | none => .no)
  | _, _, _ => .no
theorem es_sub2 {i : Nat} {fe : En → R D} {fi fj : En → Option D} {ie je : Expr} (hN : Γ.X.N[i]? = some x) (hv : Vis Γ.X.env.scope x) (he : EvV Γ e fe) (hi : EvK Γ ie fi) (hj : EvK Γ je fj) (hd : (x == ("__debug__" : Str)) = false := by decide) (hcd : (x == ("__classdict__" : Str)) = false := by decide) (hpi : PlainIx ie := by exact fun _ _ => rfl)
    (ha : ∀ v, assign (.Subscript (.Subscript (.Name x p) ie sp) je apos) Γ.X.env v = (do
      let ov ← holding [v] (eval (.Subscript (.Name x p) ie sp) Γ.X.env)
      let iv ← holding [v, ov] (eval je Γ.X.env)
      standAt apos
      holding [v, ov, iv] (setItem ov iv v)
      release [v, ov, iv] []) := by intro _; rfl)
    (hs : swapsWithSole [.Subscript (.Subscript (.Name x p) ie sp) je apos] e pos.line Γ.X.env = pure false := by rfl) (hw : swappedStores [.Subscript (.Subscript (.Name x p) ie sp) je apos] e Γ.X.env = pure none := by rfl)
    (h1 : (assignEach [.Subscript (.Subscript (.Name x p) ie sp) je apos] Γ.X.env).map (·.2) = [assign (.Subscript (.Subscript (.Name x p) ie sp) je apos) Γ.X.env] := by rfl) :
    EvS Γ (.Assign [.Subscript (.Subscript (.Name x p) ie sp) je apos] e pos) (sIt2 i fe fi fj) := by
  obtain ⟨t, a1, a2⟩ := he
  obtain ⟨ti, i1, i2⟩ := hi
  obtain ⟨tj, j1, j2⟩ := hj
  refine ⟨_, ps_asg a1 (pg_sub (pe_ix ix_list (pe_var hN hv hd hcd) i1 hpi) j1 set_list ha) hs hw h1, fun σ H Z env φ S Dn P => ?_⟩
  refine a2.then S P fun d env1 vv H1 Z1 φ1 A0 e1 S1 q1 dj1 ev1 P1 => ?_
  have P := P1.mono Evo.dropA
  have hy : Sh Γ.C Z1 H1 vv d := q1
  split at P
  · rename_i dss a b hd1 hi1 hj1
    split at P
    · rename_i m hm
      split at P
      · rename_i ds hds
        split at P
        · rename_i l hl0
          obtain ⟨v, hv1, o⟩ := S1.slot i _ _ hd1
          rcases o with ⟨mm, _⟩ | ⟨A, xs, ds', B, rfl, e0, hA, hl, hc, hdj, hna, hoff, hφ⟩ | ⟨_, _, _, _, _, e, _⟩
          · cases mm
          · cases e0
            have hmx : m < xs.length := by rw [hl]; exact (List.getElem?_eq_some_iff.mp hds).1
            have hcm := hc m xs[m] (.lst ds) (List.getElem?_eq_getElem hmx) hds
            obtain ⟨q, us, eq, hq, r, hB⟩ := hcm.lst_inv
            refine ⟨.ref A, hv1, i2 σ H1 Z1 env1 φ1 S1 _ hi1 _ fun w hw => ?_⟩
            cases hw with
            | int _ =>
              refine ⟨A, xs, a, xs[m], rfl, rfl, SqL.of hA, ?_, ?_⟩
              · unfold atI
                rw [hl, hm]
                exact List.getElem?_eq_getElem hmx
              rw [eq]
              refine j2 σ H1 Z1 env1 φ1 S1 _ hj1 _ fun w hw => ?_
              cases hw with
              | int _ =>
                refine ⟨q, us, b, l, rfl, rfl, hq, by rw [r.length]; exact hl0, ?_⟩
                have Bq : B m q := (hB q).mpr rfl
                have φq : φ1 i q := (hφ q).mpr (.inr ⟨m, Bq⟩)
                have nq : q ≠ A := fun z => hna m (by rw [← z]; exact Bq)
                have x : Ext Z1 H1 Z1 (upd H1 q (.lst (us.set l vv))) := Ext.upd hq (S1.nz i q φq) trivial
                have ow : Ow Γ.C Z1 (upd H1 q (.lst (us.set l vv))) 2 (.ref A) (.lst (dss.set m (.lst (ds.set l d)))) (φ1 i) := by
                  refine .inr (.inl ⟨A, xs, _, B, rfl, rfl, by rw [upd_ne (Ne.symm nq)]; exact hA, by rw [List.length_set]; exact hl, fun n u f h1 h2 => ?_, hdj, hna, hoff, hφ⟩)
                  by_cases hlm : n = m
                  · subst hlm
                    rw [List.getElem?_set_self (by rw [← hl]; exact hmx)] at h2
                    cases h2
                    rw [List.getElem?_eq_getElem hmx] at h1
                    cases h1
                    rw [eq]
                    exact (Ow.lst1 upd_same ((ShL.set hy l r).ext x)).congr fun c => (hB c).symm
                  · rw [List.getElem?_set_ne (Ne.symm hlm)] at h2
                    exact (hc n u f h1 h2).ext x fun c w z h => by
                      rw [upd_ne fun z2 : c = q => hlm (hdj n m c z (by rw [z2]; exact Bq))]; exact h
                have Sd := S1.drop i
                have S2 := Sd.go x (fun c w ⟨n, hl2, z⟩ h => by
                  rw [upd_ne fun z2 : c = q => hl2 (S1.dj n i c z (by rw [z2]; exact φq))]; exact h) (fun c ⟨n, _, z⟩ => S1.nz n c z) fun c z => by
                    by_cases z2 : c = q
                    · rw [z2, upd_same]; exact Option.some_ne_none _
                    · rw [upd_ne z2]; exact S1.zh c z
                have S3 := S2.reput (i := i) (by simpa using (List.getElem?_eq_some_iff.mp hd1).1) hv1 ow (fun n c hl2 z y => hl2 (S1.dj n i c z.2 y)) (fun c z => S1.nz i c z)
                rw [List.set_set] at S3
                refine P σ _ Z1 _ S3 ⟨fun c w h n => by rw [upd_ne fun z : c = q => n ⟨i, by rw [z]; exact φq⟩]; exact h, fun _ z => z, fun _ z => .inl z, fun c ⟨n, z⟩ => .inl ?_⟩
                by_cases z2 : n = i
                · simp only [if_pos z2] at z; exact ⟨i, z⟩
                · simp only [if_neg z2] at z; exact ⟨n, z.2⟩
          · cases e
        · exact P.elim
      · exact P.elim
    · exact P.elim
  · exact P.elim
end
end Pv
end

section
set_option Elab.async false
set_option linter.all false
set_option maxRecDepth 100000
set_option maxHeartbeats 4000000
/-! Pv18: tuple * int without a bound on the count; x[::-1]; str of ints; module tuples. -/
namespace Pv
open PySem PySem.Spec PyProof.Rows L2

theorem tuple_mul1 (l : Addr) (items : Array Value) (n : Nat) (dd : Option Addr) (sl : Array (Option Value)) (x : Int) (u : Tok) (c0 : (decide (x < -(2 ^ 63)) || decide (x ≥ 2 ^ 63)) = false) (c1 : (items.isEmpty || x == 1) = true) :
    Meets (Builtin.«tuple.__mul__» ⟨[.ref l, .int x u], []⟩) (fun _ R s => s.heap.get? l = some { cls := .type "tuple", dict := dd, data := .seq items n, slots := sl } ∧
      R (.ok (.ret (Value.ref l))) s) :=
  .of_wp fun prog w A R s h => by
    obtain ⟨hp, g, d, tk, os⟩ := s
    obtain ⟨hl, h⟩ := h
    have f1 := AutoSeq1.idx_int
    have hT : Shared.TypeIs (⟨hp, g, d, tk, os⟩ : Shared) (.ref l) "tuple" := ⟨_, hl, rfl⟩
    wp_walk using wpAny_loadPart' hl, wpAny_typeOf hT
    repeat (first
      | (refine wpAny_ite_false (decide_eq_false (by rw [c0]; exact Bool.false_ne_true)) ?_; wp_walk using wpAny_loadPart' hl, wpAny_typeOf hT)
      | (refine wpAny_ite_true (decide_eq_true c1) ?_; wp_walk using wpAny_loadPart' hl, wpAny_typeOf hT))
    exact ⟨_, rfl, h⟩
theorem tuple_mul0 (l : Addr) (items : Array Value) (n : Nat) (dd : Option Addr) (sl : Array (Option Value)) (x : Int) (u : Tok) (c0 : (decide (x < -(2 ^ 63)) || decide (x ≥ 2 ^ 63)) = false) (c1 : (items.isEmpty || x == 1) = false) (c2 : (decide (x ≤ 0) || items.isEmpty) = true) :
    Meets (Builtin.«tuple.__mul__» ⟨[.ref l, .int x u], []⟩) (fun _ R s => s.heap.get? l = some { cls := .type "tuple", dict := dd, data := .seq items n, slots := sl } ∧
      R (.ok (.ret (Value.ref s.heap.objs.size))) { s with heap := s.heap.push { cls := Value.type "tuple", data := Data.seq #[] }, toks := s.toks }) :=
  .of_wp fun prog w A R s h => by
    obtain ⟨hp, g, d, tk, os⟩ := s
    obtain ⟨hl, h⟩ := h
    have f1 := AutoSeq1.idx_int
    wp_walk using wpAny_loadPart' hl
    repeat (first
      | (refine wpAny_ite_false (decide_eq_false (by rw [c0]; exact Bool.false_ne_true)) ?_; wp_walk using wpAny_loadPart' hl)
      | (refine wpAny_ite_false (decide_eq_false (by rw [c1]; exact Bool.false_ne_true)) ?_; wp_walk using wpAny_loadPart' hl)
      | (refine wpAny_ite_true (decide_eq_true c2) ?_; wp_walk using wpAny_loadPart' hl))
    exact ⟨_, rfl, h⟩
def rRepA (K : PySem.W.Frag) : R2 := fun x y H Q => ∃ l k xs, x = .ref l ∧ y = .int k ∧ SqT K H l xs ∧ -(2 ^ 63) ≤ k ∧ k < 2 ^ 63 ∧ (((xs = [] ∨ k = 1) ∧ Q (.ref l) H) ∨ (xs ≠ [] ∧ k ≤ 0 ∧ ∀ p, H p = none → Q (.ref p) (upd H p (.tup []))) ∨ (xs ≠ [] ∧ 2 ≤ k ∧ k.toNat * xs.length ≤ lim ∧ ∀ p, H p = none → Q (.ref p) (upd H p (.tup (List.replicate k.toNat xs).flatten))))
theorem op_repA {X : Cx} : OpR X (binaryOp .Mult) (rRepA X.K) := by
  intro pins s σ H x y v u Q I rx ry h
  obtain ⟨l, k, xs, rfl, rfl, hT, hk1, hk2, q⟩ := h
  cases rx
  obtain ⟨t, rfl⟩ := ry
  obtain ⟨its, r, ⟨⟨cls, dd, data, sl⟩, ho, hc, n, hd⟩, hs⟩ := I.tuple hT
  simp only at hc hd
  subst hc hd
  have hle : its.length = xs.length := r.length.symm
  have c0 : (decide (k < -(2 ^ 63)) || decide (k ≥ 2 ^ 63)) = false := by
    rw [decide_eq_false (by omega), decide_eq_false (by omega)]; rfl
  have emp : its.toArray.isEmpty = decide (xs = []) := by
    cases xs with
    | nil =>
      cases its with
      | nil => rfl
      | cons a b => simp at hle
    | cons a b =>
      cases its with
      | nil => simp at hle
      | cons c d => rfl
  refine wpAny_binaryOp_repeat_ref (T := "tuple") (U := "int") (by decide) ⟨_, ho, rfl⟩ (fun s' => typeIs_int s' k t) noFill_tuple_mul F.fills_int_mul F.slot_int_rmul repeat_tuple F.slot_int_index.lookup
    (call_meets F.slot_int_rmul (typeIs_int s k t) F.entry_int_rmul (F.args_int_rmul_2 _ _) (int_rmul_tuple k t l its.toArray n dd sl) ⟨ho, rfl, ⟨_, ho, rfl⟩, ?_⟩)
  by_cases h1 : (its.toArray.isEmpty || k == 1) = true
  · have h1' : xs = [] ∨ k = 1 := by
      rw [Bool.or_eq_true, emp, decide_eq_true_eq, beq_iff_eq] at h1
      exact h1
    refine call_meets F.slot_tuple_mul ⟨_, ho, rfl⟩ F.entry_tuple_mul (F.args_tuple_mul_2 _ _) (tuple_mul1 l its.toArray n dd sl k t c0 h1) ⟨ho, ?_⟩
    rcases q with ⟨_, q⟩ | ⟨hn, hk, _⟩ | ⟨hn, hk, _⟩
    · exact ⟨.ref l, H, I, rfl, q⟩
    · exact absurd h1' (by rintro (h | h); exact hn h; omega)
    · exact absurd h1' (by rintro (h | h); exact hn h; omega)
  · have h1b : (its.toArray.isEmpty || k == 1) = false := by simpa using h1
    have h1' : xs ≠ [] ∧ k ≠ 1 := by
      rw [Bool.or_eq_false_iff, emp, decide_eq_false_iff_not, beq_eq_false_iff_ne] at h1b
      exact h1b
    have hi : its.toArray.isEmpty = false := by rw [emp]; exact decide_eq_false h1'.1
    rcases q with ⟨hh, _⟩ | ⟨_, hk, q⟩ | ⟨_, hk, hz, q⟩
    · exact absurd hh (by rintro (h | h); exact h1'.1 h; exact h1'.2 h)
    · refine call_meets F.slot_tuple_mul ⟨_, ho, rfl⟩ F.entry_tuple_mul (F.args_tuple_mul_2 _ _) (tuple_mul0 l its.toArray n dd sl k t c0 h1b (by rw [hi, Bool.or_false]; exact decide_eq_true hk)) ⟨ho, ?_⟩
      exact ⟨.ref s.heap.objs.size, _, I.laid (t' := s.toks) (o := .tup []) (fun b ob q => Heap.get?_push_of_some _ q) (Nat.le_refl _) ⟨by show 0 ≤ sizeLine; exact Nat.zero_le _, [], .nil, ⟨_, Heap.get?_push_size _ rfl, rfl, _, rfl⟩⟩, rfl, q _ (I.hok.fresh (Nat.le_refl _))⟩
    · have hsz0 : its.toArray.size = xs.length := by rw [List.size_toArray, hle]
      have hm2 : ((its.toArray.size : Nat) : Int) * k = ((k.toNat * xs.length : Nat) : Int) := by
        rw [hsz0, Int.natCast_mul, Int.toNat_of_nonneg (by omega), Int.mul_comm]
      have hzl : k.toNat * xs.length ≤ sizeLine := lim_le hz
      have hz16 : k.toNat * xs.length ≤ 16000000 := hz
      have flen : (List.replicate k.toNat its).flatten.length ≤ sizeLine := by
        rw [PyProof.Rows.lm_len_rep_flat, hle]; exact hzl
      have c2 : (decide (k ≤ 0) || its.toArray.isEmpty) = false := by
        rw [hi, Bool.or_false]
        exact decide_eq_false (by omega)
      have c4 : Builtin.Tuple.tupleTooMany (((its.toArray.size : Nat) : Int) * k) = false := by
        unfold Builtin.Tuple.tupleTooMany
        rw [hm2]
        exact decide_eq_false (by omega)
      have c3 : ¬ ((its.toArray.size : Nat) : Int) * k > (2 ^ 63 - 1) / 8 := by
        rw [hm2]; omega
      refine call_meets F.slot_tuple_mul ⟨_, ho, rfl⟩ F.entry_tuple_mul (F.args_tuple_mul_2 _ _) (tuple_mulW l its.toArray n dd sl k t c0 h1b c2 c3 c4 (by rw [size_rep, List.size_toArray]; exact flen)) ⟨ho, ?_⟩
      rw [size_rep]
      refine ⟨.ref s.heap.objs.size, _, I.laid (t' := s.toks) (o := .tup (List.replicate k.toNat xs).flatten) (fun b ob q => Heap.get?_push_of_some _ q) (Nat.le_refl _) ?_, rfl, q _ (I.hok.fresh (Nat.le_refl _))⟩
      exact ⟨by rw [PyProof.Rows.lm_len_rep_flat]; exact hzl, _, r.rep k.toNat, IsTup.new _ _⟩
def repB (k : Int) : Bool := Nat.ble k.natAbs 9223372036854775807
def repD : D → D → Option (D × Nat)
  | .tup xs, .int k => if repB k = true then (if xs.isEmpty = true ∨ k = 1 then some (.tup xs, 0) else if k ≤ 0 then some (.tup [], 0) else if k.toNat * xs.length ≤ lim then some (.tup (List.replicate k.toNat xs).flatten, 0) else none) else none
  | x, y => mulD x y
section
variable {Γ : Ct} {a b : Expr} {fa fb : En → R Opd} {pos : Pos}
theorem shl_rep {C : RC} {Z : Fp} {H : Hp} {us : List V} {ds : List D} (r : ShL C Z H us ds) : ∀ n : Nat, ShL C Z H (List.replicate n us).flatten (List.replicate n ds).flatten
  | 0 => .nil
  | n + 1 => by
    rw [List.replicate_succ, List.replicate_succ, List.flatten_cons, List.flatten_cons]
    exact r.append (shl_rep r n)
theorem does_rep (G : Good Γ) : Does2 Γ repD (fun x y H Q => rMulA Γ.X.K x y H Q ∨ rRepA Γ.X.K x y H Q) := by
  intro σ H Z env φ S x y d e p hx hy hg Q P
  unfold repD at hg
  split at hg
  · rename_i xs k
    split at hg
    · rename_i hb
      have hb' : -(2 ^ 63) ≤ k ∧ k < 2 ^ 63 := by
        have := Nat.le_of_ble_eq_true hb
        omega
      obtain ⟨a, us, rfl, ha, r⟩ := hx.tupI
      have ha' := ha
      rw [G.hK] at ha'
      have hl := r.length
      refine .inr ⟨a, k, us, rfl, hy.intI, ha', hb'.1, hb'.2, ?_⟩
      have e0 : us = [] ↔ xs = [] := by
        rw [← List.length_eq_zero_iff, ← List.length_eq_zero_iff, hl]
      split at hg
      · rename_i h1
        cases hg
        refine .inl ⟨h1.imp (fun h => e0.mpr (List.isEmpty_iff.mp h)) id, ?_⟩
        exact Post.here P S (Ow.sh (.tup ha r))
      · rename_i h1
        have hne : us ≠ [] := fun h => h1 (.inl (List.isEmpty_iff.mpr (e0.mp h)))
        split at hg
        · rename_i h2
          cases hg
          exact .inr (.inl ⟨hne, h2, fun l hl => Post.newT P S hl (Ow.sh (.tup (SqT.of upd_same) .nil))⟩)
        · rename_i h2
          split at hg
          · rename_i h3
            cases hg
            have hk1 : k ≠ 1 := fun h => h1 (.inr h)
            exact .inr (.inr ⟨hne, by omega, by rw [hl]; exact h3, fun l hl => Post.newT P S hl (Ow.sh (.tup (SqT.of upd_same) ((shl_rep r _).ext (Ext.new hl))))⟩)
          · cases hg
    · cases hg
  · exact .inl (does_mul G σ H Z env φ S x y _ _ p hx hy hg Q P)
theorem ev_rep (G : Good Γ) (ha : EvO Γ a fa) (hb : EvO Γ b fb) : EvE Γ (.BinOp a .Mult b pos) (op2 repD fa fb) := ev_op2 (ta := rAddA Γ.X.K) (mk := fun x _ => x) ha hb (fun _ _ p q => pe_op ((op_mulZ.or (op_rep.or op_repT)).or op_repA) p q) (does_rep G)
end
end Pv
end

section
set_option Elab.async false
set_option linter.all false
set_option maxRecDepth 100000
set_option maxHeartbeats 4000000
/-! Pv19: x[::-1]; str of ints; module tuples. -/
namespace HT
open PySem PySem.Spec PyProof.Rows L2
section
variable {prog : Program} {w : World} {A : Around} {E : Value → Shared → Prop} {s : Shared}
theorem rev_get (l : List Value) (m : Nat) (h : m < l.length) : l.reverse[m]? = l[l.length - 1 - m]? := by
  rw [List.getElem?_reverse h]
theorem fm_congr {α β : Type} {f g : α → Option β} : ∀ {l : List α}, (∀ x ∈ l, f x = g x) → l.filterMap f = l.filterMap g
  | [], _ => rfl
  | x :: l, h => by
    rw [List.filterMap_cons, List.filterMap_cons, h x List.mem_cons_self, fm_congr fun y hy => h y (List.mem_cons_of_mem _ hy)]
theorem filter_all : ∀ l : List Value, (List.range l.length).filterMap (fun m => l[m]?) = l
  | [] => rfl
  | x :: l => by
    rw [List.length_cons, List.range_succ_eq_map, List.filterMap_cons]
    simp only [List.getElem?_cons_zero, List.filterMap_map]
    have : ((fun m => (x :: l)[m]?) ∘ Nat.succ) = fun m => l[m]? := by
      funext m
      simp
    rw [this, filter_all l]
theorem pick_rev (xs : Array Value) : ((List.range xs.size).filterMap fun (m : Nat) => xs[(((xs.size : Nat) : Int) - 1 + (m : Int) * (-1)).toNat]?).toArray = xs.toList.reverse.toArray := by
  congr 1
  have h1 : (List.range xs.size).filterMap (fun (m : Nat) => xs[(((xs.size : Nat) : Int) - 1 + (m : Int) * (-1)).toNat]?) = (List.range xs.toList.reverse.length).filterMap fun m => xs.toList.reverse[m]? := by
    rw [List.length_reverse, Array.length_toList]
    apply fm_congr
    intro m hm
    have hm := List.mem_range.mp hm
    rw [rev_get _ _ (by simpa using hm), Array.length_toList]
    have e : (((xs.size : Nat) : Int) - 1 + (m : Int) * (-1)).toNat = xs.size - 1 - m := by omega
    rw [e]
    simp
  rw [h1, filter_all]
theorem sliceApplied_rev {sl : Addr} {vl vu vs : Value} {n : Nat} {Q : Int × Int × Nat → Shared → Prop} (hs : s.heap.IsSliceOf sl vl vu vs) (pl : IsPart vl none) (pu : IsPart vu none) (ps : IsPart vs (some (-1)))
    (h : Q ((n : Int) - 1, -1, n) s) : wpAny (model prog w) A (Builtin.Slice.sliceApplied (.ref sl) (pure (n : Int))) Q E s := by
  obtain ⟨os, hos, hcs, hds⟩ := id hs
  unfold Builtin.Slice.sliceApplied Builtin.Slice.sliceFields
  refine wpAny_bind (wpAny_bind (wpAny_field hos hds (x := vl) rfl (wpAny_bind (wpAny_field hos hds (x := vu) rfl (wpAny_bind (wpAny_field hos hds (x := vs) rfl (wpAny_pure ?_)))))))
  refine wpAny_bind (slicePart_ ps ?_)
  show wpAny _ _ (if ((-1 : Int) == 0) = true then _ else _) _ _ s
  rw [if_neg (by decide)]
  refine wpAny_bind (slicePart_ pl (wpAny_bind (slicePart_ pu (wpAny_bind (wpAny_pure ?_)))))
  show wpAny _ _ (match Builtin.Slice.sliceAdjust none none (-1) (n : Int) with | (lo, hi) => pure (lo, (-1 : Int), Builtin.Slice.slicePlaces lo hi (-1))) _ _ s
  have e1 : Builtin.Slice.sliceAdjust none none (-1) (n : Int) = ((n : Int) - 1, -1) := rfl
  have e2 : Builtin.Slice.slicePlaces ((n : Int) - 1) (-1) (-1) = n := by
    unfold Builtin.Slice.slicePlaces
    simp
    try omega
  rw [e1]
  show wpAny _ _ (pure ((n : Int) - 1, (-1 : Int), Builtin.Slice.slicePlaces ((n : Int) - 1) (-1) (-1))) _ _ s
  rw [e2]
  exact wpAny_pure h
theorem getItem_tuple_rev {t sl : Addr} {items : Array Value} {vl vu vs : Value} {Q : Value → Shared → Prop} (ht : IsTup s.heap t items) (hs : s.heap.IsSliceOf sl vl vu vs) (pl : IsPart vl none) (pu : IsPart vu none) (ps : IsPart vs (some (-1)))
    (h : Q (.ref s.heap.objs.size) { s with heap := s.heap.push { cls := .type "tuple", data := .seq items.toList.reverse.toArray } }) (hsz : items.size ≤ sizeLine) : wpAny (model prog w) A (getItem (.ref t) (.ref sl)) Q E s := by
  have htake : sizeOk (.seq items.toList.reverse.toArray) := by
    show items.toList.reverse.toArray.size ≤ sizeLine
    rw [List.size_toArray, List.length_reverse, Array.length_toList]
    exact hsz
  obtain ⟨os, hos, hcs, hds⟩ := id hs
  have hTs : s.TypeIs (.ref sl) "slice" := ⟨os, hos, hcs⟩
  unfold getItem
  try with_reducible refine wpAny_holding ?_
  first | refine wpAny_bind (wpAny_pure ?_) | skip
  refine wpAny_bind (wpAny_sequenceKey ht.typeIs (by decide) ?_)
  refine wpAny_bind (wpAny_callSpecial?_slot (name := Str.ofString "__getitem__") ht.typeIs PyProof.Rows.slot_tuple_getitem
    (wpAny_call_entry PyProof.Rows.slot_tuple_getitem ht.typeIs entry_tuple_getitem ?_ (args_tuple_getitem _ _)))
  show wpAny _ _ (Builtin.Tuple.tupleItemsOf (.ref t) >>= _) _ _ s
  refine wpAny_bind (tupleItemsOf_ ht ?_)
  refine wpAny_bind (wpAny_typeOf hTs ?_)
  rw [if_pos (by decide)]
  refine wpAny_bind (sliceApplied_rev hs pl pu ps ?_)
  have hno : ¬ ((((items.size : Nat) : Int) - 1 == 0 && (-1 : Int) == 1 && items.size == items.size) = true) := by
    intro q
    rw [Bool.and_eq_true, Bool.and_eq_true] at q
    exact absurd q.1.2 (by decide)
  show wpAny _ _ (if (((items.size : Nat) : Int) - 1 == 0 && (-1 : Int) == 1 && items.size == items.size) = true then _ else _) _ _ s
  rw [if_neg hno, pick_rev]
  first
    | exact wpAny_bind (m := Builtin.Tuple.tupleExact _) (wpAny_newObj_type (wpAny_pure ⟨_, rfl, wpAny_pure h⟩) htake)
    | exact wpAny_bind (m := Builtin.Tuple.tupleExact _) (wpAny_newObj_type (wpAny_bind (wpAny_pure (wpAny_pure ⟨_, rfl, wpAny_pure h⟩))) htake)
    | exact wpAny_bind (wpAny_bind (m := Builtin.Tuple.tupleExact _) (wpAny_newObj_type (wpAny_pure (wpAny_pure ⟨_, rfl, wpAny_pure h⟩)) htake))
    | exact wpAny_bind (wpAny_bind (m := Builtin.Tuple.tupleExact _) (wpAny_newObj_type (wpAny_pure ⟨_, rfl, wpAny_pure h⟩) htake))
end
end HT
namespace Pv
open PySem PySem.Spec PyProof.Rows L2
/-- x[::-1], x a list or a tuple -/
def tRevA (K : PySem.W.Frag) (te : TE) : TE := fun σ H Q => te σ H fun x H1 => (∃ a xs, x = .ref a ∧ SqL K H1 a xs ∧ ∀ p, H1 p = none → Q (.ref p) (upd H1 p (.lst xs.reverse))) ∨ (∃ a xs, x = .ref a ∧ SqT K H1 a xs ∧ ∀ p, H1 p = none → Q (.ref p) (upd H1 p (.tup xs.reverse)))
theorem pe_revA {X : Cx} {e : Expr} {te : TE} {k : Nat} {p1 p2 p3 pos : Pos} (he : PE X e te) : PE X (.Subscript e (.Slice none none (some (.UnaryOp .USub (.Constant (.int 1) k p1) p2)) p3) pos) (tRevA X.K te) := by
  refine ⟨fun pins s σ H Q I h => ?_⟩
  refine Subscript_ (thn (he.run pins s σ H _ I h) fun v s1 ⟨x, H1, I1, r1, q1⟩ => ?_)
  have hst : PO X (some (.UnaryOp .USub (.Constant (.int 1) k p1) p2)) (tPart (tUn (rU fun i => .int (-i)) (tC (.int 1)))) := po_some (pe_un un_neg pe_int)
  refine wpAny_Slice (thn (po_none.run pins s1 σ H1 (fun o H2 => o = none ∧ H2 = H1) I1 ⟨rfl, rfl⟩) fun vl s2 ⟨l, H2, I2, pl, el, e2⟩ => ?_)
  subst el e2
  refine thn (po_none.run pins s2 σ H2 (fun o H3 => o = none ∧ H3 = H2) I2 ⟨rfl, rfl⟩) fun vu s3 ⟨u, H3, I3, pu, eu, e3⟩ => ?_
  subst eu e3
  refine thn (hst.run pins s3 σ H3 (fun o H4 => o = some (-1) ∧ H4 = H3) I3 ⟨1, rfl, -1, rfl, rfl, rfl⟩) fun vs s4 ⟨o, H4, I4, ps, eo, e4⟩ => ?_
  subst eo e4
  have I5 : Inv X pins σ H4 { s4 with heap := s4.heap.push { cls := .type "slice", data := .fields #[vl, vu, vs] } } := I4.kept (t' := s4.toks) fun b ob q => Heap.get?_push_of_some _ q
  rcases q1 with ⟨a, xs, ex, hx, q⟩ | ⟨a, xs, ex, hx, q⟩
  · subst ex
    cases r1
    obtain ⟨its, r, ht, hz⟩ := I5.list hx
    have hlen := r.length
    show wpAny (model X.prog X.w) X.A (subscriptTail e (.Slice none none (some (.UnaryOp .USub (.Constant (.int 1) k p1) p2)) p3) (.ref a) (.ref s4.heap.objs.size)) (EP X pins σ Q) X.xe { s4 with heap := s4.heap.push { cls := .type "slice", data := .fields #[vl, vu, vs] } }
    refine tail_any (ops := [.ref a, .ref s4.heap.objs.size]) ht.isList.typeIs (PySem.slot_list_getitem.lookup) ?_ (by with_unfolding_all rfl)
    refine wpAny_getItem_list_slice ht.isList (Heap.IsSliceOf.new _ vl vu vs) pl pu ps (by decide) ?_ (by rw [List.size_toArray]; omega)
    rw [PySem.W.krv_pick]
    refine ⟨.ref _, _, I5.laid (t' := s4.toks) (o := .lst xs.reverse) (fun b ob q => Heap.get?_push_of_some _ q) (Nat.le_refl _) ?_, rfl, q _ (I5.hok.fresh (Nat.le_refl _))⟩
    exact ⟨by rw [List.length_reverse]; exact hz, _, 0, r.reverse, Heap.get?_push_size _ rfl⟩
  · subst ex
    cases r1
    obtain ⟨its, r, ht, hz⟩ := I5.tuple hx
    have hlen := r.length
    show wpAny (model X.prog X.w) X.A (subscriptTail e (.Slice none none (some (.UnaryOp .USub (.Constant (.int 1) k p1) p2)) p3) (.ref a) (.ref s4.heap.objs.size)) (EP X pins σ Q) X.xe { s4 with heap := s4.heap.push { cls := .type "slice", data := .fields #[vl, vu, vs] } }
    refine tail_any (ops := [.ref a, .ref s4.heap.objs.size]) ht.typeIs (PyProof.Rows.slot_tuple_getitem.lookup) ?_ (by with_unfolding_all rfl)
    refine HT.getItem_tuple_rev ht (Heap.IsSliceOf.new _ vl vu vs) pl pu ps ?_ (by rw [List.size_toArray]; omega)
    refine ⟨.ref _, _, I5.laid (t' := s4.toks) (o := .tup xs.reverse) (fun b ob q => Heap.get?_push_of_some _ q) (Nat.le_refl _) ?_, rfl, q _ (I5.hok.fresh (Nat.le_refl _))⟩
    exact ⟨by rw [List.length_reverse]; exact hz, _, r.reverse, ⟨_, Heap.get?_push_size _ rfl, rfl, _, rfl⟩⟩
section
variable {Γ : Ct} {e a : Expr} {fa : En → R Opd} {pos p q p1 p2 p3 : Pos}
def revD : D → Option (D × Nat)
  | .lst xs => some (.lst xs.reverse, 1)
  | .tup xs => some (.tup xs.reverse, 0)
  | _ => none
theorem shl_rev {C : RC} {Z : Fp} {H : Hp} : ∀ {us : List V} {ds : List D}, ShL C Z H us ds → ShL C Z H us.reverse ds.reverse
  | _, _, .nil => .nil
  | _, _, .cons h r => by
    rw [List.reverse_cons, List.reverse_cons]
    exact (shl_rev r).append (.cons h .nil)
theorem ev_rev (G : Good Γ) {k : Nat} (ha : EvO Γ a fa) : EvE Γ (.Subscript a (.Slice none none (some (.UnaryOp .USub (.Constant (.int 1) k p1) p2)) p3) pos) (op1 revD fa) := by
  obtain ⟨t, h1, h2⟩ := ha
  refine ⟨_, pe_revA h1, ?_⟩
  have := Ev.op1 (g := revD) (r := fun x H1 Q => (∃ a xs, x = .ref a ∧ SqL Γ.X.K H1 a xs ∧ ∀ p, H1 p = none → Q (.ref p) (upd H1 p (.lst xs.reverse))) ∨ (∃ a xs, x = .ref a ∧ SqT Γ.X.K H1 a xs ∧ ∀ p, H1 p = none → Q (.ref p) (upd H1 p (.tup xs.reverse)))) h2 (fun σ H Z env φ S x d p hx hg Q P => by
    unfold revD at hg
    split at hg
    · cases hg
      obtain ⟨a, us, rfl, ha, r⟩ := hx.lstI
      exact .inl ⟨a, us, rfl, SqL.of ha, fun l hl => Post.newL P S hl (Ow.lst1 upd_same ((shl_rev r).ext (Ext.new hl)))⟩
    · cases hg
      obtain ⟨a, us, rfl, ha, r⟩ := hx.tupI
      rw [G.hK] at ha
      exact .inr ⟨a, us, rfl, ha, fun l hl => Post.newT P S hl (Ow.sh (.tup (SqT.of upd_same) ((shl_rev r).ext (Ext.new hl))))⟩
    · cases hg)
  exact this
/-- str(i) -/
def strD : D → Option (D × Nat)
  | .int i => if i.natAbs.log2 < 1920 then some (.str (toString i), 0) else none
  | _ => none
theorem ev_str1 (hg : Gl Γ.X "str") (hm : Γ.X.mg "str" = none) (ha : EvO Γ a fa) (hs : starEach [a] Γ.X.env = [(false, eval a Γ.X.env)] := by rfl) : EvE Γ (.Call (.Name "str" p) [a] [] pos) (op1 strD fa) :=
  ev_t1 call_str_int (fun σ H Z env φ S x d p hx hg Q P => by
    unfold strD at hg
    split at hg
    · split at hg
      · rename_i h
        cases hg
        rw [hx.intI]
        exact ⟨_, rfl, h, Post.here P S (Ow.sh (.str _))⟩
      · cases hg
    · cases hg) hg hm (by decide +kernel) ha (hs := hs)
end
/-! ### a module's tuple -/
/-- a tuple that the program's top has made: its data -/
structure TA (K : PySem.W.Frag) (mg : Str → Option Value) (x : Str) (d : D) where
  a : Addr
  m : mg x = some (.ref a)
  s : ∀ (C : RC) (Z : Fp) (H : Hp), C.K = K → Sh C Z H (.ref a) d
theorem ev_gtup {Γ : Ct} {K : PySem.W.Frag} {mg : Str → Option Value} {x : Str} {d : D} {pos : Pos} (A : TA K mg x d) (G : Good Γ) (hg : Gl Γ.X x) (hm : Γ.X.mg = mg := by rfl) (hK : Γ.X.K = K := by rfl) (hd : (x == ("__debug__" : Str)) = false := by decide) : EvV Γ (.Name x pos) (fun env => .ok d env) := by
  subst hm hK
  exact ev_c (v := .ref A.a) (fun Z H => A.s Γ.C Z H G.hK) (pe_glob hg A.m rfl hd)
/-- what a written value bears -/
inductive RelD : Value → D → Prop
  | int (i : Int) (t : Tok) : RelD (.int i t) (.int i)
  | str (i : Str) (t : Tok) : RelD (.str i t) (.str i)
theorem TA.of {K : PySem.W.Frag} {h : Heap} {mg : Str → Option Value} (X : K.In h) (G : h.Ns mainGlobals mg) {x : Str} {a : Addr} {od : Option Addr} {its : Array Value} {n : Nat} {sl : Array (Option Value)} {vs : List V} {ds : List D}
    (e : PySem.W.nsIn K mainGlobals x = some (some (.ref a))) (l : K.lookup a = some ⟨.type "tuple", od, .seq its n, sl⟩) (hz : its.size ≤ sizeLine) (hv : Vals vs its.toList) (hs : ∀ (C : RC) (Z : Fp) (H : Hp), ShL C Z H vs ds) : Nonempty (TA K mg x (.tup ds)) :=
  ⟨⟨a, PySem.W.mg_of X G e, fun C Z H hK => .tup (.inr ⟨_, its, n, by rw [hK]; exact l, rfl, rfl, hz, hv⟩) (hs C Z H)⟩⟩
end Pv
end

section
set_option Elab.async false
set_option linter.all false
set_option maxRecDepth 100000
set_option maxHeartbeats 4000000
/-! Pv20: pop. -/
namespace Pv
open PySem PySem.Spec PyProof.Rows L2
section
variable {Γ : Ct} {x : Str} {p pos apos cpos sp : Pos} {e a b : Expr} {es : List Expr}
def popV (i : Nat) : En → R D := fun env => match env[i]? with
  | some (some (.lst ds, 1)) => (match ds[ds.length - 1]? with
    | some d => .ok d (env.set i (some (.lst ds.dropLast, 1)))
    | none => .no)
  | _ => .no
theorem ShL.dropLast {C : RC} {Z : Fp} {H : Hp} : ∀ {us : List V} {ds : List D}, ShL C Z H us ds → ShL C Z H us.dropLast ds.dropLast
  | _, _, .nil => .nil
  | _, _, .cons h .nil => .nil
  | _, _, .cons h (.cons h' r) => .cons h (ShL.dropLast (.cons h' r))
theorem ev_pop {i : Nat} (hN : Γ.X.N[i]? = some x) (hv : Vis Γ.X.env.scope x) (hd : (x == ("__debug__" : Str)) = false := by decide) (hcd : (x == ("__classdict__" : Str)) = false := by decide)
    (hline : (apos.endLine == cpos.line) = true := by rfl) :
    EvV Γ (.Call (.Attribute (.Name x p) "pop" apos) [] [] cpos) (popV i) := by
  refine ⟨_, pe_bm0 PySem.F.plainAttrs_list PySem.F.slot_list_pop PySem.F.type_list_pop mt_pop (pe_var hN hv hd hcd) rfl hline, fun σ H Z env φ S Q P => ?_⟩
  unfold popV at P
  split at P
  · rename_i ds hds
    split at P
    · rename_i d hd
      obtain ⟨v, hv1, o⟩ := S.slot i _ _ hds
      obtain ⟨a', ys, e0, ha, r, hφ⟩ := o.lst_inv
      subst e0
      obtain ⟨y, hy1, hy2⟩ := r.get' hd
      refine ⟨.ref a', hv1, .inl ⟨rfl, ys, SqL.of ha⟩, a', ys, y, rfl, rfl, ha, by rw [r.length]; exact hy1, ?_⟩
      have x : Ext Z H Z (upd H a' (.lst ys.dropLast)) := Ext.upd ha (S.nz i a' ((hφ a').mpr rfl)) trivial
      obtain ⟨S2, ev2⟩ := S.upd (o := .lst ys.dropLast) (A := fun b => b = a') hv1 (List.getElem?_eq_some_iff.mp hds).1 ha trivial ((hφ a').mpr rfl) (fun b hb => (hφ b).mpr hb) (Ow.lst1 upd_same (r.dropLast.ext x))
      exact Post.here (P.mono ev2) S2 (hy2.ext x)
    · exact P.elim
  · exact P.elim
/-- x.pop(i), i an int -/
def popAtV (i : Nat) (fe : En → R D) : En → R D := fun env => if isLst env[i]? = true then (fe env).bind fun j env1 => match env1[i]?, j with
    | some (some (.lst ds, 1)), .int k => (match ixN ds.length k with
      | some m => (match ds[m]? with
        | some d => if repB k = true then .ok d (env1.set i (some (.lst (ds.eraseIdx m), 1))) else .no
        | none => .no)
      | none => .no)
    | _, _ => .no
  else .no
theorem ShL.erase {C : RC} {Z : Fp} {H : Hp} : ∀ {us : List V} {ds : List D} (m : Nat), ShL C Z H us ds → ShL C Z H (us.eraseIdx m) (ds.eraseIdx m)
  | _, _, _, .nil => .nil
  | _, _, 0, .cons h r => r
  | _, _, m + 1, .cons h r => .cons h (ShL.erase m r)
theorem ev_popAt {i : Nat} {fe : En → R D} (hN : Γ.X.N[i]? = some x) (hv : Vis Γ.X.env.scope x) (he : EvV Γ e fe) (hd : (x == ("__debug__" : Str)) = false := by decide) (hcd : (x == ("__classdict__" : Str)) = false := by decide)
    (hfew : ((backTo cpos (starEach [e] Γ.X.env)).all (fun x => !x.1) && (backToKw cpos (keywordEach [] Γ.X.env)).all (fun x => x.1.isSome) && decide ([e].length + ([] : List Keyword).length + (if ([] : List Keyword).isEmpty then 0 else 1) < 30)) = true := by rfl)
    (hline : (apos.endLine == cpos.line) = true := by rfl) (hs : starEach [e] Γ.X.env = (false, eval e Γ.X.env) :: starEach [] Γ.X.env := by rfl) :
    EvV Γ (.Call (.Attribute (.Name x p) "pop" apos) [e] [] cpos) (popAtV i fe) := by
  obtain ⟨t, h1, h2⟩ := he
  refine ⟨_, pe_bm PySem.F.plainAttrs_list PySem.F.slot_list_pop PySem.F.type_list_pop mt_popAt (pe_var hN hv hd hcd) (pa_cons h1 pa_nil hs) rfl hfew hline hs rfl, fun σ H Z env φ S Q P => ?_⟩
  unfold popAtV at P
  split at P
  · rename_i hl
    obtain ⟨a, xs, hv0, ha0⟩ := isLst_at S hl
    refine ⟨.ref a, hv0, .inl ⟨rfl, xs, SqL.of ha0⟩, ?_⟩
    refine h2.bind S P fun d env1 w H1 Z1 φ1 A e1 S1 q1 dj1 ev1 P1 => ?_
    have P2 := P1.mono (Evo.refl.sub (F2 := Tot φ1) fun _ z => .inl z)
    split at P2
    · rename_i ds k hds
      split at P2
      · rename_i m hm
        split at P2
        · rename_i d hd1
          split at P2
          · rename_i hk
            have hk' : -(2 ^ 63) ≤ k ∧ k < 2 ^ 63 := by
              have := Nat.le_of_ble_eq_true hk
              omega
            obtain ⟨v, hv1, o⟩ := S1.slot i _ _ hds
            rw [hv0] at hv1; cases hv1
            obtain ⟨a', ys, e0, ha, r, hφ⟩ := o.lst_inv
            cases e0
            have q1 : Sh Γ.C Z1 H1 w (.int k) := q1
            cases q1
            obtain ⟨y, hy1, hy2⟩ := r.get' hd1
            rw [← r.length] at hm
            refine ⟨a, ys, k, m, y, rfl, rfl, ha, hk'.1, hk'.2, (ixN_seq hm).1, hy1, ?_⟩
            have x : Ext Z1 H1 Z1 (upd H1 a (.lst (ys.eraseIdx m))) := Ext.upd ha (S1.nz i a ((hφ a).mpr rfl)) trivial
            obtain ⟨S2, ev2⟩ := S1.upd (o := .lst (ys.eraseIdx m)) (A := fun b => b = a) hv0 (List.getElem?_eq_some_iff.mp hds).1 ha trivial ((hφ a).mpr rfl) (fun b hb => (hφ b).mpr hb) (Ow.lst1 upd_same ((r.erase m).ext x))
            exact Post.here (P2.mono ev2) S2 (hy2.ext x)
          · exact P2.elim
        · exact P2.elim
      · exact P2.elim
    · exact P2.elim
  · exact P.elim
end
end Pv
end

section
set_option Elab.async false
set_option linter.all false
set_option maxRecDepth 100000
set_option maxHeartbeats 4000000
/-! Pv21: isinstance(x, (S, T)). -/
namespace Pv
open PySem PySem.Spec PyProof.Rows L2
section
variable {Γ : Ct} {e a b c : Expr} {fa fb fc : En → R Opd} {pos p q : Pos} {x y : Str}
def isK (s T : String) : Bool := decide (s = T) || (decide (s = "bool") && decide (T = "int"))
def isi2D (T U : String) (d : D) : Option (D × Nat) := (tyD d).map fun s => (.bl (isK s T || isK s U), 0)
theorem ev_isi2 (G : Good Γ) {T U : String} (hT : T ∈ isiTs) (hU : U ∈ isiTs) (hx : bootBuiltins x = some (.type T)) (hy : bootBuiltins y = some (.type U)) (hg : Gl Γ.X "isinstance") (hm : Γ.X.mg "isinstance" = none) (hg2 : Gl Γ.X x) (hm2 : Γ.X.mg x = none) (hg3 : Gl Γ.X y) (hm3 : Γ.X.mg y = none) (ha : EvO Γ a fa) {q2 tq : Pos} {kk : Nat}
    (hn : x ≠ "__name__" := by decide) (hdb : (x == ("__debug__" : Str)) = false := by decide) (hn2 : y ≠ "__name__" := by decide) (hdb2 : (y == ("__debug__" : Str)) = false := by decide)
    (hs : starEach [a, .Tuple [.Name x q, .Name y q2] kk tq] Γ.X.env = [(false, eval a Γ.X.env), (false, eval (.Tuple [.Name x q, .Name y q2] kk tq) Γ.X.env)] := by rfl) : EvE Γ (.Call (.Name "isinstance" p) [a, .Tuple [.Name x q, .Name y q2] kk tq] [] pos) (op1 (isi2D T U) fa) := by
  obtain ⟨t, h1, h2⟩ := ha
  have pi : PA Γ.X [.Name x q, .Name y q2] (tCons (tC (.ty T)) (tCons (tC (.ty U)) tNil)) := pa_cons (pe_bltn hg2 hm2 hx rfl hn hdb) (pa_cons (pe_bltn hg3 hm3 hy rfl hn2 hdb2) pa_nil)
  have pb : PA Γ.X [.Tuple [.Name x q, .Name y q2] kk tq] (tCons _ tNil) := pa_cons (pe_tup pi) pa_nil
  have pa : PA Γ.X [a, .Tuple [.Name x q, .Name y q2] kk tq] (tCons t (tCons _ tNil)) := pa_cons h1 pb (by rw [hs]; rfl)
  refine ⟨_, pe_callB call_isiT hg hm (by decide +kernel) pa (by decide) (by decide) (by rw [hs]; rfl) rfl, ?_⟩
  have h3 := Ev.op1 (g := isi2D T U) (r := fun v H Q => [V.ty T, V.ty U].length ≤ sizeLine ∧ ∀ tp, H tp = none → rIsiT Γ.X.K [v, .ref tp] (upd H tp (.tup [.ty T, .ty U])) Q) h2 (fun σ H Z env φ S x d p hx hg Q P => by
    refine ⟨by show 2 ≤ sizeLine; decide, fun tp htp => ?_⟩
    unfold isi2D at hg
    obtain ⟨s, e1, rfl⟩ := Option.map_eq_some_iff.mp hg
    have k1 := kit_all s (tyD_mem e1) T hT
    have k2 := kit_all s (tyD_mem e1) U hU
    have ty : TyX Γ.C.K (upd H tp (.tup [.ty T, .ty U])) x (.type s) := by
      cases hx with
      | sh h => exact tyD_x (Rd1.sh (h.ext (Ext.new htp))) e1
      | lst h r => exact tyD_x (.lst (by rw [upd_ne (ne_of_none h htp)]; exact h) (r.ext (Ext.new htp))) e1
      | dic h l r => exact tyD_x (.dic (by rw [upd_ne (ne_of_none h htp)]; exact h) l (r.ext (Ext.new htp))) e1
    rw [G.hK] at ty
    refine ⟨x, tp, [.ty T, .ty U], .type s, [.type T, .type U], isK s T || isK s U, rfl, upd_same, .cons (.ty T) (.cons (.ty U) .nil), ty, ?_, Post.newT P S htp (Ow.sh (.bl _))⟩
    have q1 : PySem.W.kitOne Γ.X.K (.type s) (.type T) = some (isK s T) := kit_ty k1
    have q2 : PySem.W.kitOne Γ.X.K (.type s) (.type U) = some (isK s U) := kit_ty k2
    unfold PySem.W.kitAny
    rw [q1]
    cases h : isK s T with
    | true => rfl
    | false =>
      show PySem.W.kitAny Γ.X.K (.type s) [.type U] = some (isK s U)
      unfold PySem.W.kitAny
      rw [q2]
      cases h' : isK s U with
      | true => rfl
      | false => rfl)
  exact h3
end
end Pv
end

section
set_option Elab.async false
set_option linter.all false
set_option maxRecDepth 100000
set_option maxHeartbeats 4000000
/-! Pv22: a op b op c op d, as a test. -/
namespace Pv
open PySem PySem.Spec PyProof.Rows L2
/-- a chain of three -/
def tChain3 (r r' r'' : R2) (ta tb tc td : TE) : TE := fun σ H Q => ta σ H fun x H1 => tb σ H1 fun y H2 => r x y H2 fun z H3 => ∃ k, z = .bl k ∧
  (if k = true then tc σ H3 fun w H4 => r' y w H4 fun z2 H5 => ∃ k2, z2 = .bl k2 ∧ (if k2 = true then td σ H5 fun u H6 => r'' w u H6 Q else Q (.bl false) H5) else Q (.bl false) H3)
theorem pt_chain3 {X : Cx} {op op' op'' : CmpOp} {a b c d : Expr} {pos : Pos} {ta tb tc td : TE} {r r' r'' : R2} (ho : OpR X (compareOp op) r) (ho' : OpR X (compareOp op') r') (ho'' : OpR X (compareOp op'') r'') (ha : PE X a ta) (hb : PE X b tb) (hc : PE X c tc) (hd : PE X d td)
    (hm : lastMarks [op, op', op''] [b, c, d] = false := by with_unfolding_all rfl) : PT X (.Compare a [op, op', op''] [b, c, d] pos) (tTest (tChain3 r r' r'' ta tb tc td)) := by
  refine ⟨fun pins s σ H Q I h => ?_⟩
  refine isTrue_chain (thn (ha.run pins s σ H _ I h) fun v s1 ⟨x, H1, I1, r1, q1⟩ => test_link (thn (hb.run pins s1 σ H1 _ I1 q1) fun u s2 ⟨y, H2, I2, r2, q2⟩ =>
    thn (ho pins s2 σ H2 x y v u _ I2 r1 r2 q2) fun d s3 ⟨z, H3, I3, r3, k, e, q3⟩ => ?_)) hm
  subst e
  cases r3
  refine wpAny_truthy_bool ?_
  cases k with
  | false =>
    obtain ⟨k', e', q'⟩ := q3
    cases e'
    exact ite_ff ⟨H3, I3, q'⟩
  | true =>
    refine ite_tt (test_link (thn (hc.run pins s3 σ H3 _ I3 q3) fun w' s4 ⟨z', H4, I4, r4, q4⟩ => thn (ho' pins s4 σ H4 y z' u w' _ I4 r2 r4 q4) fun d' s5 ⟨z2, H5, I5, r5, k2, e2, q5⟩ => ?_))
    subst e2
    cases r5
    refine wpAny_truthy_bool ?_
    cases k2 with
    | false =>
      obtain ⟨k', e', q'⟩ := q5
      cases e'
      exact ite_ff ⟨H5, I5, q'⟩
    | true =>
      refine ite_tt (test_last (thn (hd.run pins s5 σ H5 _ I5 q5) fun w2 s6 ⟨z6, H6, I6, r6, q6⟩ => thn (ho'' pins s6 σ H6 z' z6 w' w2 _ I6 r4 r6 q6) fun d' s7 ⟨z7, H7, I7, r7, k7, e7, q7⟩ => ?_))
      subst e7
      cases r7
      exact wpAny_truthy_bool ⟨H7, I7, q7⟩
section
variable {Γ : Ct} {a b c d : Expr} {fa fb fc fd : En → R Opd} {pos : Pos}
def opC3 (g g' g'' : D → D → Option (D × Nat)) (fa fb fc fd : En → R Opd) : En → R (D × Nat) := fun env => (fa env).bind fun oa env1 => (fb env1).bind fun ob env2 =>
  match oa.get env2, ob.get env2 with
  | some x, some y => (match g x y with
    | some (.bl true, _) => (fc env2).bind fun oc env3 => (match ob.get env3, oc.get env3 with
      | some y, some z => (match g' y z with
        | some (.bl true, _) => (fd env3).bind fun od env4 => (match oc.get env4, od.get env4 with
          | some z, some u => R.of (g'' z u) env4
          | _, _ => .no)
        | some (.bl false, _) => .ok (.bl false, 0) env3
        | _ => .no)
      | _, _ => .no)
    | some (.bl false, _) => .ok (.bl false, 0) env2
    | _ => .no)
  | _, _ => .no
theorem Ev.chain3 {op op' op'' : CmpOp} {g g' g'' : D → D → Option (D × Nat)} (k : CmpB Γ op g) (k' : CmpB Γ op' g') (k'' : CmpR Γ op'' g'') {ta tb tc td : TE} (a2 : Ev Γ (OR Γ.C) fa ta) (b2 : Ev Γ (OR Γ.C) fb tb) (c2 : Ev Γ (OR Γ.C) fc tc) (d2 : Ev Γ (OR Γ.C) fd td) : Ev Γ (ER Γ.C) (opC3 g g' g'' fa fb fc fd) (tChain3 k.r k'.r k''.r ta tb tc td) := by
  intro σ H Z env φ S Q P
  refine a2.bind S P fun oa env1 x H1 Z1 φ1 A e1 S1 q1 dj1 ev1 P1 => ?_
  refine b2.bind S1 (P1.mono (Evo.refl.sub fun _ z => .inl z)) fun ob env2 y H2 Z2 φ2 B e2 S2 q2 dj2 ev2 P2 => ?_
  have P3 := P2.mono (Evo.refl.sub (F2 := Tot φ2) fun _ z => .inl z)
  have q1' : OR Γ.C σ B Z2 H2 oa x := OR.go (S1.ext ev2) q1
  cases ga : oa.get env2 with
  | none => rw [ga] at P3; exact P3.elim
  | some d0 =>
    cases gb : ob.get env2 with
    | none => rw [ga, gb] at P3; exact P3.elim
    | some e0 =>
      simp only [ga, gb] at P3
      have ra := Opd.rd S2 q1' ga
      have rb := Opd.rd S2 q2 gb
      cases gg : g d0 e0 with
      | none => rw [gg] at P3; exact P3.elim
      | some p =>
        obtain ⟨p, m⟩ := p
        rw [gg] at P3
        cases p with
        | bl w =>
          refine k.bool σ Z2 H2 x y d0 e0 w m ra rb gg _ ⟨w, rfl, ?_⟩
          cases w with
          | false => exact Post.here P3 S2 (Ow.sh (.bl false))
          | true =>
            rw [if_pos rfl]
            refine c2.bind S2 P3 fun oc env3 z H3 Z3 φ3 B3 e3 S3 q3 dj3 ev3 P4 => ?_
            have P5 := P4.mono (Evo.refl.sub (F2 := Tot φ3) fun _ z => .inl z)
            have q2' : OR Γ.C σ B3 Z3 H3 ob y := OR.go (S2.ext ev3) q2
            cases gb3 : ob.get env3 with
            | none => rw [gb3] at P5; exact P5.elim
            | some d3 =>
              cases gc3 : oc.get env3 with
              | none => rw [gb3, gc3] at P5; exact P5.elim
              | some f3 =>
                simp only [gb3, gc3] at P5
                have rb3 := Opd.rd S3 q2' gb3
                have rc3 := Opd.rd S3 q3 gc3
                cases g3 : g' d3 f3 with
                | none => rw [g3] at P5; exact P5.elim
                | some p3 =>
                  obtain ⟨p3, m3⟩ := p3
                  rw [g3] at P5
                  cases p3 with
                  | bl w3 =>
                    refine k'.bool σ Z3 H3 y z d3 f3 w3 m3 rb3 rc3 g3 _ ⟨w3, rfl, ?_⟩
                    cases w3 with
                    | false => exact Post.here P5 S3 (Ow.sh (.bl false))
                    | true =>
                      rw [if_pos rfl]
                      refine d2.bind S3 P5 fun od env4 u H4 Z4 φ4 B4 e4 S4 q4 dj4 ev4 P6 => ?_
                      have P7 := P6.mono (Evo.refl.sub (F2 := Tot φ4) fun _ z => .inl z)
                      have q3' : OR Γ.C σ B4 Z4 H4 oc z := OR.go (S3.ext ev4) q3
                      cases gc4 : oc.get env4 with
                      | none => rw [gc4] at P7; exact P7.elim
                      | some c4 =>
                        cases gd4 : od.get env4 with
                        | none => rw [gc4, gd4] at P7; exact P7.elim
                        | some f4 =>
                          simp only [gc4, gd4] at P7
                          cases g4 : g'' c4 f4 with
                          | none => rw [g4] at P7; exact P7.elim
                          | some p4 =>
                            rw [g4] at P7
                            exact k''.does σ H4 Z4 env4 φ4 S4 z u c4 f4 p4 (Opd.rd S4 q3' gc4) (Opd.rd S4 q4 gd4) g4 Q P7
                  | _ => exact P5.elim
        | _ => exact P3.elim
theorem et_chain3 {op op' op'' : CmpOp} {g g' g'' : D → D → Option (D × Nat)} (k : CmpB Γ op g) (k' : CmpB Γ op' g') (k'' : CmpR Γ op'' g'') (ha : EvO Γ a fa) (hb : EvO Γ b fb) (hc : EvO Γ c fc) (hd : EvO Γ d fd) (hm : lastMarks [op, op', op''] [b, c, d] = false := by with_unfolding_all rfl) : EvT Γ (.Compare a [op, op', op''] [b, c, d] pos) (tst (opC3 g g' g'' fa fb fc fd)) := by
  obtain ⟨ta, a1, a2⟩ := ha
  obtain ⟨tb, b1, b2⟩ := hb
  obtain ⟨tc, c1, c2⟩ := hc
  obtain ⟨td, d1, d2⟩ := hd
  exact ⟨_, pt_chain3 k.ok k'.ok k''.ok a1 b1 c1 d1 hm, (Ev.chain3 k k' k'' a2 b2 c2 d2).test⟩
end
end Pv
end

section
set_option Elab.async false
set_option linter.all false
set_option maxRecDepth 100000
set_option maxHeartbeats 4000000
/-! Pv23: comprehensions over encoded items. -/
namespace Pv
open PySem PySem.Spec PyProof.Rows L2
theorem compL_mapT {β : Type} {g : D → En → Option En} {tt : En → R Bool} {te : En → R (D × Nat)} {m : Nat} {vs : List Nat} (enc F : β → D) (env0 : En) : ∀ (bs : List β) (acc : List D), acc.length + bs.length ≤ lim →
    (∀ b ∈ bs, ∃ e1 e2 e3, g (enc b) env0 = some e1 ∧ tt e1 = .ok true e2 ∧ te e2 = .ok (F b, m) e3 ∧ wipeE e3 vs = env0) → compL g tt te m vs (bs.map enc) env0 acc = .ok (acc ++ bs.map F) env0
  | [], acc, _, _ => by simp [compL]
  | b :: bs, acc, hl, h => by
    obtain ⟨e1, e2, e3, h1, h2, h3, h4⟩ := h b List.mem_cons_self
    have hl' : acc.length < lim := by simp only [List.length_cons] at hl; omega
    have ih := compL_mapT (g := g) (tt := tt) (te := te) (m := m) (vs := vs) enc F env0 bs (acc ++ [F b]) (by simp only [List.length_append, List.length_cons, List.length_nil] at hl ⊢; omega) fun b' hb => h b' (List.mem_cons_of_mem _ hb)
    rw [List.map_cons]
    unfold compL
    rw [h1]
    simp only [h2, h3, h4, R.noX_ok, R.bind_ok, if_true, hl', and_self, ih, List.append_assoc, List.singleton_append, List.map_cons]
theorem comp_mapT {β : Type} {fi : En → R (List D)} {g : D → En → Option En} {tt : En → R Bool} {te : En → R (D × Nat)} {m : Nat} {vs : List Nat} (enc F : β → D) (env0 : En) {env env1 env2 : En} {bs : List β} (hfi : fi env = .ok (bs.map enc) env1) (h0 : wipeE env1 vs = env0) (hb : backE env1 env0 vs = env2) (hl : bs.length ≤ lim)
    (h : ∀ b ∈ bs, ∃ e1 e2 e3, g (enc b) env0 = some e1 ∧ tt e1 = .ok true e2 ∧ te e2 = .ok (F b, m) e3 ∧ wipeE e3 vs = env0) : comp fi g tt te m vs env = .ok (.lst (bs.map F), m + 1) env2 := by
  have q1 := compL_mapT (g := g) (tt := tt) (te := te) (m := m) (vs := vs) enc F env0 bs [] (by simpa using hl) h
  unfold comp
  rw [hfi]
  simp only [R.bind_ok, h0, q1, List.nil_append, hb]
theorem compL_filterT {β : Type} {g : D → En → Option En} {tt : En → R Bool} {te : En → R (D × Nat)} {m : Nat} {vs : List Nat} (enc F : β → D) (q : β → Bool) (env0 : En) : ∀ (bs : List β) (acc : List D), acc.length + bs.length ≤ lim →
    (∀ b ∈ bs, ∃ e1 e2, g (enc b) env0 = some e1 ∧ tt e1 = .ok (q b) e2 ∧ (q b = false → wipeE e2 vs = env0) ∧ (q b = true → ∃ e3, te e2 = .ok (F b, m) e3 ∧ wipeE e3 vs = env0)) → compL g tt te m vs (bs.map enc) env0 acc = .ok (acc ++ (bs.filter q).map F) env0
  | [], acc, _, _ => by simp [compL]
  | b :: bs, acc, hl, h => by
    obtain ⟨e1, e2, h1, h2, h3, h4⟩ := h b List.mem_cons_self
    have hl' : acc.length < lim := by simp only [List.length_cons] at hl; omega
    rw [List.map_cons]
    unfold compL
    rw [h1]
    simp only [h2, R.noX_ok, R.bind_ok]
    cases hq : q b with
    | false =>
      have ih := compL_filterT (g := g) (tt := tt) (te := te) (m := m) (vs := vs) enc F q env0 bs acc (by simp only [List.length_cons] at hl; omega) fun b' hb => h b' (List.mem_cons_of_mem _ hb)
      simp only [Bool.false_eq_true, if_false, h3 hq, ih, List.filter_cons, hq]
    | true =>
      obtain ⟨e3, h5, h6⟩ := h4 hq
      have ih := compL_filterT (g := g) (tt := tt) (te := te) (m := m) (vs := vs) enc F q env0 bs (acc ++ [F b]) (by simp only [List.length_append, List.length_cons, List.length_nil] at hl ⊢; omega) fun b' hb => h b' (List.mem_cons_of_mem _ hb)
      simp only [if_true, h5, R.noX_ok, R.bind_ok, hl', and_self, h6, ih, List.filter_cons, hq, List.map_cons, List.append_assoc, List.singleton_append]
theorem comp_filterT {β : Type} {fi : En → R (List D)} {g : D → En → Option En} {tt : En → R Bool} {te : En → R (D × Nat)} {m : Nat} {vs : List Nat} (enc F : β → D) (q : β → Bool) (env0 : En) {env env1 env2 : En} {bs : List β} (hfi : fi env = .ok (bs.map enc) env1) (h0 : wipeE env1 vs = env0) (hb : backE env1 env0 vs = env2) (hl : bs.length ≤ lim)
    (h : ∀ b ∈ bs, ∃ e1 e2, g (enc b) env0 = some e1 ∧ tt e1 = .ok (q b) e2 ∧ (q b = false → wipeE e2 vs = env0) ∧ (q b = true → ∃ e3, te e2 = .ok (F b, m) e3 ∧ wipeE e3 vs = env0)) : comp fi g tt te m vs env = .ok (.lst ((bs.filter q).map F), m + 1) env2 := by
  have q1 := compL_filterT (g := g) (tt := tt) (te := te) (m := m) (vs := vs) enc F q env0 bs [] (by simpa using hl) h
  unfold comp
  rw [hfi]
  simp only [R.bind_ok, h0, q1, List.nil_append, hb]
theorem set_none {env : En} {i : Nat} (hi : env[i]? = some none) : env.set i none = env := by
  apply List.ext_getElem?
  intro j
  rw [List.getElem?_set]
  split
  · rename_i e
    subst e
    split
    · exact hi.symm
    · rename_i h
      exact (h (List.getElem?_eq_some_iff.mp hi).1).elim
  · rfl
/-- one name, an item that changes nothing -/
theorem comp_map1 {β : Type} {fi : En → R (List D)} {te : En → R (D × Nat)} {m i : Nat} (enc F : β → D) {env env1 : En} {bs : List β} (hfi : fi env = .ok (bs.map enc) env1) (hi : env1[i]? = some none) (hl : bs.length ≤ 100000)
    (h : ∀ b ∈ bs, te (env1.set i (some (enc b, 0))) = .ok (F b, m) (env1.set i (some (enc b, 0)))) : comp fi (nameG i) yesT te m [i] env = .ok (.lst (bs.map F), m + 1) env1 := by
  have hlt := (List.getElem?_eq_some_iff.mp hi).1
  refine comp_mapT enc F env1 hfi (set_none hi) ?_ (le_lim hl) fun b hb => ⟨_, _, _, ?_, rfl, h b hb, ?_⟩
  · show env1.set i _ = env1
    rw [hi]
    exact set_none hi
  · unfold nameG
    rw [if_pos hlt]
  · show (env1.set i _).set i none = env1
    rw [List.set_set]
    exact set_none hi
/-- the same with a test -/
theorem comp_filter1 {β : Type} {fi : En → R (List D)} {tt : En → R Bool} {te : En → R (D × Nat)} {m i : Nat} (enc F : β → D) (q : β → Bool) {env env1 : En} {bs : List β} (hfi : fi env = .ok (bs.map enc) env1) (hi : env1[i]? = some none) (hl : bs.length ≤ 100000)
    (h : ∀ b ∈ bs, tt (env1.set i (some (enc b, 0))) = .ok (q b) (env1.set i (some (enc b, 0))) ∧ (q b = true → te (env1.set i (some (enc b, 0))) = .ok (F b, m) (env1.set i (some (enc b, 0))))) : comp fi (nameG i) tt te m [i] env = .ok (.lst ((bs.filter q).map F), m + 1) env1 := by
  have hlt := (List.getElem?_eq_some_iff.mp hi).1
  refine comp_filterT enc F q env1 hfi (set_none hi) ?_ (le_lim hl) fun b hb => ⟨_, _, ?_, (h b hb).1, fun _ => ?_, fun hq => ⟨_, (h b hb).2 hq, ?_⟩⟩
  · show env1.set i _ = env1
    rw [hi]
    exact set_none hi
  · unfold nameG
    rw [if_pos hlt]
  · show (env1.set i _).set i none = env1
    rw [List.set_set]
    exact set_none hi
  · show (env1.set i _).set i none = env1
    rw [List.set_set]
    exact set_none hi
end Pv
end

section
open PySem PySem.Spec PyProof.Rows L2 Pv
namespace L47
def topS (i : Nat) : Stmt := PySem.Challenge.pw_momentroads_k47_whole_graphs_and_closed.main.body.getD i (.Pass ⟨0, 0, 0, 0⟩)
abbrev s__law_state : Stmt := topS 24
theorem sc__law_state : FnScope ["script", "seed", "total", "cell"] ["script"] (defScope s__law_state) := ⟨rfl, rfl, rfl, by decide +kernel, rfl, by decide +kernel, by decide +kernel⟩
abbrev s__law_take : Stmt := topS 25
theorem sc__law_take : FnScope ["state", "m", "value"] ["state", "m"] (defScope s__law_take) := ⟨rfl, rfl, rfl, by decide +kernel, rfl, by decide +kernel, by decide +kernel⟩
abbrev s__law_table : Stmt := topS 30
theorem sc__law_table : FnScope ["G", "table", "n", "edges", "x", "y"] ["G"] (defScope s__law_table) := ⟨rfl, rfl, rfl, by decide +kernel, rfl, by decide +kernel, by decide +kernel⟩
abbrev s__law_led : Stmt := topS 31
theorem sc__law_led : FnScope ["table", "column", "row", "y"] ["table", "column"] (defScope s__law_led) := ⟨rfl, rfl, rfl, by decide +kernel, rfl, by decide +kernel, by decide +kernel⟩
abbrev s__law_whole : Stmt := topS 34
theorem sc__law_whole : FnScope ["value"] ["value"] (defScope s__law_whole) := ⟨rfl, rfl, rfl, by decide +kernel, rfl, by decide +kernel, by decide +kernel⟩
abbrev s_is_integer : Stmt := topS 5
theorem sc_is_integer : FnScope ["value"] ["value"] (defScope s_is_integer) := ⟨rfl, rfl, rfl, by decide +kernel, rfl, by decide +kernel, by decide +kernel⟩
abbrev s_near_points : Stmt := topS 16
theorem sc_near_points : FnScope ["G", "found", "x", "y", "_"] ["G"] (defScope s_near_points) := ⟨rfl, rfl, rfl, by decide +kernel, rfl, by decide +kernel, by decide +kernel⟩
abbrev s_start_row : Stmt := topS 18
theorem sc_start_row : FnScope ["n", "x", "y"] ["n", "x"] (defScope s_start_row) := ⟨rfl, rfl, rfl, by decide +kernel, rfl, by decide +kernel, by decide +kernel⟩
abbrev s_led : Stmt := topS 17
theorem sc_led : FnScope ["near", "row", "others", "y"] ["near", "row"] (defScope s_led) := ⟨rfl, rfl, rfl, by decide +kernel, rfl, by decide +kernel, by decide +kernel⟩
abbrev s__law_graph : Stmt := topS 33
theorem sc__law_graph : FnScope ["state", "most", "n", "edges", "x", "turn", "y"] ["state", "most"] (defScope s__law_graph) := ⟨rfl, rfl, rfl, by decide +kernel, rfl, by decide +kernel, by decide +kernel⟩
abbrev s__law_walks : Stmt := topS 32
theorem sc__law_walks : FnScope ["G", "n", "column", "k", "table", "found", "x"] ["G", "n"] (defScope s__law_walks) := ⟨rfl, rfl, rfl, by decide +kernel, rfl, by decide +kernel, by decide +kernel⟩
abbrev s__law_is_graph : Stmt := topS 35
theorem sc__law_is_graph : FnScope ["value", "edges", "edge"] ["value"] (defScope s__law_is_graph) := ⟨rfl, rfl, rfl, by decide +kernel, rfl, by decide +kernel, by decide +kernel⟩
abbrev s_is_point : Stmt := topS 11
theorem sc_is_point : FnScope ["value", "n"] ["value", "n"] (defScope s_is_point) := ⟨rfl, rfl, rfl, by decide +kernel, rfl, by decide +kernel, by decide +kernel⟩
abbrev s_check_length : Stmt := topS 15
theorem sc_check_length : FnScope ["n", "most"] ["n", "most"] (defScope s_check_length) := ⟨rfl, rfl, rfl, by decide +kernel, rfl, by decide +kernel, by decide +kernel⟩
abbrev s_walk_counts : Stmt := topS 19
theorem sc_walk_counts : FnScope ["G", "n", "_", "near", "row", "found"] ["G", "n"] (defScope s_walk_counts) := ⟨rfl, rfl, rfl, by decide +kernel, rfl, by decide +kernel, by decide +kernel⟩
abbrev s_is_edge : Stmt := topS 12
theorem sc_is_edge : FnScope ["value", "n"] ["value", "n"] (defScope s_is_edge) := ⟨rfl, rfl, rfl, by decide +kernel, rfl, by decide +kernel, by decide +kernel⟩
abbrev s_is_rooted_graph : Stmt := topS 13
theorem sc_is_rooted_graph : FnScope ["value", "n", "edges", "edge", "one", "two"] ["value"] (defScope s_is_rooted_graph) := ⟨rfl, rfl, rfl, by decide +kernel, rfl, by decide +kernel, by decide +kernel⟩
abbrev s_check_graph : Stmt := topS 14
theorem sc_check_graph : FnScope ["G"] ["G"] (defScope s_check_graph) := ⟨rfl, rfl, rfl, by decide +kernel, rfl, by decide +kernel, by decide +kernel⟩
abbrev s_closed_walks : Stmt := topS 20
theorem sc_closed_walks : FnScope ["G", "n", "c"] ["G", "n"] (defScope s_closed_walks) := ⟨rfl, rfl, rfl, by decide +kernel, rfl, by decide +kernel, by decide +kernel⟩
abbrev s_first_walks : Stmt := topS 21
theorem sc_first_walks : FnScope ["G", "n", "_", "near", "row", "found"] ["G", "n"] (defScope s_first_walks) := ⟨rfl, rfl, rfl, by decide +kernel, rfl, by decide +kernel, by decide +kernel⟩
abbrev s_walk_number : Stmt := topS 22
theorem sc_walk_number : FnScope ["G", "x", "y", "k", "_", "near", "row"] ["G", "x", "y", "k"] (defScope s_walk_number) := ⟨rfl, rfl, rfl, by decide +kernel, rfl, by decide +kernel, by decide +kernel⟩
abbrev s__law_same : Stmt := topS 26
theorem sc__law_same : FnScope ["value", "due", "k"] ["value", "due"] (defScope s__law_same) := ⟨rfl, rfl, rfl, by decide +kernel, rfl, by decide +kernel, by decide +kernel⟩
abbrev s__law_told : Stmt := topS 27
theorem sc__law_told : FnScope ["f", "given"] ["f", "given"] (defScope s__law_told) := ⟨rfl, rfl, rfl, by decide +kernel, rfl, by decide +kernel, by decide +kernel⟩
abbrev s__law_is_raised : Stmt := topS 29
theorem sc__law_is_raised : FnScope ["pair", "reason"] ["pair", "reason"] (defScope s__law_is_raised) := ⟨rfl, rfl, rfl, by decide +kernel, rfl, by decide +kernel, by decide +kernel⟩
abbrev s__law_is_told : Stmt := topS 28
theorem sc__law_is_told : FnScope ["pair", "due"] ["pair", "due"] (defScope s__law_is_told) := ⟨rfl, rfl, rfl, by decide +kernel, rfl, by decide +kernel, by decide +kernel⟩
abbrev s__law_values_hold : Stmt := topS 36
theorem sc__law_values_hold : FnScope ["state", "G", "values", "value", "bad", "n", "edges", "due", "x", "y", "k", "act", "given"] ["state", "G"] (defScope s__law_values_hold) := ⟨rfl, rfl, rfl, by decide +kernel, rfl, by decide +kernel, by decide +kernel⟩
abbrev s_law : Stmt := topS 37
theorem sc_law : FnScope ["script", "state", "G", "n", "walks", "first", "k", "column", "table", "turn", "x", "y", "z", "b", "m", "i"] ["script"] (defScope s_law) := ⟨rfl, rfl, rfl, by decide +kernel, rfl, by decide +kernel, by decide +kernel⟩
/-- where the program's top has left its things -/
structure Facts (K : PySem.W.Frag) (mg : Str → Option Value) where
  d__law_state : DA K mg "_law_state" s__law_state ["script"]
  d__law_take : DA K mg "_law_take" s__law_take ["state", "m"]
  d__law_table : DA K mg "_law_table" s__law_table ["G"]
  d__law_led : DA K mg "_law_led" s__law_led ["table", "column"]
  d__law_whole : DA K mg "_law_whole" s__law_whole ["value"]
  d_is_integer : DA K mg "is_integer" s_is_integer ["value"]
  d_near_points : DA K mg "near_points" s_near_points ["G"]
  d_start_row : DA K mg "start_row" s_start_row ["n", "x"]
  d_led : DA K mg "led" s_led ["near", "row"]
  d__law_graph : DA K mg "_law_graph" s__law_graph ["state", "most"]
  d__law_walks : DA K mg "_law_walks" s__law_walks ["G", "n"]
  d__law_is_graph : DA K mg "_law_is_graph" s__law_is_graph ["value"]
  d_is_point : DA K mg "is_point" s_is_point ["value", "n"]
  d_check_length : DA K mg "check_length" s_check_length ["n", "most"]
  d_walk_counts : DA K mg "walk_counts" s_walk_counts ["G", "n"]
  d_is_edge : DA K mg "is_edge" s_is_edge ["value", "n"]
  d_is_rooted_graph : DA K mg "is_rooted_graph" s_is_rooted_graph ["value"]
  d_check_graph : DA K mg "check_graph" s_check_graph ["G"]
  d_closed_walks : DA K mg "closed_walks" s_closed_walks ["G", "n"]
  d_first_walks : DA K mg "first_walks" s_first_walks ["G", "n"]
  d_walk_number : DA K mg "walk_number" s_walk_number ["G", "x", "y", "k"]
  d__law_same : DA K mg "_law_same" s__law_same ["value", "due"]
  d__law_told : DA K mg "_law_told" s__law_told ["f", "given"]
  d__law_is_raised : DA K mg "_law_is_raised" s__law_is_raised ["pair", "reason"]
  d__law_is_told : DA K mg "_law_is_told" s__law_is_told ["pair", "due"]
  d__law_values_hold : DA K mg "_law_values_hold" s__law_values_hold ["state", "G"]
  d_law : DA K mg "law" s_law ["script"]
  x_Malformed : XA K mg "Malformed"
  t_MOST_EDGES : Tok
  c_MOST_EDGES : mg "MOST_EDGES" = some (.int 4000 t_MOST_EDGES)
  t_MOST_LENGTH : Tok
  c_MOST_LENGTH : mg "MOST_LENGTH" = some (.int 12 t_MOST_LENGTH)
  t_MOST_POINTS : Tok
  c_MOST_POINTS : mg "MOST_POINTS" = some (.int 400 t_MOST_POINTS)
  t_MOST_STEPS : Tok
  c_MOST_STEPS : mg "MOST_STEPS" = some (.int 60 t_MOST_STEPS)
  b_abs : mg "abs" = none
  b_all : mg "all" = none
  b_any : mg "any" = none
  b_bool : mg "bool" = none
  b_int : mg "int" = none
  b_isinstance : mg "isinstance" = none
  b_len : mg "len" = none
  b_list : mg "list" = none
  b_max : mg "max" = none
  b_min : mg "min" = none
  b_range : mg "range" = none
  b_sorted : mg "sorted" = none
  b_str : mg "str" = none
  b_sum : mg "sum" = none
  b_tuple : mg "tuple" = none
  b_zip : mg "zip" = none
def Facts.C {K : PySem.W.Frag} {mg : Str → Option Value} (E : Facts K mg) : RC := ⟨K, fun i => match i with
  | 0 => some E.d_closed_walks.f
  | 1 => some E.d_first_walks.f
  | 2 => some E.d_walk_number.f
  | _ => none, fun i => match i with
  | 1 => some E.x_Malformed.a
  | _ => none⟩
variable {P : Program} {w : World} {K : PySem.W.Frag} {mg : Str → Option Value} {base : Heap} (E : Facts K mg)
abbrev g__law_state_1 : En → SR := (setS 1 ((eOfV (kI 0))))
abbrev g__law_state_2 : En → SR := (setS 2 ((eOfV (kI 1))))
abbrev g__law_state_3 : En → SR := (forS (seqI' ((vOfE (opS (nmO 0) pNone (pSome (kI 63)))))) (nameG 3) (seqS
  (setS 1 ((op2 addD (oOfV ((vOfE (op2 mulD (nmO 1) (oOfV (kI 1000003)))))) (oOfV ((vOfE (op1 absD (nmO 3)))))))) (setS 2 ((op2 modD (oOfV ((vOfE (op1 intD (oOfV ((vOfE (op2 addD (oOfV ((vOfE (op2 mulD (nmO 2) (oOfV (kI 48271)))))) (nmO 3))))))))) (oOfV (kI 2147483647)))))))
abbrev g__law_state_4 : En → SR := (retS ((lstE (aCons ((nmV 1)) (aCons ((nmV 2)) aNil)))))
def g__law_state : En → SR := (seqS g__law_state_1 (seqS g__law_state_2 (seqS g__law_state_3 g__law_state_4)))
def F__law_state : Sl → List D → FR := fnF 4 false g__law_state
set_option maxRecDepth 100000 in
theorem ok__law_state : FnV P w K mg base E.C 1 E.d__law_state.f E.d__law_state.fd ["script"] false F__law_state :=
  fnV_of E.d__law_state.F sc__law_state false [] rfl (fun h => nomatch h) fun cdv A outer s H X σ₀ hr G => by
    exact (eb_cons
  (es_set (i := 1) G rfl (by first | exact .inl rfl | exact .inr rfl) (show (1 : Nat) ∉ ([] : List Nat) by decide) (EvV.toE ev_int)) (eb_cons
  (es_set (i := 2) G rfl (by first | exact .inl rfl | exact .inr rfl) (show (2 : Nat) ∉ ([] : List Nat) by decide) (EvV.toE ev_int)) (eb_cons
  (es_for G (passes_of rfl) (ei_seq G (EvE.toV (ev_slice G (ev_nameO (i := 0) rfl (by first | exact .inl rfl | exact .inr (.inl rfl) | exact .inr (.inr rfl))) ep_none (ep_some ev_int)))) (eg_name (i := 3) G rfl (by first | exact .inl rfl | exact .inr rfl) (show (3 : Nat) ∉ ([] : List Nat) by decide)) (eb_cons
  (es_set (i := 1) G rfl (by first | exact .inl rfl | exact .inr rfl) (show (1 : Nat) ∉ ([] : List Nat) by decide) (ev_add G (EvV.toO (EvE.toV (ev_mul G (ev_nameO (i := 1) rfl (by first | exact .inl rfl | exact .inr (.inl rfl) | exact .inr (.inr rfl))) (EvV.toO ev_int)))) (EvV.toO (EvE.toV (ev_abs (by rfl) E.b_abs (ev_nameO (i := 3) rfl (by first | exact .inl rfl | exact .inr (.inl rfl) | exact .inr (.inr rfl)))))))) (eb_one (es_set (i := 2) G rfl (by first | exact .inl rfl | exact .inr rfl) (show (2 : Nat) ∉ ([] : List Nat) by decide) (ev_mod (EvV.toO (EvE.toV (ev_int1 (by rfl) E.b_int (EvV.toO (EvE.toV (ev_add G (EvV.toO (EvE.toV (ev_mul G (ev_nameO (i := 2) rfl (by first | exact .inl rfl | exact .inr (.inl rfl) | exact .inr (.inr rfl))) (EvV.toO ev_int)))) (ev_nameO (i := 3) rfl (by first | exact .inl rfl | exact .inr (.inl rfl) | exact .inr (.inr rfl))))))))) (EvV.toO ev_int)))))) (eb_one (es_ret (ev_lst (ea_cons (ev_name (i := 1) rfl (by first | exact .inl rfl | exact .inr (.inl rfl) | exact .inr (.inr rfl))) (ea_cons (ev_name (i := 2) rfl (by first | exact .inl rfl | exact .inr (.inl rfl) | exact .inr (.inr rfl))) ea_nil))))))))
abbrev g__law_take_1 : En → SR := (iteS (tst (op2 (cmpD fun i j => decide (j < i)) (oOfV ((vOfE (op2 idxD (nmO 0) (oOfV (kI 0)))))) (oOfV (kI 0)))) (seqS
  (setS 2 ((op2 modD (oOfV ((vOfE (op1 intD (oOfV ((vOfE (op2 idxD (nmO 0) (oOfV (kI 0)))))))))) (nmO 1)))) (seqS
  (sItS 0 ((vOfE (op2 fdivD (oOfV ((vOfE (op2 idxD (nmO 0) (oOfV (kI 0)))))) (nmO 1)))) (kI 0)) (retM 2))) passS)
abbrev g__law_take_2 : En → SR := (sItS 0 ((vOfE (op2 modD (oOfV ((vOfE (op1 intD (oOfV ((vOfE (op2 addD (oOfV ((vOfE (op2 mulD (oOfV ((vOfE (op2 idxD (nmO 0) (oOfV (kI 1)))))) (oOfV (kI 48271)))))) (oOfV (kI 11)))))))))) (oOfV (kI 2147483647))))) (kI 1))
abbrev g__law_take_3 : En → SR := (retS ((op2 modD (oOfV ((vOfE (op1 intD (oOfV ((vOfE (op2 fdivD (oOfV ((vOfE (op2 idxD (nmO 0) (oOfV (kI 1)))))) (oOfV (kI 7)))))))))) (nmO 1))))
def g__law_take : En → SR := (seqS g__law_take_1 (seqS g__law_take_2 g__law_take_3))
def F__law_take : Sl → List D → FR := fnF 3 true g__law_take
set_option maxRecDepth 100000 in
theorem ok__law_take : FnV P w K mg base E.C 1 E.d__law_take.f E.d__law_take.fd ["state", "m"] true F__law_take :=
  fnV_of E.d__law_take.F sc__law_take true [0] rfl (fun _ => ⟨by decide, by decide⟩) fun cdv A outer s H X σ₀ hr G => by
    exact (eb_cons
  (es_if (et_cmp (cGt) (EvV.toO (EvE.toV (ev_idx G hr (ev_nameO (i := 0) rfl (by first | exact .inl rfl | exact .inr (.inl rfl) | exact .inr (.inr rfl))) (EvV.toO ev_int)))) (EvV.toO ev_int)) (eb_cons
  (es_set (i := 2) G rfl (by first | exact .inl rfl | exact .inr rfl) (show (2 : Nat) ∉ ([0] : List Nat) by decide) (ev_mod (EvV.toO (EvE.toV (ev_int1 (by rfl) E.b_int (EvV.toO (EvE.toV (ev_idx G hr (ev_nameO (i := 0) rfl (by first | exact .inl rfl | exact .inr (.inl rfl) | exact .inr (.inr rfl))) (EvV.toO ev_int))))))) (ev_nameO (i := 1) rfl (by first | exact .inl rfl | exact .inr (.inl rfl) | exact .inr (.inr rfl))))) (eb_cons
  (es_sub (i := 0) G hr rfl (by first | exact .inl rfl | exact .inr (.inl rfl) | exact .inr (.inr rfl)) (EvE.toV (ev_fdiv (EvV.toO (EvE.toV (ev_idx G hr (ev_nameO (i := 0) rfl (by first | exact .inl rfl | exact .inr (.inl rfl) | exact .inr (.inr rfl))) (EvV.toO ev_int)))) (ev_nameO (i := 1) rfl (by first | exact .inl rfl | exact .inr (.inl rfl) | exact .inr (.inr rfl))))) ev_int) (eb_one (es_retM (i := 2) rfl (by first | exact .inl rfl | exact .inr (.inl rfl) | exact .inr (.inr rfl)))))) eb_nil) (eb_cons
  (es_sub (i := 0) G hr rfl (by first | exact .inl rfl | exact .inr (.inl rfl) | exact .inr (.inr rfl)) (EvE.toV (ev_mod (EvV.toO (EvE.toV (ev_int1 (by rfl) E.b_int (EvV.toO (EvE.toV (ev_add G (EvV.toO (EvE.toV (ev_mul G (EvV.toO (EvE.toV (ev_idx G hr (ev_nameO (i := 0) rfl (by first | exact .inl rfl | exact .inr (.inl rfl) | exact .inr (.inr rfl))) (EvV.toO ev_int)))) (EvV.toO ev_int)))) (EvV.toO ev_int))))))) (EvV.toO ev_int))) ev_int) (eb_one (es_ret (ev_mod (EvV.toO (EvE.toV (ev_int1 (by rfl) E.b_int (EvV.toO (EvE.toV (ev_fdiv (EvV.toO (EvE.toV (ev_idx G hr (ev_nameO (i := 0) rfl (by first | exact .inl rfl | exact .inr (.inl rfl) | exact .inr (.inr rfl))) (EvV.toO ev_int)))) (EvV.toO ev_int))))))) (ev_nameO (i := 1) rfl (by first | exact .inl rfl | exact .inr (.inl rfl) | exact .inr (.inr rfl))))))))
abbrev g__law_table_1 : En → SR := (asgS (tupG 2 (consG (nameG 2) (consG (nameG 3) nilG))) ((nmV 0)))
abbrev g__law_table_2 : En → SR := (setS 1 (comp (rg1 (aCons ((nmV 2)) aNil)) (nameG 4) (yesT) ((comp (rg1 (aCons ((nmV 2)) aNil)) (nameG 5) (yesT) ((eOfV (kI 0))) 0 [5])) 1 [4]))
abbrev g__law_table_3 : En → SR := (forS (seqI' ((nmV 3))) (tupG 2 (consG (nameG 4) (consG (nameG 5) nilG))) (seqS
  (sIt2 1 ((vOfE (op2 addD (oOfV ((ix2 1 (nmK 4) (nmK 5)))) (oOfV (kI 1))))) (nmK 4) (nmK 5)) (iteS (tst (op2 neD (nmO 4) (nmO 5))) (sIt2 1 ((vOfE (op2 addD (oOfV ((ix2 1 (nmK 5) (nmK 4)))) (oOfV (kI 1))))) (nmK 5) (nmK 4)) passS)))
abbrev g__law_table_4 : En → SR := (retM 1)
def g__law_table : En → SR := (seqS g__law_table_1 (seqS g__law_table_2 (seqS g__law_table_3 g__law_table_4)))
def F__law_table : Sl → List D → FR := fnF 6 false g__law_table
set_option maxRecDepth 100000 in
theorem ok__law_table : FnV P w K mg base E.C 1 E.d__law_table.f E.d__law_table.fd ["G"] false F__law_table :=
  fnV_of E.d__law_table.F sc__law_table false [] rfl (fun h => nomatch h) fun cdv A outer s H X σ₀ hr G => by
    exact (eb_cons
  (es_asg (ev_name (i := 0) rfl (by first | exact .inl rfl | exact .inr (.inl rfl) | exact .inr (.inr rfl))) (eg_tup G (egs_cons (eg_name (i := 2) G rfl (by first | exact .inl rfl | exact .inr rfl) (show (2 : Nat) ∉ ([] : List Nat) by decide)) (egs_cons (eg_name (i := 3) G rfl (by first | exact .inl rfl | exact .inr rfl) (show (3 : Nat) ∉ ([] : List Nat) by decide)) egs_nil)))) (eb_cons
  (es_setLc (i := 1) (own := [((PySem.Str.ofString "x"), 4)]) (vs := [4]) (ws := [4]) 1 G rfl rfl (show (1 : Nat) ∉ ([] : List Nat) by decide) (sw_true rfl rfl rfl rfl) (ei_rg1 (by rfl) E.b_range (ea_cons (ev_name (i := 2) rfl (by first | exact .inl rfl | exact .inr (.inl rfl) | exact .inr (.inr rfl))) ea_nil)) (blkOk_by (by kernel_rfl)) rfl (by decide) (fun _ _ _ _ _ => blkG G fun G => (eg_name (i := 4) G rfl (by first | exact .inl rfl | exact .inr rfl) (show (4 : Nat) ∉ ([] : List Nat) by decide))) (fun _ _ _ _ _ => blkT G fun G => ept_nil) (fun _ _ _ _ _ => blkE G fun G => (ev_lc (own := [((PySem.Str.ofString "y"), 5)]) (vs := [5]) (ws := [5]) 0 G (ei_rg1 (by rfl) E.b_range (ea_cons (ev_name (i := 2) rfl (by first | exact .inl rfl | exact .inr (.inl rfl) | exact .inr (.inr rfl))) ea_nil)) (blkOk_by (by kernel_rfl)) rfl (by decide) (fun _ _ _ _ _ => blkG G fun G => (eg_name (i := 5) G rfl (by first | exact .inl rfl | exact .inr rfl) (show (5 : Nat) ∉ ([] : List Nat) by decide))) (fun _ _ _ _ _ => blkT G fun G => ept_nil) (fun _ _ _ _ _ => blkE G fun G => (EvV.toE ev_int))))) (eb_cons
  (es_for G (passes_of rfl) (ei_seq G (ev_name (i := 3) rfl (by first | exact .inl rfl | exact .inr (.inl rfl) | exact .inr (.inr rfl)))) (eg_tup G (egs_cons (eg_name (i := 4) G rfl (by first | exact .inl rfl | exact .inr rfl) (show (4 : Nat) ∉ ([] : List Nat) by decide)) (egs_cons (eg_name (i := 5) G rfl (by first | exact .inl rfl | exact .inr rfl) (show (5 : Nat) ∉ ([] : List Nat) by decide)) egs_nil))) (eb_cons
  (es_sub2 (i := 1) rfl (by first | exact .inl rfl | exact .inr (.inl rfl) | exact .inr (.inr rfl)) (EvE.toV (ev_add G (EvV.toO (ev_ix2 (i := 1) rfl (by first | exact .inl rfl | exact .inr (.inl rfl) | exact .inr (.inr rfl)) (ek_name (i := 4) rfl (by first | exact .inl rfl | exact .inr (.inl rfl) | exact .inr (.inr rfl))) (ek_name (i := 5) rfl (by first | exact .inl rfl | exact .inr (.inl rfl) | exact .inr (.inr rfl))))) (EvV.toO ev_int))) (ek_name (i := 4) rfl (by first | exact .inl rfl | exact .inr (.inl rfl) | exact .inr (.inr rfl))) (ek_name (i := 5) rfl (by first | exact .inl rfl | exact .inr (.inl rfl) | exact .inr (.inr rfl)))) (eb_one (es_if (et_cmp (cNe G hr) (ev_nameO (i := 4) rfl (by first | exact .inl rfl | exact .inr (.inl rfl) | exact .inr (.inr rfl))) (ev_nameO (i := 5) rfl (by first | exact .inl rfl | exact .inr (.inl rfl) | exact .inr (.inr rfl)))) (eb_one (es_sub2 (i := 1) rfl (by first | exact .inl rfl | exact .inr (.inl rfl) | exact .inr (.inr rfl)) (EvE.toV (ev_add G (EvV.toO (ev_ix2 (i := 1) rfl (by first | exact .inl rfl | exact .inr (.inl rfl) | exact .inr (.inr rfl)) (ek_name (i := 5) rfl (by first | exact .inl rfl | exact .inr (.inl rfl) | exact .inr (.inr rfl))) (ek_name (i := 4) rfl (by first | exact .inl rfl | exact .inr (.inl rfl) | exact .inr (.inr rfl))))) (EvV.toO ev_int))) (ek_name (i := 5) rfl (by first | exact .inl rfl | exact .inr (.inl rfl) | exact .inr (.inr rfl))) (ek_name (i := 4) rfl (by first | exact .inl rfl | exact .inr (.inl rfl) | exact .inr (.inr rfl))))) eb_nil)))) (eb_one (es_retM (i := 1) rfl (by first | exact .inl rfl | exact .inr (.inl rfl) | exact .inr (.inr rfl)))))))
def g__law_led : En → SR := (retS ((comp (seqI' ((nmV 0))) (nameG 2) (yesT) ((eOfV ((vOfE (op1 sumD (oOfV ((vOfE (comp (rg1 (aCons ((vOfE (op1 lenD (nmO 1)))) aNil)) (nameG 3) (yesT) ((eOfV ((vOfE (op2 mulD (oOfV ((vOfE (op2 idxD (nmO 2) (nmO 3))))) (oOfV ((vOfE (op2 idxD (nmO 1) (nmO 3)))))))))) 0 [3]))))))))) 0 [2])))
def F__law_led : Sl → List D → FR := fnF 4 false g__law_led
set_option maxRecDepth 100000 in
theorem ok__law_led : FnV P w K mg base E.C 1 E.d__law_led.f E.d__law_led.fd ["table", "column"] false F__law_led :=
  fnV_of E.d__law_led.F sc__law_led false [] rfl (fun h => nomatch h) fun cdv A outer s H X σ₀ hr G => by
    exact (eb_one (es_ret (ev_lc (own := [((PySem.Str.ofString "row"), 2)]) (vs := [2]) (ws := [2]) 0 G (ei_seq G (ev_name (i := 0) rfl (by first | exact .inl rfl | exact .inr (.inl rfl) | exact .inr (.inr rfl)))) (blkOk_by (by kernel_rfl)) rfl (by decide) (fun _ _ _ _ _ => blkG G fun G => (eg_name (i := 2) G rfl (by first | exact .inl rfl | exact .inr rfl) (show (2 : Nat) ∉ ([] : List Nat) by decide))) (fun _ _ _ _ _ => blkT G fun G => ept_nil) (fun _ _ _ _ _ => blkE G fun G => (EvV.toE (EvE.toV (ev_sum G (by rfl) E.b_sum (EvV.toO (EvE.toV (ev_lc (own := [((PySem.Str.ofString "y"), 3)]) (vs := [3]) (ws := [3]) 0 G (ei_rg1 (by rfl) E.b_range (ea_cons (EvE.toV (ev_len G (by rfl) E.b_len (ev_nameO (i := 1) rfl (by first | exact .inl rfl | exact .inr (.inl rfl) | exact .inr (.inr rfl))))) ea_nil)) (blkOk_by (by kernel_rfl)) rfl (by decide) (fun _ _ _ _ _ => blkG G fun G => (eg_name (i := 3) G rfl (by first | exact .inl rfl | exact .inr rfl) (show (3 : Nat) ∉ ([] : List Nat) by decide))) (fun _ _ _ _ _ => blkT G fun G => ept_nil) (fun _ _ _ _ _ => blkE G fun G => (EvV.toE (EvE.toV (ev_mul G (EvV.toO (EvE.toV (ev_idx G hr (ev_nameO (i := 2) rfl (by first | exact .inl rfl | exact .inr (.inl rfl) | exact .inr (.inr rfl))) (ev_nameO (i := 3) rfl (by first | exact .inl rfl | exact .inr (.inl rfl) | exact .inr (.inr rfl)))))) (EvV.toO (EvE.toV (ev_idx G hr (ev_nameO (i := 1) rfl (by first | exact .inl rfl | exact .inr (.inl rfl) | exact .inr (.inr rfl))) (ev_nameO (i := 3) rfl (by first | exact .inl rfl | exact .inr (.inl rfl) | exact .inr (.inr rfl))))))))))))))))))))
def g__law_whole : En → SR := (retS ((eOfV ((andV ((vOfE (op1 (isiD "int") (nmO 0)))) ((notV ((vOfE (op1 (isiD "bool") (nmO 0)))))))))))
def F__law_whole : Sl → List D → FR := fnF 1 false g__law_whole
set_option maxRecDepth 100000 in
theorem ok__law_whole : FnV P w K mg base E.C 1 E.d__law_whole.f E.d__law_whole.fd ["value"] false F__law_whole :=
  fnV_of E.d__law_whole.F sc__law_whole false [] rfl (fun h => nomatch h) fun cdv A outer s H X σ₀ hr G => by
    exact (eb_one (es_ret (EvV.toE (ev_and (EvE.toV (ev_isi G (T := "int") (by decide) (by decide +kernel) (by rfl) E.b_isinstance (by rfl) E.b_int (ev_nameO (i := 0) rfl (by first | exact .inl rfl | exact .inr (.inl rfl) | exact .inr (.inr rfl))))) (ev_one (ev_not (EvE.toV (ev_isi G (T := "bool") (by decide) (by decide +kernel) (by rfl) E.b_isinstance (by rfl) E.b_bool (ev_nameO (i := 0) rfl (by first | exact .inl rfl | exact .inr (.inl rfl) | exact .inr (.inr rfl)))))))))))
def g_is_integer : En → SR := (retS ((eOfV ((andV ((vOfE (op1 (isiD "int") (nmO 0)))) ((notV ((vOfE (op1 (isiD "bool") (nmO 0)))))))))))
def F_is_integer : Sl → List D → FR := fnF 1 false g_is_integer
set_option maxRecDepth 100000 in
theorem ok_is_integer : FnV P w K mg base E.C 1 E.d_is_integer.f E.d_is_integer.fd ["value"] false F_is_integer :=
  fnV_of E.d_is_integer.F sc_is_integer false [] rfl (fun h => nomatch h) fun cdv A outer s H X σ₀ hr G => by
    exact (eb_one (es_ret (EvV.toE (ev_and (EvE.toV (ev_isi G (T := "int") (by decide) (by decide +kernel) (by rfl) E.b_isinstance (by rfl) E.b_int (ev_nameO (i := 0) rfl (by first | exact .inl rfl | exact .inr (.inl rfl) | exact .inr (.inr rfl))))) (ev_one (ev_not (EvE.toV (ev_isi G (T := "bool") (by decide) (by decide +kernel) (by rfl) E.b_isinstance (by rfl) E.b_bool (ev_nameO (i := 0) rfl (by first | exact .inl rfl | exact .inr (.inl rfl) | exact .inr (.inr rfl)))))))))))
abbrev g_near_points_1 : En → SR := (setS 1 (comp (rg1 (aCons ((vOfE (op2 idxD (nmO 0) (oOfV (kI 0))))) aNil)) (nameG 4) (yesT) ((lstE aNil)) 1 [4]))
abbrev g_near_points_2 : En → SR := (forS (seqI' ((vOfE (op2 idxD (nmO 0) (oOfV (kI 1)))))) (tupG 2 (consG (nameG 2) (consG (nameG 3) nilG))) (seqS
  (app2S 1 (nmK 2) (nmK 3)) (iteS (tst (op2 neD (nmO 2) (nmO 3))) (app2S 1 (nmK 3) (nmK 2)) passS)))
abbrev g_near_points_3 : En → SR := (retM 1)
def g_near_points : En → SR := (seqS g_near_points_1 (seqS g_near_points_2 g_near_points_3))
def F_near_points : Sl → List D → FR := fnF 5 false g_near_points
set_option maxRecDepth 100000 in
theorem ok_near_points : FnV P w K mg base E.C 1 E.d_near_points.f E.d_near_points.fd ["G"] false F_near_points :=
  fnV_of E.d_near_points.F sc_near_points false [] rfl (fun h => nomatch h) fun cdv A outer s H X σ₀ hr G => by
    exact (eb_cons
  (es_setLc (i := 1) (own := [((PySem.Str.ofString "_"), 4)]) (vs := [4]) (ws := [4]) 1 G rfl rfl (show (1 : Nat) ∉ ([] : List Nat) by decide) (sw_true rfl rfl rfl rfl) (ei_rg1 (by rfl) E.b_range (ea_cons (EvE.toV (ev_idx G hr (ev_nameO (i := 0) rfl (by first | exact .inl rfl | exact .inr (.inl rfl) | exact .inr (.inr rfl))) (EvV.toO ev_int))) ea_nil)) (blkOk_by (by kernel_rfl)) rfl (by decide) (fun _ _ _ _ _ => blkG G fun G => (eg_name (i := 4) G rfl (by first | exact .inl rfl | exact .inr rfl) (show (4 : Nat) ∉ ([] : List Nat) by decide))) (fun _ _ _ _ _ => blkT G fun G => ept_nil) (fun _ _ _ _ _ => blkE G fun G => (ev_lst ea_nil))) (eb_cons
  (es_for G (passes_of rfl) (ei_seq G (EvE.toV (ev_idx G hr (ev_nameO (i := 0) rfl (by first | exact .inl rfl | exact .inr (.inl rfl) | exact .inr (.inr rfl))) (EvV.toO ev_int)))) (eg_tup G (egs_cons (eg_name (i := 2) G rfl (by first | exact .inl rfl | exact .inr rfl) (show (2 : Nat) ∉ ([] : List Nat) by decide)) (egs_cons (eg_name (i := 3) G rfl (by first | exact .inl rfl | exact .inr rfl) (show (3 : Nat) ∉ ([] : List Nat) by decide)) egs_nil))) (eb_cons
  (es_app2 (i := 1) G rfl (by first | exact .inl rfl | exact .inr (.inl rfl) | exact .inr (.inr rfl)) (ek_name (i := 2) rfl (by first | exact .inl rfl | exact .inr (.inl rfl) | exact .inr (.inr rfl))) (ek_name (i := 3) rfl (by first | exact .inl rfl | exact .inr (.inl rfl) | exact .inr (.inr rfl)))) (eb_one (es_if (et_cmp (cNe G hr) (ev_nameO (i := 2) rfl (by first | exact .inl rfl | exact .inr (.inl rfl) | exact .inr (.inr rfl))) (ev_nameO (i := 3) rfl (by first | exact .inl rfl | exact .inr (.inl rfl) | exact .inr (.inr rfl)))) (eb_one (es_app2 (i := 1) G rfl (by first | exact .inl rfl | exact .inr (.inl rfl) | exact .inr (.inr rfl)) (ek_name (i := 3) rfl (by first | exact .inl rfl | exact .inr (.inl rfl) | exact .inr (.inr rfl))) (ek_name (i := 2) rfl (by first | exact .inl rfl | exact .inr (.inl rfl) | exact .inr (.inr rfl))))) eb_nil)))) (eb_one (es_retM (i := 1) rfl (by first | exact .inl rfl | exact .inr (.inl rfl) | exact .inr (.inr rfl))))))
def g_start_row : En → SR := (retS ((comp (rg1 (aCons ((nmV 0)) aNil)) (nameG 2) (yesT) ((eOfV ((vOfE (op1 intD (oOfV ((vOfE (op2 eqD (nmO 2) (nmO 1)))))))))) 0 [2])))
def F_start_row : Sl → List D → FR := fnF 3 false g_start_row
set_option maxRecDepth 100000 in
theorem ok_start_row : FnV P w K mg base E.C 1 E.d_start_row.f E.d_start_row.fd ["n", "x"] false F_start_row :=
  fnV_of E.d_start_row.F sc_start_row false [] rfl (fun h => nomatch h) fun cdv A outer s H X σ₀ hr G => by
    exact (eb_one (es_ret (ev_lc (own := [((PySem.Str.ofString "y"), 2)]) (vs := [2]) (ws := [2]) 0 G (ei_rg1 (by rfl) E.b_range (ea_cons (ev_name (i := 0) rfl (by first | exact .inl rfl | exact .inr (.inl rfl) | exact .inr (.inr rfl))) ea_nil)) (blkOk_by (by kernel_rfl)) rfl (by decide) (fun _ _ _ _ _ => blkG G fun G => (eg_name (i := 2) G rfl (by first | exact .inl rfl | exact .inr rfl) (show (2 : Nat) ∉ ([] : List Nat) by decide))) (fun _ _ _ _ _ => blkT G fun G => ept_nil) (fun _ _ _ _ _ => blkE G fun G => (EvV.toE (EvE.toV (ev_int1 (by rfl) E.b_int (EvV.toO (EvE.toV (ev_cmp (cEq G hr) (ev_nameO (i := 2) rfl (by first | exact .inl rfl | exact .inr (.inl rfl) | exact .inr (.inr rfl))) (ev_nameO (i := 1) rfl (by first | exact .inl rfl | exact .inr (.inl rfl) | exact .inr (.inr rfl)))))))))))))
def g_led : En → SR := (retS ((comp (seqI' ((nmV 0))) (nameG 2) (yesT) ((eOfV ((vOfE (op1 sumD (oOfV ((vOfE (comp (seqI' ((nmV 2))) (nameG 3) (yesT) ((eOfV ((vOfE (op2 idxD (nmO 1) (nmO 3)))))) 0 [3]))))))))) 0 [2])))
def F_led : Sl → List D → FR := fnF 4 false g_led
set_option maxRecDepth 100000 in
theorem ok_led : FnV P w K mg base E.C 1 E.d_led.f E.d_led.fd ["near", "row"] false F_led :=
  fnV_of E.d_led.F sc_led false [] rfl (fun h => nomatch h) fun cdv A outer s H X σ₀ hr G => by
    exact (eb_one (es_ret (ev_lc (own := [((PySem.Str.ofString "others"), 2)]) (vs := [2]) (ws := [2]) 0 G (ei_seq G (ev_name (i := 0) rfl (by first | exact .inl rfl | exact .inr (.inl rfl) | exact .inr (.inr rfl)))) (blkOk_by (by kernel_rfl)) rfl (by decide) (fun _ _ _ _ _ => blkG G fun G => (eg_name (i := 2) G rfl (by first | exact .inl rfl | exact .inr rfl) (show (2 : Nat) ∉ ([] : List Nat) by decide))) (fun _ _ _ _ _ => blkT G fun G => ept_nil) (fun _ _ _ _ _ => blkE G fun G => (EvV.toE (EvE.toV (ev_sum G (by rfl) E.b_sum (EvV.toO (EvE.toV (ev_lc (own := [((PySem.Str.ofString "y"), 3)]) (vs := [3]) (ws := [3]) 0 G (ei_seq G (ev_name (i := 2) rfl (by first | exact .inl rfl | exact .inr (.inl rfl) | exact .inr (.inr rfl)))) (blkOk_by (by kernel_rfl)) rfl (by decide) (fun _ _ _ _ _ => blkG G fun G => (eg_name (i := 3) G rfl (by first | exact .inl rfl | exact .inr rfl) (show (3 : Nat) ∉ ([] : List Nat) by decide))) (fun _ _ _ _ _ => blkT G fun G => ept_nil) (fun _ _ _ _ _ => blkE G fun G => (EvV.toE (EvE.toV (ev_idx G hr (ev_nameO (i := 1) rfl (by first | exact .inl rfl | exact .inr (.inl rfl) | exact .inr (.inr rfl))) (ev_nameO (i := 3) rfl (by first | exact .inl rfl | exact .inr (.inl rfl) | exact .inr (.inr rfl)))))))))))))))))
abbrev g__law_graph_1 : En → SR := (setS 2 ((op2 addD (oOfV (kI 1)) (oOfV ((vOfE (callI 2 (F__law_take) 0 (aCons ((nmV 1)) aNil))))))))
abbrev g__law_graph_2 : En → SR := (setS 3 ((lstE aNil)))
abbrev g__law_graph_3 : En → SR := (forS (rg2 (aCons (kI 1) (aCons ((nmV 2)) aNil))) (nameG 4) (iteS (tst (op2 (cmpD fun i j => decide (j < i)) (oOfV ((vOfE (callI 2 (F__law_take) 0 (aCons (kI 8) aNil))))) (oOfV (kI 0)))) (appS 3 ((tupE (aCons ((vOfE (callI 2 (F__law_take) 0 (aCons ((nmV 4)) aNil)))) (aCons ((nmV 4)) aNil))))) passS))
abbrev g__law_graph_4 : En → SR := (forS (rg1 (aCons ((vOfE (callI 2 (F__law_take) 0 (aCons (kI 4) aNil)))) aNil)) (nameG 5) (seqS
  (parS 4 6 (lCons ((callI 2 (F__law_take) 0 (aCons ((nmV 2)) aNil))) (lCons ((callI 2 (F__law_take) 0 (aCons ((nmV 2)) aNil))) lNil))) (appS 3 ((tupE (aCons ((vOfE (op2 min2D (nmO 4) (nmO 6)))) (aCons ((vOfE (op2 max2D (nmO 4) (nmO 6)))) aNil)))))))
abbrev g__law_graph_5 : En → SR := (retS ((eOfV ((tupE (aCons ((nmV 2)) (aCons ((vOfE (op1 tupD (oOfV ((vOfE (op1 sortD (nmO 3)))))))) aNil)))))))
def g__law_graph : En → SR := (seqS g__law_graph_1 (seqS g__law_graph_2 (seqS g__law_graph_3 (seqS g__law_graph_4 g__law_graph_5))))
def F__law_graph : Sl → List D → FR := fnF 7 true g__law_graph
set_option maxRecDepth 100000 in
theorem ok__law_graph : FnV P w K mg base E.C 2 E.d__law_graph.f E.d__law_graph.fd ["state", "most"] true F__law_graph :=
  fnV_of E.d__law_graph.F sc__law_graph true [0] rfl (fun _ => ⟨by decide, by decide⟩) fun cdv A outer s H X σ₀ hr G => by
    exact (eb_cons
  (es_set (i := 2) G rfl (by first | exact .inl rfl | exact .inr rfl) (show (2 : Nat) ∉ ([0] : List Nat) by decide) (ev_add G (EvV.toO ev_int) (EvV.toO (EvE.toV (ev_callI G (ok__law_take E) (hr.mono (by decide)) (by rfl) E.d__law_take.m E.d__law_take.F.kp E.d__law_take.b (i := 0) rfl (by first | exact .inl rfl | exact .inr (.inl rfl) | exact .inr (.inr rfl)) (ea_cons (ev_name (i := 1) rfl (by first | exact .inl rfl | exact .inr (.inl rfl) | exact .inr (.inr rfl))) ea_nil)))))) (eb_cons
  (es_set (i := 3) G rfl (by first | exact .inl rfl | exact .inr rfl) (show (3 : Nat) ∉ ([0] : List Nat) by decide) (ev_lst ea_nil)) (eb_cons
  (es_for G (passes_of rfl) (ei_rg2 (by rfl) E.b_range (ea_cons ev_int (ea_cons (ev_name (i := 2) rfl (by first | exact .inl rfl | exact .inr (.inl rfl) | exact .inr (.inr rfl))) ea_nil))) (eg_name (i := 4) G rfl (by first | exact .inl rfl | exact .inr rfl) (show (4 : Nat) ∉ ([0] : List Nat) by decide)) (eb_one (es_if (et_cmp (cGt) (EvV.toO (EvE.toV (ev_callI G (ok__law_take E) (hr.mono (by decide)) (by rfl) E.d__law_take.m E.d__law_take.F.kp E.d__law_take.b (i := 0) rfl (by first | exact .inl rfl | exact .inr (.inl rfl) | exact .inr (.inr rfl)) (ea_cons ev_int ea_nil)))) (EvV.toO ev_int)) (eb_one (es_app (i := 3) G rfl (by first | exact .inl rfl | exact .inr (.inl rfl) | exact .inr (.inr rfl)) (ev_tup (ea_cons (EvE.toV (ev_callI G (ok__law_take E) (hr.mono (by decide)) (by rfl) E.d__law_take.m E.d__law_take.F.kp E.d__law_take.b (i := 0) rfl (by first | exact .inl rfl | exact .inr (.inl rfl) | exact .inr (.inr rfl)) (ea_cons (ev_name (i := 4) rfl (by first | exact .inl rfl | exact .inr (.inl rfl) | exact .inr (.inr rfl))) ea_nil))) (ea_cons (ev_name (i := 4) rfl (by first | exact .inl rfl | exact .inr (.inl rfl) | exact .inr (.inr rfl))) ea_nil))))) eb_nil))) (eb_cons
  (es_for G (passes_of rfl) (ei_rg1 (by rfl) E.b_range (ea_cons (EvE.toV (ev_callI G (ok__law_take E) (hr.mono (by decide)) (by rfl) E.d__law_take.m E.d__law_take.F.kp E.d__law_take.b (i := 0) rfl (by first | exact .inl rfl | exact .inr (.inl rfl) | exact .inr (.inr rfl)) (ea_cons ev_int ea_nil))) ea_nil)) (eg_name (i := 5) G rfl (by first | exact .inl rfl | exact .inr rfl) (show (5 : Nat) ∉ ([0] : List Nat) by decide)) (eb_cons
  (es_par (i := 4) (j := 6) G rfl rfl (by decide) (show (4 : Nat) ∉ ([0] : List Nat) by decide) (show (6 : Nat) ∉ ([0] : List Nat) by decide) rfl rfl (el_cons (ev_callI G (ok__law_take E) (hr.mono (by decide)) (by rfl) E.d__law_take.m E.d__law_take.F.kp E.d__law_take.b (i := 0) rfl (by first | exact .inl rfl | exact .inr (.inl rfl) | exact .inr (.inr rfl)) (ea_cons (ev_name (i := 2) rfl (by first | exact .inl rfl | exact .inr (.inl rfl) | exact .inr (.inr rfl))) ea_nil)) (el_cons (ev_callI G (ok__law_take E) (hr.mono (by decide)) (by rfl) E.d__law_take.m E.d__law_take.F.kp E.d__law_take.b (i := 0) rfl (by first | exact .inl rfl | exact .inr (.inl rfl) | exact .inr (.inr rfl)) (ea_cons (ev_name (i := 2) rfl (by first | exact .inl rfl | exact .inr (.inl rfl) | exact .inr (.inr rfl))) ea_nil)) el_nil))) (eb_one (es_app (i := 3) G rfl (by first | exact .inl rfl | exact .inr (.inl rfl) | exact .inr (.inr rfl)) (ev_tup (ea_cons (EvE.toV (ev_min2 G (by rfl) E.b_min (ev_nameO (i := 4) rfl (by first | exact .inl rfl | exact .inr (.inl rfl) | exact .inr (.inr rfl))) (ev_nameO (i := 6) rfl (by first | exact .inl rfl | exact .inr (.inl rfl) | exact .inr (.inr rfl))))) (ea_cons (EvE.toV (ev_max2 G (by rfl) E.b_max (ev_nameO (i := 4) rfl (by first | exact .inl rfl | exact .inr (.inl rfl) | exact .inr (.inr rfl))) (ev_nameO (i := 6) rfl (by first | exact .inl rfl | exact .inr (.inl rfl) | exact .inr (.inr rfl))))) ea_nil))))))) (eb_one (es_ret (EvV.toE (ev_tup (ea_cons (ev_name (i := 2) rfl (by first | exact .inl rfl | exact .inr (.inl rfl) | exact .inr (.inr rfl))) (ea_cons (EvE.toV (ev_tuple G (by rfl) E.b_tuple (EvV.toO (EvE.toV (ev_sorted G hr (by rfl) E.b_sorted (ev_nameO (i := 3) rfl (by first | exact .inl rfl | exact .inr (.inl rfl) | exact .inr (.inr rfl)))))))) ea_nil))))))))))
abbrev g__law_walks_1 : En → SR := (parS 4 5 (lCons ((callF 1 (F__law_table) (aCons ((nmV 0)) aNil))) (lCons ((lstE aNil)) lNil)))
abbrev g__law_walks_2 : En → SR := (setS 2 (comp (rg1 (aCons ((vOfE (op2 idxD (nmO 0) (oOfV (kI 0))))) aNil)) (nameG 6) (yesT) ((eOfV ((vOfE (op1 intD (oOfV ((vOfE (op2 eqD (nmO 6) (oOfV (kI 0))))))))))) 0 [6]))
abbrev g__law_walks_3 : En → SR := (forS (rg1 (aCons ((nmV 1)) aNil)) (nameG 3) (seqS
  (setS 2 ((callF 2 (F__law_led) (aCons ((nmV 4)) (aCons ((nmV 2)) aNil))))) (appS 5 ((vOfE (op2 idxD (nmO 2) (oOfV (kI 0))))))))
abbrev g__law_walks_4 : En → SR := (retM 5)
def g__law_walks : En → SR := (seqS g__law_walks_1 (seqS g__law_walks_2 (seqS g__law_walks_3 g__law_walks_4)))
def F__law_walks : Sl → List D → FR := fnF 7 false g__law_walks
set_option maxRecDepth 100000 in
theorem ok__law_walks : FnV P w K mg base E.C 2 E.d__law_walks.f E.d__law_walks.fd ["G", "n"] false F__law_walks :=
  fnV_of E.d__law_walks.F sc__law_walks false [] rfl (fun h => nomatch h) fun cdv A outer s H X σ₀ hr G => by
    exact (eb_cons
  (es_par (i := 4) (j := 5) G rfl rfl (by decide) (show (4 : Nat) ∉ ([] : List Nat) by decide) (show (5 : Nat) ∉ ([] : List Nat) by decide) rfl rfl (el_cons (ev_call G (ok__law_table E) (hr.mono (by decide)) (by rfl) E.d__law_table.m E.d__law_table.F.kp E.d__law_table.b (ea_cons (ev_name (i := 0) rfl (by first | exact .inl rfl | exact .inr (.inl rfl) | exact .inr (.inr rfl))) ea_nil)) (el_cons (ev_lst ea_nil) el_nil))) (eb_cons
  (es_setLc (i := 2) (own := [((PySem.Str.ofString "x"), 6)]) (vs := [6]) (ws := [6]) 0 G rfl rfl (show (2 : Nat) ∉ ([] : List Nat) by decide) (sw_true rfl rfl rfl rfl) (ei_rg1 (by rfl) E.b_range (ea_cons (EvE.toV (ev_idx G hr (ev_nameO (i := 0) rfl (by first | exact .inl rfl | exact .inr (.inl rfl) | exact .inr (.inr rfl))) (EvV.toO ev_int))) ea_nil)) (blkOk_by (by kernel_rfl)) rfl (by decide) (fun _ _ _ _ _ => blkG G fun G => (eg_name (i := 6) G rfl (by first | exact .inl rfl | exact .inr rfl) (show (6 : Nat) ∉ ([] : List Nat) by decide))) (fun _ _ _ _ _ => blkT G fun G => ept_nil) (fun _ _ _ _ _ => blkE G fun G => (EvV.toE (EvE.toV (ev_int1 (by rfl) E.b_int (EvV.toO (EvE.toV (ev_cmp (cEq G hr) (ev_nameO (i := 6) rfl (by first | exact .inl rfl | exact .inr (.inl rfl) | exact .inr (.inr rfl))) (EvV.toO ev_int))))))))) (eb_cons
  (es_for G (passes_of rfl) (ei_rg1 (by rfl) E.b_range (ea_cons (ev_name (i := 1) rfl (by first | exact .inl rfl | exact .inr (.inl rfl) | exact .inr (.inr rfl))) ea_nil)) (eg_name (i := 3) G rfl (by first | exact .inl rfl | exact .inr rfl) (show (3 : Nat) ∉ ([] : List Nat) by decide)) (eb_cons
  (es_set (i := 2) G rfl (by first | exact .inl rfl | exact .inr rfl) (show (2 : Nat) ∉ ([] : List Nat) by decide) (ev_call G (ok__law_led E) (hr.mono (by decide)) (by rfl) E.d__law_led.m E.d__law_led.F.kp E.d__law_led.b (ea_cons (ev_name (i := 4) rfl (by first | exact .inl rfl | exact .inr (.inl rfl) | exact .inr (.inr rfl))) (ea_cons (ev_name (i := 2) rfl (by first | exact .inl rfl | exact .inr (.inl rfl) | exact .inr (.inr rfl))) ea_nil)))) (eb_one (es_app (i := 5) G rfl (by first | exact .inl rfl | exact .inr (.inl rfl) | exact .inr (.inr rfl)) (EvE.toV (ev_idx G hr (ev_nameO (i := 2) rfl (by first | exact .inl rfl | exact .inr (.inl rfl) | exact .inr (.inr rfl))) (EvV.toO ev_int))))))) (eb_one (es_retM (i := 5) rfl (by first | exact .inl rfl | exact .inr (.inl rfl) | exact .inr (.inr rfl)))))))
abbrev g__law_is_graph_1 : En → SR := (iteS (orT (notT (tru (oOfV ((vOfE (op1 (isiD "tuple") (nmO 0))))))) (orT (tst (op2 neD (oOfV ((vOfE (op1 lenD (nmO 0))))) (oOfV (kI 2)))) (orT (notT (tru (oOfV ((vOfE (callF 1 (F__law_whole) (aCons ((vOfE (op2 idxD (nmO 0) (oOfV (kI 0))))) aNil))))))) (notT (tst (opC (cmpD fun i j => decide (i ≤ j)) (cmpD fun i j => decide (i ≤ j)) (oOfV (kI 1)) (oOfV ((vOfE (op2 idxD (nmO 0) (oOfV (kI 0)))))) (oOfV (kI 400)))))))) (retS ((eOfV (kB false)))) passS)
abbrev g__law_is_graph_2 : En → SR := (setS 1 ((op2 idxD (nmO 0) (oOfV (kI 1)))))
abbrev g__law_is_graph_3 : En → SR := (iteS (orT (notT (tru (oOfV ((vOfE (op1 (isiD "tuple") (nmO 1))))))) (tst (op2 (cmpD fun i j => decide (j < i)) (oOfV ((vOfE (op1 lenD (nmO 1))))) (oOfV (kI 4000))))) (retS ((eOfV (kB false)))) passS)
abbrev g__law_is_graph_4 : En → SR := (forS (seqI' ((nmV 1))) (nameG 2) (seqS
  (iteS (orT (notT (tru (oOfV ((vOfE (op1 (isiD "tuple") (nmO 2))))))) (orT (tst (op2 neD (oOfV ((vOfE (op1 lenD (nmO 2))))) (oOfV (kI 2)))) (orT (notT (tru (oOfV ((vOfE (callF 1 (F__law_whole) (aCons ((vOfE (op2 idxD (nmO 2) (oOfV (kI 0))))) aNil))))))) (notT (tru (oOfV ((vOfE (callF 1 (F__law_whole) (aCons ((vOfE (op2 idxD (nmO 2) (oOfV (kI 1))))) aNil)))))))))) (retS ((eOfV (kB false)))) passS) (iteS (notT (tst (opC3 (cmpD fun i j => decide (i ≤ j)) (cmpD fun i j => decide (i ≤ j)) (cmpD fun i j => decide (i < j)) (oOfV (kI 0)) (oOfV ((vOfE (op2 idxD (nmO 2) (oOfV (kI 0)))))) (oOfV ((vOfE (op2 idxD (nmO 2) (oOfV (kI 1)))))) (oOfV ((vOfE (op2 idxD (nmO 0) (oOfV (kI 0))))))))) (retS ((eOfV (kB false)))) passS)))
abbrev g__law_is_graph_5 : En → SR := (retS ((op2 eqD (oOfV ((vOfE (op1 lisD (nmO 1))))) (oOfV ((vOfE (op1 sortD (nmO 1))))))))
def g__law_is_graph : En → SR := (seqS g__law_is_graph_1 (seqS g__law_is_graph_2 (seqS g__law_is_graph_3 (seqS g__law_is_graph_4 g__law_is_graph_5))))
def F__law_is_graph : Sl → List D → FR := fnF 3 false g__law_is_graph
set_option maxRecDepth 100000 in
theorem ok__law_is_graph : FnV P w K mg base E.C 2 E.d__law_is_graph.f E.d__law_is_graph.fd ["value"] false F__law_is_graph :=
  fnV_of E.d__law_is_graph.F sc__law_is_graph false [] rfl (fun h => nomatch h) fun cdv A outer s H X σ₀ hr G => by
    exact (eb_cons
  (es_if (EvW.t (ew_or (et_not (et_tru G (EvV.toO (EvE.toV (ev_isi G (T := "tuple") (by decide) (by decide +kernel) (by rfl) E.b_isinstance (by rfl) E.b_tuple (ev_nameO (i := 0) rfl (by first | exact .inl rfl | exact .inr (.inl rfl) | exact .inr (.inr rfl)))))))) (ew_or (et_cmp (cNe G hr) (EvV.toO (EvE.toV (ev_len G (by rfl) E.b_len (ev_nameO (i := 0) rfl (by first | exact .inl rfl | exact .inr (.inl rfl) | exact .inr (.inr rfl)))))) (EvV.toO ev_int)) (ew_or (et_not (et_tru G (EvV.toO (EvE.toV (ev_call G (ok__law_whole E) (hr.mono (by decide)) (by rfl) E.d__law_whole.m E.d__law_whole.F.kp E.d__law_whole.b (ea_cons (EvE.toV (ev_idx G hr (ev_nameO (i := 0) rfl (by first | exact .inl rfl | exact .inr (.inl rfl) | exact .inr (.inr rfl))) (EvV.toO ev_int))) ea_nil)))))) (ew_or1 (et_not (et_chain (bLe) (cLe) (EvV.toO ev_int) (EvV.toO (EvE.toV (ev_idx G hr (ev_nameO (i := 0) rfl (by first | exact .inl rfl | exact .inr (.inl rfl) | exact .inr (.inr rfl))) (EvV.toO ev_int)))) (EvV.toO ev_int)))))))) (eb_one (es_ret (EvV.toE ev_bl))) eb_nil) (eb_cons
  (es_set (i := 1) G rfl (by first | exact .inl rfl | exact .inr rfl) (show (1 : Nat) ∉ ([] : List Nat) by decide) (ev_idx G hr (ev_nameO (i := 0) rfl (by first | exact .inl rfl | exact .inr (.inl rfl) | exact .inr (.inr rfl))) (EvV.toO ev_int))) (eb_cons
  (es_if (EvW.t (ew_or (et_not (et_tru G (EvV.toO (EvE.toV (ev_isi G (T := "tuple") (by decide) (by decide +kernel) (by rfl) E.b_isinstance (by rfl) E.b_tuple (ev_nameO (i := 1) rfl (by first | exact .inl rfl | exact .inr (.inl rfl) | exact .inr (.inr rfl)))))))) (ew_or1 (et_cmp (cGt) (EvV.toO (EvE.toV (ev_len G (by rfl) E.b_len (ev_nameO (i := 1) rfl (by first | exact .inl rfl | exact .inr (.inl rfl) | exact .inr (.inr rfl)))))) (EvV.toO ev_int))))) (eb_one (es_ret (EvV.toE ev_bl))) eb_nil) (eb_cons
  (es_for G (passes_of rfl) (ei_seq G (ev_name (i := 1) rfl (by first | exact .inl rfl | exact .inr (.inl rfl) | exact .inr (.inr rfl)))) (eg_name (i := 2) G rfl (by first | exact .inl rfl | exact .inr rfl) (show (2 : Nat) ∉ ([] : List Nat) by decide)) (eb_cons
  (es_if (EvW.t (ew_or (et_not (et_tru G (EvV.toO (EvE.toV (ev_isi G (T := "tuple") (by decide) (by decide +kernel) (by rfl) E.b_isinstance (by rfl) E.b_tuple (ev_nameO (i := 2) rfl (by first | exact .inl rfl | exact .inr (.inl rfl) | exact .inr (.inr rfl)))))))) (ew_or (et_cmp (cNe G hr) (EvV.toO (EvE.toV (ev_len G (by rfl) E.b_len (ev_nameO (i := 2) rfl (by first | exact .inl rfl | exact .inr (.inl rfl) | exact .inr (.inr rfl)))))) (EvV.toO ev_int)) (ew_or (et_not (et_tru G (EvV.toO (EvE.toV (ev_call G (ok__law_whole E) (hr.mono (by decide)) (by rfl) E.d__law_whole.m E.d__law_whole.F.kp E.d__law_whole.b (ea_cons (EvE.toV (ev_idx G hr (ev_nameO (i := 2) rfl (by first | exact .inl rfl | exact .inr (.inl rfl) | exact .inr (.inr rfl))) (EvV.toO ev_int))) ea_nil)))))) (ew_or1 (et_not (et_tru G (EvV.toO (EvE.toV (ev_call G (ok__law_whole E) (hr.mono (by decide)) (by rfl) E.d__law_whole.m E.d__law_whole.F.kp E.d__law_whole.b (ea_cons (EvE.toV (ev_idx G hr (ev_nameO (i := 2) rfl (by first | exact .inl rfl | exact .inr (.inl rfl) | exact .inr (.inr rfl))) (EvV.toO ev_int))) ea_nil))))))))))) (eb_one (es_ret (EvV.toE ev_bl))) eb_nil) (eb_one (es_if (et_not (et_chain3 (bLe) (bLe) (cLt) (EvV.toO ev_int) (EvV.toO (EvE.toV (ev_idx G hr (ev_nameO (i := 2) rfl (by first | exact .inl rfl | exact .inr (.inl rfl) | exact .inr (.inr rfl))) (EvV.toO ev_int)))) (EvV.toO (EvE.toV (ev_idx G hr (ev_nameO (i := 2) rfl (by first | exact .inl rfl | exact .inr (.inl rfl) | exact .inr (.inr rfl))) (EvV.toO ev_int)))) (EvV.toO (EvE.toV (ev_idx G hr (ev_nameO (i := 0) rfl (by first | exact .inl rfl | exact .inr (.inl rfl) | exact .inr (.inr rfl))) (EvV.toO ev_int)))))) (eb_one (es_ret (EvV.toE ev_bl))) eb_nil)))) (eb_one (es_ret (ev_cmp (cEq G hr) (EvV.toO (EvE.toV (ev_list G (by rfl) E.b_list (ev_nameO (i := 1) rfl (by first | exact .inl rfl | exact .inr (.inl rfl) | exact .inr (.inr rfl)))))) (EvV.toO (EvE.toV (ev_sorted G hr (by rfl) E.b_sorted (ev_nameO (i := 1) rfl (by first | exact .inl rfl | exact .inr (.inl rfl) | exact .inr (.inr rfl)))))))))))))
def g_is_point : En → SR := (retS ((eOfV ((andV ((vOfE (callF 1 (F_is_integer) (aCons ((nmV 0)) aNil)))) ((vOfE (opC (cmpD fun i j => decide (i ≤ j)) (cmpD fun i j => decide (i < j)) (oOfV (kI 0)) (nmO 0) (nmO 1)))))))))
def F_is_point : Sl → List D → FR := fnF 2 false g_is_point
set_option maxRecDepth 100000 in
theorem ok_is_point : FnV P w K mg base E.C 2 E.d_is_point.f E.d_is_point.fd ["value", "n"] false F_is_point :=
  fnV_of E.d_is_point.F sc_is_point false [] rfl (fun h => nomatch h) fun cdv A outer s H X σ₀ hr G => by
    exact (eb_one (es_ret (EvV.toE (ev_and (EvE.toV (ev_call G (ok_is_integer E) (hr.mono (by decide)) (by rfl) E.d_is_integer.m E.d_is_integer.F.kp E.d_is_integer.b (ea_cons (ev_name (i := 0) rfl (by first | exact .inl rfl | exact .inr (.inl rfl) | exact .inr (.inr rfl))) ea_nil))) (ev_one (EvE.toV (ev_chain (bLe) (cLt) (EvV.toO ev_int) (ev_nameO (i := 0) rfl (by first | exact .inl rfl | exact .inr (.inl rfl) | exact .inr (.inr rfl))) (ev_nameO (i := 1) rfl (by first | exact .inl rfl | exact .inr (.inl rfl) | exact .inr (.inr rfl))))))))))
def g_check_length : En → SR := (iteS (orT (notT (tru (oOfV ((vOfE (callF 1 (F_is_integer) (aCons ((nmV 0)) aNil))))))) (orT (tst (op2 (cmpD fun i j => decide (i < j)) (nmO 0) (oOfV (kI 0)))) (tst (op2 (cmpD fun i j => decide (j < i)) (nmO 0) (nmO 1))))) (raiseS 1) passS)
def F_check_length : Sl → List D → FR := fnF 2 false g_check_length
set_option maxRecDepth 100000 in
theorem ok_check_length : FnV P w K mg base E.C 2 E.d_check_length.f E.d_check_length.fd ["n", "most"] false F_check_length :=
  fnV_of E.d_check_length.F sc_check_length false [] rfl (fun h => nomatch h) fun cdv A outer s H X σ₀ hr G => by
    exact (eb_one (es_if (EvW.t (ew_or (et_not (et_tru G (EvV.toO (EvE.toV (ev_call G (ok_is_integer E) (hr.mono (by decide)) (by rfl) E.d_is_integer.m E.d_is_integer.F.kp E.d_is_integer.b (ea_cons (ev_name (i := 0) rfl (by first | exact .inl rfl | exact .inr (.inl rfl) | exact .inr (.inr rfl))) ea_nil)))))) (ew_or (et_cmp (cLt) (ev_nameO (i := 0) rfl (by first | exact .inl rfl | exact .inr (.inl rfl) | exact .inr (.inr rfl))) (EvV.toO ev_int)) (ew_or1 (et_cmp (cGt) (ev_nameO (i := 0) rfl (by first | exact .inl rfl | exact .inr (.inl rfl) | exact .inr (.inr rfl))) (ev_nameO (i := 1) rfl (by first | exact .inl rfl | exact .inr (.inl rfl) | exact .inr (.inr rfl)))))))) (eb_one (es_raise (c := 1) G (E.x_Malformed.excC rfl) (by rfl))) eb_nil))
abbrev g_walk_counts_1 : En → SR := (par3S 3 4 5 (lCons ((callF 1 (F_near_points) (aCons ((nmV 0)) aNil))) (lCons ((callF 2 (F_start_row) (aCons ((vOfE (op2 idxD (nmO 0) (oOfV (kI 0))))) (aCons (kI 0) aNil)))) (lCons ((lstE (aCons (kI 1) aNil))) lNil))))
abbrev g_walk_counts_2 : En → SR := (forS (rg1 (aCons ((nmV 1)) aNil)) (nameG 2) (seqS
  (setS 4 ((callF 2 (F_led) (aCons ((nmV 3)) (aCons ((nmV 4)) aNil))))) (appS 5 ((vOfE (op2 idxD (nmO 4) (oOfV (kI 0))))))))
abbrev g_walk_counts_3 : En → SR := (retM 5)
def g_walk_counts : En → SR := (seqS g_walk_counts_1 (seqS g_walk_counts_2 g_walk_counts_3))
def F_walk_counts : Sl → List D → FR := fnF 6 false g_walk_counts
set_option maxRecDepth 100000 in
theorem ok_walk_counts : FnV P w K mg base E.C 2 E.d_walk_counts.f E.d_walk_counts.fd ["G", "n"] false F_walk_counts :=
  fnV_of E.d_walk_counts.F sc_walk_counts false [] rfl (fun h => nomatch h) fun cdv A outer s H X σ₀ hr G => by
    exact (eb_cons
  (es_par3 (i := 3) (j := 4) (l := 5) G rfl rfl rfl (by decide) (by decide) (by decide) (show (3 : Nat) ∉ ([] : List Nat) by decide) (show (4 : Nat) ∉ ([] : List Nat) by decide) (show (5 : Nat) ∉ ([] : List Nat) by decide) rfl rfl rfl (el_cons (ev_call G (ok_near_points E) (hr.mono (by decide)) (by rfl) E.d_near_points.m E.d_near_points.F.kp E.d_near_points.b (ea_cons (ev_name (i := 0) rfl (by first | exact .inl rfl | exact .inr (.inl rfl) | exact .inr (.inr rfl))) ea_nil)) (el_cons (ev_call G (ok_start_row E) (hr.mono (by decide)) (by rfl) E.d_start_row.m E.d_start_row.F.kp E.d_start_row.b (ea_cons (EvE.toV (ev_idx G hr (ev_nameO (i := 0) rfl (by first | exact .inl rfl | exact .inr (.inl rfl) | exact .inr (.inr rfl))) (EvV.toO ev_int))) (ea_cons ev_int ea_nil))) (el_cons (ev_lst (ea_cons ev_int ea_nil)) el_nil)))) (eb_cons
  (es_for G (passes_of rfl) (ei_rg1 (by rfl) E.b_range (ea_cons (ev_name (i := 1) rfl (by first | exact .inl rfl | exact .inr (.inl rfl) | exact .inr (.inr rfl))) ea_nil)) (eg_name (i := 2) G rfl (by first | exact .inl rfl | exact .inr rfl) (show (2 : Nat) ∉ ([] : List Nat) by decide)) (eb_cons
  (es_set (i := 4) G rfl (by first | exact .inl rfl | exact .inr rfl) (show (4 : Nat) ∉ ([] : List Nat) by decide) (ev_call G (ok_led E) (hr.mono (by decide)) (by rfl) E.d_led.m E.d_led.F.kp E.d_led.b (ea_cons (ev_name (i := 3) rfl (by first | exact .inl rfl | exact .inr (.inl rfl) | exact .inr (.inr rfl))) (ea_cons (ev_name (i := 4) rfl (by first | exact .inl rfl | exact .inr (.inl rfl) | exact .inr (.inr rfl))) ea_nil)))) (eb_one (es_app (i := 5) G rfl (by first | exact .inl rfl | exact .inr (.inl rfl) | exact .inr (.inr rfl)) (EvE.toV (ev_idx G hr (ev_nameO (i := 4) rfl (by first | exact .inl rfl | exact .inr (.inl rfl) | exact .inr (.inr rfl))) (EvV.toO ev_int))))))) (eb_one (es_retM (i := 5) rfl (by first | exact .inl rfl | exact .inr (.inl rfl) | exact .inr (.inr rfl))))))
abbrev g_is_edge_1 : En → SR := (iteS (orT (notT (tru (oOfV ((vOfE (op1 (isiD "tuple") (nmO 0))))))) (tst (op2 neD (oOfV ((vOfE (op1 lenD (nmO 0))))) (oOfV (kI 2))))) (retS ((eOfV (kB false)))) passS)
abbrev g_is_edge_2 : En → SR := (retS ((eOfV ((andV ((vOfE (callF 2 (F_is_point) (aCons ((vOfE (op2 idxD (nmO 0) (oOfV (kI 0))))) (aCons ((nmV 1)) aNil))))) ((andV ((vOfE (callF 2 (F_is_point) (aCons ((vOfE (op2 idxD (nmO 0) (oOfV (kI 1))))) (aCons ((nmV 1)) aNil))))) ((vOfE (op2 (cmpD fun i j => decide (i ≤ j)) (oOfV ((vOfE (op2 idxD (nmO 0) (oOfV (kI 0)))))) (oOfV ((vOfE (op2 idxD (nmO 0) (oOfV (kI 1))))))))))))))))
def g_is_edge : En → SR := (seqS g_is_edge_1 g_is_edge_2)
def F_is_edge : Sl → List D → FR := fnF 2 false g_is_edge
set_option maxRecDepth 100000 in
theorem ok_is_edge : FnV P w K mg base E.C 3 E.d_is_edge.f E.d_is_edge.fd ["value", "n"] false F_is_edge :=
  fnV_of E.d_is_edge.F sc_is_edge false [] rfl (fun h => nomatch h) fun cdv A outer s H X σ₀ hr G => by
    exact (eb_cons
  (es_if (EvW.t (ew_or (et_not (et_tru G (EvV.toO (EvE.toV (ev_isi G (T := "tuple") (by decide) (by decide +kernel) (by rfl) E.b_isinstance (by rfl) E.b_tuple (ev_nameO (i := 0) rfl (by first | exact .inl rfl | exact .inr (.inl rfl) | exact .inr (.inr rfl)))))))) (ew_or1 (et_cmp (cNe G hr) (EvV.toO (EvE.toV (ev_len G (by rfl) E.b_len (ev_nameO (i := 0) rfl (by first | exact .inl rfl | exact .inr (.inl rfl) | exact .inr (.inr rfl)))))) (EvV.toO ev_int))))) (eb_one (es_ret (EvV.toE ev_bl))) eb_nil) (eb_one (es_ret (EvV.toE (ev_and (EvE.toV (ev_call G (ok_is_point E) (hr.mono (by decide)) (by rfl) E.d_is_point.m E.d_is_point.F.kp E.d_is_point.b (ea_cons (EvE.toV (ev_idx G hr (ev_nameO (i := 0) rfl (by first | exact .inl rfl | exact .inr (.inl rfl) | exact .inr (.inr rfl))) (EvV.toO ev_int))) (ea_cons (ev_name (i := 1) rfl (by first | exact .inl rfl | exact .inr (.inl rfl) | exact .inr (.inr rfl))) ea_nil)))) (ev_and (EvE.toV (ev_call G (ok_is_point E) (hr.mono (by decide)) (by rfl) E.d_is_point.m E.d_is_point.F.kp E.d_is_point.b (ea_cons (EvE.toV (ev_idx G hr (ev_nameO (i := 0) rfl (by first | exact .inl rfl | exact .inr (.inl rfl) | exact .inr (.inr rfl))) (EvV.toO ev_int))) (ea_cons (ev_name (i := 1) rfl (by first | exact .inl rfl | exact .inr (.inl rfl) | exact .inr (.inr rfl))) ea_nil)))) (ev_one (EvE.toV (ev_cmp (cLe) (EvV.toO (EvE.toV (ev_idx G hr (ev_nameO (i := 0) rfl (by first | exact .inl rfl | exact .inr (.inl rfl) | exact .inr (.inr rfl))) (EvV.toO ev_int)))) (EvV.toO (EvE.toV (ev_idx G hr (ev_nameO (i := 0) rfl (by first | exact .inl rfl | exact .inr (.inl rfl) | exact .inr (.inr rfl))) (EvV.toO ev_int)))))))))))))
abbrev g_is_rooted_graph_1 : En → SR := (iteS (orT (notT (tru (oOfV ((vOfE (op1 (isiD "tuple") (nmO 0))))))) (orT (tst (op2 neD (oOfV ((vOfE (op1 lenD (nmO 0))))) (oOfV (kI 2)))) (notT (tru (oOfV ((vOfE (callF 1 (F_is_integer) (aCons ((vOfE (op2 idxD (nmO 0) (oOfV (kI 0))))) aNil))))))))) (retS ((eOfV (kB false)))) passS)
abbrev g_is_rooted_graph_2 : En → SR := (asgS (tupG 2 (consG (nameG 1) (consG (nameG 2) nilG))) ((nmV 0)))
abbrev g_is_rooted_graph_3 : En → SR := (iteS (orT (tst (op2 (cmpD fun i j => decide (i < j)) (nmO 1) (oOfV (kI 1)))) (orT (tst (op2 (cmpD fun i j => decide (j < i)) (nmO 1) (oOfV (kI 400)))) (orT (notT (tru (oOfV ((vOfE (op1 (isiD "tuple") (nmO 2))))))) (tst (op2 (cmpD fun i j => decide (j < i)) (oOfV ((vOfE (op1 lenD (nmO 2))))) (oOfV (kI 4000))))))) (retS ((eOfV (kB false)))) passS)
abbrev g_is_rooted_graph_4 : En → SR := (retS ((eOfV ((andV ((vOfE (op1 allD (oOfV ((vOfE (comp (seqI' ((nmV 2))) (nameG 3) (yesT) ((eOfV ((vOfE (callF 2 (F_is_edge) (aCons ((nmV 3)) (aCons ((nmV 1)) aNil))))))) 0 [3]))))))) ((vOfE (op1 allD (oOfV ((vOfE (comp (zipI (aCons ((nmV 2)) (aCons ((vOfE (opS (nmO 2) (pSome (kI 1)) pNone))) aNil))) (tupG 2 (consG (nameG 4) (consG (nameG 5) nilG))) (yesT) ((eOfV ((vOfE (op2 leTD (nmO 4) (nmO 5)))))) 0 [4, 5]))))))))))))
def g_is_rooted_graph : En → SR := (seqS g_is_rooted_graph_1 (seqS g_is_rooted_graph_2 (seqS g_is_rooted_graph_3 g_is_rooted_graph_4)))
def F_is_rooted_graph : Sl → List D → FR := fnF 6 false g_is_rooted_graph
set_option maxRecDepth 100000 in
theorem ok_is_rooted_graph : FnV P w K mg base E.C 4 E.d_is_rooted_graph.f E.d_is_rooted_graph.fd ["value"] false F_is_rooted_graph :=
  fnV_of E.d_is_rooted_graph.F sc_is_rooted_graph false [] rfl (fun h => nomatch h) fun cdv A outer s H X σ₀ hr G => by
    exact (eb_cons
  (es_if (EvW.t (ew_or (et_not (et_tru G (EvV.toO (EvE.toV (ev_isi G (T := "tuple") (by decide) (by decide +kernel) (by rfl) E.b_isinstance (by rfl) E.b_tuple (ev_nameO (i := 0) rfl (by first | exact .inl rfl | exact .inr (.inl rfl) | exact .inr (.inr rfl)))))))) (ew_or (et_cmp (cNe G hr) (EvV.toO (EvE.toV (ev_len G (by rfl) E.b_len (ev_nameO (i := 0) rfl (by first | exact .inl rfl | exact .inr (.inl rfl) | exact .inr (.inr rfl)))))) (EvV.toO ev_int)) (ew_or1 (et_not (et_tru G (EvV.toO (EvE.toV (ev_call G (ok_is_integer E) (hr.mono (by decide)) (by rfl) E.d_is_integer.m E.d_is_integer.F.kp E.d_is_integer.b (ea_cons (EvE.toV (ev_idx G hr (ev_nameO (i := 0) rfl (by first | exact .inl rfl | exact .inr (.inl rfl) | exact .inr (.inr rfl))) (EvV.toO ev_int))) ea_nil)))))))))) (eb_one (es_ret (EvV.toE ev_bl))) eb_nil) (eb_cons
  (es_asg (ev_name (i := 0) rfl (by first | exact .inl rfl | exact .inr (.inl rfl) | exact .inr (.inr rfl))) (eg_tup G (egs_cons (eg_name (i := 1) G rfl (by first | exact .inl rfl | exact .inr rfl) (show (1 : Nat) ∉ ([] : List Nat) by decide)) (egs_cons (eg_name (i := 2) G rfl (by first | exact .inl rfl | exact .inr rfl) (show (2 : Nat) ∉ ([] : List Nat) by decide)) egs_nil)))) (eb_cons
  (es_if (EvW.t (ew_or (et_cmp (cLt) (ev_nameO (i := 1) rfl (by first | exact .inl rfl | exact .inr (.inl rfl) | exact .inr (.inr rfl))) (EvV.toO ev_int)) (ew_or (et_cmp (cGt) (ev_nameO (i := 1) rfl (by first | exact .inl rfl | exact .inr (.inl rfl) | exact .inr (.inr rfl))) (EvV.toO (ev_gint (by rfl) E.c_MOST_POINTS))) (ew_or (et_not (et_tru G (EvV.toO (EvE.toV (ev_isi G (T := "tuple") (by decide) (by decide +kernel) (by rfl) E.b_isinstance (by rfl) E.b_tuple (ev_nameO (i := 2) rfl (by first | exact .inl rfl | exact .inr (.inl rfl) | exact .inr (.inr rfl)))))))) (ew_or1 (et_cmp (cGt) (EvV.toO (EvE.toV (ev_len G (by rfl) E.b_len (ev_nameO (i := 2) rfl (by first | exact .inl rfl | exact .inr (.inl rfl) | exact .inr (.inr rfl)))))) (EvV.toO (ev_gint (by rfl) E.c_MOST_EDGES)))))))) (eb_one (es_ret (EvV.toE ev_bl))) eb_nil) (eb_one (es_ret (EvV.toE (ev_and (EvE.toV (ev_all G (by rfl) E.b_all (EvV.toO (EvE.toV (ev_lc (own := [((PySem.Str.ofString "edge"), 3)]) (vs := [3]) (ws := [3]) 0 G (ei_seq G (ev_name (i := 2) rfl (by first | exact .inl rfl | exact .inr (.inl rfl) | exact .inr (.inr rfl)))) (blkOk_by (by kernel_rfl)) rfl (by decide) (fun _ _ _ _ _ => blkG G fun G => (eg_name (i := 3) G rfl (by first | exact .inl rfl | exact .inr rfl) (show (3 : Nat) ∉ ([] : List Nat) by decide))) (fun _ _ _ _ _ => blkT G fun G => ept_nil) (fun _ _ _ _ _ => blkE G fun G => (EvV.toE (EvE.toV (ev_call G (ok_is_edge E) (hr.mono (by decide)) (by rfl) E.d_is_edge.m E.d_is_edge.F.kp E.d_is_edge.b (ea_cons (ev_name (i := 3) rfl (by first | exact .inl rfl | exact .inr (.inl rfl) | exact .inr (.inr rfl))) (ea_cons (ev_name (i := 1) rfl (by first | exact .inl rfl | exact .inr (.inl rfl) | exact .inr (.inr rfl))) ea_nil))))))))))) (ev_one (EvE.toV (ev_all G (by rfl) E.b_all (EvV.toO (EvE.toV (ev_lc (own := [((PySem.Str.ofString "one"), 4), ((PySem.Str.ofString "two"), 5)]) (vs := [4, 5]) (ws := ([4] ++ ([5] ++ []))) 0 G (ei_zip G (by rfl) E.b_zip (ea_cons (ev_name (i := 2) rfl (by first | exact .inl rfl | exact .inr (.inl rfl) | exact .inr (.inr rfl))) (ea_cons (EvE.toV (ev_slice G (ev_nameO (i := 2) rfl (by first | exact .inl rfl | exact .inr (.inl rfl) | exact .inr (.inr rfl))) (ep_some ev_int) ep_none)) ea_nil))) (blkOk_by (by kernel_rfl)) rfl (by decide) (fun _ _ _ _ _ => blkG G fun G => (eg_tup G (egs_cons (eg_name (i := 4) G rfl (by first | exact .inl rfl | exact .inr rfl) (show (4 : Nat) ∉ ([] : List Nat) by decide)) (egs_cons (eg_name (i := 5) G rfl (by first | exact .inl rfl | exact .inr rfl) (show (5 : Nat) ∉ ([] : List Nat) by decide)) egs_nil)))) (fun _ _ _ _ _ => blkT G fun G => ept_nil) (fun _ _ _ _ _ => blkE G fun G => (EvV.toE (EvE.toV (ev_cmp (cLeT G hr) (ev_nameO (i := 4) rfl (by first | exact .inl rfl | exact .inr (.inl rfl) | exact .inr (.inr rfl))) (ev_nameO (i := 5) rfl (by first | exact .inl rfl | exact .inr (.inl rfl) | exact .inr (.inr rfl))))))))))))))))))))
def g_check_graph : En → SR := (iteS (notT (tru (oOfV ((vOfE (callF 1 (F_is_rooted_graph) (aCons ((nmV 0)) aNil))))))) (raiseS 1) passS)
def F_check_graph : Sl → List D → FR := fnF 1 false g_check_graph
set_option maxRecDepth 100000 in
theorem ok_check_graph : FnV P w K mg base E.C 5 E.d_check_graph.f E.d_check_graph.fd ["G"] false F_check_graph :=
  fnV_of E.d_check_graph.F sc_check_graph false [] rfl (fun h => nomatch h) fun cdv A outer s H X σ₀ hr G => by
    exact (eb_one (es_if (et_not (et_tru G (EvV.toO (EvE.toV (ev_call G (ok_is_rooted_graph E) (hr.mono (by decide)) (by rfl) E.d_is_rooted_graph.m E.d_is_rooted_graph.F.kp E.d_is_rooted_graph.b (ea_cons (ev_name (i := 0) rfl (by first | exact .inl rfl | exact .inr (.inl rfl) | exact .inr (.inr rfl))) ea_nil)))))) (eb_one (es_raise (c := 1) G (E.x_Malformed.excC rfl) (by rfl))) eb_nil))
abbrev g_closed_walks_1 : En → SR := (exprS (callF 1 (F_check_graph) (aCons ((nmV 0)) aNil)))
abbrev g_closed_walks_2 : En → SR := (exprS (callF 2 (F_check_length) (aCons ((nmV 1)) (aCons (kI 12) aNil))))
abbrev g_closed_walks_3 : En → SR := (retS ((op1 tupD (oOfV ((vOfE (comp (seqI' ((vOfE (opS (oOfV ((vOfE (callF 2 (F_walk_counts) (aCons ((nmV 0)) (aCons ((nmV 1)) aNil)))))) (pSome (kI 1)) pNone)))) (nameG 2) (yesT) ((eOfV ((tupE (aCons ((nmV 2)) (aCons (kI 1) aNil)))))) 0 [2])))))))
def g_closed_walks : En → SR := (seqS g_closed_walks_1 (seqS g_closed_walks_2 g_closed_walks_3))
def F_closed_walks : Sl → List D → FR := fnF 3 false g_closed_walks
set_option maxRecDepth 100000 in
theorem ok_closed_walks : FnV P w K mg base E.C 6 E.d_closed_walks.f E.d_closed_walks.fd ["G", "n"] false F_closed_walks :=
  fnV_of E.d_closed_walks.F sc_closed_walks false [] rfl (fun h => nomatch h) fun cdv A outer s H X σ₀ hr G => by
    exact (eb_cons
  (es_expr (ev_call G (ok_check_graph E) (hr.mono (by decide)) (by rfl) E.d_check_graph.m E.d_check_graph.F.kp E.d_check_graph.b (ea_cons (ev_name (i := 0) rfl (by first | exact .inl rfl | exact .inr (.inl rfl) | exact .inr (.inr rfl))) ea_nil))) (eb_cons
  (es_expr (ev_call G (ok_check_length E) (hr.mono (by decide)) (by rfl) E.d_check_length.m E.d_check_length.F.kp E.d_check_length.b (ea_cons (ev_name (i := 1) rfl (by first | exact .inl rfl | exact .inr (.inl rfl) | exact .inr (.inr rfl))) (ea_cons (ev_gint (by rfl) E.c_MOST_LENGTH) ea_nil)))) (eb_one (es_ret (ev_tuple G (by rfl) E.b_tuple (EvV.toO (EvE.toV (ev_lc (own := [((PySem.Str.ofString "c"), 2)]) (vs := [2]) (ws := [2]) 0 G (ei_seq G (EvE.toV (ev_slice G (EvV.toO (EvE.toV (ev_call G (ok_walk_counts E) (hr.mono (by decide)) (by rfl) E.d_walk_counts.m E.d_walk_counts.F.kp E.d_walk_counts.b (ea_cons (ev_name (i := 0) rfl (by first | exact .inl rfl | exact .inr (.inl rfl) | exact .inr (.inr rfl))) (ea_cons (ev_name (i := 1) rfl (by first | exact .inl rfl | exact .inr (.inl rfl) | exact .inr (.inr rfl))) ea_nil))))) (ep_some ev_int) ep_none))) (blkOk_by (by kernel_rfl)) rfl (by decide) (fun _ _ _ _ _ => blkG G fun G => (eg_name (i := 2) G rfl (by first | exact .inl rfl | exact .inr rfl) (show (2 : Nat) ∉ ([] : List Nat) by decide))) (fun _ _ _ _ _ => blkT G fun G => ept_nil) (fun _ _ _ _ _ => blkE G fun G => (EvV.toE (ev_tup (ea_cons (ev_name (i := 2) rfl (by first | exact .inl rfl | exact .inr (.inl rfl) | exact .inr (.inr rfl))) (ea_cons ev_int ea_nil)))))))))))))
abbrev g_first_walks_1 : En → SR := (exprS (callF 1 (F_check_graph) (aCons ((nmV 0)) aNil)))
abbrev g_first_walks_2 : En → SR := (exprS (callF 2 (F_check_length) (aCons ((nmV 1)) (aCons (kI 12) aNil))))
abbrev g_first_walks_3 : En → SR := (par3S 3 4 5 (lCons ((callF 1 (F_near_points) (aCons ((nmV 0)) aNil))) (lCons ((callF 2 (F_start_row) (aCons ((vOfE (op2 idxD (nmO 0) (oOfV (kI 0))))) (aCons (kI 0) aNil)))) (lCons ((lstE aNil)) lNil))))
abbrev g_first_walks_4 : En → SR := (forS (rg1 (aCons ((nmV 1)) aNil)) (nameG 2) (seqS
  (setS 4 ((callF 2 (F_led) (aCons ((nmV 3)) (aCons ((nmV 4)) aNil))))) (seqS
  (appS 5 ((vOfE (op2 idxD (nmO 4) (oOfV (kI 0)))))) (sItS 4 (kI 0) (kI 0)))))
abbrev g_first_walks_5 : En → SR := (retS ((op1 tupD (nmO 5))))
def g_first_walks : En → SR := (seqS g_first_walks_1 (seqS g_first_walks_2 (seqS g_first_walks_3 (seqS g_first_walks_4 g_first_walks_5))))
def F_first_walks : Sl → List D → FR := fnF 6 false g_first_walks
set_option maxRecDepth 100000 in
theorem ok_first_walks : FnV P w K mg base E.C 6 E.d_first_walks.f E.d_first_walks.fd ["G", "n"] false F_first_walks :=
  fnV_of E.d_first_walks.F sc_first_walks false [] rfl (fun h => nomatch h) fun cdv A outer s H X σ₀ hr G => by
    exact (eb_cons
  (es_expr (ev_call G (ok_check_graph E) (hr.mono (by decide)) (by rfl) E.d_check_graph.m E.d_check_graph.F.kp E.d_check_graph.b (ea_cons (ev_name (i := 0) rfl (by first | exact .inl rfl | exact .inr (.inl rfl) | exact .inr (.inr rfl))) ea_nil))) (eb_cons
  (es_expr (ev_call G (ok_check_length E) (hr.mono (by decide)) (by rfl) E.d_check_length.m E.d_check_length.F.kp E.d_check_length.b (ea_cons (ev_name (i := 1) rfl (by first | exact .inl rfl | exact .inr (.inl rfl) | exact .inr (.inr rfl))) (ea_cons (ev_gint (by rfl) E.c_MOST_LENGTH) ea_nil)))) (eb_cons
  (es_par3 (i := 3) (j := 4) (l := 5) G rfl rfl rfl (by decide) (by decide) (by decide) (show (3 : Nat) ∉ ([] : List Nat) by decide) (show (4 : Nat) ∉ ([] : List Nat) by decide) (show (5 : Nat) ∉ ([] : List Nat) by decide) rfl rfl rfl (el_cons (ev_call G (ok_near_points E) (hr.mono (by decide)) (by rfl) E.d_near_points.m E.d_near_points.F.kp E.d_near_points.b (ea_cons (ev_name (i := 0) rfl (by first | exact .inl rfl | exact .inr (.inl rfl) | exact .inr (.inr rfl))) ea_nil)) (el_cons (ev_call G (ok_start_row E) (hr.mono (by decide)) (by rfl) E.d_start_row.m E.d_start_row.F.kp E.d_start_row.b (ea_cons (EvE.toV (ev_idx G hr (ev_nameO (i := 0) rfl (by first | exact .inl rfl | exact .inr (.inl rfl) | exact .inr (.inr rfl))) (EvV.toO ev_int))) (ea_cons ev_int ea_nil))) (el_cons (ev_lst ea_nil) el_nil)))) (eb_cons
  (es_for G (passes_of rfl) (ei_rg1 (by rfl) E.b_range (ea_cons (ev_name (i := 1) rfl (by first | exact .inl rfl | exact .inr (.inl rfl) | exact .inr (.inr rfl))) ea_nil)) (eg_name (i := 2) G rfl (by first | exact .inl rfl | exact .inr rfl) (show (2 : Nat) ∉ ([] : List Nat) by decide)) (eb_cons
  (es_set (i := 4) G rfl (by first | exact .inl rfl | exact .inr rfl) (show (4 : Nat) ∉ ([] : List Nat) by decide) (ev_call G (ok_led E) (hr.mono (by decide)) (by rfl) E.d_led.m E.d_led.F.kp E.d_led.b (ea_cons (ev_name (i := 3) rfl (by first | exact .inl rfl | exact .inr (.inl rfl) | exact .inr (.inr rfl))) (ea_cons (ev_name (i := 4) rfl (by first | exact .inl rfl | exact .inr (.inl rfl) | exact .inr (.inr rfl))) ea_nil)))) (eb_cons
  (es_app (i := 5) G rfl (by first | exact .inl rfl | exact .inr (.inl rfl) | exact .inr (.inr rfl)) (EvE.toV (ev_idx G hr (ev_nameO (i := 4) rfl (by first | exact .inl rfl | exact .inr (.inl rfl) | exact .inr (.inr rfl))) (EvV.toO ev_int)))) (eb_one (es_sub (i := 4) G hr rfl (by first | exact .inl rfl | exact .inr (.inl rfl) | exact .inr (.inr rfl)) ev_int ev_int))))) (eb_one (es_ret (ev_tuple G (by rfl) E.b_tuple (ev_nameO (i := 5) rfl (by first | exact .inl rfl | exact .inr (.inl rfl) | exact .inr (.inr rfl))))))))))
abbrev g_walk_number_1 : En → SR := (exprS (callF 1 (F_check_graph) (aCons ((nmV 0)) aNil)))
abbrev g_walk_number_2 : En → SR := (iteS (orT (notT (tru (oOfV ((vOfE (callF 2 (F_is_point) (aCons ((nmV 1)) (aCons ((vOfE (op2 idxD (nmO 0) (oOfV (kI 0))))) aNil)))))))) (notT (tru (oOfV ((vOfE (callF 2 (F_is_point) (aCons ((nmV 2)) (aCons ((vOfE (op2 idxD (nmO 0) (oOfV (kI 0))))) aNil))))))))) (raiseS 1) passS)
abbrev g_walk_number_3 : En → SR := (exprS (callF 2 (F_check_length) (aCons ((nmV 3)) (aCons (kI 60) aNil))))
abbrev g_walk_number_4 : En → SR := (parS 5 6 (lCons ((callF 1 (F_near_points) (aCons ((nmV 0)) aNil))) (lCons ((callF 2 (F_start_row) (aCons ((vOfE (op2 idxD (nmO 0) (oOfV (kI 0))))) (aCons ((nmV 1)) aNil)))) lNil)))
abbrev g_walk_number_5 : En → SR := (forS (rg1 (aCons ((nmV 3)) aNil)) (nameG 4) (setS 6 ((callF 2 (F_led) (aCons ((nmV 5)) (aCons ((nmV 6)) aNil))))))
abbrev g_walk_number_6 : En → SR := (retS ((op2 idxD (nmO 6) (nmO 2))))
def g_walk_number : En → SR := (seqS g_walk_number_1 (seqS g_walk_number_2 (seqS g_walk_number_3 (seqS g_walk_number_4 (seqS g_walk_number_5 g_walk_number_6)))))
def F_walk_number : Sl → List D → FR := fnF 7 false g_walk_number
set_option maxRecDepth 100000 in
theorem ok_walk_number : FnV P w K mg base E.C 6 E.d_walk_number.f E.d_walk_number.fd ["G", "x", "y", "k"] false F_walk_number :=
  fnV_of E.d_walk_number.F sc_walk_number false [] rfl (fun h => nomatch h) fun cdv A outer s H X σ₀ hr G => by
    exact (eb_cons
  (es_expr (ev_call G (ok_check_graph E) (hr.mono (by decide)) (by rfl) E.d_check_graph.m E.d_check_graph.F.kp E.d_check_graph.b (ea_cons (ev_name (i := 0) rfl (by first | exact .inl rfl | exact .inr (.inl rfl) | exact .inr (.inr rfl))) ea_nil))) (eb_cons
  (es_if (EvW.t (ew_or (et_not (et_tru G (EvV.toO (EvE.toV (ev_call G (ok_is_point E) (hr.mono (by decide)) (by rfl) E.d_is_point.m E.d_is_point.F.kp E.d_is_point.b (ea_cons (ev_name (i := 1) rfl (by first | exact .inl rfl | exact .inr (.inl rfl) | exact .inr (.inr rfl))) (ea_cons (EvE.toV (ev_idx G hr (ev_nameO (i := 0) rfl (by first | exact .inl rfl | exact .inr (.inl rfl) | exact .inr (.inr rfl))) (EvV.toO ev_int))) ea_nil))))))) (ew_or1 (et_not (et_tru G (EvV.toO (EvE.toV (ev_call G (ok_is_point E) (hr.mono (by decide)) (by rfl) E.d_is_point.m E.d_is_point.F.kp E.d_is_point.b (ea_cons (ev_name (i := 2) rfl (by first | exact .inl rfl | exact .inr (.inl rfl) | exact .inr (.inr rfl))) (ea_cons (EvE.toV (ev_idx G hr (ev_nameO (i := 0) rfl (by first | exact .inl rfl | exact .inr (.inl rfl) | exact .inr (.inr rfl))) (EvV.toO ev_int))) ea_nil)))))))))) (eb_one (es_raise (c := 1) G (E.x_Malformed.excC rfl) (by rfl))) eb_nil) (eb_cons
  (es_expr (ev_call G (ok_check_length E) (hr.mono (by decide)) (by rfl) E.d_check_length.m E.d_check_length.F.kp E.d_check_length.b (ea_cons (ev_name (i := 3) rfl (by first | exact .inl rfl | exact .inr (.inl rfl) | exact .inr (.inr rfl))) (ea_cons (ev_gint (by rfl) E.c_MOST_STEPS) ea_nil)))) (eb_cons
  (es_par (i := 5) (j := 6) G rfl rfl (by decide) (show (5 : Nat) ∉ ([] : List Nat) by decide) (show (6 : Nat) ∉ ([] : List Nat) by decide) rfl rfl (el_cons (ev_call G (ok_near_points E) (hr.mono (by decide)) (by rfl) E.d_near_points.m E.d_near_points.F.kp E.d_near_points.b (ea_cons (ev_name (i := 0) rfl (by first | exact .inl rfl | exact .inr (.inl rfl) | exact .inr (.inr rfl))) ea_nil)) (el_cons (ev_call G (ok_start_row E) (hr.mono (by decide)) (by rfl) E.d_start_row.m E.d_start_row.F.kp E.d_start_row.b (ea_cons (EvE.toV (ev_idx G hr (ev_nameO (i := 0) rfl (by first | exact .inl rfl | exact .inr (.inl rfl) | exact .inr (.inr rfl))) (EvV.toO ev_int))) (ea_cons (ev_name (i := 1) rfl (by first | exact .inl rfl | exact .inr (.inl rfl) | exact .inr (.inr rfl))) ea_nil))) el_nil))) (eb_cons
  (es_for G (passes_of rfl) (ei_rg1 (by rfl) E.b_range (ea_cons (ev_name (i := 3) rfl (by first | exact .inl rfl | exact .inr (.inl rfl) | exact .inr (.inr rfl))) ea_nil)) (eg_name (i := 4) G rfl (by first | exact .inl rfl | exact .inr rfl) (show (4 : Nat) ∉ ([] : List Nat) by decide)) (eb_one (es_set (i := 6) G rfl (by first | exact .inl rfl | exact .inr rfl) (show (6 : Nat) ∉ ([] : List Nat) by decide) (ev_call G (ok_led E) (hr.mono (by decide)) (by rfl) E.d_led.m E.d_led.F.kp E.d_led.b (ea_cons (ev_name (i := 5) rfl (by first | exact .inl rfl | exact .inr (.inl rfl) | exact .inr (.inr rfl))) (ea_cons (ev_name (i := 6) rfl (by first | exact .inl rfl | exact .inr (.inl rfl) | exact .inr (.inr rfl))) ea_nil)))))) (eb_one (es_ret (ev_idx G hr (ev_nameO (i := 6) rfl (by first | exact .inl rfl | exact .inr (.inl rfl) | exact .inr (.inr rfl))) (ev_nameO (i := 2) rfl (by first | exact .inl rfl | exact .inr (.inl rfl) | exact .inr (.inr rfl)))))))))))
abbrev g__law_same_1 (rec : Sl → List D → FR) : En → SR := (iteS (tru (oOfV ((vOfE (op1 (isiD "tuple") (nmO 1)))))) (retS ((eOfV ((andV ((vOfE (op1 (isiD "tuple") (nmO 0)))) ((andV ((vOfE (op2 eqD (oOfV ((vOfE (op1 lenD (nmO 0))))) (oOfV ((vOfE (op1 lenD (nmO 1)))))))) ((vOfE (op1 allD (oOfV ((vOfE (comp (rg1 (aCons ((vOfE (op1 lenD (nmO 1)))) aNil)) (nameG 2) (yesT) ((eOfV ((vOfE (callF 2 (rec) (aCons ((vOfE (op2 idxD (nmO 0) (nmO 2)))) (aCons ((vOfE (op2 idxD (nmO 1) (nmO 2)))) aNil))))))) 0 [2])))))))))))))) passS)
abbrev g__law_same_2 (rec : Sl → List D → FR) : En → SR := (iteS (tst (op2 isD (nmO 1) (oOfV (kN)))) (retS ((op2 isD (nmO 0) (oOfV (kN))))) passS)
abbrev g__law_same_3 (rec : Sl → List D → FR) : En → SR := (iteS (tru (oOfV ((vOfE (op1 (isiD "bool") (nmO 1)))))) (retS ((eOfV ((andV ((vOfE (op1 (isiD "bool") (nmO 0)))) ((vOfE (op2 eqD (nmO 0) (nmO 1))))))))) passS)
abbrev g__law_same_4 (rec : Sl → List D → FR) : En → SR := (iteS (tru (oOfV ((vOfE (op1 (isiD "str") (nmO 1)))))) (retS ((eOfV ((andV ((vOfE (op1 (isiD "str") (nmO 0)))) ((vOfE (op2 eqD (nmO 0) (nmO 1))))))))) passS)
abbrev g__law_same_5 (rec : Sl → List D → FR) : En → SR := (retS ((eOfV ((andV ((vOfE (op1 (isiD "int") (nmO 0)))) ((andV ((notV ((vOfE (op1 (isiD "bool") (nmO 0)))))) ((vOfE (op2 eqD (nmO 0) (nmO 1)))))))))))
def g__law_same (rec : Sl → List D → FR) : En → SR := (seqS (g__law_same_1 rec) (seqS (g__law_same_2 rec) (seqS (g__law_same_3 rec) (seqS (g__law_same_4 rec) (g__law_same_5 rec)))))
def F__law_same : Nat → Sl → List D → FR
  | 0 => fun _ _ => .no
  | k + 1 => fnF 3 false (g__law_same (F__law_same k))
set_option maxRecDepth 100000 in
theorem ok__law_same : ∀ kk : Nat, FnV P w K mg base E.C (1 + kk) E.d__law_same.f E.d__law_same.fd ["value", "due"] false (F__law_same kk)
  | 0 => fnV_no
  | kk + 1 => fnV_of E.d__law_same.F sc__law_same false [] rfl (fun h => nomatch h) fun cdv A outer s H X σ₀ hr G => by
    exact (eb_cons
  (es_if (et_tru G (EvV.toO (EvE.toV (ev_isi G (T := "tuple") (by decide) (by decide +kernel) (by rfl) E.b_isinstance (by rfl) E.b_tuple (ev_nameO (i := 1) rfl (by first | exact .inl rfl | exact .inr (.inl rfl) | exact .inr (.inr rfl))))))) (eb_one (es_ret (EvV.toE (ev_and (EvE.toV (ev_isi G (T := "tuple") (by decide) (by decide +kernel) (by rfl) E.b_isinstance (by rfl) E.b_tuple (ev_nameO (i := 0) rfl (by first | exact .inl rfl | exact .inr (.inl rfl) | exact .inr (.inr rfl))))) (ev_and (EvE.toV (ev_cmp (cEq G hr) (EvV.toO (EvE.toV (ev_len G (by rfl) E.b_len (ev_nameO (i := 0) rfl (by first | exact .inl rfl | exact .inr (.inl rfl) | exact .inr (.inr rfl)))))) (EvV.toO (EvE.toV (ev_len G (by rfl) E.b_len (ev_nameO (i := 1) rfl (by first | exact .inl rfl | exact .inr (.inl rfl) | exact .inr (.inr rfl)))))))) (ev_one (EvE.toV (ev_all G (by rfl) E.b_all (EvV.toO (EvE.toV (ev_lc (own := [((PySem.Str.ofString "k"), 2)]) (vs := [2]) (ws := [2]) 0 G (ei_rg1 (by rfl) E.b_range (ea_cons (EvE.toV (ev_len G (by rfl) E.b_len (ev_nameO (i := 1) rfl (by first | exact .inl rfl | exact .inr (.inl rfl) | exact .inr (.inr rfl))))) ea_nil)) (blkOk_by (by kernel_rfl)) rfl (by decide) (fun _ _ _ _ _ => blkG G fun G => (eg_name (i := 2) G rfl (by first | exact .inl rfl | exact .inr rfl) (show (2 : Nat) ∉ ([] : List Nat) by decide))) (fun _ _ _ _ _ => blkT G fun G => ept_nil) (fun _ _ _ _ _ => blkE G fun G => (EvV.toE (EvE.toV (ev_call G (ok__law_same kk) hr (by rfl) E.d__law_same.m E.d__law_same.F.kp E.d__law_same.b (ea_cons (EvE.toV (ev_idx G hr (ev_nameO (i := 0) rfl (by first | exact .inl rfl | exact .inr (.inl rfl) | exact .inr (.inr rfl))) (ev_nameO (i := 2) rfl (by first | exact .inl rfl | exact .inr (.inl rfl) | exact .inr (.inr rfl))))) (ea_cons (EvE.toV (ev_idx G hr (ev_nameO (i := 1) rfl (by first | exact .inl rfl | exact .inr (.inl rfl) | exact .inr (.inr rfl))) (ev_nameO (i := 2) rfl (by first | exact .inl rfl | exact .inr (.inl rfl) | exact .inr (.inr rfl))))) ea_nil))))))))))))))))) eb_nil) (eb_cons
  (es_if (et_cmp (cIs) (ev_nameO (i := 1) rfl (by first | exact .inl rfl | exact .inr (.inl rfl) | exact .inr (.inr rfl))) (EvV.toO ev_non)) (eb_one (es_ret (ev_cmp (cIs) (ev_nameO (i := 0) rfl (by first | exact .inl rfl | exact .inr (.inl rfl) | exact .inr (.inr rfl))) (EvV.toO ev_non)))) eb_nil) (eb_cons
  (es_if (et_tru G (EvV.toO (EvE.toV (ev_isi G (T := "bool") (by decide) (by decide +kernel) (by rfl) E.b_isinstance (by rfl) E.b_bool (ev_nameO (i := 1) rfl (by first | exact .inl rfl | exact .inr (.inl rfl) | exact .inr (.inr rfl))))))) (eb_one (es_ret (EvV.toE (ev_and (EvE.toV (ev_isi G (T := "bool") (by decide) (by decide +kernel) (by rfl) E.b_isinstance (by rfl) E.b_bool (ev_nameO (i := 0) rfl (by first | exact .inl rfl | exact .inr (.inl rfl) | exact .inr (.inr rfl))))) (ev_one (EvE.toV (ev_cmp (cEq G hr) (ev_nameO (i := 0) rfl (by first | exact .inl rfl | exact .inr (.inl rfl) | exact .inr (.inr rfl))) (ev_nameO (i := 1) rfl (by first | exact .inl rfl | exact .inr (.inl rfl) | exact .inr (.inr rfl)))))))))) eb_nil) (eb_cons
  (es_if (et_tru G (EvV.toO (EvE.toV (ev_isi G (T := "str") (by decide) (by decide +kernel) (by rfl) E.b_isinstance (by rfl) E.b_str (ev_nameO (i := 1) rfl (by first | exact .inl rfl | exact .inr (.inl rfl) | exact .inr (.inr rfl))))))) (eb_one (es_ret (EvV.toE (ev_and (EvE.toV (ev_isi G (T := "str") (by decide) (by decide +kernel) (by rfl) E.b_isinstance (by rfl) E.b_str (ev_nameO (i := 0) rfl (by first | exact .inl rfl | exact .inr (.inl rfl) | exact .inr (.inr rfl))))) (ev_one (EvE.toV (ev_cmp (cEq G hr) (ev_nameO (i := 0) rfl (by first | exact .inl rfl | exact .inr (.inl rfl) | exact .inr (.inr rfl))) (ev_nameO (i := 1) rfl (by first | exact .inl rfl | exact .inr (.inl rfl) | exact .inr (.inr rfl)))))))))) eb_nil) (eb_one (es_ret (EvV.toE (ev_and (EvE.toV (ev_isi G (T := "int") (by decide) (by decide +kernel) (by rfl) E.b_isinstance (by rfl) E.b_int (ev_nameO (i := 0) rfl (by first | exact .inl rfl | exact .inr (.inl rfl) | exact .inr (.inr rfl))))) (ev_and (ev_not (EvE.toV (ev_isi G (T := "bool") (by decide) (by decide +kernel) (by rfl) E.b_isinstance (by rfl) E.b_bool (ev_nameO (i := 0) rfl (by first | exact .inl rfl | exact .inr (.inl rfl) | exact .inr (.inr rfl)))))) (ev_one (EvE.toV (ev_cmp (cEq G hr) (ev_nameO (i := 0) rfl (by first | exact .inl rfl | exact .inr (.inl rfl) | exact .inr (.inr rfl))) (ev_nameO (i := 1) rfl (by first | exact .inl rfl | exact .inr (.inl rfl) | exact .inr (.inr rfl)))))))))))))))
def tab : Nat → Option (Nat × (Sl → List D → FR)) := fun i => match i with
  | 0 => some (2, F_closed_walks)
  | 1 => some (2, F_first_walks)
  | 2 => some (4, F_walk_number)
  | _ => none
theorem tab_ok {Γ : Ct} (hp : Γ.X.prog = P := by rfl) (hw : Γ.X.w = w := by rfl) (hK : Γ.X.K = K := by rfl) (hm : Γ.X.mg = mg := by rfl) (hb : Γ.X.base = base := by rfl) (hC : Γ.C = E.C := by rfl) : FnT Γ 6 tab := by
  refine ⟨fun i n F h a ha => ?_⟩
  unfold FnC; rw [hC] at ha ⊢; rw [hp, hw, hK, hm, hb]
  match i, h, ha with
  | 0, h, ha => cases h; cases ha; exact ⟨_, _, (ok_closed_walks E).mono (by decide), E.d_closed_walks.F.kp, E.d_closed_walks.b, rfl⟩
  | 1, h, ha => cases h; cases ha; exact ⟨_, _, (ok_first_walks E).mono (by decide), E.d_first_walks.F.kp, E.d_first_walks.b, rfl⟩
  | 2, h, ha => cases h; cases ha; exact ⟨_, _, (ok_walk_number E).mono (by decide), E.d_walk_number.F.kp, E.d_walk_number.b, rfl⟩
  | _ + 3, h, _ => cases h
def g__law_told : En → SR := (tryS [0, 1] 1 (seqS
  (iteS (tst (op2 eqD (oOfV ((vOfE (op1 lenD (nmO 1))))) (oOfV (kI 1)))) (retS ((eOfV ((tupE (aCons (kS (PySem.Str.ofString "told")) (aCons ((vOfE (callL tab 0 (aCons ((vOfE (op2 idxD (nmO 1) (oOfV (kI 0))))) aNil)))) aNil))))))) passS) (seqS
  (iteS (tst (op2 eqD (oOfV ((vOfE (op1 lenD (nmO 1))))) (oOfV (kI 2)))) (retS ((eOfV ((tupE (aCons (kS (PySem.Str.ofString "told")) (aCons ((vOfE (callL tab 0 (aCons ((vOfE (op2 idxD (nmO 1) (oOfV (kI 0))))) (aCons ((vOfE (op2 idxD (nmO 1) (oOfV (kI 1))))) aNil))))) aNil))))))) passS) (seqS
  (iteS (tst (op2 eqD (oOfV ((vOfE (op1 lenD (nmO 1))))) (oOfV (kI 3)))) (retS ((eOfV ((tupE (aCons (kS (PySem.Str.ofString "told")) (aCons ((vOfE (callL tab 0 (aCons ((vOfE (op2 idxD (nmO 1) (oOfV (kI 0))))) (aCons ((vOfE (op2 idxD (nmO 1) (oOfV (kI 1))))) (aCons ((vOfE (op2 idxD (nmO 1) (oOfV (kI 2))))) aNil)))))) aNil))))))) passS) (retS ((eOfV ((tupE (aCons (kS (PySem.Str.ofString "told")) (aCons ((vOfE (callL tab 0 (aCons ((vOfE (op2 idxD (nmO 1) (oOfV (kI 0))))) (aCons ((vOfE (op2 idxD (nmO 1) (oOfV (kI 1))))) (aCons ((vOfE (op2 idxD (nmO 1) (oOfV (kI 2))))) (aCons ((vOfE (op2 idxD (nmO 1) (oOfV (kI 3))))) aNil))))))) aNil)))))))))) (retS ((eOfV ((tupE (aCons (kS (PySem.Str.ofString "raised")) (aCons (kS (PySem.Str.ofString "malformed")) aNil))))))))
def F__law_told : Sl → List D → FR := fnF 2 false g__law_told
set_option maxRecDepth 100000 in
theorem ok__law_told : FnV P w K mg base E.C 7 E.d__law_told.f E.d__law_told.fd ["f", "given"] false F__law_told :=
  fnV_of E.d__law_told.F sc__law_told false [0, 1] rfl (fun h => nomatch h) fun cdv A outer s H X σ₀ hr G => by
    exact (eb_one (es_try G rfl rfl (List.cons_ne_nil _ _) (fun _ _ _ tk po => by have G := G.tryG tk; exact (eb_cons
  (es_if (et_cmp (cEq G hr) (EvV.toO (EvE.toV (ev_len G (by rfl) E.b_len (ev_nameO (i := 1) rfl (by first | exact .inl rfl | exact .inr (.inl rfl) | exact .inr (.inr rfl)))))) (EvV.toO ev_int)) (eb_one (es_ret (EvV.toE (ev_tup (ea_cons ev_str (ea_cons (EvE.toV (ev_callL G (tab_ok E) (hr.mono (by decide)) (i := 0) rfl (by first | exact .inl rfl | exact .inr (.inl rfl) | exact .inr (.inr rfl)) (ea_cons (EvE.toV (ev_idx G hr (ev_nameO (i := 1) rfl (by first | exact .inl rfl | exact .inr (.inl rfl) | exact .inr (.inr rfl))) (EvV.toO ev_int))) ea_nil))) ea_nil)))))) eb_nil) (eb_cons
  (es_if (et_cmp (cEq G hr) (EvV.toO (EvE.toV (ev_len G (by rfl) E.b_len (ev_nameO (i := 1) rfl (by first | exact .inl rfl | exact .inr (.inl rfl) | exact .inr (.inr rfl)))))) (EvV.toO ev_int)) (eb_one (es_ret (EvV.toE (ev_tup (ea_cons ev_str (ea_cons (EvE.toV (ev_callL G (tab_ok E) (hr.mono (by decide)) (i := 0) rfl (by first | exact .inl rfl | exact .inr (.inl rfl) | exact .inr (.inr rfl)) (ea_cons (EvE.toV (ev_idx G hr (ev_nameO (i := 1) rfl (by first | exact .inl rfl | exact .inr (.inl rfl) | exact .inr (.inr rfl))) (EvV.toO ev_int))) (ea_cons (EvE.toV (ev_idx G hr (ev_nameO (i := 1) rfl (by first | exact .inl rfl | exact .inr (.inl rfl) | exact .inr (.inr rfl))) (EvV.toO ev_int))) ea_nil)))) ea_nil)))))) eb_nil) (eb_cons
  (es_if (et_cmp (cEq G hr) (EvV.toO (EvE.toV (ev_len G (by rfl) E.b_len (ev_nameO (i := 1) rfl (by first | exact .inl rfl | exact .inr (.inl rfl) | exact .inr (.inr rfl)))))) (EvV.toO ev_int)) (eb_one (es_ret (EvV.toE (ev_tup (ea_cons ev_str (ea_cons (EvE.toV (ev_callL G (tab_ok E) (hr.mono (by decide)) (i := 0) rfl (by first | exact .inl rfl | exact .inr (.inl rfl) | exact .inr (.inr rfl)) (ea_cons (EvE.toV (ev_idx G hr (ev_nameO (i := 1) rfl (by first | exact .inl rfl | exact .inr (.inl rfl) | exact .inr (.inr rfl))) (EvV.toO ev_int))) (ea_cons (EvE.toV (ev_idx G hr (ev_nameO (i := 1) rfl (by first | exact .inl rfl | exact .inr (.inl rfl) | exact .inr (.inr rfl))) (EvV.toO ev_int))) (ea_cons (EvE.toV (ev_idx G hr (ev_nameO (i := 1) rfl (by first | exact .inl rfl | exact .inr (.inl rfl) | exact .inr (.inr rfl))) (EvV.toO ev_int))) ea_nil))))) ea_nil)))))) eb_nil) (eb_one (es_ret (EvV.toE (ev_tup (ea_cons ev_str (ea_cons (EvE.toV (ev_callL G (tab_ok E) (hr.mono (by decide)) (i := 0) rfl (by first | exact .inl rfl | exact .inr (.inl rfl) | exact .inr (.inr rfl)) (ea_cons (EvE.toV (ev_idx G hr (ev_nameO (i := 1) rfl (by first | exact .inl rfl | exact .inr (.inl rfl) | exact .inr (.inr rfl))) (EvV.toO ev_int))) (ea_cons (EvE.toV (ev_idx G hr (ev_nameO (i := 1) rfl (by first | exact .inl rfl | exact .inr (.inl rfl) | exact .inr (.inr rfl))) (EvV.toO ev_int))) (ea_cons (EvE.toV (ev_idx G hr (ev_nameO (i := 1) rfl (by first | exact .inl rfl | exact .inr (.inl rfl) | exact .inr (.inr rfl))) (EvV.toO ev_int))) (ea_cons (EvE.toV (ev_idx G hr (ev_nameO (i := 1) rfl (by first | exact .inl rfl | exact .inr (.inl rfl) | exact .inr (.inr rfl))) (EvV.toO ev_int))) ea_nil)))))) ea_nil)))))))))) (by rfl) E.x_Malformed.m rfl E.x_Malformed.e (fun _ _ _ => (eb_one (es_ret (EvV.toE (ev_tup (ea_cons ev_str (ea_cons ev_str ea_nil)))))))))
def g__law_is_raised : En → SR := (retS ((eOfV ((andV ((vOfE (op2 eqD (oOfV ((vOfE (op2 idxD (nmO 0) (oOfV (kI 0)))))) (oOfV (kS (PySem.Str.ofString "raised")))))) ((vOfE (callF 2 (F__law_same 6) (aCons ((vOfE (op2 idxD (nmO 0) (oOfV (kI 1))))) (aCons ((nmV 1)) aNil))))))))))
def F__law_is_raised : Sl → List D → FR := fnF 2 false g__law_is_raised
set_option maxRecDepth 100000 in
theorem ok__law_is_raised : FnV P w K mg base E.C 8 E.d__law_is_raised.f E.d__law_is_raised.fd ["pair", "reason"] false F__law_is_raised :=
  fnV_of E.d__law_is_raised.F sc__law_is_raised false [] rfl (fun h => nomatch h) fun cdv A outer s H X σ₀ hr G => by
    exact (eb_one (es_ret (EvV.toE (ev_and (EvE.toV (ev_cmp (cEq G hr) (EvV.toO (EvE.toV (ev_idx G hr (ev_nameO (i := 0) rfl (by first | exact .inl rfl | exact .inr (.inl rfl) | exact .inr (.inr rfl))) (EvV.toO ev_int)))) (EvV.toO ev_str))) (ev_one (EvE.toV (ev_call G (ok__law_same E 6) (hr.mono (by decide)) (by rfl) E.d__law_same.m E.d__law_same.F.kp E.d__law_same.b (ea_cons (EvE.toV (ev_idx G hr (ev_nameO (i := 0) rfl (by first | exact .inl rfl | exact .inr (.inl rfl) | exact .inr (.inr rfl))) (EvV.toO ev_int))) (ea_cons (ev_name (i := 1) rfl (by first | exact .inl rfl | exact .inr (.inl rfl) | exact .inr (.inr rfl))) ea_nil)))))))))
def g__law_is_told : En → SR := (retS ((eOfV ((andV ((vOfE (op2 eqD (oOfV ((vOfE (op2 idxD (nmO 0) (oOfV (kI 0)))))) (oOfV (kS (PySem.Str.ofString "told")))))) ((vOfE (callF 2 (F__law_same 6) (aCons ((vOfE (op2 idxD (nmO 0) (oOfV (kI 1))))) (aCons ((nmV 1)) aNil))))))))))
def F__law_is_told : Sl → List D → FR := fnF 2 false g__law_is_told
set_option maxRecDepth 100000 in
theorem ok__law_is_told : FnV P w K mg base E.C 8 E.d__law_is_told.f E.d__law_is_told.fd ["pair", "due"] false F__law_is_told :=
  fnV_of E.d__law_is_told.F sc__law_is_told false [] rfl (fun h => nomatch h) fun cdv A outer s H X σ₀ hr G => by
    exact (eb_one (es_ret (EvV.toE (ev_and (EvE.toV (ev_cmp (cEq G hr) (EvV.toO (EvE.toV (ev_idx G hr (ev_nameO (i := 0) rfl (by first | exact .inl rfl | exact .inr (.inl rfl) | exact .inr (.inr rfl))) (EvV.toO ev_int)))) (EvV.toO ev_str))) (ev_one (EvE.toV (ev_call G (ok__law_same E 6) (hr.mono (by decide)) (by rfl) E.d__law_same.m E.d__law_same.F.kp E.d__law_same.b (ea_cons (EvE.toV (ev_idx G hr (ev_nameO (i := 0) rfl (by first | exact .inl rfl | exact .inr (.inl rfl) | exact .inr (.inr rfl))) (EvV.toO ev_int))) (ea_cons (ev_name (i := 1) rfl (by first | exact .inl rfl | exact .inr (.inl rfl) | exact .inr (.inr rfl))) ea_nil)))))))))
abbrev g__law_values_hold_1 : En → SR := (asgS (tupG 2 (consG (nameG 5) (consG (nameG 6) nilG))) ((nmV 1)))
abbrev g__law_values_hold_2 : En → SR := (setS 2 ((lstE (aCons ((nmV 1)) (aCons ((vOfE (op1 lisD (nmO 1)))) (aCons ((tupE (aCons ((nmV 5)) (aCons ((vOfE (op1 lisD (nmO 6)))) aNil)))) (aCons ((tupE (aCons ((nmV 5)) aNil))) (aCons ((tupE (aCons ((nmV 5)) (aCons ((nmV 6)) (aCons (kI 0) aNil))))) (aCons ((tupE (aCons (kI 0) (aCons ((tupE aNil)) aNil)))) (aCons ((tupE (aCons (kI 401) (aCons ((tupE aNil)) aNil)))) (aCons ((tupE (aCons (kI 400) (aCons ((tupE aNil)) aNil)))) (aCons ((tupE (aCons (kB true) (aCons ((tupE aNil)) aNil)))) (aCons ((tupE (aCons ((nmV 5)) (aCons (kN) aNil)))) (aCons (kN) (aCons (kI 5) (aCons (kS (PySem.Str.ofString "G")) aNil))))))))))))))))
abbrev g__law_values_hold_3 : En → SR := (setS 2 ((op2 addD (nmO 2) (oOfV ((vOfE (lstE (aCons ((tupE (aCons ((nmV 5)) (aCons ((vOfE (op2 addD (nmO 6) (oOfV ((tupE (aCons ((tupE (aCons (kI 0) (aCons ((nmV 5)) aNil)))) aNil))))))) aNil)))) (aCons ((tupE (aCons ((nmV 5)) (aCons ((tupE (aCons ((tupE (aCons (kI 0) (aCons ((vOfE (op1 negD (oOfV (kI 1))))) aNil)))) aNil))) aNil)))) (aCons ((tupE (aCons ((nmV 5)) (aCons ((tupE (aCons ((tupE (aCons (kI 0) (aCons (kI 0) (aCons (kI 0) aNil))))) aNil))) aNil)))) (aCons ((tupE (aCons ((nmV 5)) (aCons ((tupE (aCons (kN) aNil))) aNil)))) (aCons ((tupE (aCons ((nmV 5)) (aCons ((tupE (aCons ((tupE (aCons (kB false) (aCons (kI 0) aNil)))) aNil))) aNil)))) aNil))))))))))))
abbrev g__law_values_hold_4 : En → SR := (setS 2 ((op2 addD (nmO 2) (oOfV ((vOfE (lstE (aCons ((tupE (aCons ((nmV 5)) (aCons ((vOfE (op1 revD (nmO 6)))) aNil)))) (aCons ((tupE (aCons ((nmV 5)) (aCons ((tupE (aCons ((tupE (aCons ((vOfE (op2 subD (nmO 5) (oOfV (kI 1))))) (aCons (kI 0) aNil)))) aNil))) aNil)))) (aCons ((tupE (aCons (kI 1) (aCons ((vOfE (op2 repD (oOfV ((tupE (aCons ((tupE (aCons (kI 0) (aCons (kI 0) aNil)))) aNil)))) (oOfV (kI 4000))))) aNil)))) (aCons ((tupE (aCons (kI 1) (aCons ((vOfE (op2 repD (oOfV ((tupE (aCons ((tupE (aCons (kI 0) (aCons (kI 0) aNil)))) aNil)))) (oOfV (kI 4001))))) aNil)))) (aCons ((tupE (aCons ((vOfE (op1 strD (nmO 5)))) (aCons ((nmV 6)) aNil)))) (aCons ((tupE (aCons ((nmV 5)) (aCons ((tupE (aCons ((vOfE (lstE (aCons (kI 0) (aCons (kI 0) aNil))))) aNil))) aNil)))) aNil)))))))))))))
abbrev g__law_values_hold_5 : En → SR := (forS (seqI' ((nmV 2))) (nameG 3) (seqS
  (setS 7 ((callF 1 (F__law_is_graph) (aCons ((nmV 3)) aNil)))) (seqS
  (iteS (notT (tru (oOfV ((vOfE (callF 2 (F__law_same 6) (aCons ((vOfE (callF 1 (F_is_rooted_graph) (aCons ((nmV 3)) aNil)))) (aCons ((nmV 7)) aNil)))))))) (retS ((eOfV (kB false)))) passS) (forS (seqI' ((vOfE (lstE (aCons ((tupE (aCons ((fun env => .ok (.fn 0) env)) (aCons ((tupE (aCons ((nmV 3)) (aCons (kI 2) aNil)))) aNil)))) (aCons ((tupE (aCons ((fun env => .ok (.fn 1) env)) (aCons ((tupE (aCons ((nmV 3)) (aCons (kI 2) aNil)))) aNil)))) (aCons ((tupE (aCons ((fun env => .ok (.fn 2) env)) (aCons ((tupE (aCons ((nmV 3)) (aCons (kI 0) (aCons (kI 0) (aCons (kI 2) aNil)))))) aNil)))) aNil))))))) (tupG 2 (consG (nameG 11) (consG (nameG 12) nilG))) (iteS (andT (notT (tru (nmO 7))) (notT (tru (oOfV ((vOfE (callF 2 (F__law_is_raised) (aCons ((vOfE (callF 2 (F__law_told) (aCons ((nmV 11)) (aCons ((nmV 12)) aNil))))) (aCons (kS (PySem.Str.ofString "malformed")) aNil))))))))) (retS ((eOfV (kB false)))) passS)))))
abbrev g__law_values_hold_6 : En → SR := (forS (seqI' ((vOfE (lstE (aCons ((vOfE (op1 negD (oOfV (kI 1))))) (aCons (kI 13) (aCons (kN) (aCons (kB true) (aCons (kS (PySem.Str.ofString "1")) aNil))))))))) (nameG 4) (iteS (orT (notT (tru (oOfV ((vOfE (callF 2 (F__law_is_raised) (aCons ((vOfE (callF 2 (F__law_told) (aCons ((fun env => .ok (.fn 0) env)) (aCons ((tupE (aCons ((nmV 1)) (aCons ((nmV 4)) aNil)))) aNil))))) (aCons (kS (PySem.Str.ofString "malformed")) aNil)))))))) (notT (tru (oOfV ((vOfE (callF 2 (F__law_is_raised) (aCons ((vOfE (callF 2 (F__law_told) (aCons ((fun env => .ok (.fn 1) env)) (aCons ((tupE (aCons ((nmV 1)) (aCons ((nmV 4)) aNil)))) aNil))))) (aCons (kS (PySem.Str.ofString "malformed")) aNil))))))))) (retS ((eOfV (kB false)))) passS))
abbrev g__law_values_hold_7 : En → SR := (forS (seqI' ((vOfE (lstE (aCons ((tupE (aCons ((vOfE (op1 negD (oOfV (kI 1))))) (aCons (kI 0) (aCons (kI 1) aNil))))) (aCons ((tupE (aCons (kI 0) (aCons ((nmV 5)) (aCons (kI 1) aNil))))) (aCons ((tupE (aCons (kI 0) (aCons (kI 0) (aCons ((vOfE (op1 negD (oOfV (kI 1))))) aNil))))) (aCons ((tupE (aCons (kI 0) (aCons (kI 0) (aCons (kI 61) aNil))))) (aCons ((tupE (aCons (kN) (aCons (kI 0) (aCons (kI 1) aNil))))) (aCons ((tupE (aCons (kI 0) (aCons (kB true) (aCons (kI 1) aNil))))) (aCons ((tupE (aCons (kI 0) (aCons (kI 0) (aCons (kS (PySem.Str.ofString "1")) aNil))))) aNil))))))))))) (tupG 3 (consG (nameG 8) (consG (nameG 9) (consG (nameG 10) nilG)))) (iteS (notT (tru (oOfV ((vOfE (callF 2 (F__law_is_raised) (aCons ((vOfE (callF 2 (F__law_told) (aCons ((fun env => .ok (.fn 2) env)) (aCons ((tupE (aCons ((nmV 1)) (aCons ((nmV 8)) (aCons ((nmV 9)) (aCons ((nmV 10)) aNil)))))) aNil))))) (aCons (kS (PySem.Str.ofString "malformed")) aNil)))))))) (retS ((eOfV (kB false)))) passS))
abbrev g__law_values_hold_8 : En → SR := (retS ((eOfV (kB true))))
def g__law_values_hold : En → SR := (seqS g__law_values_hold_1 (seqS g__law_values_hold_2 (seqS g__law_values_hold_3 (seqS g__law_values_hold_4 (seqS g__law_values_hold_5 (seqS g__law_values_hold_6 (seqS g__law_values_hold_7 g__law_values_hold_8)))))))
def F__law_values_hold : Sl → List D → FR := fnF 13 false g__law_values_hold
set_option maxRecDepth 100000 in
theorem ok__law_values_hold : FnV P w K mg base E.C 9 E.d__law_values_hold.f E.d__law_values_hold.fd ["state", "G"] false F__law_values_hold :=
  fnV_of E.d__law_values_hold.F sc__law_values_hold false [] rfl (fun h => nomatch h) fun cdv A outer s H X σ₀ hr G => by
    exact (eb_cons
  (es_asg (ev_name (i := 1) rfl (by first | exact .inl rfl | exact .inr (.inl rfl) | exact .inr (.inr rfl))) (eg_tup G (egs_cons (eg_name (i := 5) G rfl (by first | exact .inl rfl | exact .inr rfl) (show (5 : Nat) ∉ ([] : List Nat) by decide)) (egs_cons (eg_name (i := 6) G rfl (by first | exact .inl rfl | exact .inr rfl) (show (6 : Nat) ∉ ([] : List Nat) by decide)) egs_nil)))) (eb_cons
  (es_set (i := 2) G rfl (by first | exact .inl rfl | exact .inr rfl) (show (2 : Nat) ∉ ([] : List Nat) by decide) (ev_lst (ea_cons (ev_name (i := 1) rfl (by first | exact .inl rfl | exact .inr (.inl rfl) | exact .inr (.inr rfl))) (ea_cons (EvE.toV (ev_list G (by rfl) E.b_list (ev_nameO (i := 1) rfl (by first | exact .inl rfl | exact .inr (.inl rfl) | exact .inr (.inr rfl))))) (ea_cons (ev_tup (ea_cons (ev_name (i := 5) rfl (by first | exact .inl rfl | exact .inr (.inl rfl) | exact .inr (.inr rfl))) (ea_cons (EvE.toV (ev_list G (by rfl) E.b_list (ev_nameO (i := 6) rfl (by first | exact .inl rfl | exact .inr (.inl rfl) | exact .inr (.inr rfl))))) ea_nil))) (ea_cons (ev_tup (ea_cons (ev_name (i := 5) rfl (by first | exact .inl rfl | exact .inr (.inl rfl) | exact .inr (.inr rfl))) ea_nil)) (ea_cons (ev_tup (ea_cons (ev_name (i := 5) rfl (by first | exact .inl rfl | exact .inr (.inl rfl) | exact .inr (.inr rfl))) (ea_cons (ev_name (i := 6) rfl (by first | exact .inl rfl | exact .inr (.inl rfl) | exact .inr (.inr rfl))) (ea_cons ev_int ea_nil)))) (ea_cons (ev_tup (ea_cons ev_int (ea_cons (ev_tup ea_nil) ea_nil))) (ea_cons (ev_tup (ea_cons ev_int (ea_cons (ev_tup ea_nil) ea_nil))) (ea_cons (ev_tup (ea_cons ev_int (ea_cons (ev_tup ea_nil) ea_nil))) (ea_cons (ev_tup (ea_cons ev_bl (ea_cons (ev_tup ea_nil) ea_nil))) (ea_cons (ev_tup (ea_cons (ev_name (i := 5) rfl (by first | exact .inl rfl | exact .inr (.inl rfl) | exact .inr (.inr rfl))) (ea_cons ev_non ea_nil))) (ea_cons ev_non (ea_cons ev_int (ea_cons ev_str ea_nil))))))))))))))) (eb_cons
  (es_set (i := 2) G rfl (by first | exact .inl rfl | exact .inr rfl) (show (2 : Nat) ∉ ([] : List Nat) by decide) (ev_add G (ev_nameO (i := 2) rfl (by first | exact .inl rfl | exact .inr (.inl rfl) | exact .inr (.inr rfl))) (EvV.toO (EvE.toV (ev_lst (ea_cons (ev_tup (ea_cons (ev_name (i := 5) rfl (by first | exact .inl rfl | exact .inr (.inl rfl) | exact .inr (.inr rfl))) (ea_cons (EvE.toV (ev_add G (ev_nameO (i := 6) rfl (by first | exact .inl rfl | exact .inr (.inl rfl) | exact .inr (.inr rfl))) (EvV.toO (ev_tup (ea_cons (ev_tup (ea_cons ev_int (ea_cons (ev_name (i := 5) rfl (by first | exact .inl rfl | exact .inr (.inl rfl) | exact .inr (.inr rfl))) ea_nil))) ea_nil))))) ea_nil))) (ea_cons (ev_tup (ea_cons (ev_name (i := 5) rfl (by first | exact .inl rfl | exact .inr (.inl rfl) | exact .inr (.inr rfl))) (ea_cons (ev_tup (ea_cons (ev_tup (ea_cons ev_int (ea_cons (EvE.toV (ev_neg (EvV.toO ev_int))) ea_nil))) ea_nil)) ea_nil))) (ea_cons (ev_tup (ea_cons (ev_name (i := 5) rfl (by first | exact .inl rfl | exact .inr (.inl rfl) | exact .inr (.inr rfl))) (ea_cons (ev_tup (ea_cons (ev_tup (ea_cons ev_int (ea_cons ev_int (ea_cons ev_int ea_nil)))) ea_nil)) ea_nil))) (ea_cons (ev_tup (ea_cons (ev_name (i := 5) rfl (by first | exact .inl rfl | exact .inr (.inl rfl) | exact .inr (.inr rfl))) (ea_cons (ev_tup (ea_cons ev_non ea_nil)) ea_nil))) (ea_cons (ev_tup (ea_cons (ev_name (i := 5) rfl (by first | exact .inl rfl | exact .inr (.inl rfl) | exact .inr (.inr rfl))) (ea_cons (ev_tup (ea_cons (ev_tup (ea_cons ev_bl (ea_cons ev_int ea_nil))) ea_nil)) ea_nil))) ea_nil)))))))))) (eb_cons
  (es_set (i := 2) G rfl (by first | exact .inl rfl | exact .inr rfl) (show (2 : Nat) ∉ ([] : List Nat) by decide) (ev_add G (ev_nameO (i := 2) rfl (by first | exact .inl rfl | exact .inr (.inl rfl) | exact .inr (.inr rfl))) (EvV.toO (EvE.toV (ev_lst (ea_cons (ev_tup (ea_cons (ev_name (i := 5) rfl (by first | exact .inl rfl | exact .inr (.inl rfl) | exact .inr (.inr rfl))) (ea_cons (EvE.toV (ev_rev (k := 0) G (ev_nameO (i := 6) rfl (by first | exact .inl rfl | exact .inr (.inl rfl) | exact .inr (.inr rfl))))) ea_nil))) (ea_cons (ev_tup (ea_cons (ev_name (i := 5) rfl (by first | exact .inl rfl | exact .inr (.inl rfl) | exact .inr (.inr rfl))) (ea_cons (ev_tup (ea_cons (ev_tup (ea_cons (EvE.toV (ev_sub (ev_nameO (i := 5) rfl (by first | exact .inl rfl | exact .inr (.inl rfl) | exact .inr (.inr rfl))) (EvV.toO ev_int))) (ea_cons ev_int ea_nil))) ea_nil)) ea_nil))) (ea_cons (ev_tup (ea_cons ev_int (ea_cons (EvE.toV (ev_rep G (EvV.toO (ev_tup (ea_cons (ev_tup (ea_cons ev_int (ea_cons ev_int ea_nil))) ea_nil))) (EvV.toO ev_int))) ea_nil))) (ea_cons (ev_tup (ea_cons ev_int (ea_cons (EvE.toV (ev_rep G (EvV.toO (ev_tup (ea_cons (ev_tup (ea_cons ev_int (ea_cons ev_int ea_nil))) ea_nil))) (EvV.toO ev_int))) ea_nil))) (ea_cons (ev_tup (ea_cons (EvE.toV (ev_str1 (by rfl) E.b_str (ev_nameO (i := 5) rfl (by first | exact .inl rfl | exact .inr (.inl rfl) | exact .inr (.inr rfl))))) (ea_cons (ev_name (i := 6) rfl (by first | exact .inl rfl | exact .inr (.inl rfl) | exact .inr (.inr rfl))) ea_nil))) (ea_cons (ev_tup (ea_cons (ev_name (i := 5) rfl (by first | exact .inl rfl | exact .inr (.inl rfl) | exact .inr (.inr rfl))) (ea_cons (ev_tup (ea_cons (EvE.toV (ev_lst (ea_cons ev_int (ea_cons ev_int ea_nil)))) ea_nil)) ea_nil))) ea_nil))))))))))) (eb_cons
  (es_for G (passes_of rfl) (ei_seq G (ev_name (i := 2) rfl (by first | exact .inl rfl | exact .inr (.inl rfl) | exact .inr (.inr rfl)))) (eg_name (i := 3) G rfl (by first | exact .inl rfl | exact .inr rfl) (show (3 : Nat) ∉ ([] : List Nat) by decide)) (eb_cons
  (es_set (i := 7) G rfl (by first | exact .inl rfl | exact .inr rfl) (show (7 : Nat) ∉ ([] : List Nat) by decide) (ev_call G (ok__law_is_graph E) (hr.mono (by decide)) (by rfl) E.d__law_is_graph.m E.d__law_is_graph.F.kp E.d__law_is_graph.b (ea_cons (ev_name (i := 3) rfl (by first | exact .inl rfl | exact .inr (.inl rfl) | exact .inr (.inr rfl))) ea_nil))) (eb_cons
  (es_if (et_not (et_tru G (EvV.toO (EvE.toV (ev_call G (ok__law_same E 6) (hr.mono (by decide)) (by rfl) E.d__law_same.m E.d__law_same.F.kp E.d__law_same.b (ea_cons (EvE.toV (ev_call G (ok_is_rooted_graph E) (hr.mono (by decide)) (by rfl) E.d_is_rooted_graph.m E.d_is_rooted_graph.F.kp E.d_is_rooted_graph.b (ea_cons (ev_name (i := 3) rfl (by first | exact .inl rfl | exact .inr (.inl rfl) | exact .inr (.inr rfl))) ea_nil))) (ea_cons (ev_name (i := 7) rfl (by first | exact .inl rfl | exact .inr (.inl rfl) | exact .inr (.inr rfl))) ea_nil))))))) (eb_one (es_ret (EvV.toE ev_bl))) eb_nil) (eb_one (es_for G (passes_of rfl) (ei_seq G (EvE.toV (ev_lst (ea_cons (ev_tup (ea_cons (ev_fn (n := 0) (by rfl) E.d_closed_walks.m rfl) (ea_cons (ev_tup (ea_cons (ev_name (i := 3) rfl (by first | exact .inl rfl | exact .inr (.inl rfl) | exact .inr (.inr rfl))) (ea_cons ev_int ea_nil))) ea_nil))) (ea_cons (ev_tup (ea_cons (ev_fn (n := 1) (by rfl) E.d_first_walks.m rfl) (ea_cons (ev_tup (ea_cons (ev_name (i := 3) rfl (by first | exact .inl rfl | exact .inr (.inl rfl) | exact .inr (.inr rfl))) (ea_cons ev_int ea_nil))) ea_nil))) (ea_cons (ev_tup (ea_cons (ev_fn (n := 2) (by rfl) E.d_walk_number.m rfl) (ea_cons (ev_tup (ea_cons (ev_name (i := 3) rfl (by first | exact .inl rfl | exact .inr (.inl rfl) | exact .inr (.inr rfl))) (ea_cons ev_int (ea_cons ev_int (ea_cons ev_int ea_nil))))) ea_nil))) ea_nil)))))) (eg_tup G (egs_cons (eg_name (i := 11) G rfl (by first | exact .inl rfl | exact .inr rfl) (show (11 : Nat) ∉ ([] : List Nat) by decide)) (egs_cons (eg_name (i := 12) G rfl (by first | exact .inl rfl | exact .inr rfl) (show (12 : Nat) ∉ ([] : List Nat) by decide)) egs_nil))) (eb_one (es_if (EvW.t (ew_and (et_not (et_tru G (ev_nameO (i := 7) rfl (by first | exact .inl rfl | exact .inr (.inl rfl) | exact .inr (.inr rfl))))) (ew_and1 (et_not (et_tru G (EvV.toO (EvE.toV (ev_call G (ok__law_is_raised E) (hr.mono (by decide)) (by rfl) E.d__law_is_raised.m E.d__law_is_raised.F.kp E.d__law_is_raised.b (ea_cons (EvE.toV (ev_call G (ok__law_told E) (hr.mono (by decide)) (by rfl) E.d__law_told.m E.d__law_told.F.kp E.d__law_told.b (ea_cons (ev_name (i := 11) rfl (by first | exact .inl rfl | exact .inr (.inl rfl) | exact .inr (.inr rfl))) (ea_cons (ev_name (i := 12) rfl (by first | exact .inl rfl | exact .inr (.inl rfl) | exact .inr (.inr rfl))) ea_nil)))) (ea_cons ev_str ea_nil)))))))))) (eb_one (es_ret (EvV.toE ev_bl))) eb_nil))))))) (eb_cons
  (es_for G (passes_of rfl) (ei_seq G (EvE.toV (ev_lst (ea_cons (EvE.toV (ev_neg (EvV.toO ev_int))) (ea_cons ev_int (ea_cons ev_non (ea_cons ev_bl (ea_cons ev_str ea_nil)))))))) (eg_name (i := 4) G rfl (by first | exact .inl rfl | exact .inr rfl) (show (4 : Nat) ∉ ([] : List Nat) by decide)) (eb_one (es_if (EvW.t (ew_or (et_not (et_tru G (EvV.toO (EvE.toV (ev_call G (ok__law_is_raised E) (hr.mono (by decide)) (by rfl) E.d__law_is_raised.m E.d__law_is_raised.F.kp E.d__law_is_raised.b (ea_cons (EvE.toV (ev_call G (ok__law_told E) (hr.mono (by decide)) (by rfl) E.d__law_told.m E.d__law_told.F.kp E.d__law_told.b (ea_cons (ev_fn (n := 0) (by rfl) E.d_closed_walks.m rfl) (ea_cons (ev_tup (ea_cons (ev_name (i := 1) rfl (by first | exact .inl rfl | exact .inr (.inl rfl) | exact .inr (.inr rfl))) (ea_cons (ev_name (i := 4) rfl (by first | exact .inl rfl | exact .inr (.inl rfl) | exact .inr (.inr rfl))) ea_nil))) ea_nil)))) (ea_cons ev_str ea_nil))))))) (ew_or1 (et_not (et_tru G (EvV.toO (EvE.toV (ev_call G (ok__law_is_raised E) (hr.mono (by decide)) (by rfl) E.d__law_is_raised.m E.d__law_is_raised.F.kp E.d__law_is_raised.b (ea_cons (EvE.toV (ev_call G (ok__law_told E) (hr.mono (by decide)) (by rfl) E.d__law_told.m E.d__law_told.F.kp E.d__law_told.b (ea_cons (ev_fn (n := 1) (by rfl) E.d_first_walks.m rfl) (ea_cons (ev_tup (ea_cons (ev_name (i := 1) rfl (by first | exact .inl rfl | exact .inr (.inl rfl) | exact .inr (.inr rfl))) (ea_cons (ev_name (i := 4) rfl (by first | exact .inl rfl | exact .inr (.inl rfl) | exact .inr (.inr rfl))) ea_nil))) ea_nil)))) (ea_cons ev_str ea_nil)))))))))) (eb_one (es_ret (EvV.toE ev_bl))) eb_nil))) (eb_cons
  (es_for G (passes_of rfl) (ei_seq G (EvE.toV (ev_lst (ea_cons (ev_tup (ea_cons (EvE.toV (ev_neg (EvV.toO ev_int))) (ea_cons ev_int (ea_cons ev_int ea_nil)))) (ea_cons (ev_tup (ea_cons ev_int (ea_cons (ev_name (i := 5) rfl (by first | exact .inl rfl | exact .inr (.inl rfl) | exact .inr (.inr rfl))) (ea_cons ev_int ea_nil)))) (ea_cons (ev_tup (ea_cons ev_int (ea_cons ev_int (ea_cons (EvE.toV (ev_neg (EvV.toO ev_int))) ea_nil)))) (ea_cons (ev_tup (ea_cons ev_int (ea_cons ev_int (ea_cons ev_int ea_nil)))) (ea_cons (ev_tup (ea_cons ev_non (ea_cons ev_int (ea_cons ev_int ea_nil)))) (ea_cons (ev_tup (ea_cons ev_int (ea_cons ev_bl (ea_cons ev_int ea_nil)))) (ea_cons (ev_tup (ea_cons ev_int (ea_cons ev_int (ea_cons ev_str ea_nil)))) ea_nil)))))))))) (eg_tup G (egs_cons (eg_name (i := 8) G rfl (by first | exact .inl rfl | exact .inr rfl) (show (8 : Nat) ∉ ([] : List Nat) by decide)) (egs_cons (eg_name (i := 9) G rfl (by first | exact .inl rfl | exact .inr rfl) (show (9 : Nat) ∉ ([] : List Nat) by decide)) (egs_cons (eg_name (i := 10) G rfl (by first | exact .inl rfl | exact .inr rfl) (show (10 : Nat) ∉ ([] : List Nat) by decide)) egs_nil)))) (eb_one (es_if (et_not (et_tru G (EvV.toO (EvE.toV (ev_call G (ok__law_is_raised E) (hr.mono (by decide)) (by rfl) E.d__law_is_raised.m E.d__law_is_raised.F.kp E.d__law_is_raised.b (ea_cons (EvE.toV (ev_call G (ok__law_told E) (hr.mono (by decide)) (by rfl) E.d__law_told.m E.d__law_told.F.kp E.d__law_told.b (ea_cons (ev_fn (n := 2) (by rfl) E.d_walk_number.m rfl) (ea_cons (ev_tup (ea_cons (ev_name (i := 1) rfl (by first | exact .inl rfl | exact .inr (.inl rfl) | exact .inr (.inr rfl))) (ea_cons (ev_name (i := 8) rfl (by first | exact .inl rfl | exact .inr (.inl rfl) | exact .inr (.inr rfl))) (ea_cons (ev_name (i := 9) rfl (by first | exact .inl rfl | exact .inr (.inl rfl) | exact .inr (.inr rfl))) (ea_cons (ev_name (i := 10) rfl (by first | exact .inl rfl | exact .inr (.inl rfl) | exact .inr (.inr rfl))) ea_nil))))) ea_nil)))) (ea_cons ev_str ea_nil))))))) (eb_one (es_ret (EvV.toE ev_bl))) eb_nil))) (eb_one (es_ret (EvV.toE ev_bl))))))))))
abbrev g_law_1 : En → SR := (setS 1 ((callF 1 (F__law_state) (aCons ((nmV 0)) aNil))))
abbrev g_law_2 : En → SR := (setS 2 ((callI 2 (F__law_graph) 1 (aCons ((vOfE (op2 idxD (oOfV ((vOfE (lstE (aCons (kI 8) (aCons (kI 8) (aCons (kI 40) aNil))))))) (oOfV ((vOfE (callI 2 (F__law_take) 1 (aCons (kI 3) aNil)))))))) aNil))))
abbrev g_law_3 : En → SR := (setS 3 ((callI 2 (F__law_take) 1 (aCons (kI 13) aNil))))
abbrev g_law_4 : En → SR := (setS 4 ((callF 2 (F__law_walks) (aCons ((nmV 2)) (aCons ((nmV 3)) aNil)))))
abbrev g_law_5 : En → SR := (iteS (notT (tru (oOfV ((vOfE (callF 2 (F__law_is_told) (aCons ((vOfE (callF 2 (F__law_told) (aCons ((fun env => .ok (.fn 0) env)) (aCons ((tupE (aCons ((nmV 2)) (aCons ((nmV 3)) aNil)))) aNil))))) (aCons ((vOfE (op1 tupD (oOfV ((vOfE (comp (seqI' ((nmV 4))) (nameG 14) (yesT) ((eOfV ((tupE (aCons ((nmV 14)) (aCons (kI 1) aNil)))))) 0 [14]))))))) aNil)))))))) (retS ((eOfV (kB false)))) passS)
abbrev g_law_6 : En → SR := (setS 5 ((lstE aNil)))
abbrev g_law_7 : En → SR := (forS (rg1 (aCons ((nmV 3)) aNil)) (nameG 6) (appS 5 ((vOfE (op2 subD (oOfV ((vOfE (op2 idxD (nmO 4) (nmO 6))))) (oOfV ((vOfE (op1 sumD (oOfV ((vOfE (comp (rg1 (aCons ((nmV 6)) aNil)) (nameG 15) (yesT) ((eOfV ((vOfE (op2 mulD (oOfV ((vOfE (op2 idxD (nmO 5) (nmO 15))))) (oOfV ((vOfE (op2 idxD (nmO 4) (oOfV ((vOfE (op2 subD (oOfV ((vOfE (op2 subD (nmO 6) (nmO 15))))) (oOfV (kI 1))))))))))))))) 0 [15])))))))))))))
abbrev g_law_8 : En → SR := (iteS (orT (notT (tru (oOfV ((vOfE (callF 2 (F__law_is_told) (aCons ((vOfE (callF 2 (F__law_told) (aCons ((fun env => .ok (.fn 1) env)) (aCons ((tupE (aCons ((nmV 2)) (aCons ((nmV 3)) aNil)))) aNil))))) (aCons ((vOfE (op1 tupD (nmO 5)))) aNil)))))))) (tru (oOfV ((vOfE (op1 anyD (oOfV ((vOfE (comp (seqI' ((nmV 5))) (nameG 13) (yesT) ((eOfV ((vOfE (op2 (cmpD fun i j => decide (i < j)) (nmO 13) (oOfV (kI 0))))))) 0 [13])))))))))) (retS ((eOfV (kB false)))) passS)
abbrev g_law_9 : En → SR := (asgS (tupG 3 (consG (nameG 10) (consG (nameG 11) (consG (nameG 6) nilG)))) ((tupE (aCons ((vOfE (callI 2 (F__law_take) 1 (aCons ((vOfE (op2 idxD (nmO 2) (oOfV (kI 0))))) aNil)))) (aCons ((vOfE (callI 2 (F__law_take) 1 (aCons ((vOfE (op2 idxD (nmO 2) (oOfV (kI 0))))) aNil)))) (aCons ((vOfE (callI 2 (F__law_take) 1 (aCons ((vOfE (op2 idxD (oOfV ((vOfE (lstE (aCons (kI 9) (aCons (kI 61) aNil)))))) (oOfV ((vOfE (callI 2 (F__law_take) 1 (aCons (kI 2) aNil)))))))) aNil)))) aNil))))))
abbrev g_law_10 : En → SR := (setS 7 (comp (rg1 (aCons ((vOfE (op2 idxD (nmO 2) (oOfV (kI 0))))) aNil)) (nameG 12) (yesT) ((eOfV ((vOfE (op1 intD (oOfV ((vOfE (op2 eqD (nmO 12) (nmO 11)))))))))) 0 [12]))
abbrev g_law_11 : En → SR := (setS 8 ((callF 1 (F__law_table) (aCons ((nmV 2)) aNil))))
abbrev g_law_12 : En → SR := (forS (rg1 (aCons ((nmV 6)) aNil)) (nameG 9) (setS 7 ((callF 2 (F__law_led) (aCons ((nmV 8)) (aCons ((nmV 7)) aNil))))))
abbrev g_law_13 : En → SR := (iteS (orT (notT (tru (oOfV ((vOfE (callF 2 (F__law_is_told) (aCons ((vOfE (callF 2 (F__law_told) (aCons ((fun env => .ok (.fn 2) env)) (aCons ((tupE (aCons ((nmV 2)) (aCons ((nmV 10)) (aCons ((nmV 11)) (aCons ((nmV 6)) aNil)))))) aNil))))) (aCons ((vOfE (op2 idxD (nmO 7) (nmO 10)))) aNil)))))))) (notT (tru (oOfV ((vOfE (callF 2 (F__law_is_told) (aCons ((vOfE (callF 2 (F__law_told) (aCons ((fun env => .ok (.fn 2) env)) (aCons ((tupE (aCons ((nmV 2)) (aCons ((nmV 11)) (aCons ((nmV 10)) (aCons ((nmV 6)) aNil)))))) aNil))))) (aCons ((vOfE (op2 idxD (nmO 7) (nmO 10)))) aNil))))))))) (retS ((eOfV (kB false)))) passS)
abbrev g_law_14 : En → SR := (retS ((callF 2 (F__law_values_hold) (aCons ((nmV 1)) (aCons ((nmV 2)) aNil)))))
def g_law : En → SR := (seqS g_law_1 (seqS g_law_2 (seqS g_law_3 (seqS g_law_4 (seqS g_law_5 (seqS g_law_6 (seqS g_law_7 (seqS g_law_8 (seqS g_law_9 (seqS g_law_10 (seqS g_law_11 (seqS g_law_12 (seqS g_law_13 g_law_14)))))))))))))
def F_law : Sl → List D → FR := fnF 16 false g_law
set_option maxRecDepth 100000 in
theorem ok_law : FnV P w K mg base E.C 10 E.d_law.f E.d_law.fd ["script"] false F_law :=
  fnV_of E.d_law.F sc_law false [] rfl (fun h => nomatch h) fun cdv A outer s H X σ₀ hr G => by
    exact (eb_cons
  (es_set (i := 1) G rfl (by first | exact .inl rfl | exact .inr rfl) (show (1 : Nat) ∉ ([] : List Nat) by decide) (ev_call G (ok__law_state E) (hr.mono (by decide)) (by rfl) E.d__law_state.m E.d__law_state.F.kp E.d__law_state.b (ea_cons (ev_name (i := 0) rfl (by first | exact .inl rfl | exact .inr (.inl rfl) | exact .inr (.inr rfl))) ea_nil))) (eb_cons
  (es_set (i := 2) G rfl (by first | exact .inl rfl | exact .inr rfl) (show (2 : Nat) ∉ ([] : List Nat) by decide) (ev_callI G (ok__law_graph E) (hr.mono (by decide)) (by rfl) E.d__law_graph.m E.d__law_graph.F.kp E.d__law_graph.b (i := 1) rfl (by first | exact .inl rfl | exact .inr (.inl rfl) | exact .inr (.inr rfl)) (ea_cons (EvE.toV (ev_idx G hr (EvV.toO (EvE.toV (ev_lst (ea_cons ev_int (ea_cons ev_int (ea_cons ev_int ea_nil)))))) (EvV.toO (EvE.toV (ev_callI G (ok__law_take E) (hr.mono (by decide)) (by rfl) E.d__law_take.m E.d__law_take.F.kp E.d__law_take.b (i := 1) rfl (by first | exact .inl rfl | exact .inr (.inl rfl) | exact .inr (.inr rfl)) (ea_cons ev_int ea_nil)))))) ea_nil))) (eb_cons
  (es_set (i := 3) G rfl (by first | exact .inl rfl | exact .inr rfl) (show (3 : Nat) ∉ ([] : List Nat) by decide) (ev_callI G (ok__law_take E) (hr.mono (by decide)) (by rfl) E.d__law_take.m E.d__law_take.F.kp E.d__law_take.b (i := 1) rfl (by first | exact .inl rfl | exact .inr (.inl rfl) | exact .inr (.inr rfl)) (ea_cons ev_int ea_nil))) (eb_cons
  (es_set (i := 4) G rfl (by first | exact .inl rfl | exact .inr rfl) (show (4 : Nat) ∉ ([] : List Nat) by decide) (ev_call G (ok__law_walks E) (hr.mono (by decide)) (by rfl) E.d__law_walks.m E.d__law_walks.F.kp E.d__law_walks.b (ea_cons (ev_name (i := 2) rfl (by first | exact .inl rfl | exact .inr (.inl rfl) | exact .inr (.inr rfl))) (ea_cons (ev_name (i := 3) rfl (by first | exact .inl rfl | exact .inr (.inl rfl) | exact .inr (.inr rfl))) ea_nil)))) (eb_cons
  (es_if (et_not (et_tru G (EvV.toO (EvE.toV (ev_call G (ok__law_is_told E) (hr.mono (by decide)) (by rfl) E.d__law_is_told.m E.d__law_is_told.F.kp E.d__law_is_told.b (ea_cons (EvE.toV (ev_call G (ok__law_told E) (hr.mono (by decide)) (by rfl) E.d__law_told.m E.d__law_told.F.kp E.d__law_told.b (ea_cons (ev_fn (n := 0) (by rfl) E.d_closed_walks.m rfl) (ea_cons (ev_tup (ea_cons (ev_name (i := 2) rfl (by first | exact .inl rfl | exact .inr (.inl rfl) | exact .inr (.inr rfl))) (ea_cons (ev_name (i := 3) rfl (by first | exact .inl rfl | exact .inr (.inl rfl) | exact .inr (.inr rfl))) ea_nil))) ea_nil)))) (ea_cons (EvE.toV (ev_tuple G (by rfl) E.b_tuple (EvV.toO (EvE.toV (ev_lc (own := [((PySem.Str.ofString "m"), 14)]) (vs := [14]) (ws := [14]) 0 G (ei_seq G (ev_name (i := 4) rfl (by first | exact .inl rfl | exact .inr (.inl rfl) | exact .inr (.inr rfl)))) (blkOk_by (by kernel_rfl)) rfl (by decide) (fun _ _ _ _ _ => blkG G fun G => (eg_name (i := 14) G rfl (by first | exact .inl rfl | exact .inr rfl) (show (14 : Nat) ∉ ([] : List Nat) by decide))) (fun _ _ _ _ _ => blkT G fun G => ept_nil) (fun _ _ _ _ _ => blkE G fun G => (EvV.toE (ev_tup (ea_cons (ev_name (i := 14) rfl (by first | exact .inl rfl | exact .inr (.inl rfl) | exact .inr (.inr rfl))) (ea_cons ev_int ea_nil)))))))))) ea_nil))))))) (eb_one (es_ret (EvV.toE ev_bl))) eb_nil) (eb_cons
  (es_set (i := 5) G rfl (by first | exact .inl rfl | exact .inr rfl) (show (5 : Nat) ∉ ([] : List Nat) by decide) (ev_lst ea_nil)) (eb_cons
  (es_for G (passes_of rfl) (ei_rg1 (by rfl) E.b_range (ea_cons (ev_name (i := 3) rfl (by first | exact .inl rfl | exact .inr (.inl rfl) | exact .inr (.inr rfl))) ea_nil)) (eg_name (i := 6) G rfl (by first | exact .inl rfl | exact .inr rfl) (show (6 : Nat) ∉ ([] : List Nat) by decide)) (eb_one (es_app (i := 5) G rfl (by first | exact .inl rfl | exact .inr (.inl rfl) | exact .inr (.inr rfl)) (EvE.toV (ev_sub (EvV.toO (EvE.toV (ev_idx G hr (ev_nameO (i := 4) rfl (by first | exact .inl rfl | exact .inr (.inl rfl) | exact .inr (.inr rfl))) (ev_nameO (i := 6) rfl (by first | exact .inl rfl | exact .inr (.inl rfl) | exact .inr (.inr rfl)))))) (EvV.toO (EvE.toV (ev_sum G (by rfl) E.b_sum (EvV.toO (EvE.toV (ev_lc (own := [((PySem.Str.ofString "i"), 15)]) (vs := [15]) (ws := [15]) 0 G (ei_rg1 (by rfl) E.b_range (ea_cons (ev_name (i := 6) rfl (by first | exact .inl rfl | exact .inr (.inl rfl) | exact .inr (.inr rfl))) ea_nil)) (blkOk_by (by kernel_rfl)) rfl (by decide) (fun _ _ _ _ _ => blkG G fun G => (eg_name (i := 15) G rfl (by first | exact .inl rfl | exact .inr rfl) (show (15 : Nat) ∉ ([] : List Nat) by decide))) (fun _ _ _ _ _ => blkT G fun G => ept_nil) (fun _ _ _ _ _ => blkE G fun G => (EvV.toE (EvE.toV (ev_mul G (EvV.toO (EvE.toV (ev_idx G hr (ev_nameO (i := 5) rfl (by first | exact .inl rfl | exact .inr (.inl rfl) | exact .inr (.inr rfl))) (ev_nameO (i := 15) rfl (by first | exact .inl rfl | exact .inr (.inl rfl) | exact .inr (.inr rfl)))))) (EvV.toO (EvE.toV (ev_idx G hr (ev_nameO (i := 4) rfl (by first | exact .inl rfl | exact .inr (.inl rfl) | exact .inr (.inr rfl))) (EvV.toO (EvE.toV (ev_sub (EvV.toO (EvE.toV (ev_sub (ev_nameO (i := 6) rfl (by first | exact .inl rfl | exact .inr (.inl rfl) | exact .inr (.inr rfl))) (ev_nameO (i := 15) rfl (by first | exact .inl rfl | exact .inr (.inl rfl) | exact .inr (.inr rfl)))))) (EvV.toO ev_int)))))))))))))))))))))) (eb_cons
  (es_if (EvW.t (ew_or (et_not (et_tru G (EvV.toO (EvE.toV (ev_call G (ok__law_is_told E) (hr.mono (by decide)) (by rfl) E.d__law_is_told.m E.d__law_is_told.F.kp E.d__law_is_told.b (ea_cons (EvE.toV (ev_call G (ok__law_told E) (hr.mono (by decide)) (by rfl) E.d__law_told.m E.d__law_told.F.kp E.d__law_told.b (ea_cons (ev_fn (n := 1) (by rfl) E.d_first_walks.m rfl) (ea_cons (ev_tup (ea_cons (ev_name (i := 2) rfl (by first | exact .inl rfl | exact .inr (.inl rfl) | exact .inr (.inr rfl))) (ea_cons (ev_name (i := 3) rfl (by first | exact .inl rfl | exact .inr (.inl rfl) | exact .inr (.inr rfl))) ea_nil))) ea_nil)))) (ea_cons (EvE.toV (ev_tuple G (by rfl) E.b_tuple (ev_nameO (i := 5) rfl (by first | exact .inl rfl | exact .inr (.inl rfl) | exact .inr (.inr rfl))))) ea_nil))))))) (ew_or1 (et_tru G (EvV.toO (EvE.toV (ev_any G (by rfl) E.b_any (EvV.toO (EvE.toV (ev_lc (own := [((PySem.Str.ofString "b"), 13)]) (vs := [13]) (ws := [13]) 0 G (ei_seq G (ev_name (i := 5) rfl (by first | exact .inl rfl | exact .inr (.inl rfl) | exact .inr (.inr rfl)))) (blkOk_by (by kernel_rfl)) rfl (by decide) (fun _ _ _ _ _ => blkG G fun G => (eg_name (i := 13) G rfl (by first | exact .inl rfl | exact .inr rfl) (show (13 : Nat) ∉ ([] : List Nat) by decide))) (fun _ _ _ _ _ => blkT G fun G => ept_nil) (fun _ _ _ _ _ => blkE G fun G => (EvV.toE (EvE.toV (ev_cmp (cLt) (ev_nameO (i := 13) rfl (by first | exact .inl rfl | exact .inr (.inl rfl) | exact .inr (.inr rfl))) (EvV.toO ev_int))))))))))))))) (eb_one (es_ret (EvV.toE ev_bl))) eb_nil) (eb_cons
  (es_asg (ev_tup (ea_cons (EvE.toV (ev_callI G (ok__law_take E) (hr.mono (by decide)) (by rfl) E.d__law_take.m E.d__law_take.F.kp E.d__law_take.b (i := 1) rfl (by first | exact .inl rfl | exact .inr (.inl rfl) | exact .inr (.inr rfl)) (ea_cons (EvE.toV (ev_idx G hr (ev_nameO (i := 2) rfl (by first | exact .inl rfl | exact .inr (.inl rfl) | exact .inr (.inr rfl))) (EvV.toO ev_int))) ea_nil))) (ea_cons (EvE.toV (ev_callI G (ok__law_take E) (hr.mono (by decide)) (by rfl) E.d__law_take.m E.d__law_take.F.kp E.d__law_take.b (i := 1) rfl (by first | exact .inl rfl | exact .inr (.inl rfl) | exact .inr (.inr rfl)) (ea_cons (EvE.toV (ev_idx G hr (ev_nameO (i := 2) rfl (by first | exact .inl rfl | exact .inr (.inl rfl) | exact .inr (.inr rfl))) (EvV.toO ev_int))) ea_nil))) (ea_cons (EvE.toV (ev_callI G (ok__law_take E) (hr.mono (by decide)) (by rfl) E.d__law_take.m E.d__law_take.F.kp E.d__law_take.b (i := 1) rfl (by first | exact .inl rfl | exact .inr (.inl rfl) | exact .inr (.inr rfl)) (ea_cons (EvE.toV (ev_idx G hr (EvV.toO (EvE.toV (ev_lst (ea_cons ev_int (ea_cons ev_int ea_nil))))) (EvV.toO (EvE.toV (ev_callI G (ok__law_take E) (hr.mono (by decide)) (by rfl) E.d__law_take.m E.d__law_take.F.kp E.d__law_take.b (i := 1) rfl (by first | exact .inl rfl | exact .inr (.inl rfl) | exact .inr (.inr rfl)) (ea_cons ev_int ea_nil)))))) ea_nil))) ea_nil)))) (eg_tup G (egs_cons (eg_name (i := 10) G rfl (by first | exact .inl rfl | exact .inr rfl) (show (10 : Nat) ∉ ([] : List Nat) by decide)) (egs_cons (eg_name (i := 11) G rfl (by first | exact .inl rfl | exact .inr rfl) (show (11 : Nat) ∉ ([] : List Nat) by decide)) (egs_cons (eg_name (i := 6) G rfl (by first | exact .inl rfl | exact .inr rfl) (show (6 : Nat) ∉ ([] : List Nat) by decide)) egs_nil))))) (eb_cons
  (es_setLc (i := 7) (own := [((PySem.Str.ofString "z"), 12)]) (vs := [12]) (ws := [12]) 0 G rfl rfl (show (7 : Nat) ∉ ([] : List Nat) by decide) (sw_true rfl rfl rfl rfl) (ei_rg1 (by rfl) E.b_range (ea_cons (EvE.toV (ev_idx G hr (ev_nameO (i := 2) rfl (by first | exact .inl rfl | exact .inr (.inl rfl) | exact .inr (.inr rfl))) (EvV.toO ev_int))) ea_nil)) (blkOk_by (by kernel_rfl)) rfl (by decide) (fun _ _ _ _ _ => blkG G fun G => (eg_name (i := 12) G rfl (by first | exact .inl rfl | exact .inr rfl) (show (12 : Nat) ∉ ([] : List Nat) by decide))) (fun _ _ _ _ _ => blkT G fun G => ept_nil) (fun _ _ _ _ _ => blkE G fun G => (EvV.toE (EvE.toV (ev_int1 (by rfl) E.b_int (EvV.toO (EvE.toV (ev_cmp (cEq G hr) (ev_nameO (i := 12) rfl (by first | exact .inl rfl | exact .inr (.inl rfl) | exact .inr (.inr rfl))) (ev_nameO (i := 11) rfl (by first | exact .inl rfl | exact .inr (.inl rfl) | exact .inr (.inr rfl))))))))))) (eb_cons
  (es_set (i := 8) G rfl (by first | exact .inl rfl | exact .inr rfl) (show (8 : Nat) ∉ ([] : List Nat) by decide) (ev_call G (ok__law_table E) (hr.mono (by decide)) (by rfl) E.d__law_table.m E.d__law_table.F.kp E.d__law_table.b (ea_cons (ev_name (i := 2) rfl (by first | exact .inl rfl | exact .inr (.inl rfl) | exact .inr (.inr rfl))) ea_nil))) (eb_cons
  (es_for G (passes_of rfl) (ei_rg1 (by rfl) E.b_range (ea_cons (ev_name (i := 6) rfl (by first | exact .inl rfl | exact .inr (.inl rfl) | exact .inr (.inr rfl))) ea_nil)) (eg_name (i := 9) G rfl (by first | exact .inl rfl | exact .inr rfl) (show (9 : Nat) ∉ ([] : List Nat) by decide)) (eb_one (es_set (i := 7) G rfl (by first | exact .inl rfl | exact .inr rfl) (show (7 : Nat) ∉ ([] : List Nat) by decide) (ev_call G (ok__law_led E) (hr.mono (by decide)) (by rfl) E.d__law_led.m E.d__law_led.F.kp E.d__law_led.b (ea_cons (ev_name (i := 8) rfl (by first | exact .inl rfl | exact .inr (.inl rfl) | exact .inr (.inr rfl))) (ea_cons (ev_name (i := 7) rfl (by first | exact .inl rfl | exact .inr (.inl rfl) | exact .inr (.inr rfl))) ea_nil)))))) (eb_cons
  (es_if (EvW.t (ew_or (et_not (et_tru G (EvV.toO (EvE.toV (ev_call G (ok__law_is_told E) (hr.mono (by decide)) (by rfl) E.d__law_is_told.m E.d__law_is_told.F.kp E.d__law_is_told.b (ea_cons (EvE.toV (ev_call G (ok__law_told E) (hr.mono (by decide)) (by rfl) E.d__law_told.m E.d__law_told.F.kp E.d__law_told.b (ea_cons (ev_fn (n := 2) (by rfl) E.d_walk_number.m rfl) (ea_cons (ev_tup (ea_cons (ev_name (i := 2) rfl (by first | exact .inl rfl | exact .inr (.inl rfl) | exact .inr (.inr rfl))) (ea_cons (ev_name (i := 10) rfl (by first | exact .inl rfl | exact .inr (.inl rfl) | exact .inr (.inr rfl))) (ea_cons (ev_name (i := 11) rfl (by first | exact .inl rfl | exact .inr (.inl rfl) | exact .inr (.inr rfl))) (ea_cons (ev_name (i := 6) rfl (by first | exact .inl rfl | exact .inr (.inl rfl) | exact .inr (.inr rfl))) ea_nil))))) ea_nil)))) (ea_cons (EvE.toV (ev_idx G hr (ev_nameO (i := 7) rfl (by first | exact .inl rfl | exact .inr (.inl rfl) | exact .inr (.inr rfl))) (ev_nameO (i := 10) rfl (by first | exact .inl rfl | exact .inr (.inl rfl) | exact .inr (.inr rfl))))) ea_nil))))))) (ew_or1 (et_not (et_tru G (EvV.toO (EvE.toV (ev_call G (ok__law_is_told E) (hr.mono (by decide)) (by rfl) E.d__law_is_told.m E.d__law_is_told.F.kp E.d__law_is_told.b (ea_cons (EvE.toV (ev_call G (ok__law_told E) (hr.mono (by decide)) (by rfl) E.d__law_told.m E.d__law_told.F.kp E.d__law_told.b (ea_cons (ev_fn (n := 2) (by rfl) E.d_walk_number.m rfl) (ea_cons (ev_tup (ea_cons (ev_name (i := 2) rfl (by first | exact .inl rfl | exact .inr (.inl rfl) | exact .inr (.inr rfl))) (ea_cons (ev_name (i := 11) rfl (by first | exact .inl rfl | exact .inr (.inl rfl) | exact .inr (.inr rfl))) (ea_cons (ev_name (i := 10) rfl (by first | exact .inl rfl | exact .inr (.inl rfl) | exact .inr (.inr rfl))) (ea_cons (ev_name (i := 6) rfl (by first | exact .inl rfl | exact .inr (.inl rfl) | exact .inr (.inr rfl))) ea_nil))))) ea_nil)))) (ea_cons (EvE.toV (ev_idx G hr (ev_nameO (i := 7) rfl (by first | exact .inl rfl | exact .inr (.inl rfl) | exact .inr (.inr rfl))) (ev_nameO (i := 10) rfl (by first | exact .inl rfl | exact .inr (.inl rfl) | exact .inr (.inr rfl))))) ea_nil)))))))))) (eb_one (es_ret (EvV.toE ev_bl))) eb_nil) (eb_one (es_ret (ev_call G (ok__law_values_hold E) (hr.mono (by decide)) (by rfl) E.d__law_values_hold.m E.d__law_values_hold.F.kp E.d__law_values_hold.b (ea_cons (ev_name (i := 1) rfl (by first | exact .inl rfl | exact .inr (.inl rfl) | exact .inr (.inr rfl))) (ea_cons (ev_name (i := 2) rfl (by first | exact .inl rfl | exact .inr (.inl rfl) | exact .inr (.inr rfl))) ea_nil))))))))))))))))))
end L47
end

section
open Pv PySem
set_option Elab.async false
set_option linter.all false
set_option maxRecDepth 100000
namespace L47
def pr (p : Nat × Nat) : D := .tup [.int p.1, .int p.2]
def Gd (n : Nat) (es : List (Nat × Nat)) : D := .tup [.int n, .tup (es.map pr)]
theorem isint (n : Int) : F_is_integer none [.int n] = .ok (.bl true, 0) none := by
  unfold F_is_integer g_is_integer
  simp [-List.map_map, fnF, en0, seqS, passS, noS, exprS, retS, retN, retM, putE, setS, iteS, vOfE, eOfV, oOfV, kI, kB, kS, kN, nmV, nmO, op1, op2, opC, tst, tru, truD, notT, andT, orT, blV, vbl, andV, orV, notV, iteE, aNil, aCons, lNil, lCons, tupE, lstE, dicE, Opd.get, callF, frR, callI, callL, own1, addD, subD, negD, cmpD, lenD, intD, tupD, lisD, absD, isiD, tyD, min2D, max2D, Pv.R.of, raiseS, asgS, nameG, nilG, consG, tupG, isD, nisD, isNB, opS, pNone, pSome, seqI', itsD, sItS, putD, wipeE, backE]
abbrev E2 := Nat × Nat
def leN (p q : E2) : Bool := if p.1 = q.1 then decide (p.2 ≤ q.2) else decide (p.1 < q.1)
def sortP (es : List E2) : List E2 := msr leN es.length es
theorem leK_pr (p q : E2) : leK (pr p) (pr q) = leN p q := by
  obtain ⟨a, b⟩ := p
  obtain ⟨c, d⟩ := q
  show (if (a : Int) = c then (if (b : Int) = d then true else decide ((b : Int) < d)) else decide ((a : Int) < c)) = (if a = c then decide (b ≤ d) else decide (a < c))
  by_cases h : a = c
  · have h' : (a : Int) = c := by omega
    rw [if_pos h, if_pos h']
    by_cases h3 : b = d
    · have h4 : (b : Int) = d := by omega
      rw [if_pos h4]
      have : b ≤ d := by omega
      simp [this]
    · have h4 : ¬ (b : Int) = d := by omega
      rw [if_neg h4]
      have : ((b : Int) < d) ↔ b ≤ d := by omega
      exact decide_eq_decide.mpr this
  · have h' : ¬ (a : Int) = c := by omega
    rw [if_neg h, if_neg h']
    exact decide_eq_decide.mpr (by omega)
theorem sort_pr (es : List E2) : sortL (es.map pr) = some (.lst ((sortP es).map pr), 1) := by
  have h : sortOkB (es.map pr) = true := by
    have : (es.map pr).all intTup = true := by
      rw [List.all_eq_true]
      intro d hd
      obtain ⟨p, _, rfl⟩ := List.mem_map.mp hd
      rfl
    simp [sortOkB, this]
  unfold sortL
  rw [if_pos h]
  unfold srt sortP
  rw [List.length_map, msr_map leK_pr]
theorem sortP_len (es : List E2) : (sortP es).length = es.length := (msr_perm leN es).length_eq
def okE (n : Nat) (p : E2) : Bool := decide (p.1 < n) && (decide (p.2 < n) && decide (p.1 ≤ p.2))
theorem is_point_ok (x n : Nat) (h : x < n) : F_is_point none [.int x, .int n] = .ok (.bl true, 0) none := by
  unfold F_is_point g_is_point
  simp [-List.map_map, fnF, en0, seqS, passS, noS, exprS, retS, retN, retM, putE, setS, iteS, vOfE, eOfV, oOfV, kI, kB, kS, kN, nmV, nmO, op1, op2, opC, tst, tru, truD, notT, andT, orT, blV, vbl, andV, orV, notV, iteE, aNil, aCons, lNil, lCons, tupE, lstE, dicE, Opd.get, callF, frR, callI, callL, own1, addD, subD, negD, cmpD, lenD, intD, tupD, lisD, absD, isiD, tyD, min2D, max2D, Pv.R.of, raiseS, asgS, nameG, nilG, consG, tupG, isD, nisD, isNB, opS, pNone, pSome, seqI', itsD, sItS, putD, wipeE, backE, isint, h]
theorem is_edge_ok (n : Nat) (p : E2) (h : okE n p = true) : F_is_edge none [pr p, .int n] = .ok (.bl true, 0) none := by
  obtain ⟨a, b⟩ := p
  simp [okE] at h
  obtain ⟨h1, h2, h3⟩ := h
  unfold F_is_edge g_is_edge
  simp [-List.map_map, fnF, en0, seqS, passS, noS, exprS, retS, retN, retM, putE, setS, iteS, vOfE, eOfV, oOfV, kI, kB, kS, kN, nmV, nmO, op1, op2, opC, tst, tru, truD, notT, andT, orT, blV, vbl, andV, orV, notV, iteE, aNil, aCons, lNil, lCons, tupE, lstE, dicE, Opd.get, callF, frR, callI, callL, own1, addD, subD, negD, cmpD, lenD, intD, tupD, lisD, absD, isiD, tyD, min2D, max2D, Pv.R.of, raiseS, asgS, nameG, nilG, consG, tupG, isD, nisD, isNB, opS, pNone, pSome, seqI', itsD, sItS, putD, wipeE, backE, pr, is_point_ok, h1, h2, h3, at_0, at_1, idxD]
theorem le_pr (p q : E2) : leTD (pr p) (pr q) = some (.bl (leN p q), 0) := by
  obtain ⟨a, b⟩ := p
  obtain ⟨c, d⟩ := q
  have e : leTD (pr (a, b)) (pr (c, d)) = some (.bl (if (a : Int) = c then (if (b : Int) = d then true else decide ((b : Int) ≤ d)) else decide ((a : Int) ≤ c)), 0) := by
    simp [leTD, pr, D.ints, Ob.lexAt]
  rw [e]
  unfold leN
  congr 3
  by_cases h : a = c
  · have h' : (a : Int) = c := by omega
    rw [if_pos h', if_pos h]
    by_cases h3 : b = d
    · have h4 : (b : Int) = d := by omega
      rw [if_pos h4]
      have : b ≤ d := by omega
      simp [this]
    · have h4 : ¬ (b : Int) = d := by omega
      rw [if_neg h4]
      exact decide_eq_decide.mpr (by omega)
  · have h' : ¬ (a : Int) = c := by omega
    rw [if_neg h', if_neg h]
    exact decide_eq_decide.mpr (by omega)
def chain (es : List E2) : Bool := (es.zip (es.drop 1)).all fun q => leN q.1 q.2
theorem cut1 (xs : List D) : cutD xs (some 1) none = xs.drop 1 := by
  unfold cutD
  rw [HT.sIx_none]
  have : HT.sIx xs.length 0 (some 1) = min 1 xs.length := HT.sIx_nat xs.length 0 1
  rw [this]
  cases xs with
  | nil => rfl
  | cons x xs => simp
theorem bls_true : ∀ n : Nat, D.bls (List.replicate n (.bl true)) = some (List.replicate n true)
  | 0 => rfl
  | n + 1 => by
    rw [List.replicate_succ, D.bls, bls_true n]
    rfl
theorem allD_true (n : Nat) : allD (.lst (List.replicate n (.bl true))) = some (.bl true, 0) := by
  simp [allD, bls_true]
theorem map_true {α : Type} (f : α → D) (xs : List α) (h : ∀ x ∈ xs, f x = .bl true) : xs.map f = List.replicate xs.length (.bl true) := by
  induction xs with
  | nil => rfl
  | cons x xs ih =>
    rw [List.map_cons, h x List.mem_cons_self, ih fun y hy => h y (List.mem_cons_of_mem _ hy)]
    rfl
abbrev rgE (n : Nat) (es : List E2) : En := [some (Gd n es, 0), some (.int n, 0), some (.tup (es.map pr), 0), none, none, none]
theorem rooted_c1 (n : Nat) (es : List E2) (hl : es.length ≤ 4000) (h : es.all (okE n) = true) : comp (seqI' (nmV 2)) (nameG 3) yesT (eOfV (vOfE (callF 2 F_is_edge (aCons (nmV 3) (aCons (nmV 1) aNil))))) 0 [3] (rgE n es) = .ok (.lst (List.replicate es.length (.bl true)), 1) (rgE n es) := by
  rw [comp_fix (ds := es.map pr) (f := fun _ => .bl true) (env1 := rgE n es) (env0 := rgE n es) (env2 := rgE n es) (by simp [-List.map_map, fnF, en0, seqS, passS, noS, exprS, retS, retN, retM, putE, setS, iteS, vOfE, eOfV, oOfV, kI, kB, kS, kN, nmV, nmO, op1, op2, opC, tst, tru, truD, notT, andT, orT, blV, vbl, andV, orV, notV, iteE, aNil, aCons, lNil, lCons, tupE, lstE, dicE, Opd.get, callF, frR, callI, callL, own1, addD, subD, negD, cmpD, lenD, intD, tupD, lisD, absD, isiD, tyD, min2D, max2D, Pv.R.of, raiseS, asgS, nameG, nilG, consG, tupG, isD, nisD, isNB, opS, pNone, pSome, seqI', itsD, sItS, putD, wipeE, backE]) rfl rfl (by apply le_lim; simp; omega) ?_]
  · rw [List.map_map]
    rw [map_true ((fun _ => D.bl true) ∘ pr) es fun _ _ => rfl]
  · intro d hd
    obtain ⟨p, hp, rfl⟩ := List.mem_map.mp hd
    have hk := is_edge_ok n p (List.all_eq_true.mp h p hp)
    exact ⟨[some (Gd n es, 0), some (.int n, 0), some (.tup (es.map pr), 0), some (pr p, 0), none, none], [some (Gd n es, 0), some (.int n, 0), some (.tup (es.map pr), 0), some (pr p, 0), none, none], [some (Gd n es, 0), some (.int n, 0), some (.tup (es.map pr), 0), some (pr p, 0), none, none], by simp [-List.map_map, fnF, en0, seqS, passS, noS, exprS, retS, retN, retM, putE, setS, iteS, vOfE, eOfV, oOfV, kI, kB, kS, kN, nmV, nmO, op1, op2, opC, tst, tru, truD, notT, andT, orT, blV, vbl, andV, orV, notV, iteE, aNil, aCons, lNil, lCons, tupE, lstE, dicE, Opd.get, callF, frR, callI, callL, own1, addD, subD, negD, cmpD, lenD, intD, tupD, lisD, absD, isiD, tyD, min2D, max2D, Pv.R.of, raiseS, asgS, nameG, nilG, consG, tupG, isD, nisD, isNB, opS, pNone, pSome, seqI', itsD, sItS, putD, wipeE, backE], rfl, by simp [-List.map_map, fnF, en0, seqS, passS, noS, exprS, retS, retN, retM, putE, setS, iteS, vOfE, eOfV, oOfV, kI, kB, kS, kN, nmV, nmO, op1, op2, opC, tst, tru, truD, notT, andT, orT, blV, vbl, andV, orV, notV, iteE, aNil, aCons, lNil, lCons, tupE, lstE, dicE, Opd.get, callF, frR, callI, callL, own1, addD, subD, negD, cmpD, lenD, intD, tupD, lisD, absD, isiD, tyD, min2D, max2D, Pv.R.of, raiseS, asgS, nameG, nilG, consG, tupG, isD, nisD, isNB, opS, pNone, pSome, seqI', itsD, sItS, putD, wipeE, backE, hk], rfl⟩
theorem rooted_c2 (n : Nat) (es : List E2) (hl : es.length ≤ 4000) (h : chain es = true) : comp (zipI (aCons (nmV 2) (aCons (vOfE (opS (nmO 2) (pSome (kI 1)) pNone)) aNil))) (tupG 2 (consG (nameG 4) (consG (nameG 5) nilG))) yesT (eOfV (vOfE (op2 leTD (nmO 4) (nmO 5)))) 0 [4, 5] (rgE n es) = .ok (.lst (List.replicate (es.zip (es.drop 1)).length (.bl true)), 1) (rgE n es) := by
  rw [comp_fix (ds := (es.zip (es.drop 1)).map fun q => .tup [pr q.1, pr q.2]) (f := fun _ => .bl true) (env1 := rgE n es) (env0 := rgE n es) (env2 := rgE n es) ?_ rfl rfl (by apply le_lim; simp; omega) ?_]
  · rw [List.map_map]
    rw [map_true ((fun _ => D.bl true) ∘ fun q : E2 × E2 => D.tup [pr q.1, pr q.2]) (es.zip (es.drop 1)) fun _ _ => rfl]
  · have hz : ((es.map pr).zip (es.map pr).tail).map (fun q : D × D => D.tup [q.1, q.2]) = (es.zip es.tail).map fun q => .tup [pr q.1, pr q.2] := by
      rw [← List.map_tail, List.zip_map, List.map_map]
      rfl
    simp [-List.map_map, fnF, en0, seqS, passS, noS, exprS, retS, retN, retM, putE, setS, iteS, vOfE, eOfV, oOfV, kI, kB, kS, kN, nmV, nmO, op1, op2, opC, tst, tru, truD, notT, andT, orT, blV, vbl, andV, orV, notV, iteE, aNil, aCons, lNil, lCons, tupE, lstE, dicE, Opd.get, callF, frR, callI, callL, own1, addD, subD, negD, cmpD, lenD, intD, tupD, lisD, absD, isiD, tyD, min2D, max2D, Pv.R.of, raiseS, asgS, nameG, nilG, consG, tupG, isD, nisD, isNB, opS, pNone, pSome, seqI', itsD, sItS, putD, wipeE, backE, zipI, zipD2, zipD, slD, cut1, hz]
  · intro d hd
    obtain ⟨q, hq, rfl⟩ := List.mem_map.mp hd
    have hk := List.all_eq_true.mp h q hq
    exact ⟨[some (Gd n es, 0), some (.int n, 0), some (.tup (es.map pr), 0), none, some (pr q.1, 0), some (pr q.2, 0)], [some (Gd n es, 0), some (.int n, 0), some (.tup (es.map pr), 0), none, some (pr q.1, 0), some (pr q.2, 0)], [some (Gd n es, 0), some (.int n, 0), some (.tup (es.map pr), 0), none, some (pr q.1, 0), some (pr q.2, 0)], by simp [-List.map_map, fnF, en0, seqS, passS, noS, exprS, retS, retN, retM, putE, setS, iteS, vOfE, eOfV, oOfV, kI, kB, kS, kN, nmV, nmO, op1, op2, opC, tst, tru, truD, notT, andT, orT, blV, vbl, andV, orV, notV, iteE, aNil, aCons, lNil, lCons, tupE, lstE, dicE, Opd.get, callF, frR, callI, callL, own1, addD, subD, negD, cmpD, lenD, intD, tupD, lisD, absD, isiD, tyD, min2D, max2D, Pv.R.of, raiseS, asgS, nameG, nilG, consG, tupG, isD, nisD, isNB, opS, pNone, pSome, seqI', itsD, sItS, putD, wipeE, backE], rfl, by simp [-List.map_map, fnF, en0, seqS, passS, noS, exprS, retS, retN, retM, putE, setS, iteS, vOfE, eOfV, oOfV, kI, kB, kS, kN, nmV, nmO, op1, op2, opC, tst, tru, truD, notT, andT, orT, blV, vbl, andV, orV, notV, iteE, aNil, aCons, lNil, lCons, tupE, lstE, dicE, Opd.get, callF, frR, callI, callL, own1, addD, subD, negD, cmpD, lenD, intD, tupD, lisD, absD, isiD, tyD, min2D, max2D, Pv.R.of, raiseS, asgS, nameG, nilG, consG, tupG, isD, nisD, isNB, opS, pNone, pSome, seqI', itsD, sItS, putD, wipeE, backE, le_pr, hk], rfl⟩
structure Okg (n : Nat) (es : List E2) : Prop where
  n1 : 1 ≤ n
  n4 : n ≤ 400
  l : es.length ≤ 4000
  e : es.all (okE n) = true
  c : chain es = true
theorem rooted_ok {n : Nat} {es : List E2} (g : Okg n es) : F_is_rooted_graph none [Gd n es] = .ok (.bl true, 0) none := by
  unfold F_is_rooted_graph g_is_rooted_graph
  have h1 : ¬ (n : Int) < 1 := by have := g.n1; omega
  have h2 : ¬ (400 : Int) < n := by have := g.n4; omega
  have h3 : ¬ (4000 : Int) < es.length := by have := g.l; omega
  have c1 := rooted_c1 n es g.l g.e
  have c2 := rooted_c2 n es g.l g.c
  unfold rgE at c1 c2
  simp only [Gd] at c1 c2
  simp [-List.map_map, fnF, en0, seqS, passS, noS, exprS, retS, retN, retM, putE, setS, iteS, vOfE, eOfV, oOfV, kI, kB, kS, kN, nmV, nmO, op1, op2, opC, tst, tru, truD, notT, andT, orT, blV, vbl, andV, orV, notV, iteE, aNil, aCons, lNil, lCons, tupE, lstE, dicE, Opd.get, callF, frR, callI, callL, own1, addD, subD, negD, cmpD, lenD, intD, tupD, lisD, absD, isiD, tyD, min2D, max2D, Pv.R.of, raiseS, asgS, nameG, nilG, consG, tupG, isD, nisD, isNB, opS, pNone, pSome, seqI', itsD, sItS, putD, wipeE, backE, Gd, isint, h1, h2, h3, at_0, at_1, idxD, c1, c2, allD_true]
theorem check_ok {n : Nat} {es : List E2} (g : Okg n es) : F_check_graph none [Gd n es] = .ok (.non, 0) none := by
  unfold F_check_graph g_check_graph
  simp [-List.map_map, fnF, en0, seqS, passS, noS, exprS, retS, retN, retM, putE, setS, iteS, vOfE, eOfV, oOfV, kI, kB, kS, kN, nmV, nmO, op1, op2, opC, tst, tru, truD, notT, andT, orT, blV, vbl, andV, orV, notV, iteE, aNil, aCons, lNil, lCons, tupE, lstE, dicE, Opd.get, callF, frR, callI, callL, own1, addD, subD, negD, cmpD, lenD, intD, tupD, lisD, absD, isiD, tyD, min2D, max2D, Pv.R.of, raiseS, asgS, nameG, nilG, consG, tupG, isD, nisD, isNB, opS, pNone, pSome, seqI', itsD, sItS, putD, wipeE, backE, rooted_ok g]
theorem clen_ok (n : Nat) (h : n ≤ 12) : F_check_length none [.int n, .int 12] = .ok (.non, 0) none := by
  unfold F_check_length g_check_length
  have h1 : ¬ (n : Int) < 0 := by omega
  have h2 : ¬ (12 : Int) < n := by omega
  simp [-List.map_map, fnF, en0, seqS, passS, noS, exprS, retS, retN, retM, putE, setS, iteS, vOfE, eOfV, oOfV, kI, kB, kS, kN, nmV, nmO, op1, op2, opC, tst, tru, truD, notT, andT, orT, blV, vbl, andV, orV, notV, iteE, aNil, aCons, lNil, lCons, tupE, lstE, dicE, Opd.get, callF, frR, callI, callL, own1, addD, subD, negD, cmpD, lenD, intD, tupD, lisD, absD, isiD, tyD, min2D, max2D, Pv.R.of, raiseS, asgS, nameG, nilG, consG, tupG, isD, nisD, isNB, opS, pNone, pSome, seqI', itsD, sItS, putD, wipeE, backE, isint, h1, h2]
def nD (k : Nat) : D := .int k
def rowD (l : List Nat) : D := .lst (l.map nD)
def nearD (near : List (List Nat)) : D := .lst (near.map rowD)
def addTo : List (List Nat) → Nat → Nat → List (List Nat)
  | [], _, _ => []
  | l :: ls, 0, y => (l ++ [y]) :: ls
  | l :: ls, x + 1, y => l :: addTo ls x y
theorem addTo_len : ∀ (ls : List (List Nat)) (x y : Nat), (addTo ls x y).length = ls.length
  | [], _, _ => rfl
  | _ :: _, 0, _ => rfl
  | _ :: ls, x + 1, y => by simp [addTo, addTo_len ls x y]
theorem addTo_set : ∀ (ls : List (List Nat)) (x y : Nat) (l : List Nat), ls[x]? = some l → addTo ls x y = ls.set x (l ++ [y])
  | l :: ls, 0, y, l', h => by cases h; rfl
  | l :: ls, x + 1, y, l', h => by
    rw [addTo, List.set_cons_succ, addTo_set ls x y l' (by simpa using h)]
def stepN (near : List (List Nat)) (p : E2) : List (List Nat) := if p.1 = p.2 then addTo near p.1 p.2 else addTo (addTo near p.1 p.2) p.2 p.1
def nearP (n : Nat) (es : List E2) : List (List Nat) := es.foldl stepN (List.replicate n [])
/-- no list is longer than m -/
def Fit (n m : Nat) (near : List (List Nat)) : Prop := near.length = n ∧ ∀ l ∈ near, l.length ≤ m
theorem fit_add {n m x y : Nat} {near : List (List Nat)} (h : Fit n m near) : Fit n (m + 1) (addTo near x y) := by
  refine ⟨by rw [addTo_len]; exact h.1, ?_⟩
  have : ∀ (ls : List (List Nat)) (x : Nat), (∀ l ∈ ls, l.length ≤ m) → ∀ l ∈ addTo ls x y, l.length ≤ m + 1 := by
    intro ls
    induction ls with
    | nil => intro x _ l hl; cases hl
    | cons a ls ih =>
      intro x hh l hl
      cases x with
      | zero =>
        rcases List.mem_cons.mp hl with rfl | hl
        · have := hh a List.mem_cons_self
          simp; omega
        · exact Nat.le_succ_of_le (hh l (List.mem_cons_of_mem _ hl))
      | succ x =>
        rcases List.mem_cons.mp hl with rfl | hl
        · exact Nat.le_succ_of_le (hh _ List.mem_cons_self)
        · exact ih x (fun l hl => hh l (List.mem_cons_of_mem _ hl)) l hl
  exact this near x h.2
theorem fit_mono {n m m' : Nat} {near : List (List Nat)} (h : Fit n m near) (hm : m ≤ m') : Fit n m' near := ⟨h.1, fun l hl => Nat.le_trans (h.2 l hl) hm⟩
theorem fit_step {n m : Nat} {p : E2} {near : List (List Nat)} (h : Fit n m near) : Fit n (m + 2) (stepN near p) := by
  unfold stepN
  split
  · exact fit_mono (fit_add h) (by omega)
  · exact fit_add (fit_add h)
theorem ixN_nat {n k : Nat} (h : k < n) : L2.ixN n (k : Int) = some k := by
  have h1 : (0 : Int) ≤ (k : Int) := by omega
  have h2 : (k : Int) < (n : Int) := by omega
  simp [L2.ixN, h1, h2]
theorem app2_ok {i : Nat} {fi fe : En → Option D} {env : En} {near : List (List Nat)} {x y n m : Nat} (he : env[i]? = some (some (nearD near, 2))) (h1 : fi env = some (.int x)) (h2 : fe env = some (.int y)) (hf : Fit n m near) (hx : x < n) (hm : m < 100000) :
    app2S i fi fe env = .nx (env.set i (some (nearD (addTo near x y), 2))) := by
  have hx' : x < near.length := by rw [hf.1]; exact hx
  have hl : near[x]? = some near[x] := List.getElem?_eq_getElem hx'
  have hlen : near[x].length ≤ m := hf.2 _ (List.getElem_mem hx')
  unfold app2S
  rw [he, h1, h2]
  simp only [nearD, List.length_map]
  rw [ixN_nat hx']
  simp only [List.getElem?_map, hl, Option.map_some, rowD, List.length_map]
  rw [if_pos (lt_lim (by omega)), addTo_set near x y _ hl, List.map_set]
  simp [rowD, nD]
abbrev npB : En → SR := (seqS
  (app2S 1 (nmK 2) (nmK 3)) (iteS (tst (op2 neD (nmO 2) (nmO 3))) (app2S 1 (nmK 3) (nmK 2)) passS))
theorem np_step (g : D) (z : Sl) (n m : Nat) (near : List (List Nat)) (p : E2) (hf : Fit n m near) (h1 : p.1 < n) (h2 : p.2 < n) (hm : m < 90000) : npB [some (g, 0), some (nearD near, 2), some (.int p.1, 0), some (.int p.2, 0), z] = .nx [some (g, 0), some (nearD (stepN near p), 2), some (.int p.1, 0), some (.int p.2, 0), z] := by
  unfold npB seqS
  rw [app2_ok (x := p.1) (y := p.2) (n := n) (m := m) rfl rfl rfl hf h1 (by omega)]
  by_cases h : p.1 = p.2
  · have h' : (p.1 : Int) = p.2 := by omega
    simp only [List.set_cons_succ, List.set_cons_zero]
    simp [-List.map_map, fnF, en0, seqS, passS, noS, exprS, retS, retN, retM, putE, setS, iteS, vOfE, eOfV, oOfV, kI, kB, kS, kN, nmV, nmO, op1, op2, opC, tst, tru, truD, notT, andT, orT, blV, vbl, andV, orV, notV, iteE, aNil, aCons, lNil, lCons, tupE, lstE, dicE, Opd.get, callF, frR, callI, callL, own1, addD, subD, negD, cmpD, lenD, intD, tupD, lisD, absD, isiD, tyD, min2D, max2D, Pv.R.of, raiseS, asgS, nameG, nilG, consG, tupG, isD, nisD, isNB, opS, pNone, pSome, seqI', itsD, sItS, putD, wipeE, backE, h', stepN, h]
  · have h' : ¬ (p.1 : Int) = p.2 := by omega
    simp only [List.set_cons_succ, List.set_cons_zero]
    have := app2_ok (i := 1) (fi := nmK 3) (fe := nmK 2) (env := [some (g, 0), some (nearD (addTo near p.1 p.2), 2), some (.int p.1, 0), some (.int p.2, 0), z]) (x := p.2) (y := p.1) (n := n) (m := m + 1) rfl rfl rfl (fit_add hf) h2 (by omega)
    simp [-List.map_map, fnF, en0, seqS, passS, noS, exprS, retS, retN, retM, putE, setS, iteS, vOfE, eOfV, oOfV, kI, kB, kS, kN, nmV, nmO, op1, op2, opC, tst, tru, truD, notT, andT, orT, blV, vbl, andV, orV, notV, iteE, aNil, aCons, lNil, lCons, tupE, lstE, dicE, Opd.get, callF, frR, callI, callL, own1, addD, subD, negD, cmpD, lenD, intD, tupD, lisD, absD, isiD, tyD, min2D, max2D, Pv.R.of, raiseS, asgS, nameG, nilG, consG, tupG, isD, nisD, isNB, opS, pNone, pSome, seqI', itsD, sItS, putD, wipeE, backE, h', stepN, h, this]
theorem near_ok {n : Nat} {es : List E2} (g : Okg n es) : F_near_points none [Gd n es] = .ok (nearD (nearP n es), 2) none := by
  have c : comp (rg1 (aCons (vOfE (op2 idxD (nmO 0) (oOfV (kI 0)))) aNil)) (nameG 4) yesT (lstE aNil) 1 [4] [some (Gd n es, 0), none, none, none, none] = .ok (nearD (List.replicate n []), 2) [some (Gd n es, 0), none, none, none, none] := by
    rw [comp_fix (ds := (List.range n).map fun k : Nat => .int k) (f := fun _ => .lst []) (rg1_ok (n := n) (env1 := [some (Gd n es, 0), none, none, none, none]) (by simp [-List.map_map, fnF, en0, seqS, passS, noS, exprS, retS, retN, retM, putE, setS, iteS, vOfE, eOfV, oOfV, kI, kB, kS, kN, nmV, nmO, op1, op2, opC, tst, tru, truD, notT, andT, orT, blV, vbl, andV, orV, notV, iteE, aNil, aCons, lNil, lCons, tupE, lstE, dicE, Opd.get, callF, frR, callI, callL, own1, addD, subD, negD, cmpD, lenD, intD, tupD, lisD, absD, isiD, tyD, min2D, max2D, Pv.R.of, raiseS, asgS, nameG, nilG, consG, tupG, isD, nisD, isNB, opS, pNone, pSome, seqI', itsD, sItS, putD, wipeE, backE, Gd, idxD, at_0]) (by have := g.n4; omega)) (env0 := [some (Gd n es, 0), none, none, none, none]) (env2 := [some (Gd n es, 0), none, none, none, none]) rfl rfl (by apply le_lim; have := g.n4; simp; omega) ?_]
    · simp only [nearD, List.map_replicate]
      rw [List.map_map]
      have : (List.range n).map ((fun _ => D.lst []) ∘ fun k : Nat => D.int k) = List.replicate n (rowD []) := by
        have : (fun _ => D.lst []) ∘ (fun k : Nat => D.int k) = fun _ : Nat => rowD [] := rfl
        rw [this, List.map_const', List.length_range]
      rw [this]
    · intro d hd
      exact ⟨[some (Gd n es, 0), none, none, none, some (d, 0)], [some (Gd n es, 0), none, none, none, some (d, 0)], [some (Gd n es, 0), none, none, none, some (d, 0)], by simp [-List.map_map, fnF, en0, seqS, passS, noS, exprS, retS, retN, retM, putE, setS, iteS, vOfE, eOfV, oOfV, kI, kB, kS, kN, nmV, nmO, op1, op2, opC, tst, tru, truD, notT, andT, orT, blV, vbl, andV, orV, notV, iteE, aNil, aCons, lNil, lCons, tupE, lstE, dicE, Opd.get, callF, frR, callI, callL, own1, addD, subD, negD, cmpD, lenD, intD, tupD, lisD, absD, isiD, tyD, min2D, max2D, Pv.R.of, raiseS, asgS, nameG, nilG, consG, tupG, isD, nisD, isNB, opS, pNone, pSome, seqI', itsD, sItS, putD, wipeE, backE], rfl, by simp [-List.map_map, fnF, en0, seqS, passS, noS, exprS, retS, retN, retM, putE, setS, iteS, vOfE, eOfV, oOfV, kI, kB, kS, kN, nmV, nmO, op1, op2, opC, tst, tru, truD, notT, andT, orT, blV, vbl, andV, orV, notV, iteE, aNil, aCons, lNil, lCons, tupE, lstE, dicE, Opd.get, callF, frR, callI, callL, own1, addD, subD, negD, cmpD, lenD, intD, tupD, lisD, absD, isiD, tyD, min2D, max2D, Pv.R.of, raiseS, asgS, nameG, nilG, consG, tupG, isD, nisD, isNB, opS, pNone, pSome, seqI', itsD, sItS, putD, wipeE, backE], rfl⟩
  have hl := loopS_idx (g := tupG 2 (consG (nameG 2) (consG (nameG 3) nilG))) (body := npB) pr es
    (fun i => [some (Gd n es, 0), some (nearD ((es.take i).foldl stepN (List.replicate n [])), 2), if i = 0 then none else some (.int (es.getD (i - 1) (0, 0)).1, 0), if i = 0 then none else some (.int (es.getD (i - 1) (0, 0)).2, 0), none]) (fun i hi => by
      have hfit : ∀ i, Fit n (2 * i) ((es.take i).foldl stepN (List.replicate n [])) := by
        intro i
        induction i with
        | zero => exact ⟨by simp, fun l hl => by simp at hl; simp [hl.2]⟩
        | succ i ih =>
          by_cases hi : i < es.length
          · rw [List.take_succ_eq_append_getElem hi, List.foldl_append]
            exact fit_step ih
          · rw [List.take_of_length_le (by omega)]
            rw [List.take_of_length_le (by omega)] at ih
            exact fit_mono ih (by omega)
      have hp := List.all_eq_true.mp g.e es[i] (List.getElem_mem hi)
      simp [okE] at hp
      refine ⟨[some (Gd n es, 0), some (nearD ((es.take i).foldl stepN (List.replicate n [])), 2), some (.int es[i].1, 0), some (.int es[i].2, 0), none], by simp [-List.map_map, fnF, en0, seqS, passS, noS, exprS, retS, retN, retM, putE, setS, iteS, vOfE, eOfV, oOfV, kI, kB, kS, kN, nmV, nmO, op1, op2, opC, tst, tru, truD, notT, andT, orT, blV, vbl, andV, orV, notV, iteE, aNil, aCons, lNil, lCons, tupE, lstE, dicE, Opd.get, callF, frR, callI, callL, own1, addD, subD, negD, cmpD, lenD, intD, tupD, lisD, absD, isiD, tyD, min2D, max2D, Pv.R.of, raiseS, asgS, nameG, nilG, consG, tupG, isD, nisD, isNB, opS, pNone, pSome, seqI', itsD, sItS, putD, wipeE, backE, pr], ?_⟩
      rw [np_step (Gd n es) none n (2 * i) _ es[i] (hfit i) hp.1 hp.2.1 (by have := g.l; omega), List.take_succ_eq_append_getElem hi, List.foldl_append]
      simp [hi])
  rw [List.take_zero, List.take_length] at hl
  have hf : forS (seqI' (vOfE (op2 idxD (nmO 0) (oOfV (kI 1))))) (tupG 2 (consG (nameG 2) (consG (nameG 3) nilG))) npB [some (Gd n es, 0), some (nearD (List.replicate n []), 2), none, none, none] = .nx [some (Gd n es, 0), some (nearD (nearP n es), 2), if es.length = 0 then none else some (.int (es.getD (es.length - 1) (0, 0)).1, 0), if es.length = 0 then none else some (.int (es.getD (es.length - 1) (0, 0)).2, 0), none] := by
    rw [forS_ok (ds := es.map pr) (env1 := [some (Gd n es, 0), some (nearD (List.replicate n []), 2), none, none, none]) (by simp [-List.map_map, fnF, en0, seqS, passS, noS, exprS, retS, retN, retM, putE, setS, iteS, vOfE, eOfV, oOfV, kI, kB, kS, kN, nmV, nmO, op1, op2, opC, tst, tru, truD, notT, andT, orT, blV, vbl, andV, orV, notV, iteE, aNil, aCons, lNil, lCons, tupE, lstE, dicE, Opd.get, callF, frR, callI, callL, own1, addD, subD, negD, cmpD, lenD, intD, tupD, lisD, absD, isiD, tyD, min2D, max2D, Pv.R.of, raiseS, asgS, nameG, nilG, consG, tupG, isD, nisD, isNB, opS, pNone, pSome, seqI', itsD, sItS, putD, wipeE, backE, Gd, idxD, at_1])]
    exact hl
  exact fnF_ret (e := _) ((seqS_nx (show setS 1 _ (en0 5 none [Gd n es]) = .nx [some (Gd n es, 0), some (nearD (List.replicate n []), 2), none, none, none] by simp [-List.map_map, fnF, en0, seqS, passS, noS, exprS, retS, retN, retM, putE, setS, iteS, vOfE, eOfV, oOfV, kI, kB, kS, kN, nmV, nmO, op1, op2, opC, tst, tru, truD, notT, andT, orT, blV, vbl, andV, orV, notV, iteE, aNil, aCons, lNil, lCons, tupE, lstE, dicE, Opd.get, callF, frR, callI, callL, own1, addD, subD, negD, cmpD, lenD, intD, tupD, lisD, absD, isiD, tyD, min2D, max2D, Pv.R.of, raiseS, asgS, nameG, nilG, consG, tupG, isD, nisD, isNB, opS, pNone, pSome, seqI', itsD, sItS, putD, wipeE, backE, c])).trans ((seqS_nx hf).trans (by simp [-List.map_map, fnF, en0, seqS, passS, noS, exprS, retS, retN, retM, putE, setS, iteS, vOfE, eOfV, oOfV, kI, kB, kS, kN, nmV, nmO, op1, op2, opC, tst, tru, truD, notT, andT, orT, blV, vbl, andV, orV, notV, iteE, aNil, aCons, lNil, lCons, tupE, lstE, dicE, Opd.get, callF, frR, callI, callL, own1, addD, subD, negD, cmpD, lenD, intD, tupD, lisD, absD, isiD, tyD, min2D, max2D, Pv.R.of, raiseS, asgS, nameG, nilG, consG, tupG, isD, nisD, isNB, opS, pNone, pSome, seqI', itsD, sItS, putD, wipeE, backE]; rfl)))
def nth : List Nat → Nat → Nat
  | [], _ => 0
  | x :: _, 0 => x
  | _ :: xs, n + 1 => nth xs n
def sumN : List Nat → Nat
  | [] => 0
  | x :: xs => x + sumN xs
theorem nth_at : ∀ (l : List Nat) (i : Nat), i < l.length → l[i]? = some (nth l i)
  | x :: l, 0, _ => rfl
  | x :: l, i + 1, h => by simpa [nth] using nth_at l i (by simpa using h)
def ledN (near : List (List Nat)) (row : List Nat) : List Nat := near.map fun o => sumN (o.map fun y => nth row y)
theorem ints_nD : ∀ l : List Nat, D.ints (l.map nD) = some (l.map Int.ofNat)
  | [] => rfl
  | x :: l => by
    show (D.ints (l.map nD)).map (Int.ofNat x :: ·) = _
    rw [ints_nD l]
    rfl
theorem sum_cast : ∀ l : List Nat, (l.map Int.ofNat).sum = (sumN l : Int)
  | [] => rfl
  | x :: l => by
    simp only [List.map_cons, List.sum_cons, sumN]
    rw [sum_cast l]
    simp
theorem sum_nD (l : List Nat) : sumD (.lst (l.map nD)) = some (.int (sumN l), 0) := by
  simp only [sumD, ints_nD, Option.map_some, sum_cast]
theorem idx_row {row : List Nat} {y : Nat} (h : y < row.length) : idxD (rowD row) (.int y) = some (nD (nth row y), 0) := by
  have : L2.atI (row.map nD) (y : Int) = some (nD (nth row y)) := by
    unfold L2.atI
    rw [List.length_map, ixN_nat h]
    simp [nth_at row y h]
  show (L2.atI (row.map nD) (y : Int)).map (·, 0) = _
  rw [this]
  rfl
theorem led_ok (near : List (List Nat)) (row : List Nat) (hl : near.length ≤ 100000) (h1 : ∀ o ∈ near, o.length ≤ 100000) (h2 : ∀ o ∈ near, ∀ y ∈ o, y < row.length) : F_led none [nearD near, rowD row] = .ok (rowD (ledN near row), 1) none := by
  have inner : ∀ o ∈ near, comp (seqI' (nmV 2)) (nameG 3) yesT (eOfV (vOfE (op2 idxD (nmO 1) (nmO 3)))) 0 [3] [some (nearD near, 0), some (rowD row, 0), some (rowD o, 0), none] = .ok (.lst ((o.map fun y => nth row y).map nD), 1) [some (nearD near, 0), some (rowD row, 0), some (rowD o, 0), none] := by
    intro o ho
    rw [comp_fix (ds := o.map nD) (f := fun d => match d with
      | .int (.ofNat y) => nD (nth row y)
      | d => d) (env1 := [some (nearD near, 0), some (rowD row, 0), some (rowD o, 0), none]) (env0 := [some (nearD near, 0), some (rowD row, 0), some (rowD o, 0), none]) (env2 := [some (nearD near, 0), some (rowD row, 0), some (rowD o, 0), none]) (by simp [-List.map_map, fnF, en0, seqS, passS, noS, exprS, retS, retN, retM, putE, setS, iteS, vOfE, eOfV, oOfV, kI, kB, kS, kN, nmV, nmO, op1, op2, opC, tst, tru, truD, notT, andT, orT, blV, vbl, andV, orV, notV, iteE, aNil, aCons, lNil, lCons, tupE, lstE, dicE, Opd.get, callF, frR, callI, callL, own1, addD, subD, negD, cmpD, lenD, intD, tupD, lisD, absD, isiD, tyD, min2D, max2D, Pv.R.of, raiseS, asgS, nameG, nilG, consG, tupG, isD, nisD, isNB, opS, pNone, pSome, seqI', itsD, sItS, putD, wipeE, backE, rowD]) rfl rfl (by apply le_lim; simpa using h1 o ho) ?_]
    · rw [List.map_map, List.map_map]
      rfl
    · intro d hd
      obtain ⟨y, hy, rfl⟩ := List.mem_map.mp hd
      have hi := idx_row (h2 o ho y hy)
      refine ⟨[some (nearD near, 0), some (rowD row, 0), some (rowD o, 0), some (.int y, 0)], [some (nearD near, 0), some (rowD row, 0), some (rowD o, 0), some (.int y, 0)], [some (nearD near, 0), some (rowD row, 0), some (rowD o, 0), some (.int y, 0)], by simp [-List.map_map, fnF, en0, seqS, passS, noS, exprS, retS, retN, retM, putE, setS, iteS, vOfE, eOfV, oOfV, kI, kB, kS, kN, nmV, nmO, op1, op2, opC, tst, tru, truD, notT, andT, orT, blV, vbl, andV, orV, notV, iteE, aNil, aCons, lNil, lCons, tupE, lstE, dicE, Opd.get, callF, frR, callI, callL, own1, addD, subD, negD, cmpD, lenD, intD, tupD, lisD, absD, isiD, tyD, min2D, max2D, Pv.R.of, raiseS, asgS, nameG, nilG, consG, tupG, isD, nisD, isNB, opS, pNone, pSome, seqI', itsD, sItS, putD, wipeE, backE, nD], rfl, ?_, rfl⟩
      simp [-List.map_map, fnF, en0, seqS, passS, noS, exprS, retS, retN, retM, putE, setS, iteS, vOfE, eOfV, oOfV, kI, kB, kS, kN, nmV, nmO, op1, op2, opC, tst, tru, truD, notT, andT, orT, blV, vbl, andV, orV, notV, iteE, aNil, aCons, lNil, lCons, tupE, lstE, dicE, Opd.get, callF, frR, callI, callL, own1, addD, subD, negD, cmpD, lenD, intD, tupD, lisD, absD, isiD, tyD, min2D, max2D, Pv.R.of, raiseS, asgS, nameG, nilG, consG, tupG, isD, nisD, isNB, opS, pNone, pSome, seqI', itsD, sItS, putD, wipeE, backE, hi]
      rfl
  have outer : comp (seqI' (nmV 0)) (nameG 2) yesT (eOfV (vOfE (op1 sumD (oOfV (vOfE (comp (seqI' (nmV 2)) (nameG 3) yesT (eOfV (vOfE (op2 idxD (nmO 1) (nmO 3)))) 0 [3])))))) 0 [2] [some (nearD near, 0), some (rowD row, 0), none, none] = .ok (rowD (ledN near row), 1) [some (nearD near, 0), some (rowD row, 0), none, none] := by
    rw [comp_fix (ds := near.map rowD) (f := fun d => match d with
      | .lst ds => (match sumD (.lst (ds.map fun d => match d with
        | .int (.ofNat y) => nD (nth row y)
        | d => d)) with
        | some p => p.1
        | none => .non)
      | d => d) (env1 := [some (nearD near, 0), some (rowD row, 0), none, none]) (env0 := [some (nearD near, 0), some (rowD row, 0), none, none]) (env2 := [some (nearD near, 0), some (rowD row, 0), none, none]) (by simp [-List.map_map, fnF, en0, seqS, passS, noS, exprS, retS, retN, retM, putE, setS, iteS, vOfE, eOfV, oOfV, kI, kB, kS, kN, nmV, nmO, op1, op2, opC, tst, tru, truD, notT, andT, orT, blV, vbl, andV, orV, notV, iteE, aNil, aCons, lNil, lCons, tupE, lstE, dicE, Opd.get, callF, frR, callI, callL, own1, addD, subD, negD, cmpD, lenD, intD, tupD, lisD, absD, isiD, tyD, min2D, max2D, Pv.R.of, raiseS, asgS, nameG, nilG, consG, tupG, isD, nisD, isNB, opS, pNone, pSome, seqI', itsD, sItS, putD, wipeE, backE, nearD]) rfl rfl (by apply le_lim; simpa using hl) ?_]
    · rw [List.map_map]
      have e : ∀ o : List Nat, (o.map nD).map (fun d => match d with
        | .int (.ofNat y) => nD (nth row y)
        | d => d) = (o.map fun y => nth row y).map nD := by
        intro o
        rw [List.map_map, List.map_map]
        rfl
      have : (near.map ((fun d => match d with
      | .lst ds => (match sumD (.lst (ds.map fun d => match d with
        | .int (.ofNat y) => nD (nth row y)
        | d => d)) with
        | some p => p.1
        | none => .non)
      | d => d) ∘ rowD)) = (ledN near row).map nD := by
        unfold ledN
        rw [List.map_map]
        apply List.map_congr_left
        intro o ho
        simp only [Function.comp_def, rowD]
        rw [e o, sum_nD]
        rfl
      rw [this]
      rfl
    · intro d hd
      obtain ⟨o, ho, rfl⟩ := List.mem_map.mp hd
      refine ⟨[some (nearD near, 0), some (rowD row, 0), some (rowD o, 0), none], [some (nearD near, 0), some (rowD row, 0), some (rowD o, 0), none], [some (nearD near, 0), some (rowD row, 0), some (rowD o, 0), none], by simp [-List.map_map, fnF, en0, seqS, passS, noS, exprS, retS, retN, retM, putE, setS, iteS, vOfE, eOfV, oOfV, kI, kB, kS, kN, nmV, nmO, op1, op2, opC, tst, tru, truD, notT, andT, orT, blV, vbl, andV, orV, notV, iteE, aNil, aCons, lNil, lCons, tupE, lstE, dicE, Opd.get, callF, frR, callI, callL, own1, addD, subD, negD, cmpD, lenD, intD, tupD, lisD, absD, isiD, tyD, min2D, max2D, Pv.R.of, raiseS, asgS, nameG, nilG, consG, tupG, isD, nisD, isNB, opS, pNone, pSome, seqI', itsD, sItS, putD, wipeE, backE], rfl, ?_, rfl⟩
      have e : (o.map nD).map (fun d => match d with
        | .int (.ofNat y) => nD (nth row y)
        | d => d) = (o.map fun y => nth row y).map nD := by
        rw [List.map_map, List.map_map]
        rfl
      simp [-List.map_map, fnF, en0, seqS, passS, noS, exprS, retS, retN, retM, putE, setS, iteS, vOfE, eOfV, oOfV, kI, kB, kS, kN, nmV, nmO, op1, op2, opC, tst, tru, truD, notT, andT, orT, blV, vbl, andV, orV, notV, iteE, aNil, aCons, lNil, lCons, tupE, lstE, dicE, Opd.get, callF, frR, callI, callL, own1, addD, subD, negD, cmpD, lenD, intD, tupD, lisD, absD, isiD, tyD, min2D, max2D, Pv.R.of, raiseS, asgS, nameG, nilG, consG, tupG, isD, nisD, isNB, opS, pNone, pSome, seqI', itsD, sItS, putD, wipeE, backE, inner o ho, sum_nD]
      simp only [rowD]
      rw [e, sum_nD]
  unfold F_led g_led
  simp [-List.map_map, fnF, en0, seqS, passS, noS, exprS, retS, retN, retM, putE, setS, iteS, vOfE, eOfV, oOfV, kI, kB, kS, kN, nmV, nmO, op1, op2, opC, tst, tru, truD, notT, andT, orT, blV, vbl, andV, orV, notV, iteE, aNil, aCons, lNil, lCons, tupE, lstE, dicE, Opd.get, callF, frR, callI, callL, own1, addD, subD, negD, cmpD, lenD, intD, tupD, lisD, absD, isiD, tyD, min2D, max2D, Pv.R.of, raiseS, asgS, nameG, nilG, consG, tupG, isD, nisD, isNB, opS, pNone, pSome, seqI', itsD, sItS, putD, wipeE, backE, outer]
def startP (n : Nat) : List Nat := (List.range n).map fun y => if y = 0 then 1 else 0
theorem start_ok (n : Nat) (h : n ≤ 1000) : F_start_row none [.int n, .int 0] = .ok (rowD (startP n), 1) none := by
  have c : comp (rg1 (aCons (nmV 0) aNil)) (nameG 2) yesT (eOfV (vOfE (op1 intD (oOfV (vOfE (op2 eqD (nmO 2) (nmO 1))))))) 0 [2] [some (.int n, 0), some (.int 0, 0), none] = .ok (rowD (startP n), 1) [some (.int n, 0), some (.int 0, 0), none] := by
    rw [comp_fix (ds := (List.range n).map fun k : Nat => .int k) (f := fun d => match d with
      | .int (.ofNat y) => nD (if y = 0 then 1 else 0)
      | d => d) (rg1_ok (n := n) (env1 := [some (.int n, 0), some (.int 0, 0), none]) (by simp [-List.map_map, fnF, en0, seqS, passS, noS, exprS, retS, retN, retM, putE, setS, iteS, vOfE, eOfV, oOfV, kI, kB, kS, kN, nmV, nmO, op1, op2, opC, tst, tru, truD, notT, andT, orT, blV, vbl, andV, orV, notV, iteE, aNil, aCons, lNil, lCons, tupE, lstE, dicE, Opd.get, callF, frR, callI, callL, own1, addD, subD, negD, cmpD, lenD, intD, tupD, lisD, absD, isiD, tyD, min2D, max2D, Pv.R.of, raiseS, asgS, nameG, nilG, consG, tupG, isD, nisD, isNB, opS, pNone, pSome, seqI', itsD, sItS, putD, wipeE, backE]) (by omega)) (env0 := [some (.int n, 0), some (.int 0, 0), none]) (env2 := [some (.int n, 0), some (.int 0, 0), none]) rfl rfl (by apply le_lim; simp; omega) ?_]
    · rw [List.map_map]
      simp only [startP, rowD, List.map_map]
      rfl
    · intro d hd
      obtain ⟨y, hy, rfl⟩ := List.mem_map.mp hd
      refine ⟨[some (.int n, 0), some (.int 0, 0), some (.int y, 0)], [some (.int n, 0), some (.int 0, 0), some (.int y, 0)], [some (.int n, 0), some (.int 0, 0), some (.int y, 0)], by simp [-List.map_map, fnF, en0, seqS, passS, noS, exprS, retS, retN, retM, putE, setS, iteS, vOfE, eOfV, oOfV, kI, kB, kS, kN, nmV, nmO, op1, op2, opC, tst, tru, truD, notT, andT, orT, blV, vbl, andV, orV, notV, iteE, aNil, aCons, lNil, lCons, tupE, lstE, dicE, Opd.get, callF, frR, callI, callL, own1, addD, subD, negD, cmpD, lenD, intD, tupD, lisD, absD, isiD, tyD, min2D, max2D, Pv.R.of, raiseS, asgS, nameG, nilG, consG, tupG, isD, nisD, isNB, opS, pNone, pSome, seqI', itsD, sItS, putD, wipeE, backE], rfl, ?_, rfl⟩
      by_cases h0 : y = 0
      · subst h0
        simp [-List.map_map, fnF, en0, seqS, passS, noS, exprS, retS, retN, retM, putE, setS, iteS, vOfE, eOfV, oOfV, kI, kB, kS, kN, nmV, nmO, op1, op2, opC, tst, tru, truD, notT, andT, orT, blV, vbl, andV, orV, notV, iteE, aNil, aCons, lNil, lCons, tupE, lstE, dicE, Opd.get, callF, frR, callI, callL, own1, addD, subD, negD, cmpD, lenD, intD, tupD, lisD, absD, isiD, tyD, min2D, max2D, Pv.R.of, raiseS, asgS, nameG, nilG, consG, tupG, isD, nisD, isNB, opS, pNone, pSome, seqI', itsD, sItS, putD, wipeE, backE, nD]
      · have h1 : ¬ (y : Int) = 0 := by omega
        simp [-List.map_map, fnF, en0, seqS, passS, noS, exprS, retS, retN, retM, putE, setS, iteS, vOfE, eOfV, oOfV, kI, kB, kS, kN, nmV, nmO, op1, op2, opC, tst, tru, truD, notT, andT, orT, blV, vbl, andV, orV, notV, iteE, aNil, aCons, lNil, lCons, tupE, lstE, dicE, Opd.get, callF, frR, callI, callL, own1, addD, subD, negD, cmpD, lenD, intD, tupD, lisD, absD, isiD, tyD, min2D, max2D, Pv.R.of, raiseS, asgS, nameG, nilG, consG, tupG, isD, nisD, isNB, opS, pNone, pSome, seqI', itsD, sItS, putD, wipeE, backE, nD, h0, h1]
  unfold F_start_row g_start_row
  simp [-List.map_map, fnF, en0, seqS, passS, noS, exprS, retS, retN, retM, putE, setS, iteS, vOfE, eOfV, oOfV, kI, kB, kS, kN, nmV, nmO, op1, op2, opC, tst, tru, truD, notT, andT, orT, blV, vbl, andV, orV, notV, iteE, aNil, aCons, lNil, lCons, tupE, lstE, dicE, Opd.get, callF, frR, callI, callL, own1, addD, subD, negD, cmpD, lenD, intD, tupD, lisD, absD, isiD, tyD, min2D, max2D, Pv.R.of, raiseS, asgS, nameG, nilG, consG, tupG, isD, nisD, isNB, opS, pNone, pSome, seqI', itsD, sItS, putD, wipeE, backE, c]
def rowAt (near : List (List Nat)) (n : Nat) : Nat → List Nat
  | 0 => startP n
  | k + 1 => ledN near (rowAt near n k)
theorem rowAt_len {near : List (List Nat)} {n : Nat} (h : near.length = n) : ∀ k, (rowAt near n k).length = n
  | 0 => by simp [rowAt, startP]
  | k + 1 => by simp [rowAt, ledN, h]
/-- lists of points below n, not too long -/
structure Nr (n : Nat) (near : List (List Nat)) : Prop where
  l : near.length = n
  n1 : 1 ≤ n
  n4 : n ≤ 400
  o : ∀ o ∈ near, o.length ≤ 100000
  y : ∀ o ∈ near, ∀ y ∈ o, y < n
theorem below_add {n x y : Nat} (hy : y < n) : ∀ (ls : List (List Nat)) (x : Nat), (∀ o ∈ ls, ∀ z ∈ o, z < n) → ∀ o ∈ addTo ls x y, ∀ z ∈ o, z < n
  | [], _, h, o, ho, _, _ => by cases ho
  | a :: ls, 0, h, o, ho, z, hz => by
    rcases List.mem_cons.mp ho with rfl | ho
    · rcases List.mem_append.mp hz with hz | hz
      · exact h a List.mem_cons_self z hz
      · rw [List.mem_singleton.mp hz]; exact hy
    · exact h o (List.mem_cons_of_mem _ ho) z hz
  | a :: ls, x + 1, h, o, ho, z, hz => by
    rcases List.mem_cons.mp ho with rfl | ho
    · exact h _ List.mem_cons_self z hz
    · exact below_add (x := x) hy ls x (fun o ho => h o (List.mem_cons_of_mem _ ho)) o ho z hz
theorem nr_of {n : Nat} {es : List E2} (g : Okg n es) : Nr n (nearP n es) := by
  have key : ∀ (l : List E2) (near : List (List Nat)) (m : Nat), (∀ p ∈ l, okE n p = true) → Fit n m near → (∀ o ∈ near, ∀ z ∈ o, z < n) → Fit n (m + 2 * l.length) (l.foldl stepN near) ∧ ∀ o ∈ l.foldl stepN near, ∀ z ∈ o, z < n := by
    intro l
    induction l with
    | nil => intro near m _ hf hb; exact ⟨hf, hb⟩
    | cons p l ih =>
      intro near m hp hf hb
      have h0 := hp p List.mem_cons_self
      simp [okE] at h0
      have hb' : ∀ o ∈ stepN near p, ∀ z ∈ o, z < n := by
        unfold stepN
        split
        · exact below_add (x := p.1) h0.2.1 near p.1 hb
        · exact below_add (x := p.2) h0.1 _ p.2 (below_add (x := p.1) h0.2.1 near p.1 hb)
      have := ih (stepN near p) (m + 2) (fun q hq => hp q (List.mem_cons_of_mem _ hq)) (fit_step hf) hb'
      rw [List.foldl_cons]
      refine ⟨?_, this.2⟩
      have e : m + 2 + 2 * l.length = m + 2 * (p :: l).length := by simp; omega
      rw [← e]; exact this.1
  have := key es (List.replicate n []) 0 (List.all_eq_true.mp g.e) ⟨by simp, fun l hl => by simp at hl; simp [hl.2]⟩ (fun o ho z hz => by simp at ho; rw [ho.2] at hz; cases hz)
  exact ⟨this.1.1, g.n1, g.n4, fun o ho => Nat.le_trans (this.1.2 o ho) (by have := g.l; omega), this.2⟩
theorem led_at {n : Nat} {near : List (List Nat)} (h : Nr n near) (k : Nat) : F_led none [nearD near, rowD (rowAt near n k)] = .ok (rowD (rowAt near n (k + 1)), 1) none :=
  led_ok near _ (by rw [h.l]; have := h.n4; omega) h.o fun o ho y hy => by rw [rowAt_len h.l]; exact h.y o ho y hy
def counts (near : List (List Nat)) (n k : Nat) : List Nat := (List.range (k + 1)).map fun i => nth (rowAt near n i) 0
theorem nth_start (n : Nat) (h : 1 ≤ n) : nth (startP n) 0 = 1 := by
  obtain ⟨m, rfl⟩ : ∃ m, n = m + 1 := ⟨n - 1, by omega⟩
  unfold startP
  rw [List.range_succ_eq_map]
  rfl
abbrev wcB : En → SR := (seqS
  (setS 4 ((callF 2 (F_led) (aCons ((nmV 3)) (aCons ((nmV 4)) aNil))))) (appS 5 ((vOfE (op2 idxD (nmO 4) (oOfV (kI 0)))))))
theorem wc_step (G : D) (K : D) (z : Sl) (d : Nat) {n : Nat} {near : List (List Nat)} (h : Nr n near) (k : Nat) (hk : k < 1000) : wcB [some (G, 0), some (K, 0), z, some (nearD near, d), some (rowD (rowAt near n k), 1), some (rowD (counts near n k), 1)] = .nx [some (G, 0), some (K, 0), z, some (nearD near, 0), some (rowD (rowAt near n (k + 1)), 1), some (rowD (counts near n (k + 1)), 1)] := by
  have h0 : 0 < (rowAt near n (k + 1)).length := by rw [rowAt_len h.l]; exact h.n1
  have hi := idx_row h0
  have hc : counts near n (k + 1) = counts near n k ++ [nth (rowAt near n (k + 1)) 0] := by
    unfold counts
    rw [List.range_succ, List.map_append]
    rfl
  have e1 : setS 4 ((callF 2 (F_led) (aCons ((nmV 3)) (aCons ((nmV 4)) aNil)))) [some (G, 0), some (K, 0), z, some (nearD near, d), some (rowD (rowAt near n k), 1), some (rowD (counts near n k), 1)] = .nx [some (G, 0), some (K, 0), z, some (nearD near, 0), some (rowD (rowAt near n (k + 1)), 1), some (rowD (counts near n k), 1)] := by
    simp [-List.map_map, fnF, en0, seqS, passS, noS, exprS, retS, retN, retM, putE, setS, iteS, vOfE, eOfV, oOfV, kI, kB, kS, kN, nmV, nmO, op1, op2, opC, tst, tru, truD, notT, andT, orT, blV, vbl, andV, orV, notV, iteE, aNil, aCons, lNil, lCons, tupE, lstE, dicE, Opd.get, callF, frR, callI, callL, own1, addD, subD, negD, cmpD, lenD, intD, tupD, lisD, absD, isiD, tyD, min2D, max2D, Pv.R.of, raiseS, asgS, nameG, nilG, consG, tupG, isD, nisD, isNB, opS, pNone, pSome, seqI', itsD, sItS, putD, wipeE, backE, led_at h k]
  have hl : (counts near n k).length < lim := by apply lt_lim; simp [counts]; omega
  refine (seqS_nx e1).trans ?_
  have hi' : idxD (D.lst (List.map nD (rowAt near n (k + 1)))) (.int 0) = some (nD (nth (rowAt near n (k + 1)) 0), 0) := hi
  unfold appS
  rw [if_pos (by rfl)]
  simp [-List.map_map, fnF, en0, seqS, passS, noS, exprS, retS, retN, retM, putE, setS, iteS, vOfE, eOfV, oOfV, kI, kB, kS, kN, nmV, nmO, op1, op2, opC, tst, tru, truD, notT, andT, orT, blV, vbl, andV, orV, notV, iteE, aNil, aCons, lNil, lCons, tupE, lstE, dicE, Opd.get, callF, frR, callI, callL, own1, addD, subD, negD, cmpD, lenD, intD, tupD, lisD, absD, isiD, tyD, min2D, max2D, Pv.R.of, raiseS, asgS, nameG, nilG, consG, tupG, isD, nisD, isNB, opS, pNone, pSome, seqI', itsD, sItS, putD, wipeE, backE, hi', rowD, hc, hl]
theorem walk_ok {n : Nat} {es : List E2} (g : Okg n es) (k : Nat) (hk : k ≤ 12) : F_walk_counts none [Gd n es, .int k] = .ok (rowD (counts (nearP n es) n k), 1) none := by
  have h := nr_of g
  have e1 : par3S 3 4 5 (lCons ((callF 1 (F_near_points) (aCons ((nmV 0)) aNil))) (lCons ((callF 2 (F_start_row) (aCons ((vOfE (op2 idxD (nmO 0) (oOfV (kI 0))))) (aCons (kI 0) aNil)))) (lCons ((lstE (aCons (kI 1) aNil))) lNil))) (en0 6 none [Gd n es, .int k]) = .nx [some (Gd n es, 0), some (.int k, 0), none, some (nearD (nearP n es), 2), some (rowD (rowAt (nearP n es) n 0), 1), some (rowD (counts (nearP n es) n 0), 1)] := by
    have hi : idxD (Gd n es) (.int 0) = some (.int n, 0) := by simp [Gd, idxD, at_0]
    have hc : counts (nearP n es) n 0 = [1] := by
      have := nth_start n g.n1
      simp [counts, rowAt, this]
    simp [-List.map_map, fnF, en0, seqS, passS, noS, exprS, retS, retN, retM, putE, setS, iteS, vOfE, eOfV, oOfV, kI, kB, kS, kN, nmV, nmO, op1, op2, opC, tst, tru, truD, notT, andT, orT, blV, vbl, andV, orV, notV, iteE, aNil, aCons, lNil, lCons, tupE, lstE, dicE, Opd.get, callF, frR, callI, callL, own1, addD, subD, negD, cmpD, lenD, intD, tupD, lisD, absD, isiD, tyD, min2D, max2D, Pv.R.of, raiseS, asgS, nameG, nilG, consG, tupG, isD, nisD, isNB, opS, pNone, pSome, seqI', itsD, sItS, putD, wipeE, backE, par3S, near_ok g, start_ok n (by have := g.n4; omega), hi, rowAt, hc]
    simp [rowD, nD]
  have hl := loopS_range (g := nameG 2) (body := wcB) (fun i : Nat => .int i) k (fun i => [some (Gd n es, 0), some (.int k, 0), if i = 0 then none else some (.int (i - 1 : Nat), 0), some (nearD (nearP n es), if i = 0 then 2 else 0), some (rowD (rowAt (nearP n es) n i), 1), some (rowD (counts (nearP n es) n i), 1)]) (fun i hi => by
    refine ⟨[some (Gd n es, 0), some (.int k, 0), some (.int i, 0), some (nearD (nearP n es), if i = 0 then 2 else 0), some (rowD (rowAt (nearP n es) n i), 1), some (rowD (counts (nearP n es) n i), 1)], by simp [-List.map_map, fnF, en0, seqS, passS, noS, exprS, retS, retN, retM, putE, setS, iteS, vOfE, eOfV, oOfV, kI, kB, kS, kN, nmV, nmO, op1, op2, opC, tst, tru, truD, notT, andT, orT, blV, vbl, andV, orV, notV, iteE, aNil, aCons, lNil, lCons, tupE, lstE, dicE, Opd.get, callF, frR, callI, callL, own1, addD, subD, negD, cmpD, lenD, intD, tupD, lisD, absD, isiD, tyD, min2D, max2D, Pv.R.of, raiseS, asgS, nameG, nilG, consG, tupG, isD, nisD, isNB, opS, pNone, pSome, seqI', itsD, sItS, putD, wipeE, backE], ?_⟩
    rw [wc_step (Gd n es) (.int k) (some (.int i, 0)) _ h i (by omega)]
    rfl)
  have e2 : forS (rg1 (aCons ((nmV 1)) aNil)) (nameG 2) wcB [some (Gd n es, 0), some (.int k, 0), none, some (nearD (nearP n es), 2), some (rowD (rowAt (nearP n es) n 0), 1), some (rowD (counts (nearP n es) n 0), 1)] = .nx [some (Gd n es, 0), some (.int k, 0), if k = 0 then none else some (.int (k - 1 : Nat), 0), some (nearD (nearP n es), if k = 0 then 2 else 0), some (rowD (rowAt (nearP n es) n k), 1), some (rowD (counts (nearP n es) n k), 1)] := by
    rw [forS_ok (rg1_ok (n := k) (env1 := [some (Gd n es, 0), some (.int k, 0), none, some (nearD (nearP n es), 2), some (rowD (rowAt (nearP n es) n 0), 1), some (rowD (counts (nearP n es) n 0), 1)]) (by simp [-List.map_map, fnF, en0, seqS, passS, noS, exprS, retS, retN, retM, putE, setS, iteS, vOfE, eOfV, oOfV, kI, kB, kS, kN, nmV, nmO, op1, op2, opC, tst, tru, truD, notT, andT, orT, blV, vbl, andV, orV, notV, iteE, aNil, aCons, lNil, lCons, tupE, lstE, dicE, Opd.get, callF, frR, callI, callL, own1, addD, subD, negD, cmpD, lenD, intD, tupD, lisD, absD, isiD, tyD, min2D, max2D, Pv.R.of, raiseS, asgS, nameG, nilG, consG, tupG, isD, nisD, isNB, opS, pNone, pSome, seqI', itsD, sItS, putD, wipeE, backE]) (by omega))]
    exact hl
  exact fnF_ret ((seqS_nx e1).trans ((seqS_nx e2).trans (by simp [-List.map_map, fnF, en0, seqS, passS, noS, exprS, retS, retN, retM, putE, setS, iteS, vOfE, eOfV, oOfV, kI, kB, kS, kN, nmV, nmO, op1, op2, opC, tst, tru, truD, notT, andT, orT, blV, vbl, andV, orV, notV, iteE, aNil, aCons, lNil, lCons, tupE, lstE, dicE, Opd.get, callF, frR, callI, callL, own1, addD, subD, negD, cmpD, lenD, intD, tupD, lisD, absD, isiD, tyD, min2D, max2D, Pv.R.of, raiseS, asgS, nameG, nilG, consG, tupG, isD, nisD, isNB, opS, pNone, pSome, seqI', itsD, sItS, putD, wipeE, backE]; rfl)))
/-- what closed_walks tells -/
def closedD (n : Nat) (es : List E2) (k : Nat) : D := .tup ((List.range k).map fun i => .tup [.int (nth (rowAt (nearP n es) n (i + 1)) 0 : Nat), .int 1])
theorem closed_ok {n : Nat} {es : List E2} (g : Okg n es) (k : Nat) (hk : k ≤ 12) : F_closed_walks none [Gd n es, .int k] = .ok (closedD n es k, 0) none := by
  have hcut : cutD ((counts (nearP n es) n k).map nD) (some 1) none = ((List.range k).map fun i => nD (nth (rowAt (nearP n es) n (i + 1)) 0)) := by
    rw [cut1]
    unfold counts
    rw [List.range_succ_eq_map]
    simp [Function.comp_def]
  have c : comp (seqI' (vOfE (opS (oOfV (vOfE (callF 2 F_walk_counts (aCons (nmV 0) (aCons (nmV 1) aNil))))) (pSome (kI 1)) pNone))) (nameG 2) yesT (eOfV (tupE (aCons (nmV 2) (aCons (kI 1) aNil)))) 0 [2] [some (Gd n es, 0), some (.int k, 0), none] = .ok (.lst ((List.range k).map fun i => .tup [.int (nth (rowAt (nearP n es) n (i + 1)) 0 : Nat), .int 1]), 1) [some (Gd n es, 0), some (.int k, 0), none] := by
    rw [comp_fix (ds := ((List.range k).map fun i => nD (nth (rowAt (nearP n es) n (i + 1)) 0))) (f := fun d => .tup [d, .int 1]) (env1 := [some (Gd n es, 0), some (.int k, 0), none]) (env0 := [some (Gd n es, 0), some (.int k, 0), none]) (env2 := [some (Gd n es, 0), some (.int k, 0), none]) (by simp [-List.map_map, fnF, en0, seqS, passS, noS, exprS, retS, retN, retM, putE, setS, iteS, vOfE, eOfV, oOfV, kI, kB, kS, kN, nmV, nmO, op1, op2, opC, tst, tru, truD, notT, andT, orT, blV, vbl, andV, orV, notV, iteE, aNil, aCons, lNil, lCons, tupE, lstE, dicE, Opd.get, callF, frR, callI, callL, own1, addD, subD, negD, cmpD, lenD, intD, tupD, lisD, absD, isiD, tyD, min2D, max2D, Pv.R.of, raiseS, asgS, nameG, nilG, consG, tupG, isD, nisD, isNB, opS, pNone, pSome, seqI', itsD, sItS, putD, wipeE, backE, walk_ok g k hk, rowD, slD, hcut]) rfl rfl (by apply le_lim; simp; omega) ?_]
    · rw [List.map_map]; rfl
    · intro d hd
      exact ⟨[some (Gd n es, 0), some (.int k, 0), some (d, 0)], [some (Gd n es, 0), some (.int k, 0), some (d, 0)], [some (Gd n es, 0), some (.int k, 0), some (d, 0)], by simp [-List.map_map, fnF, en0, seqS, passS, noS, exprS, retS, retN, retM, putE, setS, iteS, vOfE, eOfV, oOfV, kI, kB, kS, kN, nmV, nmO, op1, op2, opC, tst, tru, truD, notT, andT, orT, blV, vbl, andV, orV, notV, iteE, aNil, aCons, lNil, lCons, tupE, lstE, dicE, Opd.get, callF, frR, callI, callL, own1, addD, subD, negD, cmpD, lenD, intD, tupD, lisD, absD, isiD, tyD, min2D, max2D, Pv.R.of, raiseS, asgS, nameG, nilG, consG, tupG, isD, nisD, isNB, opS, pNone, pSome, seqI', itsD, sItS, putD, wipeE, backE], rfl, by simp [-List.map_map, fnF, en0, seqS, passS, noS, exprS, retS, retN, retM, putE, setS, iteS, vOfE, eOfV, oOfV, kI, kB, kS, kN, nmV, nmO, op1, op2, opC, tst, tru, truD, notT, andT, orT, blV, vbl, andV, orV, notV, iteE, aNil, aCons, lNil, lCons, tupE, lstE, dicE, Opd.get, callF, frR, callI, callL, own1, addD, subD, negD, cmpD, lenD, intD, tupD, lisD, absD, isiD, tyD, min2D, max2D, Pv.R.of, raiseS, asgS, nameG, nilG, consG, tupG, isD, nisD, isNB, opS, pNone, pSome, seqI', itsD, sItS, putD, wipeE, backE], rfl⟩
  unfold F_closed_walks g_closed_walks
  simp [-List.map_map, fnF, en0, seqS, passS, noS, exprS, retS, retN, retM, putE, setS, iteS, vOfE, eOfV, oOfV, kI, kB, kS, kN, nmV, nmO, op1, op2, opC, tst, tru, truD, notT, andT, orT, blV, vbl, andV, orV, notV, iteE, aNil, aCons, lNil, lCons, tupE, lstE, dicE, Opd.get, callF, frR, callI, callL, own1, addD, subD, negD, cmpD, lenD, intD, tupD, lisD, absD, isiD, tyD, min2D, max2D, Pv.R.of, raiseS, asgS, nameG, nilG, consG, tupG, isD, nisD, isNB, opS, pNone, pSome, seqI', itsD, sItS, putD, wipeE, backE, check_ok g, clen_ok k hk, c, closedD]
end L47
end

section
open Pv PySem
set_option Elab.async false
set_option linter.all false
set_option maxRecDepth 100000
namespace L47
theorem sumN_app : ∀ l r : List Nat, sumN (l ++ r) = sumN l + sumN r
  | [], r => by simp [sumN]
  | x :: l, r => by simp [sumN, sumN_app l r]; omega
theorem sumN_add {α : Type} (f g : α → Nat) : ∀ l : List α, sumN (l.map fun x => f x + g x) = sumN (l.map f) + sumN (l.map g)
  | [] => rfl
  | x :: l => by simp [sumN, sumN_add f g l]; omega
theorem sumN_mul {α : Type} (c : Nat) (f : α → Nat) : ∀ l : List α, sumN (l.map fun x => c * f x) = c * sumN (l.map f)
  | [] => rfl
  | x :: l => by simp [sumN, sumN_mul c f l, Nat.mul_add]
theorem sumN_congr {α : Type} {f g : α → Nat} : ∀ {l : List α}, (∀ x ∈ l, f x = g x) → sumN (l.map f) = sumN (l.map g)
  | [], _ => rfl
  | x :: l, h => by
    simp only [List.map_cons, sumN]
    rw [h x List.mem_cons_self, sumN_congr fun y hy => h y (List.mem_cons_of_mem _ hy)]
/-- the sum over the near points of t -/
def Lf (near : List (List Nat)) (f : Nat → Nat) (t : Nat) : Nat := sumN ((near.getD t []).map f)
theorem Lf_add (near : List (List Nat)) (f g : Nat → Nat) (t : Nat) : Lf near (fun x => f x + g x) t = Lf near f t + Lf near g t := sumN_add f g _
theorem Lf_mul (near : List (List Nat)) (c : Nat) (f : Nat → Nat) (t : Nat) : Lf near (fun x => c * f x) t = c * Lf near f t := sumN_mul c f _
theorem nth_map (f : List Nat → Nat) : ∀ (near : List (List Nat)) (t : Nat), t < near.length → nth (near.map f) t = f (near.getD t [])
  | l :: ls, 0, _ => rfl
  | l :: ls, t + 1, h => by
    have := nth_map f ls t (by simpa using h)
    simpa [nth] using this
theorem nth_led {near : List (List Nat)} {row : List Nat} {t : Nat} (h : t < near.length) : nth (ledN near row) t = Lf near (nth row) t := nth_map _ _ _ h
/-- powers as functions -/
def pw (near : List (List Nat)) (f : Nat → Nat) : Nat → Nat → Nat
  | 0 => f
  | k + 1 => Lf near (pw near f k)
theorem Lf_congr {n : Nat} {near : List (List Nat)} (h : ∀ o ∈ near, ∀ y ∈ o, y < n) {f g : Nat → Nat} (hfg : ∀ y, y < n → f y = g y) (t : Nat) : Lf near f t = Lf near g t := by
  unfold Lf
  apply sumN_congr
  intro y hy
  apply hfg
  by_cases ht : t < near.length
  · have e : near.getD t [] = near[t] := by
      rw [List.getD_eq_getElem?_getD, List.getElem?_eq_getElem ht]; rfl
    rw [e] at hy
    exact h _ (List.getElem_mem ht) y hy
  · have e : near.getD t [] = [] := by
      rw [List.getD_eq_getElem?_getD, List.getElem?_eq_none (by omega)]; rfl
    rw [e] at hy; cases hy
theorem Lf_addTo (f : Nat → Nat) : ∀ (near : List (List Nat)) (x y t : Nat), x < near.length → Lf (addTo near x y) f t = Lf near f t + if x = t then f y else 0
  | l :: ls, 0, y, 0, _ => by simp [Lf, addTo, sumN_app, sumN]
  | l :: ls, 0, y, t + 1, _ => by simp [Lf, addTo]
  | l :: ls, x + 1, y, 0, _ => by simp [Lf, addTo]
  | l :: ls, x + 1, y, t + 1, h => by
    have := Lf_addTo f ls x y t (by simpa using h)
    simp only [Lf, addTo, List.getD_cons_succ] at this ⊢
    rw [this]
    simp
/-- the sum of f(t) g(t), t < n -/
def B (n : Nat) (f g : Nat → Nat) : Nat := sumN ((List.range n).map fun t => f t * g t)
theorem B_pick (n : Nat) (f : Nat → Nat) (x c : Nat) (hx : x < n) : B n f (fun t => if x = t then c else 0) = f x * c := by
  unfold B
  induction n with
  | zero => omega
  | succ n ih =>
    rw [List.range_succ, List.map_append, sumN_app]
    by_cases h : x = n
    · subst h
      have : sumN ((List.range x).map fun t => f t * if x = t then c else 0) = 0 := by
        have e : sumN ((List.range x).map fun t => f t * if x = t then c else 0) = sumN ((List.range x).map fun t => 0 * (0 : Nat)) := sumN_congr fun t ht => by
          have := List.mem_range.mp ht
          have hne : ¬ x = t := by omega
          simp [hne]
        rw [e, sumN_mul]; simp
      rw [this]
      simp [sumN]
    · rw [ih (by omega)]
      simp [sumN, h]
theorem B_add (n : Nat) (f g h : Nat → Nat) : B n f (fun t => g t + h t) = B n f g + B n f h := by
  unfold B
  rw [← sumN_add]
  apply sumN_congr
  intro t _
  rw [Nat.mul_add]
theorem B_comm (n : Nat) (f g : Nat → Nat) : B n f g = B n g f := by
  unfold B
  apply sumN_congr
  intro t _
  rw [Nat.mul_comm]
/-- what the edges make of f and g -/
def Be (f g : Nat → Nat) (p : E2) : Nat := f p.1 * g p.2 + if p.1 = p.2 then 0 else f p.2 * g p.1
theorem B_fold {n : Nat} (f g : Nat → Nat) : ∀ (es : List E2) (near : List (List Nat)), near.length = n → (∀ p ∈ es, p.1 < n ∧ p.2 < n) → B n f (Lf (es.foldl stepN near) g) = B n f (Lf near g) + sumN (es.map (Be f g))
  | [], near, _, _ => by simp [sumN]
  | p :: es, near, hl, h => by
    have h0 := h p List.mem_cons_self
    have hlen : (stepN near p).length = n := by
      unfold stepN
      split <;> simp [addTo_len, hl]
    rw [List.foldl_cons, B_fold f g es (stepN near p) hlen fun q hq => h q (List.mem_cons_of_mem _ hq)]
    have e : B n f (Lf (stepN near p) g) = B n f (Lf near g) + Be f g p := by
      unfold stepN Be
      by_cases hp : p.1 = p.2
      · simp only [hp, if_true]
        have : (fun t => Lf (addTo near p.2 p.2) g t) = fun t => Lf near g t + if p.2 = t then g p.2 else 0 := by
          funext t
          exact Lf_addTo g near p.2 p.2 t (by rw [hl]; exact h0.2)
        rw [show Lf (addTo near p.2 p.2) g = _ from this, B_add, B_pick n f p.2 _ h0.2]
        omega
      · simp only [hp, if_false]
        have : (fun t => Lf (addTo (addTo near p.1 p.2) p.2 p.1) g t) = fun t => (Lf near g t + if p.1 = t then g p.2 else 0) + if p.2 = t then g p.1 else 0 := by
          funext t
          rw [Lf_addTo g _ p.2 p.1 t (by rw [addTo_len, hl]; exact h0.2), Lf_addTo g near p.1 p.2 t (by rw [hl]; exact h0.1)]
        rw [show Lf (addTo (addTo near p.1 p.2) p.2 p.1) g = _ from this, B_add, B_add, B_pick n f p.1 _ h0.1, B_pick n f p.2 _ h0.2]
        omega
    rw [e]
    simp only [List.map_cons, sumN]
    omega
theorem Lf_rep (n : Nat) (f : Nat → Nat) (t : Nat) : Lf (List.replicate n []) f t = 0 := by
  unfold Lf
  have : (List.replicate n ([] : List Nat)).getD t [] = [] := by
    rw [List.getD_eq_getElem?_getD, List.getElem?_replicate]
    split <;> rfl
  rw [this]
  rfl
theorem B_sym {n : Nat} {es : List E2} (h : ∀ p ∈ es, p.1 < n ∧ p.2 < n) (f g : Nat → Nat) : B n f (Lf (nearP n es) g) = B n g (Lf (nearP n es) f) := by
  unfold nearP
  rw [B_fold f g es _ (by simp) h, B_fold g f es _ (by simp) h]
  have z : ∀ f g : Nat → Nat, B n f (Lf (List.replicate n []) g) = 0 := by
    intro f g
    unfold B
    have e : sumN ((List.range n).map fun t => f t * Lf (List.replicate n []) g t) = sumN ((List.range n).map fun t => 0 * (0 : Nat)) := sumN_congr fun t _ => by rw [Lf_rep]; simp
    rw [e, sumN_mul]; simp
  rw [z, z]
  congr 1
  apply sumN_congr
  intro p _
  unfold Be
  by_cases hp : p.1 = p.2
  · simp [hp, Nat.mul_comm]
  · simp [hp]
    rw [Nat.mul_comm (g p.1), Nat.mul_comm (g p.2)]
    omega
def unit (x : Nat) : Nat → Nat := fun t => if x = t then 1 else 0
/-- a walk from x to y is one from y to x -/
theorem pw_sym {n : Nat} {es : List E2} (h : ∀ p ∈ es, p.1 < n ∧ p.2 < n) {x y : Nat} (hx : x < n) (hy : y < n) (k : Nat) : pw (nearP n es) (unit y) k x = pw (nearP n es) (unit x) k y := by
  have key : ∀ (k : Nat) (f g : Nat → Nat), B n f (pw (nearP n es) g k) = B n g (pw (nearP n es) f k) := by
    intro k
    induction k with
    | zero => intro f g; exact B_comm n f g
    | succ k ih =>
      intro f g
      have sw : ∀ (f : Nat → Nat) (k : Nat), Lf (nearP n es) (pw (nearP n es) f k) = pw (nearP n es) (Lf (nearP n es) f) k := by
        intro f k
        induction k with
        | zero => rfl
        | succ k ih2 => show Lf _ (pw _ f (k + 1)) = Lf _ (pw _ (Lf _ f) k); rw [← ih2]; rfl
      show B n f (Lf (nearP n es) (pw (nearP n es) g k)) = B n g (Lf (nearP n es) (pw (nearP n es) f k))
      rw [B_sym h f, sw f k, ← ih (Lf (nearP n es) f) g, B_comm]
  have e1 := key k (unit x) (unit y)
  rw [B_comm n (unit x), B_comm n (unit y)] at e1
  have p1 : ∀ (f : Nat → Nat) (x : Nat), x < n → B n f (unit x) = f x := fun f x hx => by
    have := B_pick n f x 1 hx
    rw [Nat.mul_one] at this
    exact this
  rw [p1 _ x hx, p1 _ y hy] at e1
  exact e1
/-- the first returns: the row behind k steps, with 0 put at the root -/
def cut0 (f : Nat → Nat) : Nat → Nat := fun t => if t = 0 then 0 else f t
def fr (near : List (List Nat)) : Nat → Nat → Nat
  | 0 => unit 0
  | k + 1 => cut0 (Lf near (fr near k))
def ret1 (near : List (List Nat)) (k : Nat) : Nat := Lf near (fr near k) 0
/-- each walk returns a first time -/
theorem renewal (near : List (List Nat)) : ∀ (k t : Nat), pw near (unit 0) k t = sumN ((List.range k).map fun i => ret1 near i * pw near (unit 0) (k - 1 - i) t) + fr near k t
  | 0, t => by simp [pw, fr, sumN]
  | k + 1, t => by
    have ih : pw near (unit 0) k = fun t => sumN ((List.range k).map fun i => ret1 near i * pw near (unit 0) (k - 1 - i) t) + fr near k t := by
      funext t; exact renewal near k t
    have lin : ∀ (l : List Nat) (c : Nat → Nat) (g : Nat → Nat → Nat), Lf near (fun t => sumN (l.map fun i => c i * g i t)) t = sumN (l.map fun i => c i * Lf near (g i) t) := by
      intro l c g
      induction l with
      | nil =>
        show Lf near (fun _ => 0) t = 0
        have := Lf_mul near 0 (fun _ => 0) t
        simpa using this
      | cons a l ihl =>
        show Lf near (fun t => c a * g a t + sumN (l.map fun i => c i * g i t)) t = _
        rw [Lf_add, Lf_mul, ihl]
        rfl
    show Lf near (pw near (unit 0) k) t = _
    rw [ih, Lf_add, lin]
    rw [List.range_succ, List.map_append, sumN_app]
    have e1 : sumN ((List.range k).map fun i => ret1 near i * Lf near (pw near (unit 0) (k - 1 - i)) t) = sumN ((List.range k).map fun i => ret1 near i * pw near (unit 0) (k + 1 - 1 - i) t) := sumN_congr fun i hi => by
      have := List.mem_range.mp hi
      have e : k + 1 - 1 - i = (k - 1 - i) + 1 := by omega
      rw [e]
      rfl
    rw [e1]
    have e2 : Lf near (fr near k) t = sumN ([k].map fun i => ret1 near i * pw near (unit 0) (k + 1 - 1 - i) t) + fr near (k + 1) t := by
      show _ = sumN [ret1 near k * pw near (unit 0) (k + 1 - 1 - k) t] + cut0 (Lf near (fr near k)) t
      have e : k + 1 - 1 - k = 0 := by omega
      rw [e]
      simp only [sumN, pw, unit, cut0, ret1]
      by_cases ht : t = 0
      · subst ht; simp
      · have : ¬ 0 = t := fun h => ht h.symm
        simp [ht, this]
    rw [e2]
    omega
end L47
end

section
open Pv PySem
set_option Elab.async false
set_option linter.all false
set_option maxRecDepth 100000
namespace L47
def incAt : List Nat → Nat → List Nat
  | [], _ => []
  | a :: l, 0 => (a + 1) :: l
  | a :: l, y + 1 => a :: incAt l y
def incTo : List (List Nat) → Nat → Nat → List (List Nat)
  | [], _, _ => []
  | l :: ls, 0, y => incAt l y :: ls
  | l :: ls, x + 1, y => l :: incTo ls x y
theorem incAt_len : ∀ (l : List Nat) (y : Nat), (incAt l y).length = l.length
  | [], _ => rfl
  | _ :: _, 0 => rfl
  | _ :: l, y + 1 => by simp [incAt, incAt_len l y]
theorem incTo_len : ∀ (l : List (List Nat)) (x y : Nat), (incTo l x y).length = l.length
  | [], _, _ => rfl
  | _ :: _, 0, _ => rfl
  | _ :: l, x + 1, y => by simp [incTo, incTo_len l x y]
theorem incAt_set : ∀ (l : List Nat) (y a : Nat), l[y]? = some a → incAt l y = l.set y (a + 1)
  | b :: l, 0, a, h => by cases h; rfl
  | b :: l, y + 1, a, h => by rw [incAt, List.set_cons_succ, incAt_set l y a (by simpa using h)]
theorem incTo_set : ∀ (ls : List (List Nat)) (x y : Nat) (l : List Nat), ls[x]? = some l → incTo ls x y = ls.set x (incAt l y)
  | b :: ls, 0, y, l, h => by cases h; rfl
  | b :: ls, x + 1, y, l, h => by rw [incTo, List.set_cons_succ, incTo_set ls x y l (by simpa using h)]
theorem nth_incAt : ∀ (l : List Nat) (y z : Nat), y < l.length → nth (incAt l y) z = nth l z + if y = z then 1 else 0
  | a :: l, 0, 0, _ => rfl
  | a :: l, 0, z + 1, _ => by simp [incAt, nth]
  | a :: l, y + 1, 0, _ => by simp [incAt, nth]
  | a :: l, y + 1, z + 1, h => by
    have := nth_incAt l y z (by simpa using h)
    simp only [incAt, nth, this]
    simp
/-- all rows of the length n -/
def Sq (n : Nat) (tab : List (List Nat)) : Prop := tab.length = n ∧ ∀ l ∈ tab, l.length = n
theorem sq_inc {n x y : Nat} {tab : List (List Nat)} (h : Sq n tab) : Sq n (incTo tab x y) := by
  refine ⟨by rw [incTo_len]; exact h.1, ?_⟩
  have : ∀ (ls : List (List Nat)) (x : Nat), (∀ l ∈ ls, l.length = n) → ∀ l ∈ incTo ls x y, l.length = n := by
    intro ls
    induction ls with
    | nil => intro x _ l hl; cases hl
    | cons a ls ih =>
      intro x hh l hl
      cases x with
      | zero =>
        rcases List.mem_cons.mp hl with rfl | hl
        · rw [incAt_len]; exact hh a List.mem_cons_self
        · exact hh l (List.mem_cons_of_mem _ hl)
      | succ x =>
        rcases List.mem_cons.mp hl with rfl | hl
        · exact hh _ List.mem_cons_self
        · exact ih x (fun l hl => hh l (List.mem_cons_of_mem _ hl)) l hl
  exact this tab x h.2
def stepT (tab : List (List Nat)) (p : E2) : List (List Nat) := if p.1 = p.2 then incTo tab p.1 p.2 else incTo (incTo tab p.1 p.2) p.2 p.1
theorem sq_step {n : Nat} {p : E2} {tab : List (List Nat)} (h : Sq n tab) : Sq n (stepT tab p) := by
  unfold stepT
  split
  · exact sq_inc h
  · exact sq_inc (sq_inc h)
def tabP (n : Nat) (es : List E2) : List (List Nat) := es.foldl stepT (List.replicate n (List.replicate n 0))
def Dt (n : Nat) (row : List Nat) (f : Nat → Nat) : Nat := sumN ((List.range n).map fun y => nth row y * f y)
def Lt (n : Nat) (tab : List (List Nat)) (f : Nat → Nat) (t : Nat) : Nat := Dt n (tab.getD t []) f
theorem Dt_inc {n y : Nat} {row : List Nat} (h : row.length = n) (hy : y < n) (f : Nat → Nat) : Dt n (incAt row y) f = Dt n row f + f y := by
  unfold Dt
  have e : sumN ((List.range n).map fun z => nth (incAt row y) z * f z) = sumN ((List.range n).map fun z => nth row z * f z + f z * if y = z then 1 else 0) := sumN_congr fun z _ => by
    rw [nth_incAt row y z (by omega), Nat.add_mul]
    by_cases hz : y = z
    · simp [hz]
    · simp [hz]
  rw [e, sumN_add]
  have := B_pick n f y 1 hy
  unfold B at this
  rw [this, Nat.mul_one]
theorem Lt_incTo {n y : Nat} (hy : y < n) (f : Nat → Nat) : ∀ (tab : List (List Nat)) (x t : Nat), (∀ l ∈ tab, l.length = n) → x < tab.length → Lt n (incTo tab x y) f t = Lt n tab f t + if x = t then f y else 0
  | l :: ls, 0, 0, h, _ => by
    simp only [Lt, incTo, List.getD_cons_zero, if_true]
    exact Dt_inc (h l List.mem_cons_self) hy f
  | l :: ls, 0, t + 1, _, _ => by simp [Lt, incTo]
  | l :: ls, x + 1, 0, _, _ => by simp [Lt, incTo]
  | l :: ls, x + 1, t + 1, h, hx => by
    have := Lt_incTo hy f ls x t (fun l hl => h l (List.mem_cons_of_mem _ hl)) (by simpa using hx)
    simp only [Lt, incTo, List.getD_cons_succ] at this ⊢
    rw [this]
    simp
theorem Lt_fold {n : Nat} (f : Nat → Nat) (t : Nat) : ∀ (es : List E2) (tab near : List (List Nat)), Sq n tab → near.length = n → (∀ p ∈ es, p.1 < n ∧ p.2 < n) → Lt n tab f t = Lf near f t → Lt n (es.foldl stepT tab) f t = Lf (es.foldl stepN near) f t
  | [], _, _, _, _, _, h => h
  | p :: es, tab, near, hs, hl, hp, h => by
    have h0 := hp p List.mem_cons_self
    rw [List.foldl_cons, List.foldl_cons]
    have hlen : (stepN near p).length = n := by
      unfold stepN
      split <;> simp [addTo_len, hl]
    refine Lt_fold f t es (stepT tab p) (stepN near p) (sq_step hs) hlen (fun q hq => hp q (List.mem_cons_of_mem _ hq)) ?_
    unfold stepT stepN
    by_cases he : p.1 = p.2
    · simp only [he, if_true]
      rw [Lt_incTo h0.2 f tab p.2 t hs.2 (by rw [hs.1]; exact h0.2), Lf_addTo f near p.2 p.2 t (by rw [hl]; exact h0.2), h]
    · simp only [he, if_false]
      rw [Lt_incTo h0.1 f _ p.2 t (sq_inc hs).2 (by rw [incTo_len, hs.1]; exact h0.2), Lt_incTo h0.2 f tab p.1 t hs.2 (by rw [hs.1]; exact h0.1), Lf_addTo f _ p.2 p.1 t (by rw [addTo_len, hl]; exact h0.2), Lf_addTo f near p.1 p.2 t (by rw [hl]; exact h0.1), h]
theorem nth_zero : ∀ (n t : Nat), nth (List.replicate n 0) t = 0
  | 0, _ => rfl
  | n + 1, 0 => rfl
  | n + 1, t + 1 => nth_zero n t
theorem Lt_tab {n : Nat} {es : List E2} (h : ∀ p ∈ es, p.1 < n ∧ p.2 < n) (f : Nat → Nat) (t : Nat) : Lt n (tabP n es) f t = Lf (nearP n es) f t := by
  unfold tabP nearP
  refine Lt_fold f t es _ _ ⟨by simp, fun l hl => by simp at hl; simp [hl.2]⟩ (by simp) h ?_
  rw [Lf_rep]
  unfold Lt Dt
  have hz : ∀ y, nth ((List.replicate n (List.replicate n 0)).getD t []) y = 0 := by
    intro y
    rw [List.getD_eq_getElem?_getD, List.getElem?_replicate]
    split
    · exact nth_zero n y
    · rfl
  have e : sumN ((List.range n).map fun y => nth ((List.replicate n (List.replicate n 0)).getD t []) y * f y) = sumN ((List.range n).map fun y => 0 * (0 : Nat)) := sumN_congr fun y _ => by rw [hz]; simp
  rw [e, sumN_mul]; simp
theorem sq_tab (n : Nat) (es : List E2) : Sq n (tabP n es) := by
  have : ∀ (l : List E2) (tab : List (List Nat)), Sq n tab → Sq n (l.foldl stepT tab) := by
    intro l
    induction l with
    | nil => intro tab h; exact h
    | cons p l ih => intro tab h; exact ih _ (sq_step h)
  exact this es _ ⟨by simp, fun l hl => by simp at hl; simp [hl.2]⟩
def ledT (tab : List (List Nat)) (col : List Nat) : List Nat := tab.map fun row => Dt col.length row (nth col)
theorem ledT_eq {n : Nat} {es : List E2} (h : ∀ p ∈ es, p.1 < n ∧ p.2 < n) (hn : (nearP n es).length = n) (col : List Nat) (hc : col.length = n) : ledT (tabP n es) col = ledN (nearP n es) col := by
  apply List.ext_getElem
  · simp [ledT, ledN, (sq_tab n es).1, hn]
  · intro i h1 h2
    have hi : i < n := by simpa [ledT, (sq_tab n es).1] using h1
    have e := Lt_tab h (nth col) i
    simp only [ledT, ledN, List.getElem_map, hc]
    unfold Lt Lf at e
    rw [List.getD_eq_getElem?_getD, List.getElem?_eq_getElem (by rw [(sq_tab n es).1]; exact hi), List.getD_eq_getElem?_getD, List.getElem?_eq_getElem (by rw [hn]; exact hi)] at e
    exact e
/-! the law's table -/
theorem zero_rows (n : Nat) : nearD (List.replicate n (List.replicate n 0)) = .lst (List.replicate n (.lst (List.replicate n (.int 0)))) := by
  simp [nearD, rowD, nD]
theorem it2_ok {i : Nat} {fi fj : En → Option D} {env : En} {tab : List (List Nat)} {x y n : Nat} (he : env[i]? = some (some (nearD tab, 2))) (h1 : fi env = some (.int x)) (h2 : fj env = some (.int y)) (hs : Sq n tab) (hx : x < n) (hy : y < n) :
    sIt2 i (vOfE (op2 addD (oOfV (ix2 i fi fj)) (oOfV (kI 1)))) fi fj env = .nx (env.set i (some (nearD (incTo tab x y), 2))) := by
  have hx' : x < tab.length := by rw [hs.1]; exact hx
  have hl : tab[x]? = some tab[x] := List.getElem?_eq_getElem hx'
  have hlen : tab[x].length = n := hs.2 _ (List.getElem_mem hx')
  have hy' : y < tab[x].length := by omega
  have hv : tab[x][y]? = some tab[x][y] := List.getElem?_eq_getElem hy'
  have hg : get2 (tab.map rowD) (x : Int) (y : Int) = some (nD tab[x][y]) := by
    unfold get2
    rw [List.length_map, ixN_nat hx']
    simp only [Option.bind_some, List.getElem?_map, hl, Option.map_some, rowD]
    unfold L2.atI
    rw [List.length_map, ixN_nat hy']
    simp [hv]
  have e1 : (vOfE (op2 addD (oOfV (ix2 i fi fj)) (oOfV (kI 1)))) env = .ok (nD (tab[x][y] + 1)) env := by
    have e0 : ix2 i fi fj env = .ok (nD tab[x][y]) env := by
      unfold ix2
      rw [he, h1, h2]
      simp only [nearD, hg, R.of_some]
    simp [-List.map_map, fnF, en0, seqS, passS, noS, exprS, retS, retN, retM, putE, setS, iteS, vOfE, eOfV, oOfV, kI, kB, kS, kN, nmV, nmO, op1, op2, opC, tst, tru, truD, notT, andT, orT, blV, vbl, andV, orV, notV, iteE, aNil, aCons, lNil, lCons, tupE, lstE, dicE, Opd.get, callF, frR, callI, callL, own1, addD, subD, negD, cmpD, lenD, intD, tupD, lisD, absD, isiD, tyD, min2D, max2D, Pv.R.of, raiseS, asgS, nameG, nilG, consG, tupG, isD, nisD, isNB, opS, pNone, pSome, seqI', itsD, sItS, putD, wipeE, backE, e0, nD]
  unfold sIt2
  rw [e1]
  simp only [R.then_ok, he, h1, h2, nearD, List.length_map]
  rw [ixN_nat hx']
  simp only [List.getElem?_map, hl, Option.map_some, rowD, List.length_map]
  rw [ixN_nat hy']
  simp only
  rw [incTo_set tab x y _ hl, incAt_set _ y _ hv, List.map_set]
  simp [rowD, List.map_set]
end L47
end

section
open Pv PySem
set_option Elab.async false
set_option linter.all false
set_option maxRecDepth 100000
namespace L47
abbrev te (G : D) (tb : Sl) (n : Sl) (es : Sl) (x y : Sl) : En := [some (G, 0), tb, n, es, x, y]
theorem table_row (G : D) (es x : Sl) (n : Nat) (hn : n ≤ 400) : comp (rg1 (aCons ((nmV 2)) aNil)) (nameG 5) (yesT) ((eOfV (kI 0))) 0 [5] (te G none (some (.int n, 0)) es x none) = .ok (.lst (List.replicate n (.int 0)), 1) (te G none (some (.int n, 0)) es x none) := by
  rw [comp_fix (ds := (List.range n).map fun k : Nat => .int k) (f := fun _ => .int 0) (rg1_ok (n := n) (env1 := te G none (some (.int n, 0)) es x none) (by simp [-List.map_map, fnF, en0, seqS, passS, noS, exprS, retS, retN, retM, putE, setS, iteS, vOfE, eOfV, oOfV, kI, kB, kS, kN, nmV, nmO, op1, op2, opC, tst, tru, truD, notT, andT, orT, blV, vbl, andV, orV, notV, iteE, aNil, aCons, lNil, lCons, tupE, lstE, dicE, Opd.get, callF, frR, callI, callL, own1, addD, subD, negD, cmpD, lenD, intD, tupD, lisD, absD, isiD, tyD, min2D, max2D, Pv.R.of, raiseS, asgS, nameG, nilG, consG, tupG, isD, nisD, isNB, opS, pNone, pSome, seqI', itsD, sItS, putD, wipeE, backE]) (by omega)) (env0 := te G none (some (.int n, 0)) es x none) (env2 := te G none (some (.int n, 0)) es x none) rfl rfl (by apply le_lim; simp; omega) ?_]
  · rw [List.map_map]
    have : ((fun _ => D.int 0) ∘ fun k : Nat => D.int k) = fun _ : Nat => D.int 0 := rfl
    rw [this, List.map_const', List.length_range]
  · intro d hd
    exact ⟨te G none (some (.int n, 0)) es x (some (d, 0)), te G none (some (.int n, 0)) es x (some (d, 0)), te G none (some (.int n, 0)) es x (some (d, 0)), by simp [-List.map_map, fnF, en0, seqS, passS, noS, exprS, retS, retN, retM, putE, setS, iteS, vOfE, eOfV, oOfV, kI, kB, kS, kN, nmV, nmO, op1, op2, opC, tst, tru, truD, notT, andT, orT, blV, vbl, andV, orV, notV, iteE, aNil, aCons, lNil, lCons, tupE, lstE, dicE, Opd.get, callF, frR, callI, callL, own1, addD, subD, negD, cmpD, lenD, intD, tupD, lisD, absD, isiD, tyD, min2D, max2D, Pv.R.of, raiseS, asgS, nameG, nilG, consG, tupG, isD, nisD, isNB, opS, pNone, pSome, seqI', itsD, sItS, putD, wipeE, backE], rfl, by simp [-List.map_map, fnF, en0, seqS, passS, noS, exprS, retS, retN, retM, putE, setS, iteS, vOfE, eOfV, oOfV, kI, kB, kS, kN, nmV, nmO, op1, op2, opC, tst, tru, truD, notT, andT, orT, blV, vbl, andV, orV, notV, iteE, aNil, aCons, lNil, lCons, tupE, lstE, dicE, Opd.get, callF, frR, callI, callL, own1, addD, subD, negD, cmpD, lenD, intD, tupD, lisD, absD, isiD, tyD, min2D, max2D, Pv.R.of, raiseS, asgS, nameG, nilG, consG, tupG, isD, nisD, isNB, opS, pNone, pSome, seqI', itsD, sItS, putD, wipeE, backE], rfl⟩
theorem table_rows (G : D) (es : Sl) (n : Nat) (hn : n ≤ 400) : comp (rg1 (aCons ((nmV 2)) aNil)) (nameG 4) (yesT) ((comp (rg1 (aCons ((nmV 2)) aNil)) (nameG 5) (yesT) ((eOfV (kI 0))) 0 [5])) 1 [4] (te G none (some (.int n, 0)) es none none) = .ok (nearD (List.replicate n (List.replicate n 0)), 2) (te G none (some (.int n, 0)) es none none) := by
  rw [comp_fix (ds := (List.range n).map fun k : Nat => .int k) (f := fun _ => .lst (List.replicate n (.int 0))) (rg1_ok (n := n) (env1 := te G none (some (.int n, 0)) es none none) (by simp [-List.map_map, fnF, en0, seqS, passS, noS, exprS, retS, retN, retM, putE, setS, iteS, vOfE, eOfV, oOfV, kI, kB, kS, kN, nmV, nmO, op1, op2, opC, tst, tru, truD, notT, andT, orT, blV, vbl, andV, orV, notV, iteE, aNil, aCons, lNil, lCons, tupE, lstE, dicE, Opd.get, callF, frR, callI, callL, own1, addD, subD, negD, cmpD, lenD, intD, tupD, lisD, absD, isiD, tyD, min2D, max2D, Pv.R.of, raiseS, asgS, nameG, nilG, consG, tupG, isD, nisD, isNB, opS, pNone, pSome, seqI', itsD, sItS, putD, wipeE, backE]) (by omega)) (env0 := te G none (some (.int n, 0)) es none none) (env2 := te G none (some (.int n, 0)) es none none) rfl rfl (by apply le_lim; simp; omega) ?_]
  · rw [List.map_map, zero_rows]
    have : ((fun _ => D.lst (List.replicate n (.int 0))) ∘ fun k : Nat => D.int k) = fun _ : Nat => D.lst (List.replicate n (.int 0)) := rfl
    rw [this, List.map_const', List.length_range]
  · intro d hd
    exact ⟨te G none (some (.int n, 0)) es (some (d, 0)) none, te G none (some (.int n, 0)) es (some (d, 0)) none, te G none (some (.int n, 0)) es (some (d, 0)) none, by simp [-List.map_map, fnF, en0, seqS, passS, noS, exprS, retS, retN, retM, putE, setS, iteS, vOfE, eOfV, oOfV, kI, kB, kS, kN, nmV, nmO, op1, op2, opC, tst, tru, truD, notT, andT, orT, blV, vbl, andV, orV, notV, iteE, aNil, aCons, lNil, lCons, tupE, lstE, dicE, Opd.get, callF, frR, callI, callL, own1, addD, subD, negD, cmpD, lenD, intD, tupD, lisD, absD, isiD, tyD, min2D, max2D, Pv.R.of, raiseS, asgS, nameG, nilG, consG, tupG, isD, nisD, isNB, opS, pNone, pSome, seqI', itsD, sItS, putD, wipeE, backE], rfl, table_row G es _ n hn, rfl⟩
abbrev tbB : En → SR := (seqS
  (sIt2 1 ((vOfE (op2 addD (oOfV ((ix2 1 (nmK 4) (nmK 5)))) (oOfV (kI 1))))) (nmK 4) (nmK 5)) (iteS (tst (op2 neD (nmO 4) (nmO 5))) (sIt2 1 ((vOfE (op2 addD (oOfV ((ix2 1 (nmK 5) (nmK 4)))) (oOfV (kI 1))))) (nmK 5) (nmK 4)) passS))
theorem tb_step (G : D) (z1 z2 : Sl) (n : Nat) (tab : List (List Nat)) (p : E2) (hs : Sq n tab) (h1 : p.1 < n) (h2 : p.2 < n) : tbB (te G (some (nearD tab, 2)) z1 z2 (some (.int p.1, 0)) (some (.int p.2, 0))) = .nx (te G (some (nearD (stepT tab p), 2)) z1 z2 (some (.int p.1, 0)) (some (.int p.2, 0))) := by
  have e1 := it2_ok (i := 1) (fi := nmK 4) (fj := nmK 5) (env := te G (some (nearD tab, 2)) z1 z2 (some (.int p.1, 0)) (some (.int p.2, 0))) (x := p.1) (y := p.2) rfl rfl rfl hs h1 h2
  refine (seqS_nx e1).trans ?_
  unfold stepT
  by_cases h : p.1 = p.2
  · have h' : (p.1 : Int) = p.2 := by omega
    simp only [List.set_cons_succ, List.set_cons_zero]
    simp [-List.map_map, fnF, en0, seqS, passS, noS, exprS, retS, retN, retM, putE, setS, iteS, vOfE, eOfV, oOfV, kI, kB, kS, kN, nmV, nmO, op1, op2, opC, tst, tru, truD, notT, andT, orT, blV, vbl, andV, orV, notV, iteE, aNil, aCons, lNil, lCons, tupE, lstE, dicE, Opd.get, callF, frR, callI, callL, own1, addD, subD, negD, cmpD, lenD, intD, tupD, lisD, absD, isiD, tyD, min2D, max2D, Pv.R.of, raiseS, asgS, nameG, nilG, consG, tupG, isD, nisD, isNB, opS, pNone, pSome, seqI', itsD, sItS, putD, wipeE, backE, h', h]
  · have h' : ¬ (p.1 : Int) = p.2 := by omega
    have e2 := it2_ok (i := 1) (fi := nmK 5) (fj := nmK 4) (env := te G (some (nearD (incTo tab p.1 p.2), 2)) z1 z2 (some (.int p.1, 0)) (some (.int p.2, 0))) (x := p.2) (y := p.1) rfl rfl rfl (sq_inc hs) h2 h1
    refine (iteS_t (e := te G (some (nearD (incTo tab p.1 p.2), 2)) z1 z2 (some (.int p.1, 0)) (some (.int p.2, 0))) (by simp only [List.set_cons_succ, List.set_cons_zero]; simp [-List.map_map, fnF, en0, seqS, passS, noS, exprS, retS, retN, retM, putE, setS, iteS, vOfE, eOfV, oOfV, kI, kB, kS, kN, nmV, nmO, op1, op2, opC, tst, tru, truD, notT, andT, orT, blV, vbl, andV, orV, notV, iteE, aNil, aCons, lNil, lCons, tupE, lstE, dicE, Opd.get, callF, frR, callI, callL, own1, addD, subD, negD, cmpD, lenD, intD, tupD, lisD, absD, isiD, tyD, min2D, max2D, Pv.R.of, raiseS, asgS, nameG, nilG, consG, tupG, isD, nisD, isNB, opS, pNone, pSome, seqI', itsD, sItS, putD, wipeE, backE, h'])).trans ?_
    rw [if_neg h]
    exact e2
theorem table_ok {n : Nat} {es : List E2} (g : Okg n es) : F__law_table none [Gd n es] = .ok (nearD (tabP n es), 2) none := by
  have hp : ∀ p ∈ es, p.1 < n ∧ p.2 < n := fun p hp => by
    have := List.all_eq_true.mp g.e p hp
    simp [okE] at this
    exact ⟨this.1, this.2.1⟩
  have e1 : g__law_table_1 (en0 6 none [Gd n es]) = .nx (te (Gd n es) none (some (.int n, 0)) (some (.tup (es.map pr), 0)) none none) := by simp [-List.map_map, fnF, en0, seqS, passS, noS, exprS, retS, retN, retM, putE, setS, iteS, vOfE, eOfV, oOfV, kI, kB, kS, kN, nmV, nmO, op1, op2, opC, tst, tru, truD, notT, andT, orT, blV, vbl, andV, orV, notV, iteE, aNil, aCons, lNil, lCons, tupE, lstE, dicE, Opd.get, callF, frR, callI, callL, own1, addD, subD, negD, cmpD, lenD, intD, tupD, lisD, absD, isiD, tyD, min2D, max2D, Pv.R.of, raiseS, asgS, nameG, nilG, consG, tupG, isD, nisD, isNB, opS, pNone, pSome, seqI', itsD, sItS, putD, wipeE, backE, Gd]
  have e2 : g__law_table_2 (te (Gd n es) none (some (.int n, 0)) (some (.tup (es.map pr), 0)) none none) = .nx (te (Gd n es) (some (nearD (List.replicate n (List.replicate n 0)), 2)) (some (.int n, 0)) (some (.tup (es.map pr), 0)) none none) := by
    have c := table_rows (Gd n es) (some (.tup (es.map pr), 0)) n g.n4
    unfold g__law_table_2 setS
    rw [c]
    rfl
  have hl := loopS_ex (g := tupG 2 (consG (nameG 4) (consG (nameG 5) nilG))) (body := tbB) pr es
    (fun i env => ∃ x y, env = te (Gd n es) (some (nearD ((es.take i).foldl stepT (List.replicate n (List.replicate n 0))), 2)) (some (.int n, 0)) (some (.tup (es.map pr), 0)) x y)
    (te (Gd n es) (some (nearD (List.replicate n (List.replicate n 0)), 2)) (some (.int n, 0)) (some (.tup (es.map pr), 0)) none none) ⟨none, none, by simp⟩ (fun i hi env hP => by
      obtain ⟨x, y, rfl⟩ := hP
      have hsq : Sq n ((es.take i).foldl stepT (List.replicate n (List.replicate n 0))) := sq_tab n (es.take i)
      have h0 := hp es[i] (List.getElem_mem hi)
      refine ⟨te (Gd n es) (some (nearD ((es.take i).foldl stepT (List.replicate n (List.replicate n 0))), 2)) (some (.int n, 0)) (some (.tup (es.map pr), 0)) (some (.int es[i].1, 0)) (some (.int es[i].2, 0)), _, by simp [-List.map_map, fnF, en0, seqS, passS, noS, exprS, retS, retN, retM, putE, setS, iteS, vOfE, eOfV, oOfV, kI, kB, kS, kN, nmV, nmO, op1, op2, opC, tst, tru, truD, notT, andT, orT, blV, vbl, andV, orV, notV, iteE, aNil, aCons, lNil, lCons, tupE, lstE, dicE, Opd.get, callF, frR, callI, callL, own1, addD, subD, negD, cmpD, lenD, intD, tupD, lisD, absD, isiD, tyD, min2D, max2D, Pv.R.of, raiseS, asgS, nameG, nilG, consG, tupG, isD, nisD, isNB, opS, pNone, pSome, seqI', itsD, sItS, putD, wipeE, backE, pr], tb_step (Gd n es) _ _ n _ es[i] hsq h0.1 h0.2, some (.int es[i].1, 0), some (.int es[i].2, 0), ?_⟩
      rw [List.take_succ_eq_append_getElem hi, List.foldl_append]
      rfl)
  obtain ⟨e, he, x, y, rfl⟩ := hl
  rw [List.take_length] at he
  have e3 : g__law_table_3 (te (Gd n es) (some (nearD (List.replicate n (List.replicate n 0)), 2)) (some (.int n, 0)) (some (.tup (es.map pr), 0)) none none) = .nx (te (Gd n es) (some (nearD (tabP n es), 2)) (some (.int n, 0)) (some (.tup (es.map pr), 0)) x y) :=
    (forS_ok (ds := es.map pr) (env1 := te (Gd n es) (some (nearD (List.replicate n (List.replicate n 0)), 2)) (some (.int n, 0)) (some (.tup (es.map pr), 0)) none none) (by simp [-List.map_map, fnF, en0, seqS, passS, noS, exprS, retS, retN, retM, putE, setS, iteS, vOfE, eOfV, oOfV, kI, kB, kS, kN, nmV, nmO, op1, op2, opC, tst, tru, truD, notT, andT, orT, blV, vbl, andV, orV, notV, iteE, aNil, aCons, lNil, lCons, tupE, lstE, dicE, Opd.get, callF, frR, callI, callL, own1, addD, subD, negD, cmpD, lenD, intD, tupD, lisD, absD, isiD, tyD, min2D, max2D, Pv.R.of, raiseS, asgS, nameG, nilG, consG, tupG, isD, nisD, isNB, opS, pNone, pSome, seqI', itsD, sItS, putD, wipeE, backE])).trans he
  exact fnF_ret ((seqS_nx e1).trans ((seqS_nx e2).trans ((seqS_nx e3).trans (by simp [-List.map_map, fnF, en0, seqS, passS, noS, exprS, retS, retN, retM, putE, setS, iteS, vOfE, eOfV, oOfV, kI, kB, kS, kN, nmV, nmO, op1, op2, opC, tst, tru, truD, notT, andT, orT, blV, vbl, andV, orV, notV, iteE, aNil, aCons, lNil, lCons, tupE, lstE, dicE, Opd.get, callF, frR, callI, callL, own1, addD, subD, negD, cmpD, lenD, intD, tupD, lisD, absD, isiD, tyD, min2D, max2D, Pv.R.of, raiseS, asgS, nameG, nilG, consG, tupG, isD, nisD, isNB, opS, pNone, pSome, seqI', itsD, sItS, putD, wipeE, backE]; rfl))))
theorem rep_nn (a b : Nat) (h : a < 18446744073709551616) : mulD (.int a) (.int b) = some (.int (a * b : Nat), 0) := by
  have hs : sml (a : Int) = true := by
    unfold sml
    exact Nat.ble_eq_true_of_le (by omega)
  have hm : mulOk (a : Int) b = true := by
    unfold mulOk
    rw [hs]
    simp
  simp only [mulD, hm, if_true]
  rw [Int.natCast_mul]
end L47
end

section
open Pv PySem
set_option Elab.async false
set_option linter.all false
set_option maxRecDepth 100000
namespace L47
def Le (m : Nat) (tab : List (List Nat)) : Prop := ∀ l ∈ tab, ∀ a ∈ l, a ≤ m
theorem le_incAt {m : Nat} : ∀ (l : List Nat) (y : Nat), (∀ a ∈ l, a ≤ m) → ∀ a ∈ incAt l y, a ≤ m + 1
  | [], _, _, a, ha => by cases ha
  | b :: l, 0, h, a, ha => by
    rcases List.mem_cons.mp ha with rfl | ha
    · have := h b List.mem_cons_self; omega
    · have := h a (List.mem_cons_of_mem _ ha); omega
  | b :: l, y + 1, h, a, ha => by
    rcases List.mem_cons.mp ha with rfl | ha
    · have := h _ List.mem_cons_self; omega
    · exact le_incAt l y (fun a ha => h a (List.mem_cons_of_mem _ ha)) a ha
theorem le_incTo {m : Nat} : ∀ (ls : List (List Nat)) (x y : Nat), Le m ls → Le (m + 1) (incTo ls x y)
  | [], _, _, _, l, hl, _, _ => by cases hl
  | b :: ls, 0, y, h, l, hl, a, ha => by
    rcases List.mem_cons.mp hl with rfl | hl
    · exact le_incAt b y (h b List.mem_cons_self) a ha
    · have := h l (List.mem_cons_of_mem _ hl) a ha; omega
  | b :: ls, x + 1, y, h, l, hl, a, ha => by
    rcases List.mem_cons.mp hl with rfl | hl
    · have := h _ List.mem_cons_self a ha; omega
    · exact le_incTo ls x y (fun l hl => h l (List.mem_cons_of_mem _ hl)) l hl a ha
theorem le_mono {m k : Nat} {tab : List (List Nat)} (h : Le m tab) (hk : m ≤ k) : Le k tab := fun l hl a ha => Nat.le_trans (h l hl a ha) hk
theorem le_tab {n : Nat} {es : List E2} : Le (2 * es.length) (tabP n es) := by
  have : ∀ (l : List E2) (m : Nat) (tab : List (List Nat)), Le m tab → Le (m + 2 * l.length) (l.foldl stepT tab) := by
    intro l
    induction l with
    | nil => intro m tab h; exact h
    | cons p l ih =>
      intro m tab h
      have h2 : Le (m + 2) (stepT tab p) := by
        unfold stepT
        split
        · exact le_mono (le_incTo _ _ _ h) (by omega)
        · exact le_incTo _ _ _ (le_incTo _ _ _ h)
      have := ih (m + 2) _ h2
      rw [List.foldl_cons]
      exact le_mono this (by simp; omega)
  have := this es 0 (List.replicate n (List.replicate n 0)) (fun l hl a ha => by simp at hl; rw [hl.2] at ha; simp at ha; omega)
  rw [Nat.zero_add] at this
  exact this
theorem lawled_ok (n : Nat) (tab : List (List Nat)) (col : List Nat) (hs : Sq n tab) (hn : n ≤ 400) (hc : col.length = n) (hb : Le 100000 tab) : F__law_led none [nearD tab, rowD col] = .ok (rowD (ledT tab col), 1) none := by
  have inner : ∀ row ∈ tab, comp (rg1 (aCons ((vOfE (op1 lenD (nmO 1)))) aNil)) (nameG 3) (yesT) ((eOfV ((vOfE (op2 mulD (oOfV ((vOfE (op2 idxD (nmO 2) (nmO 3))))) (oOfV ((vOfE (op2 idxD (nmO 1) (nmO 3)))))))))) 0 [3] [some (nearD tab, 0), some (rowD col, 0), some (rowD row, 0), none] = .ok (.lst (((List.range n).map fun y => nth row y * nth col y).map nD), 1) [some (nearD tab, 0), some (rowD col, 0), some (rowD row, 0), none] := by
    intro row hr
    have hrl := hs.2 row hr
    rw [comp_fix (ds := (List.range n).map fun k : Nat => .int k) (f := fun d => match d with
      | .int (.ofNat y) => nD (nth row y * nth col y)
      | d => d) (rg1_ok (n := n) (env1 := [some (nearD tab, 0), some (rowD col, 0), some (rowD row, 0), none]) (by simp [-List.map_map, fnF, en0, seqS, passS, noS, exprS, retS, retN, retM, putE, setS, iteS, vOfE, eOfV, oOfV, kI, kB, kS, kN, nmV, nmO, op1, op2, opC, tst, tru, truD, notT, andT, orT, blV, vbl, andV, orV, notV, iteE, aNil, aCons, lNil, lCons, tupE, lstE, dicE, Opd.get, callF, frR, callI, callL, own1, addD, subD, negD, cmpD, lenD, intD, tupD, lisD, absD, isiD, tyD, min2D, max2D, Pv.R.of, raiseS, asgS, nameG, nilG, consG, tupG, isD, nisD, isNB, opS, pNone, pSome, seqI', itsD, sItS, putD, wipeE, backE, rowD]; rw [hc]) (by omega)) (env0 := [some (nearD tab, 0), some (rowD col, 0), some (rowD row, 0), none]) (env2 := [some (nearD tab, 0), some (rowD col, 0), some (rowD row, 0), none]) rfl rfl (by apply le_lim; simp; omega) ?_]
    · rw [List.map_map, List.map_map]
      rfl
    · intro d hd
      obtain ⟨y, hy, rfl⟩ := List.mem_map.mp hd
      have hy := List.mem_range.mp hy
      have i1 := idx_row (row := row) (y := y) (by omega)
      have i2 := idx_row (row := col) (y := y) (by omega)
      have hle : nth row y ≤ 100000 := by
        have e := nth_at row y (by omega)
        exact hb row hr _ (List.mem_of_getElem? e)
      have hm := rep_nn (nth row y) (nth col y) (by omega)
      refine ⟨[some (nearD tab, 0), some (rowD col, 0), some (rowD row, 0), some (.int y, 0)], [some (nearD tab, 0), some (rowD col, 0), some (rowD row, 0), some (.int y, 0)], [some (nearD tab, 0), some (rowD col, 0), some (rowD row, 0), some (.int y, 0)], by simp [-List.map_map, fnF, en0, seqS, passS, noS, exprS, retS, retN, retM, putE, setS, iteS, vOfE, eOfV, oOfV, kI, kB, kS, kN, nmV, nmO, op1, op2, opC, tst, tru, truD, notT, andT, orT, blV, vbl, andV, orV, notV, iteE, aNil, aCons, lNil, lCons, tupE, lstE, dicE, Opd.get, callF, frR, callI, callL, own1, addD, subD, negD, cmpD, lenD, intD, tupD, lisD, absD, isiD, tyD, min2D, max2D, Pv.R.of, raiseS, asgS, nameG, nilG, consG, tupG, isD, nisD, isNB, opS, pNone, pSome, seqI', itsD, sItS, putD, wipeE, backE], rfl, ?_, rfl⟩
      simp only [nD] at i1 i2
      generalize nearD tab = T at *
      generalize rowD col = Cd at *
      generalize rowD row = Rd at *
      simp [-List.map_map, fnF, en0, seqS, passS, noS, exprS, retS, retN, retM, putE, setS, iteS, vOfE, eOfV, oOfV, kI, kB, kS, kN, nmV, nmO, op1, op2, opC, tst, tru, truD, notT, andT, orT, blV, vbl, andV, orV, notV, iteE, aNil, aCons, lNil, lCons, tupE, lstE, dicE, Opd.get, callF, frR, callI, callL, own1, addD, subD, negD, cmpD, lenD, intD, tupD, lisD, absD, isiD, tyD, min2D, max2D, Pv.R.of, raiseS, asgS, nameG, nilG, consG, tupG, isD, nisD, isNB, opS, pNone, pSome, seqI', itsD, sItS, putD, wipeE, backE, i1, i2, hm]
      rfl
  have outer : comp (seqI' ((nmV 0))) (nameG 2) (yesT) ((eOfV ((vOfE (op1 sumD (oOfV ((vOfE (comp (rg1 (aCons ((vOfE (op1 lenD (nmO 1)))) aNil)) (nameG 3) (yesT) ((eOfV ((vOfE (op2 mulD (oOfV ((vOfE (op2 idxD (nmO 2) (nmO 3))))) (oOfV ((vOfE (op2 idxD (nmO 1) (nmO 3)))))))))) 0 [3]))))))))) 0 [2] [some (nearD tab, 0), some (rowD col, 0), none, none] = .ok (rowD (ledT tab col), 1) [some (nearD tab, 0), some (rowD col, 0), none, none] := by
    rw [comp_fix (ds := tab.map rowD) (f := fun d => match d with
      | .lst ds => nD (Dt n (ds.map fun d => match d with
        | .int (.ofNat y) => y
        | _ => 0) (nth col))
      | d => d) (env1 := [some (nearD tab, 0), some (rowD col, 0), none, none]) (env0 := [some (nearD tab, 0), some (rowD col, 0), none, none]) (env2 := [some (nearD tab, 0), some (rowD col, 0), none, none]) (by simp [-List.map_map, fnF, en0, seqS, passS, noS, exprS, retS, retN, retM, putE, setS, iteS, vOfE, eOfV, oOfV, kI, kB, kS, kN, nmV, nmO, op1, op2, opC, tst, tru, truD, notT, andT, orT, blV, vbl, andV, orV, notV, iteE, aNil, aCons, lNil, lCons, tupE, lstE, dicE, Opd.get, callF, frR, callI, callL, own1, addD, subD, negD, cmpD, lenD, intD, tupD, lisD, absD, isiD, tyD, min2D, max2D, Pv.R.of, raiseS, asgS, nameG, nilG, consG, tupG, isD, nisD, isNB, opS, pNone, pSome, seqI', itsD, sItS, putD, wipeE, backE, nearD]) rfl rfl (by apply le_lim; simp [hs.1]; omega) ?_]
    · rw [List.map_map]
      have e : ∀ o : List Nat, (o.map nD).map (fun d => match d with
        | .int (.ofNat y) => y
        | _ => 0) = o := by
        intro o
        rw [List.map_map]
        have : ((fun d => match d with
          | D.int (.ofNat y) => y
          | _ => 0) ∘ nD) = id := by
          funext k
          rfl
        rw [this, List.map_id]
      have : (tab.map ((fun d => match d with
      | .lst ds => nD (Dt n (ds.map fun d => match d with
        | .int (.ofNat y) => y
        | _ => 0) (nth col))
      | d => d) ∘ rowD)) = (ledT tab col).map nD := by
        unfold ledT
        rw [List.map_map]
        apply List.map_congr_left
        intro o ho
        simp only [Function.comp_def, rowD]
        rw [e o, hc]
      rw [this]
      rfl
    · intro d hd
      obtain ⟨o, ho, rfl⟩ := List.mem_map.mp hd
      refine ⟨[some (nearD tab, 0), some (rowD col, 0), some (rowD o, 0), none], [some (nearD tab, 0), some (rowD col, 0), some (rowD o, 0), none], [some (nearD tab, 0), some (rowD col, 0), some (rowD o, 0), none], by simp [-List.map_map, fnF, en0, seqS, passS, noS, exprS, retS, retN, retM, putE, setS, iteS, vOfE, eOfV, oOfV, kI, kB, kS, kN, nmV, nmO, op1, op2, opC, tst, tru, truD, notT, andT, orT, blV, vbl, andV, orV, notV, iteE, aNil, aCons, lNil, lCons, tupE, lstE, dicE, Opd.get, callF, frR, callI, callL, own1, addD, subD, negD, cmpD, lenD, intD, tupD, lisD, absD, isiD, tyD, min2D, max2D, Pv.R.of, raiseS, asgS, nameG, nilG, consG, tupG, isD, nisD, isNB, opS, pNone, pSome, seqI', itsD, sItS, putD, wipeE, backE], rfl, ?_, rfl⟩
      have e : (o.map nD).map (fun d => match d with
        | .int (.ofNat y) => y
        | _ => 0) = o := by
        rw [List.map_map]
        have : ((fun d => match d with
          | D.int (.ofNat y) => y
          | _ => 0) ∘ nD) = id := by
          funext k
          rfl
        rw [this, List.map_id]
      have hi := inner o ho
      have hsum := sum_nD ((List.range n).map fun y => nth o y * nth col y)
      show (eOfV _) _ = .ok (nD (Dt n ((o.map nD).map _) (nth col)), 0) _
      rw [e]
      generalize ((List.range n).map fun y => nth o y * nth col y).map nD = L at *
      simp [-List.map_map, fnF, en0, seqS, passS, noS, exprS, retS, retN, retM, putE, setS, iteS, vOfE, eOfV, oOfV, kI, kB, kS, kN, nmV, nmO, op1, op2, opC, tst, tru, truD, notT, andT, orT, blV, vbl, andV, orV, notV, iteE, aNil, aCons, lNil, lCons, tupE, lstE, dicE, Opd.get, callF, frR, callI, callL, own1, addD, subD, negD, cmpD, lenD, intD, tupD, lisD, absD, isiD, tyD, min2D, max2D, Pv.R.of, raiseS, asgS, nameG, nilG, consG, tupG, isD, nisD, isNB, opS, pNone, pSome, seqI', itsD, sItS, putD, wipeE, backE, hi, hsum]
      rfl
  unfold F__law_led g__law_led
  simp [-List.map_map, fnF, en0, seqS, passS, noS, exprS, retS, retN, retM, putE, setS, iteS, vOfE, eOfV, oOfV, kI, kB, kS, kN, nmV, nmO, op1, op2, opC, tst, tru, truD, notT, andT, orT, blV, vbl, andV, orV, notV, iteE, aNil, aCons, lNil, lCons, tupE, lstE, dicE, Opd.get, callF, frR, callI, callL, own1, addD, subD, negD, cmpD, lenD, intD, tupD, lisD, absD, isiD, tyD, min2D, max2D, Pv.R.of, raiseS, asgS, nameG, nilG, consG, tupG, isD, nisD, isNB, opS, pNone, pSome, seqI', itsD, sItS, putD, wipeE, backE, outer]
end L47
end

section
open Pv PySem
set_option Elab.async false
set_option linter.all false
set_option maxRecDepth 100000
namespace L47
theorem okp {n : Nat} {es : List E2} (g : Okg n es) : ∀ p ∈ es, p.1 < n ∧ p.2 < n := fun p hp => by
  have := List.all_eq_true.mp g.e p hp
  simp [okE] at this
  exact ⟨this.1, this.2.1⟩
/-- one step of the law is one of the program -/
theorem ledG_ok {n : Nat} {es : List E2} (g : Okg n es) (col : List Nat) (hc : col.length = n) : F__law_led none [nearD (tabP n es), rowD col] = .ok (rowD (ledN (nearP n es) col), 1) none := by
  rw [lawled_ok n (tabP n es) col (sq_tab n es) g.n4 hc (le_mono le_tab (by have := g.l; omega)), ledT_eq (okp g) (nr_of g).l col hc]
/-- the walks' numbers of lengths 1 .. k -/
def wks (n : Nat) (es : List E2) (k : Nat) : List Nat := (List.range k).map fun i => nth (rowAt (nearP n es) n (i + 1)) 0
abbrev we (G K : D) (col k tb f x : Sl) : En := [some (G, 0), some (K, 0), col, k, tb, f, x]
theorem col0 (G K : D) (k tb f : Sl) (n : Nat) (es : List E2) (h : G = Gd n es) (hn : n ≤ 400) : comp (rg1 (aCons ((vOfE (op2 idxD (nmO 0) (oOfV (kI 0))))) aNil)) (nameG 6) (yesT) ((eOfV ((vOfE (op1 intD (oOfV ((vOfE (op2 eqD (nmO 6) (oOfV (kI 0))))))))))) 0 [6] (we G K none k tb f none) = .ok (rowD (startP n), 1) (we G K none k tb f none) := by
  have hi : idxD G (.int 0) = some (.int n, 0) := by subst h; simp [Gd, idxD, at_0]
  rw [comp_fix (ds := (List.range n).map fun k : Nat => .int k) (f := fun d => match d with
    | .int (.ofNat y) => nD (if y = 0 then 1 else 0)
    | d => d) (rg1_ok (n := n) (env1 := we G K none k tb f none) (by simp [-List.map_map, fnF, en0, seqS, passS, noS, exprS, retS, retN, retM, putE, setS, iteS, vOfE, eOfV, oOfV, kI, kB, kS, kN, nmV, nmO, op1, op2, opC, tst, tru, truD, notT, andT, orT, blV, vbl, andV, orV, notV, iteE, aNil, aCons, lNil, lCons, tupE, lstE, dicE, Opd.get, callF, frR, callI, callL, own1, addD, subD, negD, cmpD, lenD, intD, tupD, lisD, absD, isiD, tyD, min2D, max2D, Pv.R.of, raiseS, asgS, nameG, nilG, consG, tupG, isD, nisD, isNB, opS, pNone, pSome, seqI', itsD, sItS, putD, wipeE, backE, hi]) (by omega)) (env0 := we G K none k tb f none) (env2 := we G K none k tb f none) rfl rfl (by apply le_lim; simp; omega) ?_]
  · rw [List.map_map]
    simp only [startP, rowD, List.map_map]
    rfl
  · intro d hd
    obtain ⟨y, hy, rfl⟩ := List.mem_map.mp hd
    refine ⟨we G K none k tb f (some (.int y, 0)), we G K none k tb f (some (.int y, 0)), we G K none k tb f (some (.int y, 0)), by simp [-List.map_map, fnF, en0, seqS, passS, noS, exprS, retS, retN, retM, putE, setS, iteS, vOfE, eOfV, oOfV, kI, kB, kS, kN, nmV, nmO, op1, op2, opC, tst, tru, truD, notT, andT, orT, blV, vbl, andV, orV, notV, iteE, aNil, aCons, lNil, lCons, tupE, lstE, dicE, Opd.get, callF, frR, callI, callL, own1, addD, subD, negD, cmpD, lenD, intD, tupD, lisD, absD, isiD, tyD, min2D, max2D, Pv.R.of, raiseS, asgS, nameG, nilG, consG, tupG, isD, nisD, isNB, opS, pNone, pSome, seqI', itsD, sItS, putD, wipeE, backE], rfl, ?_, rfl⟩
    by_cases h0 : y = 0
    · subst h0
      simp [-List.map_map, fnF, en0, seqS, passS, noS, exprS, retS, retN, retM, putE, setS, iteS, vOfE, eOfV, oOfV, kI, kB, kS, kN, nmV, nmO, op1, op2, opC, tst, tru, truD, notT, andT, orT, blV, vbl, andV, orV, notV, iteE, aNil, aCons, lNil, lCons, tupE, lstE, dicE, Opd.get, callF, frR, callI, callL, own1, addD, subD, negD, cmpD, lenD, intD, tupD, lisD, absD, isiD, tyD, min2D, max2D, Pv.R.of, raiseS, asgS, nameG, nilG, consG, tupG, isD, nisD, isNB, opS, pNone, pSome, seqI', itsD, sItS, putD, wipeE, backE, nD]
    · have h1 : ¬ (y : Int) = 0 := by omega
      simp [-List.map_map, fnF, en0, seqS, passS, noS, exprS, retS, retN, retM, putE, setS, iteS, vOfE, eOfV, oOfV, kI, kB, kS, kN, nmV, nmO, op1, op2, opC, tst, tru, truD, notT, andT, orT, blV, vbl, andV, orV, notV, iteE, aNil, aCons, lNil, lCons, tupE, lstE, dicE, Opd.get, callF, frR, callI, callL, own1, addD, subD, negD, cmpD, lenD, intD, tupD, lisD, absD, isiD, tyD, min2D, max2D, Pv.R.of, raiseS, asgS, nameG, nilG, consG, tupG, isD, nisD, isNB, opS, pNone, pSome, seqI', itsD, sItS, putD, wipeE, backE, nD, h0, h1]
abbrev wkB : En → SR := (seqS
  (setS 2 ((callF 2 (F__law_led) (aCons ((nmV 4)) (aCons ((nmV 2)) aNil))))) (appS 5 ((vOfE (op2 idxD (nmO 2) (oOfV (kI 0)))))))
theorem wk_step (G K : D) (z x : Sl) (d e : Nat) {n : Nat} {es : List E2} (g : Okg n es) (k : Nat) (hk : k < 1000) : wkB (we G K (some (rowD (rowAt (nearP n es) n k), e)) z (some (nearD (tabP n es), d)) (some (rowD (wks n es k), 1)) x) = .nx (we G K (some (rowD (rowAt (nearP n es) n (k + 1)), 1)) z (some (nearD (tabP n es), 0)) (some (rowD (wks n es (k + 1)), 1)) x) := by
  have h := nr_of g
  have h0 : 0 < (rowAt (nearP n es) n (k + 1)).length := by rw [rowAt_len h.l]; exact h.n1
  have hi := idx_row h0
  have hc : wks n es (k + 1) = wks n es k ++ [nth (rowAt (nearP n es) n (k + 1)) 0] := by
    unfold wks
    rw [List.range_succ, List.map_append]
    rfl
  have hled := ledG_ok g (rowAt (nearP n es) n k) (rowAt_len h.l k)
  have e1 : setS 2 ((callF 2 (F__law_led) (aCons ((nmV 4)) (aCons ((nmV 2)) aNil)))) (we G K (some (rowD (rowAt (nearP n es) n k), e)) z (some (nearD (tabP n es), d)) (some (rowD (wks n es k), 1)) x) = .nx (we G K (some (rowD (rowAt (nearP n es) n (k + 1)), 1)) z (some (nearD (tabP n es), 0)) (some (rowD (wks n es k), 1)) x) := by
    simp [-List.map_map, fnF, en0, seqS, passS, noS, exprS, retS, retN, retM, putE, setS, iteS, vOfE, eOfV, oOfV, kI, kB, kS, kN, nmV, nmO, op1, op2, opC, tst, tru, truD, notT, andT, orT, blV, vbl, andV, orV, notV, iteE, aNil, aCons, lNil, lCons, tupE, lstE, dicE, Opd.get, callF, frR, callI, callL, own1, addD, subD, negD, cmpD, lenD, intD, tupD, lisD, absD, isiD, tyD, min2D, max2D, Pv.R.of, raiseS, asgS, nameG, nilG, consG, tupG, isD, nisD, isNB, opS, pNone, pSome, seqI', itsD, sItS, putD, wipeE, backE, hled, rowAt]
  have hl : (wks n es k).length < lim := by apply lt_lim; simp [wks]; omega
  refine (seqS_nx e1).trans ?_
  have hi' : idxD (D.lst (List.map nD (rowAt (nearP n es) n (k + 1)))) (.int 0) = some (nD (nth (rowAt (nearP n es) n (k + 1)) 0), 0) := hi
  unfold appS
  rw [if_pos (by rfl)]
  simp [-List.map_map, fnF, en0, seqS, passS, noS, exprS, retS, retN, retM, putE, setS, iteS, vOfE, eOfV, oOfV, kI, kB, kS, kN, nmV, nmO, op1, op2, opC, tst, tru, truD, notT, andT, orT, blV, vbl, andV, orV, notV, iteE, aNil, aCons, lNil, lCons, tupE, lstE, dicE, Opd.get, callF, frR, callI, callL, own1, addD, subD, negD, cmpD, lenD, intD, tupD, lisD, absD, isiD, tyD, min2D, max2D, Pv.R.of, raiseS, asgS, nameG, nilG, consG, tupG, isD, nisD, isNB, opS, pNone, pSome, seqI', itsD, sItS, putD, wipeE, backE, hi', rowD, hc, hl]
theorem lawwalks_ok {n : Nat} {es : List E2} (g : Okg n es) (k : Nat) (hk : k ≤ 100) : F__law_walks none [Gd n es, .int k] = .ok (rowD (wks n es k), 1) none := by
  have e1 : g__law_walks_1 (en0 7 none [Gd n es, .int k]) = .nx (we (Gd n es) (.int k) none none (some (nearD (tabP n es), 2)) (some (.lst [], 1)) none) := by
    simp [-List.map_map, fnF, en0, seqS, passS, noS, exprS, retS, retN, retM, putE, setS, iteS, vOfE, eOfV, oOfV, kI, kB, kS, kN, nmV, nmO, op1, op2, opC, tst, tru, truD, notT, andT, orT, blV, vbl, andV, orV, notV, iteE, aNil, aCons, lNil, lCons, tupE, lstE, dicE, Opd.get, callF, frR, callI, callL, own1, addD, subD, negD, cmpD, lenD, intD, tupD, lisD, absD, isiD, tyD, min2D, max2D, Pv.R.of, raiseS, asgS, nameG, nilG, consG, tupG, isD, nisD, isNB, opS, pNone, pSome, seqI', itsD, sItS, putD, wipeE, backE, parS, table_ok g]
  have c := col0 (Gd n es) (.int k) none (some (nearD (tabP n es), 2)) (some (.lst [], 1)) n es rfl g.n4
  have e2 : g__law_walks_2 (we (Gd n es) (.int k) none none (some (nearD (tabP n es), 2)) (some (.lst [], 1)) none) = .nx (we (Gd n es) (.int k) (some (rowD (rowAt (nearP n es) n 0), 1)) none (some (nearD (tabP n es), 2)) (some (rowD (wks n es 0), 1)) none) := by
    unfold g__law_walks_2 setS
    rw [c]
    rfl
  obtain ⟨e, he, kk, d, rfl⟩ := loopS_ex (g := nameG 3) (body := wkB) (fun i : Nat => .int i) (List.range k)
    (fun i env => ∃ kk d, env = we (Gd n es) (.int k) (some (rowD (rowAt (nearP n es) n i), 1)) kk (some (nearD (tabP n es), d)) (some (rowD (wks n es i), 1)) none)
    (we (Gd n es) (.int k) (some (rowD (rowAt (nearP n es) n 0), 1)) none (some (nearD (tabP n es), 2)) (some (rowD (wks n es 0), 1)) none) ⟨none, 2, rfl⟩ (fun i hi env hP => by
      obtain ⟨kk, d, rfl⟩ := hP
      simp only [List.length_range] at hi
      refine ⟨we (Gd n es) (.int k) (some (rowD (rowAt (nearP n es) n i), 1)) (some (.int i, 0)) (some (nearD (tabP n es), d)) (some (rowD (wks n es i), 1)) none, _, by simp [-List.map_map, fnF, en0, seqS, passS, noS, exprS, retS, retN, retM, putE, setS, iteS, vOfE, eOfV, oOfV, kI, kB, kS, kN, nmV, nmO, op1, op2, opC, tst, tru, truD, notT, andT, orT, blV, vbl, andV, orV, notV, iteE, aNil, aCons, lNil, lCons, tupE, lstE, dicE, Opd.get, callF, frR, callI, callL, own1, addD, subD, negD, cmpD, lenD, intD, tupD, lisD, absD, isiD, tyD, min2D, max2D, Pv.R.of, raiseS, asgS, nameG, nilG, consG, tupG, isD, nisD, isNB, opS, pNone, pSome, seqI', itsD, sItS, putD, wipeE, backE, List.getElem_range], wk_step _ _ _ _ d 1 g i (by omega), some (.int i, 0), 0, rfl⟩)
  simp only [List.length_range] at he
  have e3 : g__law_walks_3 (we (Gd n es) (.int k) (some (rowD (rowAt (nearP n es) n 0), 1)) none (some (nearD (tabP n es), 2)) (some (rowD (wks n es 0), 1)) none) = .nx (we (Gd n es) (.int k) (some (rowD (rowAt (nearP n es) n k), 1)) kk (some (nearD (tabP n es), d)) (some (rowD (wks n es k), 1)) none) :=
    (forS_ok (rg1_ok (n := k) (env1 := we (Gd n es) (.int k) (some (rowD (rowAt (nearP n es) n 0), 1)) none (some (nearD (tabP n es), 2)) (some (rowD (wks n es 0), 1)) none) (by simp [-List.map_map, fnF, en0, seqS, passS, noS, exprS, retS, retN, retM, putE, setS, iteS, vOfE, eOfV, oOfV, kI, kB, kS, kN, nmV, nmO, op1, op2, opC, tst, tru, truD, notT, andT, orT, blV, vbl, andV, orV, notV, iteE, aNil, aCons, lNil, lCons, tupE, lstE, dicE, Opd.get, callF, frR, callI, callL, own1, addD, subD, negD, cmpD, lenD, intD, tupD, lisD, absD, isiD, tyD, min2D, max2D, Pv.R.of, raiseS, asgS, nameG, nilG, consG, tupG, isD, nisD, isNB, opS, pNone, pSome, seqI', itsD, sItS, putD, wipeE, backE]) (by omega))).trans he
  exact fnF_ret ((seqS_nx e1).trans ((seqS_nx e2).trans ((seqS_nx e3).trans (by simp [-List.map_map, fnF, en0, seqS, passS, noS, exprS, retS, retN, retM, putE, setS, iteS, vOfE, eOfV, oOfV, kI, kB, kS, kN, nmV, nmO, op1, op2, opC, tst, tru, truD, notT, andT, orT, blV, vbl, andV, orV, notV, iteE, aNil, aCons, lNil, lCons, tupE, lstE, dicE, Opd.get, callF, frR, callI, callL, own1, addD, subD, negD, cmpD, lenD, intD, tupD, lisD, absD, isiD, tyD, min2D, max2D, Pv.R.of, raiseS, asgS, nameG, nilG, consG, tupG, isD, nisD, isNB, opS, pNone, pSome, seqI', itsD, sItS, putD, wipeE, backE]; rfl))))
end L47
end

section
open Pv PySem
set_option Elab.async false
set_option linter.all false
set_option maxRecDepth 100000
namespace L47
def zero0 : List Nat → List Nat
  | [] => []
  | _ :: l => 0 :: l
theorem zero0_len (l : List Nat) : (zero0 l).length = l.length := by cases l <;> rfl
theorem nth_zero0 : ∀ (l : List Nat) (t : Nat), nth (zero0 l) t = if t = 0 then 0 else nth l t
  | [], 0 => rfl
  | [], t + 1 => rfl
  | _ :: _, 0 => rfl
  | _ :: _, t + 1 => by simp [zero0, nth]
def frL (near : List (List Nat)) (n : Nat) : Nat → List Nat
  | 0 => startP n
  | k + 1 => zero0 (ledN near (frL near n k))
theorem frL_len {near : List (List Nat)} {n : Nat} (h : near.length = n) : ∀ k, (frL near n k).length = n
  | 0 => by simp [frL, startP]
  | k + 1 => by simp [frL, zero0_len, ledN, h]
theorem nth_start_at (n t : Nat) (ht : t < n) : nth (startP n) t = unit 0 t := by
  have := nth_at (startP n) t (by simp [startP]; exact ht)
  have e : (startP n)[t]? = some (if t = 0 then 1 else 0) := by
    unfold startP
    rw [List.getElem?_map, List.getElem?_range ht]
    rfl
  rw [e] at this
  have := (Option.some.inj this).symm
  rw [this]
  unfold unit
  by_cases h : t = 0
  · subst h; rfl
  · have h' : ¬ 0 = t := fun e => h e.symm
    simp [h, h']
theorem rowAt_pw {n : Nat} {near : List (List Nat)} (h : Nr n near) : ∀ (k t : Nat), t < n → nth (rowAt near n k) t = pw near (unit 0) k t
  | 0, t, ht => nth_start_at n t ht
  | k + 1, t, ht => by
    show nth (ledN near (rowAt near n k)) t = Lf near (pw near (unit 0) k) t
    rw [nth_led (by rw [h.l]; exact ht)]
    exact Lf_congr h.y (fun y hy => rowAt_pw h k y hy) t
theorem frL_fr {n : Nat} {near : List (List Nat)} (h : Nr n near) : ∀ (k t : Nat), t < n → nth (frL near n k) t = fr near k t
  | 0, t, ht => nth_start_at n t ht
  | k + 1, t, ht => by
    show nth (zero0 (ledN near (frL near n k))) t = cut0 (Lf near (fr near k)) t
    rw [nth_zero0]
    unfold cut0
    by_cases h0 : t = 0
    · simp [h0]
    · simp only [h0, if_false]
      rw [nth_led (by rw [h.l]; exact ht)]
      exact Lf_congr h.y (fun y hy => frL_fr h k y hy) t
/-- the numbers of first returns, lengths 1 .. k -/
def fws (near : List (List Nat)) (n k : Nat) : List Nat := (List.range k).map fun i => nth (ledN near (frL near n i)) 0
theorem fws_ret {n : Nat} {near : List (List Nat)} (h : Nr n near) (i : Nat) : nth (ledN near (frL near n i)) 0 = ret1 near i := by
  rw [nth_led (by rw [h.l]; exact h.n1)]
  exact Lf_congr h.y (fun y hy => frL_fr h i y hy) 0
theorem fr0 (near : List (List Nat)) (k : Nat) : fr near (k + 1) 0 = 0 := by simp [fr, cut0]
/-- the law's row of first returns is the program's -/
theorem first_eq {n : Nat} {es : List E2} (g : Okg n es) (k : Nat) : nth (rowAt (nearP n es) n (k + 1)) 0 = sumN ((List.range k).map fun i => nth (ledN (nearP n es) (frL (nearP n es) n i)) 0 * nth (rowAt (nearP n es) n (k - i)) 0) + nth (ledN (nearP n es) (frL (nearP n es) n k)) 0 := by
  have h := nr_of g
  rw [rowAt_pw h _ 0 h.n1, renewal, fr0, Nat.add_zero, List.range_succ, List.map_append, sumN_app]
  have e1 : sumN ((List.range k).map fun i => ret1 (nearP n es) i * pw (nearP n es) (unit 0) (k + 1 - 1 - i) 0) = sumN ((List.range k).map fun i => nth (ledN (nearP n es) (frL (nearP n es) n i)) 0 * nth (rowAt (nearP n es) n (k - i)) 0) := sumN_congr fun i _ => by
    rw [fws_ret h, rowAt_pw h _ 0 h.n1]
    rfl
  rw [e1, fws_ret h]
  congr 1
  have e : k + 1 - 1 - k = 0 := by omega
  simp [sumN, e, pw, unit]
abbrev fwB : En → SR := (seqS
  (setS 4 ((callF 2 (F_led) (aCons ((nmV 3)) (aCons ((nmV 4)) aNil))))) (seqS
  (appS 5 ((vOfE (op2 idxD (nmO 4) (oOfV (kI 0)))))) (sItS 4 (kI 0) (kI 0))))
abbrev fe (G K : D) (z near row f : Sl) : En := [some (G, 0), some (K, 0), z, near, row, f]
theorem led_fr {n : Nat} {near : List (List Nat)} (h : Nr n near) (k : Nat) : F_led none [nearD near, rowD (frL near n k)] = .ok (rowD (ledN near (frL near n k)), 1) none :=
  led_ok near _ (by rw [h.l]; have := h.n4; omega) h.o fun o ho y hy => by rw [frL_len h.l]; exact h.y o ho y hy
theorem fw_step (G K : D) (z : Sl) (d : Nat) {n : Nat} {near : List (List Nat)} (h : Nr n near) (k : Nat) (hk : k < 1000) : fwB (fe G K z (some (nearD near, d)) (some (rowD (frL near n k), 1)) (some (rowD (fws near n k), 1))) = .nx (fe G K z (some (nearD near, 0)) (some (rowD (frL near n (k + 1)), 1)) (some (rowD (fws near n (k + 1)), 1))) := by
  have hln : (ledN near (frL near n k)).length = n := by simp [ledN, h.l]
  have h0 : 0 < (ledN near (frL near n k)).length := by rw [hln]; exact h.n1
  have hi := idx_row h0
  have hc : fws near n (k + 1) = fws near n k ++ [nth (ledN near (frL near n k)) 0] := by
    unfold fws
    rw [List.range_succ, List.map_append]
    rfl
  have hled := led_fr h k
  have e1 : setS 4 ((callF 2 (F_led) (aCons ((nmV 3)) (aCons ((nmV 4)) aNil)))) (fe G K z (some (nearD near, d)) (some (rowD (frL near n k), 1)) (some (rowD (fws near n k), 1))) = .nx (fe G K z (some (nearD near, 0)) (some (rowD (ledN near (frL near n k)), 1)) (some (rowD (fws near n k), 1))) := by
    simp [-List.map_map, fnF, en0, seqS, passS, noS, exprS, retS, retN, retM, putE, setS, iteS, vOfE, eOfV, oOfV, kI, kB, kS, kN, nmV, nmO, op1, op2, opC, tst, tru, truD, notT, andT, orT, blV, vbl, andV, orV, notV, iteE, aNil, aCons, lNil, lCons, tupE, lstE, dicE, Opd.get, callF, frR, callI, callL, own1, addD, subD, negD, cmpD, lenD, intD, tupD, lisD, absD, isiD, tyD, min2D, max2D, Pv.R.of, raiseS, asgS, nameG, nilG, consG, tupG, isD, nisD, isNB, opS, pNone, pSome, seqI', itsD, sItS, putD, wipeE, backE, hled]
  have hl : (fws near n k).length < lim := by apply lt_lim; simp [fws]; omega
  refine (seqS_nx e1).trans ?_
  have hi' : idxD (D.lst (List.map nD (ledN near (frL near n k)))) (.int 0) = some (nD (nth (ledN near (frL near n k)) 0), 0) := hi
  have e2 : appS 5 ((vOfE (op2 idxD (nmO 4) (oOfV (kI 0))))) (fe G K z (some (nearD near, 0)) (some (rowD (ledN near (frL near n k)), 1)) (some (rowD (fws near n k), 1))) = .nx (fe G K z (some (nearD near, 0)) (some (rowD (ledN near (frL near n k)), 1)) (some (rowD (fws near n (k + 1)), 1))) := by
    unfold appS
    rw [if_pos (by rfl)]
    simp [-List.map_map, fnF, en0, seqS, passS, noS, exprS, retS, retN, retM, putE, setS, iteS, vOfE, eOfV, oOfV, kI, kB, kS, kN, nmV, nmO, op1, op2, opC, tst, tru, truD, notT, andT, orT, blV, vbl, andV, orV, notV, iteE, aNil, aCons, lNil, lCons, tupE, lstE, dicE, Opd.get, callF, frR, callI, callL, own1, addD, subD, negD, cmpD, lenD, intD, tupD, lisD, absD, isiD, tyD, min2D, max2D, Pv.R.of, raiseS, asgS, nameG, nilG, consG, tupG, isD, nisD, isNB, opS, pNone, pSome, seqI', itsD, sItS, putD, wipeE, backE, hi', rowD, hc, hl]
  refine (seqS_nx e2).trans ?_
  have hp : putD (rowD (ledN near (frL near n k))) (.int 0) (.int 0) = some (rowD (frL near n (k + 1))) := by
    cases hr : ledN near (frL near n k) with
    | nil => rw [hr] at h0; simp at h0
    | cons a l =>
      have : frL near n (k + 1) = 0 :: l := by
        show zero0 (ledN near (frL near n k)) = _
        rw [hr]; rfl
      rw [this]
      simp [putD, rowD, L2.ixN, nD]
  generalize rowD (ledN near (frL near n k)) = A at *
  generalize rowD (frL near n (k + 1)) = Bq at *
  unfold sItS
  simp [kI, hp]
theorem firstw_ok {n : Nat} {es : List E2} (g : Okg n es) (k : Nat) (hk : k ≤ 12) : F_first_walks none [Gd n es, .int k] = .ok (.tup ((fws (nearP n es) n k).map nD), 0) none := by
  have h := nr_of g
  have a1 : g_first_walks_1 (en0 6 none [Gd n es, .int k]) = .nx (fe (Gd n es) (.int k) none none none none) := by simp [-List.map_map, fnF, en0, seqS, passS, noS, exprS, retS, retN, retM, putE, setS, iteS, vOfE, eOfV, oOfV, kI, kB, kS, kN, nmV, nmO, op1, op2, opC, tst, tru, truD, notT, andT, orT, blV, vbl, andV, orV, notV, iteE, aNil, aCons, lNil, lCons, tupE, lstE, dicE, Opd.get, callF, frR, callI, callL, own1, addD, subD, negD, cmpD, lenD, intD, tupD, lisD, absD, isiD, tyD, min2D, max2D, Pv.R.of, raiseS, asgS, nameG, nilG, consG, tupG, isD, nisD, isNB, opS, pNone, pSome, seqI', itsD, sItS, putD, wipeE, backE, check_ok g]
  have a2 : g_first_walks_2 (fe (Gd n es) (.int k) none none none none) = .nx (fe (Gd n es) (.int k) none none none none) := by simp [-List.map_map, fnF, en0, seqS, passS, noS, exprS, retS, retN, retM, putE, setS, iteS, vOfE, eOfV, oOfV, kI, kB, kS, kN, nmV, nmO, op1, op2, opC, tst, tru, truD, notT, andT, orT, blV, vbl, andV, orV, notV, iteE, aNil, aCons, lNil, lCons, tupE, lstE, dicE, Opd.get, callF, frR, callI, callL, own1, addD, subD, negD, cmpD, lenD, intD, tupD, lisD, absD, isiD, tyD, min2D, max2D, Pv.R.of, raiseS, asgS, nameG, nilG, consG, tupG, isD, nisD, isNB, opS, pNone, pSome, seqI', itsD, sItS, putD, wipeE, backE, clen_ok k hk]
  have hi : idxD (Gd n es) (.int 0) = some (.int n, 0) := by simp [Gd, idxD, at_0]
  have a3 : g_first_walks_3 (fe (Gd n es) (.int k) none none none none) = .nx (fe (Gd n es) (.int k) none (some (nearD (nearP n es), 2)) (some (rowD (frL (nearP n es) n 0), 1)) (some (rowD (fws (nearP n es) n 0), 1))) := by
    simp [-List.map_map, fnF, en0, seqS, passS, noS, exprS, retS, retN, retM, putE, setS, iteS, vOfE, eOfV, oOfV, kI, kB, kS, kN, nmV, nmO, op1, op2, opC, tst, tru, truD, notT, andT, orT, blV, vbl, andV, orV, notV, iteE, aNil, aCons, lNil, lCons, tupE, lstE, dicE, Opd.get, callF, frR, callI, callL, own1, addD, subD, negD, cmpD, lenD, intD, tupD, lisD, absD, isiD, tyD, min2D, max2D, Pv.R.of, raiseS, asgS, nameG, nilG, consG, tupG, isD, nisD, isNB, opS, pNone, pSome, seqI', itsD, sItS, putD, wipeE, backE, par3S, near_ok g, start_ok n (by have := g.n4; omega), hi, frL, fws]
    simp [rowD]
  obtain ⟨e, he, kk, d, rfl⟩ := loopS_ex (g := nameG 2) (body := fwB) (fun i : Nat => .int i) (List.range k)
    (fun i env => ∃ kk d, env = fe (Gd n es) (.int k) kk (some (nearD (nearP n es), d)) (some (rowD (frL (nearP n es) n i), 1)) (some (rowD (fws (nearP n es) n i), 1)))
    (fe (Gd n es) (.int k) none (some (nearD (nearP n es), 2)) (some (rowD (frL (nearP n es) n 0), 1)) (some (rowD (fws (nearP n es) n 0), 1))) ⟨none, 2, rfl⟩ (fun i hi env hP => by
      obtain ⟨kk, d, rfl⟩ := hP
      simp only [List.length_range] at hi
      refine ⟨fe (Gd n es) (.int k) (some (.int i, 0)) (some (nearD (nearP n es), d)) (some (rowD (frL (nearP n es) n i), 1)) (some (rowD (fws (nearP n es) n i), 1)), _, by simp [-List.map_map, fnF, en0, seqS, passS, noS, exprS, retS, retN, retM, putE, setS, iteS, vOfE, eOfV, oOfV, kI, kB, kS, kN, nmV, nmO, op1, op2, opC, tst, tru, truD, notT, andT, orT, blV, vbl, andV, orV, notV, iteE, aNil, aCons, lNil, lCons, tupE, lstE, dicE, Opd.get, callF, frR, callI, callL, own1, addD, subD, negD, cmpD, lenD, intD, tupD, lisD, absD, isiD, tyD, min2D, max2D, Pv.R.of, raiseS, asgS, nameG, nilG, consG, tupG, isD, nisD, isNB, opS, pNone, pSome, seqI', itsD, sItS, putD, wipeE, backE, List.getElem_range], fw_step _ _ _ d h i (by omega), some (.int i, 0), 0, rfl⟩)
  simp only [List.length_range] at he
  have a4 : g_first_walks_4 (fe (Gd n es) (.int k) none (some (nearD (nearP n es), 2)) (some (rowD (frL (nearP n es) n 0), 1)) (some (rowD (fws (nearP n es) n 0), 1))) = .nx (fe (Gd n es) (.int k) kk (some (nearD (nearP n es), d)) (some (rowD (frL (nearP n es) n k), 1)) (some (rowD (fws (nearP n es) n k), 1))) :=
    (forS_ok (rg1_ok (n := k) (env1 := fe (Gd n es) (.int k) none (some (nearD (nearP n es), 2)) (some (rowD (frL (nearP n es) n 0), 1)) (some (rowD (fws (nearP n es) n 0), 1))) (by simp [-List.map_map, fnF, en0, seqS, passS, noS, exprS, retS, retN, retM, putE, setS, iteS, vOfE, eOfV, oOfV, kI, kB, kS, kN, nmV, nmO, op1, op2, opC, tst, tru, truD, notT, andT, orT, blV, vbl, andV, orV, notV, iteE, aNil, aCons, lNil, lCons, tupE, lstE, dicE, Opd.get, callF, frR, callI, callL, own1, addD, subD, negD, cmpD, lenD, intD, tupD, lisD, absD, isiD, tyD, min2D, max2D, Pv.R.of, raiseS, asgS, nameG, nilG, consG, tupG, isD, nisD, isNB, opS, pNone, pSome, seqI', itsD, sItS, putD, wipeE, backE]) (by omega))).trans he
  exact fnF_ret ((seqS_nx a1).trans ((seqS_nx a2).trans ((seqS_nx a3).trans ((seqS_nx a4).trans (by simp [-List.map_map, fnF, en0, seqS, passS, noS, exprS, retS, retN, retM, putE, setS, iteS, vOfE, eOfV, oOfV, kI, kB, kS, kN, nmV, nmO, op1, op2, opC, tst, tru, truD, notT, andT, orT, blV, vbl, andV, orV, notV, iteE, aNil, aCons, lNil, lCons, tupE, lstE, dicE, Opd.get, callF, frR, callI, callL, own1, addD, subD, negD, cmpD, lenD, intD, tupD, lisD, absD, isiD, tyD, min2D, max2D, Pv.R.of, raiseS, asgS, nameG, nilG, consG, tupG, isD, nisD, isNB, opS, pNone, pSome, seqI', itsD, sItS, putD, wipeE, backE, rowD]; rfl)))))
end L47
end

section
open Pv PySem
set_option Elab.async false
set_option linter.all false
set_option maxRecDepth 100000
namespace L47
def startX (n x : Nat) : List Nat := (List.range n).map fun y => if y = x then 1 else 0
theorem startX_ok (n x : Nat) (h : n ≤ 1000) : F_start_row none [.int n, .int x] = .ok (rowD (startX n x), 1) none := by
  have c : comp (rg1 (aCons (nmV 0) aNil)) (nameG 2) yesT (eOfV (vOfE (op1 intD (oOfV (vOfE (op2 eqD (nmO 2) (nmO 1))))))) 0 [2] [some (.int n, 0), some (.int x, 0), none] = .ok (rowD (startX n x), 1) [some (.int n, 0), some (.int x, 0), none] := by
    rw [comp_fix (ds := (List.range n).map fun k : Nat => .int k) (f := fun d => match d with
      | .int (.ofNat y) => nD (if y = x then 1 else 0)
      | d => d) (rg1_ok (n := n) (env1 := [some (.int n, 0), some (.int x, 0), none]) (by simp [-List.map_map, fnF, en0, seqS, passS, noS, exprS, retS, retN, retM, putE, setS, iteS, vOfE, eOfV, oOfV, kI, kB, kS, kN, nmV, nmO, op1, op2, opC, tst, tru, truD, notT, andT, orT, blV, vbl, andV, orV, notV, iteE, aNil, aCons, lNil, lCons, tupE, lstE, dicE, Opd.get, callF, frR, callI, callL, own1, addD, subD, negD, cmpD, lenD, intD, tupD, lisD, absD, isiD, tyD, min2D, max2D, Pv.R.of, raiseS, asgS, nameG, nilG, consG, tupG, isD, nisD, isNB, opS, pNone, pSome, seqI', itsD, sItS, putD, wipeE, backE]) (by omega)) (env0 := [some (.int n, 0), some (.int x, 0), none]) (env2 := [some (.int n, 0), some (.int x, 0), none]) rfl rfl (by apply le_lim; simp; omega) ?_]
    · rw [List.map_map]
      simp only [startX, rowD, List.map_map]
      rfl
    · intro d hd
      obtain ⟨y, hy, rfl⟩ := List.mem_map.mp hd
      refine ⟨[some (.int n, 0), some (.int x, 0), some (.int y, 0)], [some (.int n, 0), some (.int x, 0), some (.int y, 0)], [some (.int n, 0), some (.int x, 0), some (.int y, 0)], by simp [-List.map_map, fnF, en0, seqS, passS, noS, exprS, retS, retN, retM, putE, setS, iteS, vOfE, eOfV, oOfV, kI, kB, kS, kN, nmV, nmO, op1, op2, opC, tst, tru, truD, notT, andT, orT, blV, vbl, andV, orV, notV, iteE, aNil, aCons, lNil, lCons, tupE, lstE, dicE, Opd.get, callF, frR, callI, callL, own1, addD, subD, negD, cmpD, lenD, intD, tupD, lisD, absD, isiD, tyD, min2D, max2D, Pv.R.of, raiseS, asgS, nameG, nilG, consG, tupG, isD, nisD, isNB, opS, pNone, pSome, seqI', itsD, sItS, putD, wipeE, backE], rfl, ?_, rfl⟩
      by_cases h0 : y = x
      · subst h0
        simp [-List.map_map, fnF, en0, seqS, passS, noS, exprS, retS, retN, retM, putE, setS, iteS, vOfE, eOfV, oOfV, kI, kB, kS, kN, nmV, nmO, op1, op2, opC, tst, tru, truD, notT, andT, orT, blV, vbl, andV, orV, notV, iteE, aNil, aCons, lNil, lCons, tupE, lstE, dicE, Opd.get, callF, frR, callI, callL, own1, addD, subD, negD, cmpD, lenD, intD, tupD, lisD, absD, isiD, tyD, min2D, max2D, Pv.R.of, raiseS, asgS, nameG, nilG, consG, tupG, isD, nisD, isNB, opS, pNone, pSome, seqI', itsD, sItS, putD, wipeE, backE, nD]
      · have h1 : ¬ (y : Int) = x := by omega
        simp [-List.map_map, fnF, en0, seqS, passS, noS, exprS, retS, retN, retM, putE, setS, iteS, vOfE, eOfV, oOfV, kI, kB, kS, kN, nmV, nmO, op1, op2, opC, tst, tru, truD, notT, andT, orT, blV, vbl, andV, orV, notV, iteE, aNil, aCons, lNil, lCons, tupE, lstE, dicE, Opd.get, callF, frR, callI, callL, own1, addD, subD, negD, cmpD, lenD, intD, tupD, lisD, absD, isiD, tyD, min2D, max2D, Pv.R.of, raiseS, asgS, nameG, nilG, consG, tupG, isD, nisD, isNB, opS, pNone, pSome, seqI', itsD, sItS, putD, wipeE, backE, nD, h0, h1]
  unfold F_start_row g_start_row
  simp [-List.map_map, fnF, en0, seqS, passS, noS, exprS, retS, retN, retM, putE, setS, iteS, vOfE, eOfV, oOfV, kI, kB, kS, kN, nmV, nmO, op1, op2, opC, tst, tru, truD, notT, andT, orT, blV, vbl, andV, orV, notV, iteE, aNil, aCons, lNil, lCons, tupE, lstE, dicE, Opd.get, callF, frR, callI, callL, own1, addD, subD, negD, cmpD, lenD, intD, tupD, lisD, absD, isiD, tyD, min2D, max2D, Pv.R.of, raiseS, asgS, nameG, nilG, consG, tupG, isD, nisD, isNB, opS, pNone, pSome, seqI', itsD, sItS, putD, wipeE, backE, c]
def rowX (near : List (List Nat)) (n x : Nat) : Nat → List Nat
  | 0 => startX n x
  | k + 1 => ledN near (rowX near n x k)
theorem rowX_len {near : List (List Nat)} {n x : Nat} (h : near.length = n) : ∀ k, (rowX near n x k).length = n
  | 0 => by simp [rowX, startX]
  | k + 1 => by simp [rowX, ledN, h]
theorem rowX_pw {n x : Nat} {near : List (List Nat)} (h : Nr n near) : ∀ (k t : Nat), t < n → nth (rowX near n x k) t = pw near (unit x) k t
  | 0, t, ht => by
    have := nth_at (startX n x) t (by simp [startX]; exact ht)
    have e : (startX n x)[t]? = some (if t = x then 1 else 0) := by
      unfold startX
      rw [List.getElem?_map, List.getElem?_range ht]
      rfl
    rw [e] at this
    have := (Option.some.inj this).symm
    show nth (startX n x) t = unit x t
    rw [this]
    unfold unit
    by_cases h : t = x
    · subst h; rfl
    · have h' : ¬ x = t := fun e => h e.symm
      simp [h, h']
  | k + 1, t, ht => by
    show nth (ledN near (rowX near n x k)) t = Lf near (pw near (unit x) k) t
    rw [nth_led (by rw [h.l]; exact ht)]
    exact Lf_congr h.y (fun y hy => rowX_pw h k y hy) t
theorem walk_sym {n : Nat} {es : List E2} (g : Okg n es) {x y : Nat} (hx : x < n) (hy : y < n) (k : Nat) : nth (rowX (nearP n es) n x k) y = nth (rowX (nearP n es) n y k) x := by
  rw [rowX_pw (nr_of g) k y hy, rowX_pw (nr_of g) k x hx]
  exact (pw_sym (okp g) hx hy k).symm
theorem clen60 (n : Nat) (h : n ≤ 60) : F_check_length none [.int n, .int 60] = .ok (.non, 0) none := by
  unfold F_check_length g_check_length
  have h1 : ¬ (n : Int) < 0 := by omega
  have h2 : ¬ (60 : Int) < n := by omega
  simp [-List.map_map, fnF, en0, seqS, passS, noS, exprS, retS, retN, retM, putE, setS, iteS, vOfE, eOfV, oOfV, kI, kB, kS, kN, nmV, nmO, op1, op2, opC, tst, tru, truD, notT, andT, orT, blV, vbl, andV, orV, notV, iteE, aNil, aCons, lNil, lCons, tupE, lstE, dicE, Opd.get, callF, frR, callI, callL, own1, addD, subD, negD, cmpD, lenD, intD, tupD, lisD, absD, isiD, tyD, min2D, max2D, Pv.R.of, raiseS, asgS, nameG, nilG, consG, tupG, isD, nisD, isNB, opS, pNone, pSome, seqI', itsD, sItS, putD, wipeE, backE, isint, h1, h2]
abbrev ne (G x y k : D) (z near row : Sl) : En := [some (G, 0), some (x, 0), some (y, 0), some (k, 0), z, near, row]
theorem ledX {n x : Nat} {near : List (List Nat)} (h : Nr n near) (k : Nat) : F_led none [nearD near, rowD (rowX near n x k)] = .ok (rowD (rowX near n x (k + 1)), 1) none :=
  led_ok near _ (by rw [h.l]; have := h.n4; omega) h.o fun o ho y hy => by rw [rowX_len h.l]; exact h.y o ho y hy
theorem walkn_ok {n : Nat} {es : List E2} (g : Okg n es) (x y k : Nat) (hx : x < n) (hy : y < n) (hk : k ≤ 60) : F_walk_number none [Gd n es, .int x, .int y, .int k] = .ok (.int (nth (rowX (nearP n es) n x k) y : Nat), 0) none := by
  have h := nr_of g
  have hi : idxD (Gd n es) (.int 0) = some (.int n, 0) := by simp [Gd, idxD, at_0]
  have a1 : g_walk_number_1 (en0 7 none [Gd n es, .int x, .int y, .int k]) = .nx (ne (Gd n es) (.int x) (.int y) (.int k) none none none) := by simp [-List.map_map, fnF, en0, seqS, passS, noS, exprS, retS, retN, retM, putE, setS, iteS, vOfE, eOfV, oOfV, kI, kB, kS, kN, nmV, nmO, op1, op2, opC, tst, tru, truD, notT, andT, orT, blV, vbl, andV, orV, notV, iteE, aNil, aCons, lNil, lCons, tupE, lstE, dicE, Opd.get, callF, frR, callI, callL, own1, addD, subD, negD, cmpD, lenD, intD, tupD, lisD, absD, isiD, tyD, min2D, max2D, Pv.R.of, raiseS, asgS, nameG, nilG, consG, tupG, isD, nisD, isNB, opS, pNone, pSome, seqI', itsD, sItS, putD, wipeE, backE, check_ok g]
  have a2 : g_walk_number_2 (ne (Gd n es) (.int x) (.int y) (.int k) none none none) = .nx (ne (Gd n es) (.int x) (.int y) (.int k) none none none) := by
    simp [-List.map_map, fnF, en0, seqS, passS, noS, exprS, retS, retN, retM, putE, setS, iteS, vOfE, eOfV, oOfV, kI, kB, kS, kN, nmV, nmO, op1, op2, opC, tst, tru, truD, notT, andT, orT, blV, vbl, andV, orV, notV, iteE, aNil, aCons, lNil, lCons, tupE, lstE, dicE, Opd.get, callF, frR, callI, callL, own1, addD, subD, negD, cmpD, lenD, intD, tupD, lisD, absD, isiD, tyD, min2D, max2D, Pv.R.of, raiseS, asgS, nameG, nilG, consG, tupG, isD, nisD, isNB, opS, pNone, pSome, seqI', itsD, sItS, putD, wipeE, backE, hi, is_point_ok x n hx, is_point_ok y n hy]
  have a3 : g_walk_number_3 (ne (Gd n es) (.int x) (.int y) (.int k) none none none) = .nx (ne (Gd n es) (.int x) (.int y) (.int k) none none none) := by simp [-List.map_map, fnF, en0, seqS, passS, noS, exprS, retS, retN, retM, putE, setS, iteS, vOfE, eOfV, oOfV, kI, kB, kS, kN, nmV, nmO, op1, op2, opC, tst, tru, truD, notT, andT, orT, blV, vbl, andV, orV, notV, iteE, aNil, aCons, lNil, lCons, tupE, lstE, dicE, Opd.get, callF, frR, callI, callL, own1, addD, subD, negD, cmpD, lenD, intD, tupD, lisD, absD, isiD, tyD, min2D, max2D, Pv.R.of, raiseS, asgS, nameG, nilG, consG, tupG, isD, nisD, isNB, opS, pNone, pSome, seqI', itsD, sItS, putD, wipeE, backE, clen60 k hk]
  have a4 : g_walk_number_4 (ne (Gd n es) (.int x) (.int y) (.int k) none none none) = .nx (ne (Gd n es) (.int x) (.int y) (.int k) none (some (nearD (nearP n es), 2)) (some (rowD (rowX (nearP n es) n x 0), 1))) := by
    simp [-List.map_map, fnF, en0, seqS, passS, noS, exprS, retS, retN, retM, putE, setS, iteS, vOfE, eOfV, oOfV, kI, kB, kS, kN, nmV, nmO, op1, op2, opC, tst, tru, truD, notT, andT, orT, blV, vbl, andV, orV, notV, iteE, aNil, aCons, lNil, lCons, tupE, lstE, dicE, Opd.get, callF, frR, callI, callL, own1, addD, subD, negD, cmpD, lenD, intD, tupD, lisD, absD, isiD, tyD, min2D, max2D, Pv.R.of, raiseS, asgS, nameG, nilG, consG, tupG, isD, nisD, isNB, opS, pNone, pSome, seqI', itsD, sItS, putD, wipeE, backE, parS, near_ok g, hi, startX_ok n x (by have := g.n4; omega), rowX]
  obtain ⟨e, he, kk, d, rfl⟩ := loopS_ex (g := nameG 4) (body := setS 6 ((callF 2 (F_led) (aCons ((nmV 5)) (aCons ((nmV 6)) aNil))))) (fun i : Nat => .int i) (List.range k)
    (fun i env => ∃ kk d, env = ne (Gd n es) (.int x) (.int y) (.int k) kk (some (nearD (nearP n es), d)) (some (rowD (rowX (nearP n es) n x i), 1)))
    (ne (Gd n es) (.int x) (.int y) (.int k) none (some (nearD (nearP n es), 2)) (some (rowD (rowX (nearP n es) n x 0), 1))) ⟨none, 2, rfl⟩ (fun i hi env hP => by
      obtain ⟨kk, d, rfl⟩ := hP
      simp only [List.length_range] at hi
      have hled := ledX (x := x) h i
      refine ⟨ne (Gd n es) (.int x) (.int y) (.int k) (some (.int i, 0)) (some (nearD (nearP n es), d)) (some (rowD (rowX (nearP n es) n x i), 1)), ne (Gd n es) (.int x) (.int y) (.int k) (some (.int i, 0)) (some (nearD (nearP n es), 0)) (some (rowD (rowX (nearP n es) n x (i + 1)), 1)), by simp [-List.map_map, fnF, en0, seqS, passS, noS, exprS, retS, retN, retM, putE, setS, iteS, vOfE, eOfV, oOfV, kI, kB, kS, kN, nmV, nmO, op1, op2, opC, tst, tru, truD, notT, andT, orT, blV, vbl, andV, orV, notV, iteE, aNil, aCons, lNil, lCons, tupE, lstE, dicE, Opd.get, callF, frR, callI, callL, own1, addD, subD, negD, cmpD, lenD, intD, tupD, lisD, absD, isiD, tyD, min2D, max2D, Pv.R.of, raiseS, asgS, nameG, nilG, consG, tupG, isD, nisD, isNB, opS, pNone, pSome, seqI', itsD, sItS, putD, wipeE, backE, List.getElem_range], by simp [-List.map_map, fnF, en0, seqS, passS, noS, exprS, retS, retN, retM, putE, setS, iteS, vOfE, eOfV, oOfV, kI, kB, kS, kN, nmV, nmO, op1, op2, opC, tst, tru, truD, notT, andT, orT, blV, vbl, andV, orV, notV, iteE, aNil, aCons, lNil, lCons, tupE, lstE, dicE, Opd.get, callF, frR, callI, callL, own1, addD, subD, negD, cmpD, lenD, intD, tupD, lisD, absD, isiD, tyD, min2D, max2D, Pv.R.of, raiseS, asgS, nameG, nilG, consG, tupG, isD, nisD, isNB, opS, pNone, pSome, seqI', itsD, sItS, putD, wipeE, backE, hled], some (.int i, 0), 0, rfl⟩)
  simp only [List.length_range] at he
  have a5 : g_walk_number_5 (ne (Gd n es) (.int x) (.int y) (.int k) none (some (nearD (nearP n es), 2)) (some (rowD (rowX (nearP n es) n x 0), 1))) = .nx (ne (Gd n es) (.int x) (.int y) (.int k) kk (some (nearD (nearP n es), d)) (some (rowD (rowX (nearP n es) n x k), 1))) :=
    (forS_ok (rg1_ok (n := k) (env1 := ne (Gd n es) (.int x) (.int y) (.int k) none (some (nearD (nearP n es), 2)) (some (rowD (rowX (nearP n es) n x 0), 1))) (by simp [-List.map_map, fnF, en0, seqS, passS, noS, exprS, retS, retN, retM, putE, setS, iteS, vOfE, eOfV, oOfV, kI, kB, kS, kN, nmV, nmO, op1, op2, opC, tst, tru, truD, notT, andT, orT, blV, vbl, andV, orV, notV, iteE, aNil, aCons, lNil, lCons, tupE, lstE, dicE, Opd.get, callF, frR, callI, callL, own1, addD, subD, negD, cmpD, lenD, intD, tupD, lisD, absD, isiD, tyD, min2D, max2D, Pv.R.of, raiseS, asgS, nameG, nilG, consG, tupG, isD, nisD, isNB, opS, pNone, pSome, seqI', itsD, sItS, putD, wipeE, backE]) (by omega))).trans he
  have hr := idx_row (row := rowX (nearP n es) n x k) (y := y) (by rw [rowX_len h.l]; exact hy)
  have hr' : idxD (rowD (rowX (nearP n es) n x k)) (.int y) = some (.int (nth (rowX (nearP n es) n x k) y : Nat), 0) := hr
  have a6 : g_walk_number_6 (ne (Gd n es) (.int x) (.int y) (.int k) kk (some (nearD (nearP n es), d)) (some (rowD (rowX (nearP n es) n x k), 1))) = .ret (.int (nth (rowX (nearP n es) n x k) y : Nat), 0) (ne (Gd n es) (.int x) (.int y) (.int k) kk (some (nearD (nearP n es), d)) (some (rowD (rowX (nearP n es) n x k), 1))) := by
    generalize rowD (rowX (nearP n es) n x k) = A at *
    simp [-List.map_map, fnF, en0, seqS, passS, noS, exprS, retS, retN, retM, putE, setS, iteS, vOfE, eOfV, oOfV, kI, kB, kS, kN, nmV, nmO, op1, op2, opC, tst, tru, truD, notT, andT, orT, blV, vbl, andV, orV, notV, iteE, aNil, aCons, lNil, lCons, tupE, lstE, dicE, Opd.get, callF, frR, callI, callL, own1, addD, subD, negD, cmpD, lenD, intD, tupD, lisD, absD, isiD, tyD, min2D, max2D, Pv.R.of, raiseS, asgS, nameG, nilG, consG, tupG, isD, nisD, isNB, opS, pNone, pSome, seqI', itsD, sItS, putD, wipeE, backE, hr']
  exact fnF_ret ((seqS_nx a1).trans ((seqS_nx a2).trans ((seqS_nx a3).trans ((seqS_nx a4).trans ((seqS_nx a5).trans a6)))))
end L47
end

section
open Pv PySem
set_option Elab.async false
set_option linter.all false
set_option maxRecDepth 100000
namespace L47
theorem leN_iff (p q : E2) : leN p q = true ↔ p.1 < q.1 ∨ (p.1 = q.1 ∧ p.2 ≤ q.2) := by
  unfold leN
  by_cases h : p.1 = q.1
  · simp [h]
  · simp [h]
theorem sorted_sortP (es : List E2) : (sortP es).Pairwise fun p q => leN p q = true := by
  unfold sortP
  rw [msr_eq leN _ _ (Nat.le_succ _)]
  exact List.pairwise_mergeSort (fun a b c h1 h2 => by
    rw [leN_iff] at *
    omega) (fun a b => by
    rw [Bool.or_eq_true, leN_iff, leN_iff]
    omega) es
theorem chain_of : ∀ {es : List E2}, (es.Pairwise fun p q => leN p q = true) → chain es = true
  | [], _ => rfl
  | [p], _ => by simp [chain]
  | p :: q :: es, h => by
    have ih := chain_of (es := q :: es) (List.Pairwise.of_cons h)
    unfold chain at ih ⊢
    have h0 := (List.pairwise_cons.mp h).1 q List.mem_cons_self
    simp only [List.drop_succ_cons, List.drop_zero, List.zip_cons_cons, List.all_cons, h0, Bool.true_and] at ih ⊢
    exact ih
theorem okg_sort {n : Nat} {es : List E2} (h1 : 1 ≤ n) (h4 : n ≤ 400) (hl : es.length ≤ 4000) (h : ∀ p ∈ es, p.1 ≤ p.2 ∧ p.2 < n) : Okg n (sortP es) := by
  refine ⟨h1, h4, by rw [sortP_len]; exact hl, ?_, chain_of (sorted_sortP es)⟩
  rw [List.all_eq_true]
  intro p hp
  have := h p ((msr_perm leN es).mem_iff.mp hp)
  simp [okE]
  omega
theorem take_eq : F__law_take = lawTake := rfl
/-- a draw -/
theorem take_nat (a b : Int) (m : Nat) (hm : 0 < m) (hl : m ≤ 1000) : ∃ (v : Nat) (a' b' : Int), F__law_take (some (.lst [.int a, .int b], 1)) [.int m] = .ok (.int v, 0) (some (.lst [.int a', .int b'], 1)) ∧ v < m := by
  have hlog : (m : Int).natAbs.log2 < 9000 := by
    have h1 : (m : Int).natAbs = m := by omega
    rw [h1]
    have : m.log2 ≤ m := Nat.log2_le_self m
    omega
  obtain ⟨v, a', b', h1, h2, h3⟩ := lawTake_ok a b m (by omega) hlog
  obtain ⟨u, rfl⟩ : ∃ u : Nat, v = u := ⟨v.toNat, by omega⟩
  exact ⟨u, a', b', h1, by omega⟩
abbrev ge (s : Sl) (m : D) (n : Nat) (es : List E2) (x t y : Sl) : En := [s, some (m, 0), some (.int n, 0), some (.lst (es.map pr), 1), x, t, y]
abbrev stt (a b : Int) : Sl := some (.lst [.int a, .int b], 1)
abbrev gB1 : En → SR := (iteS (tst (op2 (cmpD fun i j => decide (j < i)) (oOfV ((vOfE (callI 2 (F__law_take) 0 (aCons (kI 8) aNil))))) (oOfV (kI 0)))) (appS 3 ((tupE (aCons ((vOfE (callI 2 (F__law_take) 0 (aCons ((nmV 4)) aNil)))) (aCons ((nmV 4)) aNil))))) passS)
theorem gB1_ok (a b : Int) (m : D) (n : Nat) (es : List E2) (x : Nat) (t y : Sl) (hx : 0 < x) (hx2 : x < 400) (hl : es.length ≤ 1000) : ∃ a' b' es', gB1 (ge (stt a b) m n es (some (.int x, 0)) t y) = .nx (ge (stt a' b') m n es' (some (.int x, 0)) t y) ∧ (es' = es ∨ ∃ u, u < x ∧ es' = es ++ [(u, x)]) := by
  obtain ⟨v, a1, b1, h1, h2⟩ := take_nat a b 8 (by omega) (by omega)
  have h1' : F__law_take (some (.lst [.int a, .int b], 1)) [.int 8] = .ok (.int v, 0) (some (.lst [.int a1, .int b1], 1)) := h1
  by_cases hv : 0 < v
  · obtain ⟨u, a2, b2, h3, h4⟩ := take_nat a1 b1 x hx (by omega)
    refine ⟨a2, b2, es ++ [(u, x)], ?_, .inr ⟨u, h4, rfl⟩⟩
    have hl' : es.length < lim := lt_lim (by omega)
    refine (iteS_t (e := ge (stt a1 b1) m n es (some (.int x, 0)) t y) (by simp [-List.map_map, fnF, en0, seqS, passS, noS, exprS, retS, retN, retM, putE, setS, iteS, vOfE, eOfV, oOfV, kI, kB, kS, kN, nmV, nmO, op1, op2, opC, tst, tru, truD, notT, andT, orT, blV, vbl, andV, orV, notV, iteE, aNil, aCons, lNil, lCons, tupE, lstE, dicE, Opd.get, callF, frR, callI, callL, own1, addD, subD, negD, cmpD, lenD, intD, tupD, lisD, absD, isiD, tyD, min2D, max2D, Pv.R.of, raiseS, asgS, nameG, nilG, consG, tupG, isD, nisD, isNB, opS, pNone, pSome, seqI', itsD, sItS, putD, wipeE, backE, h1', hv])).trans ?_
    unfold appS
    rw [if_pos (by rfl)]
    simp [-List.map_map, fnF, en0, seqS, passS, noS, exprS, retS, retN, retM, putE, setS, iteS, vOfE, eOfV, oOfV, kI, kB, kS, kN, nmV, nmO, op1, op2, opC, tst, tru, truD, notT, andT, orT, blV, vbl, andV, orV, notV, iteE, aNil, aCons, lNil, lCons, tupE, lstE, dicE, Opd.get, callF, frR, callI, callL, own1, addD, subD, negD, cmpD, lenD, intD, tupD, lisD, absD, isiD, tyD, min2D, max2D, Pv.R.of, raiseS, asgS, nameG, nilG, consG, tupG, isD, nisD, isNB, opS, pNone, pSome, seqI', itsD, sItS, putD, wipeE, backE, h3, hl', pr]
  · refine ⟨a1, b1, es, ?_, .inl rfl⟩
    exact (iteS_f (e := ge (stt a1 b1) m n es (some (.int x, 0)) t y) (by simp [-List.map_map, fnF, en0, seqS, passS, noS, exprS, retS, retN, retM, putE, setS, iteS, vOfE, eOfV, oOfV, kI, kB, kS, kN, nmV, nmO, op1, op2, opC, tst, tru, truD, notT, andT, orT, blV, vbl, andV, orV, notV, iteE, aNil, aCons, lNil, lCons, tupE, lstE, dicE, Opd.get, callF, frR, callI, callL, own1, addD, subD, negD, cmpD, lenD, intD, tupD, lisD, absD, isiD, tyD, min2D, max2D, Pv.R.of, raiseS, asgS, nameG, nilG, consG, tupG, isD, nisD, isNB, opS, pNone, pSome, seqI', itsD, sItS, putD, wipeE, backE, h1', hv])).trans rfl
abbrev gB2 : En → SR := (seqS
  (parS 4 6 (lCons ((callI 2 (F__law_take) 0 (aCons ((nmV 2)) aNil))) (lCons ((callI 2 (F__law_take) 0 (aCons ((nmV 2)) aNil))) lNil))) (appS 3 ((tupE (aCons ((vOfE (op2 min2D (nmO 4) (nmO 6)))) (aCons ((vOfE (op2 max2D (nmO 4) (nmO 6)))) aNil))))))
theorem gB2_ok (a b : Int) (m : D) (n : Nat) (es : List E2) (x t y : Sl) (hn : 0 < n) (hn2 : n ≤ 400) (hl : es.length ≤ 1000) : ∃ a' b' x' y' p, gB2 (ge (stt a b) m n es x t y) = .nx (ge (stt a' b') m n (es ++ [p]) x' t y') ∧ p.1 ≤ p.2 ∧ p.2 < n := by
  obtain ⟨u, a1, b1, h1, h2⟩ := take_nat a b n hn (by omega)
  obtain ⟨v, a2, b2, h3, h4⟩ := take_nat a1 b1 n hn (by omega)
  have e1 : ((min u v : Nat) : Int) = min (u : Int) v := by omega
  have e2 : ((max u v : Nat) : Int) = max (u : Int) v := by omega
  have hl' : es.length < lim := lt_lim (by omega)
  refine ⟨a2, b2, some (.int u, 0), some (.int v, 0), (min u v, max u v), ?_, by simp; omega, by simp; omega⟩
  refine (seqS_nx (show parS 4 6 _ _ = .nx (ge (stt a2 b2) m n es (some (.int u, 0)) t (some (.int v, 0))) by simp [-List.map_map, fnF, en0, seqS, passS, noS, exprS, retS, retN, retM, putE, setS, iteS, vOfE, eOfV, oOfV, kI, kB, kS, kN, nmV, nmO, op1, op2, opC, tst, tru, truD, notT, andT, orT, blV, vbl, andV, orV, notV, iteE, aNil, aCons, lNil, lCons, tupE, lstE, dicE, Opd.get, callF, frR, callI, callL, own1, addD, subD, negD, cmpD, lenD, intD, tupD, lisD, absD, isiD, tyD, min2D, max2D, Pv.R.of, raiseS, asgS, nameG, nilG, consG, tupG, isD, nisD, isNB, opS, pNone, pSome, seqI', itsD, sItS, putD, wipeE, backE, parS, h1, h3])).trans ?_
  unfold appS
  rw [if_pos (by rfl)]
  simp [-List.map_map, fnF, en0, seqS, passS, noS, exprS, retS, retN, retM, putE, setS, iteS, vOfE, eOfV, oOfV, kI, kB, kS, kN, nmV, nmO, op1, op2, opC, tst, tru, truD, notT, andT, orT, blV, vbl, andV, orV, notV, iteE, aNil, aCons, lNil, lCons, tupE, lstE, dicE, Opd.get, callF, frR, callI, callL, own1, addD, subD, negD, cmpD, lenD, intD, tupD, lisD, absD, isiD, tyD, min2D, max2D, Pv.R.of, raiseS, asgS, nameG, nilG, consG, tupG, isD, nisD, isNB, opS, pNone, pSome, seqI', itsD, sItS, putD, wipeE, backE, hl', pr, e1, e2]
end L47
end

section
open Pv PySem
set_option Elab.async false
set_option linter.all false
set_option maxRecDepth 100000
namespace L47
/-- edges x <= y < n -/
def Ed (n : Nat) (es : List E2) : Prop := ∀ p ∈ es, p.1 ≤ p.2 ∧ p.2 < n
theorem ed_app {n : Nat} {es : List E2} {p : E2} (h : Ed n es) (hp : p.1 ≤ p.2 ∧ p.2 < n) : Ed n (es ++ [p]) := by
  intro q hq
  rcases List.mem_append.mp hq with hq | hq
  · exact h q hq
  · rw [List.mem_singleton.mp hq]; exact hp
theorem graph_ok (a b : Int) (m : Nat) (hm : 0 < m) (hm2 : m ≤ 40) : ∃ (n : Nat) (es : List E2) (a' b' : Int), F__law_graph (some (.lst [.int a, .int b], 1)) [.int m] = .ok (Gd n es, 0) (some (.lst [.int a', .int b'], 1)) ∧ Okg n es ∧ n ≤ 40 ∧ es.length ≤ 50 := by
  obtain ⟨v, a1, b1, h1, h2⟩ := take_nat a b m hm (by omega)
  have e1 : g__law_graph_1 (en0 7 (some (.lst [.int a, .int b], 1)) [.int m]) = .nx [stt a1 b1, some (.int m, 0), some (.int (1 + v : Nat), 0), none, none, none, none] := by
    simp [-List.map_map, fnF, en0, seqS, passS, noS, exprS, retS, retN, retM, putE, setS, iteS, vOfE, eOfV, oOfV, kI, kB, kS, kN, nmV, nmO, op1, op2, opC, tst, tru, truD, notT, andT, orT, blV, vbl, andV, orV, notV, iteE, aNil, aCons, lNil, lCons, tupE, lstE, dicE, Opd.get, callF, frR, callI, callL, own1, addD, subD, negD, cmpD, lenD, intD, tupD, lisD, absD, isiD, tyD, min2D, max2D, Pv.R.of, raiseS, asgS, nameG, nilG, consG, tupG, isD, nisD, isNB, opS, pNone, pSome, seqI', itsD, sItS, putD, wipeE, backE, h1]
  have e2 : g__law_graph_2 [stt a1 b1, some (.int m, 0), some (.int (1 + v : Nat), 0), none, none, none, none] = .nx (ge (stt a1 b1) (.int m) (1 + v) [] none none none) := by
    simp [-List.map_map, fnF, en0, seqS, passS, noS, exprS, retS, retN, retM, putE, setS, iteS, vOfE, eOfV, oOfV, kI, kB, kS, kN, nmV, nmO, op1, op2, opC, tst, tru, truD, notT, andT, orT, blV, vbl, andV, orV, notV, iteE, aNil, aCons, lNil, lCons, tupE, lstE, dicE, Opd.get, callF, frR, callI, callL, own1, addD, subD, negD, cmpD, lenD, intD, tupD, lisD, absD, isiD, tyD, min2D, max2D, Pv.R.of, raiseS, asgS, nameG, nilG, consG, tupG, isD, nisD, isNB, opS, pNone, pSome, seqI', itsD, sItS, putD, wipeE, backE]
  obtain ⟨n, hn⟩ : ∃ n, n = 1 + v := ⟨_, rfl⟩
  rw [← hn] at e1 e2
  -- the first loop
  obtain ⟨e, he, a2, b2, es, x, rfl, hed, hlen⟩ := loopS_ex (g := nameG 4) (body := gB1) (fun i : Nat => .int (1 + i : Nat)) (List.range (n - 1))
    (fun i env => ∃ a2 b2 es x, env = ge (stt a2 b2) (.int m) n es x none none ∧ Ed n es ∧ es.length ≤ i)
    (ge (stt a1 b1) (.int m) n [] none none none) ⟨a1, b1, [], none, rfl, (fun p hp => nomatch hp), Nat.le_refl 0⟩ (fun i hi env hP => by
      obtain ⟨a2, b2, es, x, rfl, hed, hlen⟩ := hP
      simp only [List.length_range] at hi
      obtain ⟨a3, b3, es', h3, h4⟩ := gB1_ok a2 b2 (.int m) n es (1 + i) none none (by omega) (by omega) (by omega)
      refine ⟨ge (stt a2 b2) (.int m) n es (some (.int (1 + i : Nat), 0)) none none, _, by simp [-List.map_map, fnF, en0, seqS, passS, noS, exprS, retS, retN, retM, putE, setS, iteS, vOfE, eOfV, oOfV, kI, kB, kS, kN, nmV, nmO, op1, op2, opC, tst, tru, truD, notT, andT, orT, blV, vbl, andV, orV, notV, iteE, aNil, aCons, lNil, lCons, tupE, lstE, dicE, Opd.get, callF, frR, callI, callL, own1, addD, subD, negD, cmpD, lenD, intD, tupD, lisD, absD, isiD, tyD, min2D, max2D, Pv.R.of, raiseS, asgS, nameG, nilG, consG, tupG, isD, nisD, isNB, opS, pNone, pSome, seqI', itsD, sItS, putD, wipeE, backE, List.getElem_range], h3, a3, b3, es', _, rfl, ?_, ?_⟩
      · rcases h4 with rfl | ⟨u, hu, rfl⟩
        · exact hed
        · exact ed_app hed ⟨by show u ≤ 1 + i; omega, by show 1 + i < n; omega⟩
      · rcases h4 with rfl | ⟨u, hu, rfl⟩
        · omega
        · simp; omega)
  have e3 : g__law_graph_3 (ge (stt a1 b1) (.int m) n [] none none none) = .nx (ge (stt a2 b2) (.int m) n es x none none) :=
    (forS_ok (rg2_ok (l := 1) (n := n) (env1 := ge (stt a1 b1) (.int m) n [] none none none) (by simp [-List.map_map, fnF, en0, seqS, passS, noS, exprS, retS, retN, retM, putE, setS, iteS, vOfE, eOfV, oOfV, kI, kB, kS, kN, nmV, nmO, op1, op2, opC, tst, tru, truD, notT, andT, orT, blV, vbl, andV, orV, notV, iteE, aNil, aCons, lNil, lCons, tupE, lstE, dicE, Opd.get, callF, frR, callI, callL, own1, addD, subD, negD, cmpD, lenD, intD, tupD, lisD, absD, isiD, tyD, min2D, max2D, Pv.R.of, raiseS, asgS, nameG, nilG, consG, tupG, isD, nisD, isNB, opS, pNone, pSome, seqI', itsD, sItS, putD, wipeE, backE]) (by omega) (by omega))).trans he
  simp only [List.length_range] at hlen
  -- the second
  obtain ⟨c, a3, b3, h3, h4⟩ := take_nat a2 b2 4 (by omega) (by omega)
  have h3' : F__law_take (some (.lst [.int a2, .int b2], 1)) [.int 4] = .ok (.int c, 0) (some (.lst [.int a3, .int b3], 1)) := h3
  obtain ⟨e', he', a4, b4, es2, x2, t2, y2, rfl, hed2, hlen2⟩ := loopS_ex (g := nameG 5) (body := gB2) (fun i : Nat => .int i) (List.range c)
    (fun i env => ∃ a4 b4 es2 x2 t2 y2, env = ge (stt a4 b4) (.int m) n es2 x2 t2 y2 ∧ Ed n es2 ∧ es2.length ≤ 40 + i)
    (ge (stt a3 b3) (.int m) n es x none none) ⟨a3, b3, es, x, none, none, rfl, hed, by omega⟩ (fun i hi env hP => by
      obtain ⟨a4, b4, es2, x2, t2, y2, rfl, hed2, hlen2⟩ := hP
      simp only [List.length_range] at hi
      obtain ⟨a5, b5, x5, y5, p, h5, h6⟩ := gB2_ok a4 b4 (.int m) n es2 x2 (some (.int i, 0)) y2 (by omega) (by omega) (by omega)
      exact ⟨ge (stt a4 b4) (.int m) n es2 x2 (some (.int i, 0)) y2, _, by simp [-List.map_map, fnF, en0, seqS, passS, noS, exprS, retS, retN, retM, putE, setS, iteS, vOfE, eOfV, oOfV, kI, kB, kS, kN, nmV, nmO, op1, op2, opC, tst, tru, truD, notT, andT, orT, blV, vbl, andV, orV, notV, iteE, aNil, aCons, lNil, lCons, tupE, lstE, dicE, Opd.get, callF, frR, callI, callL, own1, addD, subD, negD, cmpD, lenD, intD, tupD, lisD, absD, isiD, tyD, min2D, max2D, Pv.R.of, raiseS, asgS, nameG, nilG, consG, tupG, isD, nisD, isNB, opS, pNone, pSome, seqI', itsD, sItS, putD, wipeE, backE, List.getElem_range], h5, a5, b5, es2 ++ [p], x5, _, y5, rfl, ed_app hed2 h6, by simp; omega⟩)
  simp only [List.length_range] at hlen2
  have e4 : g__law_graph_4 (ge (stt a2 b2) (.int m) n es x none none) = .nx (ge (stt a4 b4) (.int m) n es2 x2 t2 y2) :=
    (forS_ok (rg1_ok (n := c) (env1 := ge (stt a3 b3) (.int m) n es x none none) (by simp [-List.map_map, fnF, en0, seqS, passS, noS, exprS, retS, retN, retM, putE, setS, iteS, vOfE, eOfV, oOfV, kI, kB, kS, kN, nmV, nmO, op1, op2, opC, tst, tru, truD, notT, andT, orT, blV, vbl, andV, orV, notV, iteE, aNil, aCons, lNil, lCons, tupE, lstE, dicE, Opd.get, callF, frR, callI, callL, own1, addD, subD, negD, cmpD, lenD, intD, tupD, lisD, absD, isiD, tyD, min2D, max2D, Pv.R.of, raiseS, asgS, nameG, nilG, consG, tupG, isD, nisD, isNB, opS, pNone, pSome, seqI', itsD, sItS, putD, wipeE, backE, h3']) (by omega))).trans he'
  have e5 : g__law_graph_5 (ge (stt a4 b4) (.int m) n es2 x2 t2 y2) = .ret (Gd n (sortP es2), 0) (ge (stt a4 b4) (.int m) n es2 x2 t2 y2) := by
    have := sort_pr es2
    simp [-List.map_map, fnF, en0, seqS, passS, noS, exprS, retS, retN, retM, putE, setS, iteS, vOfE, eOfV, oOfV, kI, kB, kS, kN, nmV, nmO, op1, op2, opC, tst, tru, truD, notT, andT, orT, blV, vbl, andV, orV, notV, iteE, aNil, aCons, lNil, lCons, tupE, lstE, dicE, Opd.get, callF, frR, callI, callL, own1, addD, subD, negD, cmpD, lenD, intD, tupD, lisD, absD, isiD, tyD, min2D, max2D, Pv.R.of, raiseS, asgS, nameG, nilG, consG, tupG, isD, nisD, isNB, opS, pNone, pSome, seqI', itsD, sItS, putD, wipeE, backE, sortD, this, Gd]
  refine ⟨n, sortP es2, a4, b4, ?_, okg_sort (by omega) (by omega) (by omega) hed2, by omega, by rw [sortP_len]; omega⟩
  have key := (seqS_nx e1).trans ((seqS_nx e2).trans ((seqS_nx e3).trans ((seqS_nx e4).trans e5)))
  show fnF 7 true g__law_graph _ _ = _
  unfold fnF
  unfold g__law_graph
  rw [key]
  rfl
end L47
end

section
open Pv PySem
set_option Elab.async false
set_option linter.all false
set_option maxRecDepth 100000
namespace L47
abbrev sTold : Str := PySem.Str.ofString "told"
abbrev sRaised : Str := PySem.Str.ofString "raised"
abbrev sMal : Str := PySem.Str.ofString "malformed"
theorem tk1 : PyData.strOk sTold = true := by decide +kernel
theorem tk2 : PyData.strOk sRaised = true := by decide +kernel
theorem tk3 : PyData.strOk sMal = true := by decide +kernel
/-- plain data: ints, texts, tuples of such -/
def plain : Nat → D → Bool
  | _, .int _ => true
  | _, .str s => PyData.strOk s
  | k + 1, .tup ds => ds.all (plain k) && decide (ds.length ≤ 100000)
  | _, _ => false
theorem idx_tup {ds : List D} {k : Nat} (h : k < ds.length) : idxD (.tup ds) (.int k) = some (ds[k], 0) := by
  show (L2.atI ds (k : Int)).map (·, 0) = _
  rw [at_nat h]
  rfl
theorem same_ok : ∀ (k : Nat) (d : D), plain k d = true → F__law_same (k + 1) none [d, d] = .ok (.bl true, 0) none
  | k, .int i, _ => by
    show fnF 3 false (g__law_same (F__law_same k)) none _ = _
    unfold g__law_same
    simp [-List.map_map, fnF, en0, seqS, passS, noS, exprS, retS, retN, retM, putE, setS, iteS, vOfE, eOfV, oOfV, kI, kB, kS, kN, nmV, nmO, op1, op2, opC, tst, tru, truD, notT, andT, orT, blV, vbl, andV, orV, notV, iteE, aNil, aCons, lNil, lCons, tupE, lstE, dicE, Opd.get, callF, frR, callI, callL, own1, addD, subD, negD, cmpD, lenD, intD, tupD, lisD, absD, isiD, tyD, min2D, max2D, Pv.R.of, raiseS, asgS, nameG, nilG, consG, tupG, isD, nisD, isNB, opS, pNone, pSome, seqI', itsD, sItS, putD, wipeE, backE]
  | k, .str s, h => by
    have h : PyData.strOk s = true := by
      cases k <;> exact h
    show fnF 3 false (g__law_same (F__law_same k)) none _ = _
    unfold g__law_same
    simp [-List.map_map, fnF, en0, seqS, passS, noS, exprS, retS, retN, retM, putE, setS, iteS, vOfE, eOfV, oOfV, kI, kB, kS, kN, nmV, nmO, op1, op2, opC, tst, tru, truD, notT, andT, orT, blV, vbl, andV, orV, notV, iteE, aNil, aCons, lNil, lCons, tupE, lstE, dicE, Opd.get, callF, frR, callI, callL, own1, addD, subD, negD, cmpD, lenD, intD, tupD, lisD, absD, isiD, tyD, min2D, max2D, Pv.R.of, raiseS, asgS, nameG, nilG, consG, tupG, isD, nisD, isNB, opS, pNone, pSome, seqI', itsD, sItS, putD, wipeE, backE, eqD_str h h]
  | k + 1, .tup ds, h => by
    unfold plain at h
    rw [Bool.and_eq_true, List.all_eq_true, decide_eq_true_eq] at h
    obtain ⟨h1, h2⟩ := h
    have c : comp (rg1 (aCons ((vOfE (op1 lenD (nmV 1 |> oOfV)))) aNil)) (nameG 2) yesT (eOfV (vOfE (callF 2 (F__law_same (k + 1)) (aCons (vOfE (op2 idxD (nmO 0) (nmO 2))) (aCons (vOfE (op2 idxD (nmO 1) (nmO 2))) aNil))))) 0 [2] [some (.tup ds, 0), some (.tup ds, 0), none] = .ok (.lst (List.replicate ds.length (.bl true)), 1) [some (.tup ds, 0), some (.tup ds, 0), none] := by
      rw [comp_fix (ds := (List.range ds.length).map fun k : Nat => .int k) (f := fun _ => .bl true) (rg1_ok (n := ds.length) (env1 := [some (.tup ds, 0), some (.tup ds, 0), none]) (by simp [-List.map_map, fnF, en0, seqS, passS, noS, exprS, retS, retN, retM, putE, setS, iteS, vOfE, eOfV, oOfV, kI, kB, kS, kN, nmV, nmO, op1, op2, opC, tst, tru, truD, notT, andT, orT, blV, vbl, andV, orV, notV, iteE, aNil, aCons, lNil, lCons, tupE, lstE, dicE, Opd.get, callF, frR, callI, callL, own1, addD, subD, negD, cmpD, lenD, intD, tupD, lisD, absD, isiD, tyD, min2D, max2D, Pv.R.of, raiseS, asgS, nameG, nilG, consG, tupG, isD, nisD, isNB, opS, pNone, pSome, seqI', itsD, sItS, putD, wipeE, backE]) (by omega)) (env0 := [some (.tup ds, 0), some (.tup ds, 0), none]) (env2 := [some (.tup ds, 0), some (.tup ds, 0), none]) rfl rfl (by apply le_lim; simp; omega) ?_]
      · rw [List.map_map, map_true ((fun _ => D.bl true) ∘ fun k : Nat => D.int k) _ fun _ _ => rfl, List.length_range]
      · intro d hd
        obtain ⟨j, hj, rfl⟩ := List.mem_map.mp hd
        have hj' := List.mem_range.mp hj
        have hi := idx_tup hj'
        have ih := same_ok k ds[j] (h1 _ (List.getElem_mem hj'))
        exact ⟨[some (.tup ds, 0), some (.tup ds, 0), some (.int j, 0)], [some (.tup ds, 0), some (.tup ds, 0), some (.int j, 0)], [some (.tup ds, 0), some (.tup ds, 0), some (.int j, 0)], by simp [-List.map_map, fnF, en0, seqS, passS, noS, exprS, retS, retN, retM, putE, setS, iteS, vOfE, eOfV, oOfV, kI, kB, kS, kN, nmV, nmO, op1, op2, opC, tst, tru, truD, notT, andT, orT, blV, vbl, andV, orV, notV, iteE, aNil, aCons, lNil, lCons, tupE, lstE, dicE, Opd.get, callF, frR, callI, callL, own1, addD, subD, negD, cmpD, lenD, intD, tupD, lisD, absD, isiD, tyD, min2D, max2D, Pv.R.of, raiseS, asgS, nameG, nilG, consG, tupG, isD, nisD, isNB, opS, pNone, pSome, seqI', itsD, sItS, putD, wipeE, backE], rfl, by simp [-List.map_map, fnF, en0, seqS, passS, noS, exprS, retS, retN, retM, putE, setS, iteS, vOfE, eOfV, oOfV, kI, kB, kS, kN, nmV, nmO, op1, op2, opC, tst, tru, truD, notT, andT, orT, blV, vbl, andV, orV, notV, iteE, aNil, aCons, lNil, lCons, tupE, lstE, dicE, Opd.get, callF, frR, callI, callL, own1, addD, subD, negD, cmpD, lenD, intD, tupD, lisD, absD, isiD, tyD, min2D, max2D, Pv.R.of, raiseS, asgS, nameG, nilG, consG, tupG, isD, nisD, isNB, opS, pNone, pSome, seqI', itsD, sItS, putD, wipeE, backE, hi, ih], rfl⟩
    have c' : comp (rg1 (aCons ((vOfE (op1 lenD (nmO 1)))) aNil)) (nameG 2) yesT (eOfV (vOfE (callF 2 (F__law_same (k + 1)) (aCons (vOfE (op2 idxD (nmO 0) (nmO 2))) (aCons (vOfE (op2 idxD (nmO 1) (nmO 2))) aNil))))) 0 [2] [some (.tup ds, 0), some (.tup ds, 0), none] = .ok (.lst (List.replicate ds.length (.bl true)), 1) [some (.tup ds, 0), some (.tup ds, 0), none] := c
    show fnF 3 false (g__law_same (F__law_same (k + 1))) none _ = _
    unfold g__law_same
    simp [-List.map_map, fnF, en0, seqS, passS, noS, exprS, retS, retN, retM, putE, setS, iteS, vOfE, eOfV, oOfV, kI, kB, kS, kN, nmV, nmO, op1, op2, opC, tst, tru, truD, notT, andT, orT, blV, vbl, andV, orV, notV, iteE, aNil, aCons, lNil, lCons, tupE, lstE, dicE, Opd.get, callF, frR, callI, callL, own1, addD, subD, negD, cmpD, lenD, intD, tupD, lisD, absD, isiD, tyD, min2D, max2D, Pv.R.of, raiseS, asgS, nameG, nilG, consG, tupG, isD, nisD, isNB, opS, pNone, pSome, seqI', itsD, sItS, putD, wipeE, backE, c', allD_true]
  | 0, .tup _, h => by cases h
  | k, .non, h => by cases k <;> cases h
  | k, .bl _, h => by cases k <;> cases h
  | k, .fn _, h => by cases k <;> cases h
  | k, .lst _, h => by cases k <;> cases h
  | k, .dic _ _, h => by cases k <;> cases h
  | k, .scr _, h => by cases k <;> cases h
/-- what _law_told makes of a result -/
def toldD (v : D) : D := .tup [.str sTold, v]
def malD : D := .tup [.str sRaised, .str sMal]
theorem told2 {i : Nat} {F : Sl → List D → FR} {a b : D} {p : D × Nat} {fin : Sl} (hT : tab i = some (2, F)) (hF : F none [a, b] = .ok p fin) : F__law_told none [.fn i, .tup [a, b]] = .ok (toldD p.1, 0) none := by
  unfold F__law_told g__law_told
  simp [-List.map_map, fnF, en0, seqS, passS, noS, exprS, retS, retN, retM, putE, setS, iteS, vOfE, eOfV, oOfV, kI, kB, kS, kN, nmV, nmO, op1, op2, opC, tst, tru, truD, notT, andT, orT, blV, vbl, andV, orV, notV, iteE, aNil, aCons, lNil, lCons, tupE, lstE, dicE, Opd.get, callF, frR, callI, callL, own1, addD, subD, negD, cmpD, lenD, intD, tupD, lisD, absD, isiD, tyD, min2D, max2D, Pv.R.of, raiseS, asgS, nameG, nilG, consG, tupG, isD, nisD, isNB, opS, pNone, pSome, seqI', itsD, sItS, putD, wipeE, backE, hT, hF, tryS, at_0, at_1, idxD, toldD]
theorem told2x {i : Nat} {F : Sl → List D → FR} {a b : D} (hT : tab i = some (2, F)) (hF : F none [a, b] = .ex (.mk 1 [])) : F__law_told none [.fn i, .tup [a, b]] = .ok (malD, 0) none := by
  unfold F__law_told g__law_told
  simp [-List.map_map, fnF, en0, seqS, passS, noS, exprS, retS, retN, retM, putE, setS, iteS, vOfE, eOfV, oOfV, kI, kB, kS, kN, nmV, nmO, op1, op2, opC, tst, tru, truD, notT, andT, orT, blV, vbl, andV, orV, notV, iteE, aNil, aCons, lNil, lCons, tupE, lstE, dicE, Opd.get, callF, frR, callI, callL, own1, addD, subD, negD, cmpD, lenD, intD, tupD, lisD, absD, isiD, tyD, min2D, max2D, Pv.R.of, raiseS, asgS, nameG, nilG, consG, tupG, isD, nisD, isNB, opS, pNone, pSome, seqI', itsD, sItS, putD, wipeE, backE, hT, hF, tryS, at_0, at_1, idxD, malD, SR.noX]
theorem at_2 {α : Type} {x y z : α} {xs : List α} : L2.atI (x :: y :: z :: xs) 2 = some z := at_nat (xs := x :: y :: z :: xs) (k := 2) (by simp)
theorem at_3 {α : Type} {x y z u : α} {xs : List α} : L2.atI (x :: y :: z :: u :: xs) 3 = some u := at_nat (xs := x :: y :: z :: u :: xs) (k := 3) (by simp)
theorem told4 {i : Nat} {F : Sl → List D → FR} {a b c d : D} {p : D × Nat} {fin : Sl} (hT : tab i = some (4, F)) (hF : F none [a, b, c, d] = .ok p fin) : F__law_told none [.fn i, .tup [a, b, c, d]] = .ok (toldD p.1, 0) none := by
  unfold F__law_told g__law_told
  simp [-List.map_map, fnF, en0, seqS, passS, noS, exprS, retS, retN, retM, putE, setS, iteS, vOfE, eOfV, oOfV, kI, kB, kS, kN, nmV, nmO, op1, op2, opC, tst, tru, truD, notT, andT, orT, blV, vbl, andV, orV, notV, iteE, aNil, aCons, lNil, lCons, tupE, lstE, dicE, Opd.get, callF, frR, callI, callL, own1, addD, subD, negD, cmpD, lenD, intD, tupD, lisD, absD, isiD, tyD, min2D, max2D, Pv.R.of, raiseS, asgS, nameG, nilG, consG, tupG, isD, nisD, isNB, opS, pNone, pSome, seqI', itsD, sItS, putD, wipeE, backE, hT, hF, tryS, at_0, at_1, at_2, at_3, idxD, toldD]
theorem told4x {i : Nat} {F : Sl → List D → FR} {a b c d : D} (hT : tab i = some (4, F)) (hF : F none [a, b, c, d] = .ex (.mk 1 [])) : F__law_told none [.fn i, .tup [a, b, c, d]] = .ok (malD, 0) none := by
  unfold F__law_told g__law_told
  simp [-List.map_map, fnF, en0, seqS, passS, noS, exprS, retS, retN, retM, putE, setS, iteS, vOfE, eOfV, oOfV, kI, kB, kS, kN, nmV, nmO, op1, op2, opC, tst, tru, truD, notT, andT, orT, blV, vbl, andV, orV, notV, iteE, aNil, aCons, lNil, lCons, tupE, lstE, dicE, Opd.get, callF, frR, callI, callL, own1, addD, subD, negD, cmpD, lenD, intD, tupD, lisD, absD, isiD, tyD, min2D, max2D, Pv.R.of, raiseS, asgS, nameG, nilG, consG, tupG, isD, nisD, isNB, opS, pNone, pSome, seqI', itsD, sItS, putD, wipeE, backE, hT, hF, tryS, at_0, at_1, at_2, at_3, idxD, malD, SR.noX]
theorem is_told {v : D} (h : plain 5 v = true) : F__law_is_told none [toldD v, v] = .ok (.bl true, 0) none := by
  have := same_ok 5 v h
  unfold F__law_is_told g__law_is_told
  simp [-List.map_map, fnF, en0, seqS, passS, noS, exprS, retS, retN, retM, putE, setS, iteS, vOfE, eOfV, oOfV, kI, kB, kS, kN, nmV, nmO, op1, op2, opC, tst, tru, truD, notT, andT, orT, blV, vbl, andV, orV, notV, iteE, aNil, aCons, lNil, lCons, tupE, lstE, dicE, Opd.get, callF, frR, callI, callL, own1, addD, subD, negD, cmpD, lenD, intD, tupD, lisD, absD, isiD, tyD, min2D, max2D, Pv.R.of, raiseS, asgS, nameG, nilG, consG, tupG, isD, nisD, isNB, opS, pNone, pSome, seqI', itsD, sItS, putD, wipeE, backE, toldD, idxD, at_0, at_1, eqD_str tk1 tk1, this]
theorem is_raised : F__law_is_raised none [malD, .str sMal] = .ok (.bl true, 0) none := by
  have := same_ok 5 (.str sMal) tk3
  unfold F__law_is_raised g__law_is_raised
  simp [-List.map_map, fnF, en0, seqS, passS, noS, exprS, retS, retN, retM, putE, setS, iteS, vOfE, eOfV, oOfV, kI, kB, kS, kN, nmV, nmO, op1, op2, opC, tst, tru, truD, notT, andT, orT, blV, vbl, andV, orV, notV, iteE, aNil, aCons, lNil, lCons, tupE, lstE, dicE, Opd.get, callF, frR, callI, callL, own1, addD, subD, negD, cmpD, lenD, intD, tupD, lisD, absD, isiD, tyD, min2D, max2D, Pv.R.of, raiseS, asgS, nameG, nilG, consG, tupG, isD, nisD, isNB, opS, pNone, pSome, seqI', itsD, sItS, putD, wipeE, backE, malD, idxD, at_0, at_1, eqD_str tk2 tk2, this]
end L47
end

section
open Pv PySem
set_option Elab.async false
set_option linter.all false
set_option maxRecDepth 100000
namespace L47
/-- both tests of a value answer b -/
structure Val (v : D) (b : Bool) : Prop where
  p : F_is_rooted_graph none [v] = .ok (.bl b, 0) none
  l : F__law_is_graph none [v] = .ok (.bl b, 0) none
theorem check_bad {v : D} (h : Val v false) : F_check_graph none [v] = .ex (.mk 1 []) := by
  unfold F_check_graph g_check_graph
  simp [-List.map_map, fnF, en0, seqS, passS, noS, exprS, retS, retN, retM, putE, setS, iteS, vOfE, eOfV, oOfV, kI, kB, kS, kN, nmV, nmO, op1, op2, opC, tst, tru, truD, notT, andT, orT, blV, vbl, andV, orV, notV, iteE, aNil, aCons, lNil, lCons, tupE, lstE, dicE, Opd.get, callF, frR, callI, callL, own1, addD, subD, negD, cmpD, lenD, intD, tupD, lisD, absD, isiD, tyD, min2D, max2D, Pv.R.of, raiseS, asgS, nameG, nilG, consG, tupG, isD, nisD, isNB, opS, pNone, pSome, seqI', itsD, sItS, putD, wipeE, backE, h.p]
theorem closed_bad {v : D} (h : Val v false) (x : D) : F_closed_walks none [v, x] = .ex (.mk 1 []) := by
  unfold F_closed_walks g_closed_walks
  simp [-List.map_map, fnF, en0, seqS, passS, noS, exprS, retS, retN, retM, putE, setS, iteS, vOfE, eOfV, oOfV, kI, kB, kS, kN, nmV, nmO, op1, op2, opC, tst, tru, truD, notT, andT, orT, blV, vbl, andV, orV, notV, iteE, aNil, aCons, lNil, lCons, tupE, lstE, dicE, Opd.get, callF, frR, callI, callL, own1, addD, subD, negD, cmpD, lenD, intD, tupD, lisD, absD, isiD, tyD, min2D, max2D, Pv.R.of, raiseS, asgS, nameG, nilG, consG, tupG, isD, nisD, isNB, opS, pNone, pSome, seqI', itsD, sItS, putD, wipeE, backE, check_bad h]
theorem first_bad {v : D} (h : Val v false) (x : D) : F_first_walks none [v, x] = .ex (.mk 1 []) := by
  unfold F_first_walks g_first_walks
  simp [-List.map_map, fnF, en0, seqS, passS, noS, exprS, retS, retN, retM, putE, setS, iteS, vOfE, eOfV, oOfV, kI, kB, kS, kN, nmV, nmO, op1, op2, opC, tst, tru, truD, notT, andT, orT, blV, vbl, andV, orV, notV, iteE, aNil, aCons, lNil, lCons, tupE, lstE, dicE, Opd.get, callF, frR, callI, callL, own1, addD, subD, negD, cmpD, lenD, intD, tupD, lisD, absD, isiD, tyD, min2D, max2D, Pv.R.of, raiseS, asgS, nameG, nilG, consG, tupG, isD, nisD, isNB, opS, pNone, pSome, seqI', itsD, sItS, putD, wipeE, backE, check_bad h]
theorem walkn_bad {v : D} (h : Val v false) (x y k : D) : F_walk_number none [v, x, y, k] = .ex (.mk 1 []) := by
  unfold F_walk_number g_walk_number
  simp [-List.map_map, fnF, en0, seqS, passS, noS, exprS, retS, retN, retM, putE, setS, iteS, vOfE, eOfV, oOfV, kI, kB, kS, kN, nmV, nmO, op1, op2, opC, tst, tru, truD, notT, andT, orT, blV, vbl, andV, orV, notV, iteE, aNil, aCons, lNil, lCons, tupE, lstE, dicE, Opd.get, callF, frR, callI, callL, own1, addD, subD, negD, cmpD, lenD, intD, tupD, lisD, absD, isiD, tyD, min2D, max2D, Pv.R.of, raiseS, asgS, nameG, nilG, consG, tupG, isD, nisD, isNB, opS, pNone, pSome, seqI', itsD, sItS, putD, wipeE, backE, check_bad h]
theorem whole_int (n : Int) : F__law_whole none [.int n] = .ok (.bl true, 0) none := by
  unfold F__law_whole g__law_whole
  simp [-List.map_map, fnF, en0, seqS, passS, noS, exprS, retS, retN, retM, putE, setS, iteS, vOfE, eOfV, oOfV, kI, kB, kS, kN, nmV, nmO, op1, op2, opC, tst, tru, truD, notT, andT, orT, blV, vbl, andV, orV, notV, iteE, aNil, aCons, lNil, lCons, tupE, lstE, dicE, Opd.get, callF, frR, callI, callL, own1, addD, subD, negD, cmpD, lenD, intD, tupD, lisD, absD, isiD, tyD, min2D, max2D, Pv.R.of, raiseS, asgS, nameG, nilG, consG, tupG, isD, nisD, isNB, opS, pNone, pSome, seqI', itsD, sItS, putD, wipeE, backE]
theorem val_lst (xs : List D) : Val (.lst xs) false := ⟨by unfold F_is_rooted_graph g_is_rooted_graph; simp [-List.map_map, fnF, en0, seqS, passS, noS, exprS, retS, retN, retM, putE, setS, iteS, vOfE, eOfV, oOfV, kI, kB, kS, kN, nmV, nmO, op1, op2, opC, tst, tru, truD, notT, andT, orT, blV, vbl, andV, orV, notV, iteE, aNil, aCons, lNil, lCons, tupE, lstE, dicE, Opd.get, callF, frR, callI, callL, own1, addD, subD, negD, cmpD, lenD, intD, tupD, lisD, absD, isiD, tyD, min2D, max2D, Pv.R.of, raiseS, asgS, nameG, nilG, consG, tupG, isD, nisD, isNB, opS, pNone, pSome, seqI', itsD, sItS, putD, wipeE, backE], by unfold F__law_is_graph g__law_is_graph; simp [-List.map_map, fnF, en0, seqS, passS, noS, exprS, retS, retN, retM, putE, setS, iteS, vOfE, eOfV, oOfV, kI, kB, kS, kN, nmV, nmO, op1, op2, opC, tst, tru, truD, notT, andT, orT, blV, vbl, andV, orV, notV, iteE, aNil, aCons, lNil, lCons, tupE, lstE, dicE, Opd.get, callF, frR, callI, callL, own1, addD, subD, negD, cmpD, lenD, intD, tupD, lisD, absD, isiD, tyD, min2D, max2D, Pv.R.of, raiseS, asgS, nameG, nilG, consG, tupG, isD, nisD, isNB, opS, pNone, pSome, seqI', itsD, sItS, putD, wipeE, backE]⟩
theorem val_non : Val .non false := ⟨by unfold F_is_rooted_graph g_is_rooted_graph; simp [-List.map_map, fnF, en0, seqS, passS, noS, exprS, retS, retN, retM, putE, setS, iteS, vOfE, eOfV, oOfV, kI, kB, kS, kN, nmV, nmO, op1, op2, opC, tst, tru, truD, notT, andT, orT, blV, vbl, andV, orV, notV, iteE, aNil, aCons, lNil, lCons, tupE, lstE, dicE, Opd.get, callF, frR, callI, callL, own1, addD, subD, negD, cmpD, lenD, intD, tupD, lisD, absD, isiD, tyD, min2D, max2D, Pv.R.of, raiseS, asgS, nameG, nilG, consG, tupG, isD, nisD, isNB, opS, pNone, pSome, seqI', itsD, sItS, putD, wipeE, backE], by unfold F__law_is_graph g__law_is_graph; simp [-List.map_map, fnF, en0, seqS, passS, noS, exprS, retS, retN, retM, putE, setS, iteS, vOfE, eOfV, oOfV, kI, kB, kS, kN, nmV, nmO, op1, op2, opC, tst, tru, truD, notT, andT, orT, blV, vbl, andV, orV, notV, iteE, aNil, aCons, lNil, lCons, tupE, lstE, dicE, Opd.get, callF, frR, callI, callL, own1, addD, subD, negD, cmpD, lenD, intD, tupD, lisD, absD, isiD, tyD, min2D, max2D, Pv.R.of, raiseS, asgS, nameG, nilG, consG, tupG, isD, nisD, isNB, opS, pNone, pSome, seqI', itsD, sItS, putD, wipeE, backE]⟩
theorem val_int (i : Int) : Val (.int i) false := ⟨by unfold F_is_rooted_graph g_is_rooted_graph; simp [-List.map_map, fnF, en0, seqS, passS, noS, exprS, retS, retN, retM, putE, setS, iteS, vOfE, eOfV, oOfV, kI, kB, kS, kN, nmV, nmO, op1, op2, opC, tst, tru, truD, notT, andT, orT, blV, vbl, andV, orV, notV, iteE, aNil, aCons, lNil, lCons, tupE, lstE, dicE, Opd.get, callF, frR, callI, callL, own1, addD, subD, negD, cmpD, lenD, intD, tupD, lisD, absD, isiD, tyD, min2D, max2D, Pv.R.of, raiseS, asgS, nameG, nilG, consG, tupG, isD, nisD, isNB, opS, pNone, pSome, seqI', itsD, sItS, putD, wipeE, backE], by unfold F__law_is_graph g__law_is_graph; simp [-List.map_map, fnF, en0, seqS, passS, noS, exprS, retS, retN, retM, putE, setS, iteS, vOfE, eOfV, oOfV, kI, kB, kS, kN, nmV, nmO, op1, op2, opC, tst, tru, truD, notT, andT, orT, blV, vbl, andV, orV, notV, iteE, aNil, aCons, lNil, lCons, tupE, lstE, dicE, Opd.get, callF, frR, callI, callL, own1, addD, subD, negD, cmpD, lenD, intD, tupD, lisD, absD, isiD, tyD, min2D, max2D, Pv.R.of, raiseS, asgS, nameG, nilG, consG, tupG, isD, nisD, isNB, opS, pNone, pSome, seqI', itsD, sItS, putD, wipeE, backE]⟩
theorem val_str (s : Str) : Val (.str s) false := ⟨by unfold F_is_rooted_graph g_is_rooted_graph; simp [-List.map_map, fnF, en0, seqS, passS, noS, exprS, retS, retN, retM, putE, setS, iteS, vOfE, eOfV, oOfV, kI, kB, kS, kN, nmV, nmO, op1, op2, opC, tst, tru, truD, notT, andT, orT, blV, vbl, andV, orV, notV, iteE, aNil, aCons, lNil, lCons, tupE, lstE, dicE, Opd.get, callF, frR, callI, callL, own1, addD, subD, negD, cmpD, lenD, intD, tupD, lisD, absD, isiD, tyD, min2D, max2D, Pv.R.of, raiseS, asgS, nameG, nilG, consG, tupG, isD, nisD, isNB, opS, pNone, pSome, seqI', itsD, sItS, putD, wipeE, backE], by unfold F__law_is_graph g__law_is_graph; simp [-List.map_map, fnF, en0, seqS, passS, noS, exprS, retS, retN, retM, putE, setS, iteS, vOfE, eOfV, oOfV, kI, kB, kS, kN, nmV, nmO, op1, op2, opC, tst, tru, truD, notT, andT, orT, blV, vbl, andV, orV, notV, iteE, aNil, aCons, lNil, lCons, tupE, lstE, dicE, Opd.get, callF, frR, callI, callL, own1, addD, subD, negD, cmpD, lenD, intD, tupD, lisD, absD, isiD, tyD, min2D, max2D, Pv.R.of, raiseS, asgS, nameG, nilG, consG, tupG, isD, nisD, isNB, opS, pNone, pSome, seqI', itsD, sItS, putD, wipeE, backE]⟩
theorem val_1 (a : D) : Val (.tup [a]) false := ⟨by unfold F_is_rooted_graph g_is_rooted_graph; simp [-List.map_map, fnF, en0, seqS, passS, noS, exprS, retS, retN, retM, putE, setS, iteS, vOfE, eOfV, oOfV, kI, kB, kS, kN, nmV, nmO, op1, op2, opC, tst, tru, truD, notT, andT, orT, blV, vbl, andV, orV, notV, iteE, aNil, aCons, lNil, lCons, tupE, lstE, dicE, Opd.get, callF, frR, callI, callL, own1, addD, subD, negD, cmpD, lenD, intD, tupD, lisD, absD, isiD, tyD, min2D, max2D, Pv.R.of, raiseS, asgS, nameG, nilG, consG, tupG, isD, nisD, isNB, opS, pNone, pSome, seqI', itsD, sItS, putD, wipeE, backE], by unfold F__law_is_graph g__law_is_graph; simp [-List.map_map, fnF, en0, seqS, passS, noS, exprS, retS, retN, retM, putE, setS, iteS, vOfE, eOfV, oOfV, kI, kB, kS, kN, nmV, nmO, op1, op2, opC, tst, tru, truD, notT, andT, orT, blV, vbl, andV, orV, notV, iteE, aNil, aCons, lNil, lCons, tupE, lstE, dicE, Opd.get, callF, frR, callI, callL, own1, addD, subD, negD, cmpD, lenD, intD, tupD, lisD, absD, isiD, tyD, min2D, max2D, Pv.R.of, raiseS, asgS, nameG, nilG, consG, tupG, isD, nisD, isNB, opS, pNone, pSome, seqI', itsD, sItS, putD, wipeE, backE]⟩
theorem val_3 (a b c : D) : Val (.tup [a, b, c]) false := ⟨by unfold F_is_rooted_graph g_is_rooted_graph; simp [-List.map_map, fnF, en0, seqS, passS, noS, exprS, retS, retN, retM, putE, setS, iteS, vOfE, eOfV, oOfV, kI, kB, kS, kN, nmV, nmO, op1, op2, opC, tst, tru, truD, notT, andT, orT, blV, vbl, andV, orV, notV, iteE, aNil, aCons, lNil, lCons, tupE, lstE, dicE, Opd.get, callF, frR, callI, callL, own1, addD, subD, negD, cmpD, lenD, intD, tupD, lisD, absD, isiD, tyD, min2D, max2D, Pv.R.of, raiseS, asgS, nameG, nilG, consG, tupG, isD, nisD, isNB, opS, pNone, pSome, seqI', itsD, sItS, putD, wipeE, backE], by unfold F__law_is_graph g__law_is_graph; simp [-List.map_map, fnF, en0, seqS, passS, noS, exprS, retS, retN, retM, putE, setS, iteS, vOfE, eOfV, oOfV, kI, kB, kS, kN, nmV, nmO, op1, op2, opC, tst, tru, truD, notT, andT, orT, blV, vbl, andV, orV, notV, iteE, aNil, aCons, lNil, lCons, tupE, lstE, dicE, Opd.get, callF, frR, callI, callL, own1, addD, subD, negD, cmpD, lenD, intD, tupD, lisD, absD, isiD, tyD, min2D, max2D, Pv.R.of, raiseS, asgS, nameG, nilG, consG, tupG, isD, nisD, isNB, opS, pNone, pSome, seqI', itsD, sItS, putD, wipeE, backE]⟩
end L47
end

section
open Pv PySem
set_option Elab.async false
set_option linter.all false
set_option maxRecDepth 100000
namespace L47
/-- a pair whose second part is no tuple, or whose number is off -/
theorem val_notup (n : Nat) (d : D) (hd : ∀ xs, d ≠ .tup xs) (ht : ∃ s, tyD d = some s ∧ s ≠ "tuple") (h1 : 1 ≤ n) (h4 : n ≤ 400) : Val (.tup [.int n, d]) false := by
  obtain ⟨s, hs, hne⟩ := ht
  have ht : isiD "tuple" d = some (.bl false, 0) := by
    unfold isiD
    rw [hs]
    simp [hne]
  have g1 : ¬ (n : Int) < 1 := by omega
  have g2 : ¬ (400 : Int) < n := by omega
  have g3 : (1 : Int) ≤ n := by omega
  have g4 : (n : Int) ≤ 400 := by omega
  have i1 : isiD "tuple" (.tup [.int n, d]) = some (.bl true, 0) := rfl
  refine ⟨?_, ?_⟩
  · unfold F_is_rooted_graph g_is_rooted_graph
    simp [-List.map_map, fnF, en0, seqS, passS, retS, iteS, vOfE, eOfV, oOfV, kI, kB, nmV, nmO, op1, op2, tst, tru, truD, notT, orT, aNil, aCons, Opd.get, callF, frR, cmpD, lenD, asgS, nameG, nilG, consG, tupG, R.of, ht, i1, isint, g1, g2, at_0, at_1, idxD]
  · unfold F__law_is_graph g__law_is_graph
    simp [-List.map_map, fnF, en0, seqS, passS, retS, iteS, setS, putE, vOfE, eOfV, oOfV, kI, kB, nmV, nmO, op1, op2, opC, tst, tru, truD, notT, orT, aNil, aCons, Opd.get, callF, frR, cmpD, lenD, R.of, ht, i1, whole_int, g3, g4, at_0, at_1, idxD]
theorem val_off (n : Int) (d : D) (h : n < 1 ∨ 400 < n) : Val (.tup [.int n, d]) false := by
  have h1 : ¬ (1 ≤ n ∧ n ≤ 400) := by omega
  refine ⟨?_, ?_⟩
  · unfold F_is_rooted_graph g_is_rooted_graph
    by_cases g1 : n < 1
    · simp [-List.map_map, fnF, en0, seqS, passS, noS, exprS, retS, retN, retM, putE, setS, iteS, vOfE, eOfV, oOfV, kI, kB, kS, kN, nmV, nmO, op1, op2, opC, tst, tru, truD, notT, andT, orT, blV, vbl, andV, orV, notV, iteE, aNil, aCons, lNil, lCons, tupE, lstE, dicE, Opd.get, callF, frR, callI, callL, own1, addD, subD, negD, cmpD, lenD, intD, tupD, lisD, absD, isiD, tyD, min2D, max2D, Pv.R.of, raiseS, asgS, nameG, nilG, consG, tupG, isD, nisD, isNB, opS, pNone, pSome, seqI', itsD, sItS, putD, wipeE, backE, isint, g1, at_0, at_1, idxD]
    · have g2 : 400 < n := by omega
      simp [-List.map_map, fnF, en0, seqS, passS, noS, exprS, retS, retN, retM, putE, setS, iteS, vOfE, eOfV, oOfV, kI, kB, kS, kN, nmV, nmO, op1, op2, opC, tst, tru, truD, notT, andT, orT, blV, vbl, andV, orV, notV, iteE, aNil, aCons, lNil, lCons, tupE, lstE, dicE, Opd.get, callF, frR, callI, callL, own1, addD, subD, negD, cmpD, lenD, intD, tupD, lisD, absD, isiD, tyD, min2D, max2D, Pv.R.of, raiseS, asgS, nameG, nilG, consG, tupG, isD, nisD, isNB, opS, pNone, pSome, seqI', itsD, sItS, putD, wipeE, backE, isint, g1, g2, at_0, at_1, idxD]
  · unfold F__law_is_graph g__law_is_graph
    by_cases g1 : 1 ≤ n
    · have g2 : ¬ n ≤ 400 := by omega
      simp [-List.map_map, fnF, en0, seqS, passS, noS, exprS, retS, retN, retM, putE, setS, iteS, vOfE, eOfV, oOfV, kI, kB, kS, kN, nmV, nmO, op1, op2, opC, tst, tru, truD, notT, andT, orT, blV, vbl, andV, orV, notV, iteE, aNil, aCons, lNil, lCons, tupE, lstE, dicE, Opd.get, callF, frR, callI, callL, own1, addD, subD, negD, cmpD, lenD, intD, tupD, lisD, absD, isiD, tyD, min2D, max2D, Pv.R.of, raiseS, asgS, nameG, nilG, consG, tupG, isD, nisD, isNB, opS, pNone, pSome, seqI', itsD, sItS, putD, wipeE, backE, whole_int, g1, g2, at_0, at_1, idxD]
    · simp [-List.map_map, fnF, en0, seqS, passS, noS, exprS, retS, retN, retM, putE, setS, iteS, vOfE, eOfV, oOfV, kI, kB, kS, kN, nmV, nmO, op1, op2, opC, tst, tru, truD, notT, andT, orT, blV, vbl, andV, orV, notV, iteE, aNil, aCons, lNil, lCons, tupE, lstE, dicE, Opd.get, callF, frR, callI, callL, own1, addD, subD, negD, cmpD, lenD, intD, tupD, lisD, absD, isiD, tyD, min2D, max2D, Pv.R.of, raiseS, asgS, nameG, nilG, consG, tupG, isD, nisD, isNB, opS, pNone, pSome, seqI', itsD, sItS, putD, wipeE, backE, whole_int, g1, at_0, at_1, idxD]
end L47
end

section
open Pv PySem
set_option Elab.async false
set_option linter.all false
set_option maxRecDepth 100000
namespace L47
theorem val_bl (b : Bool) (d : D) : Val (.tup [.bl b, d]) false := by
  have e1 : F_is_integer none [.bl b] = .ok (.bl false, 0) none := by
    unfold F_is_integer g_is_integer
    simp [-List.map_map, fnF, en0, seqS, passS, noS, exprS, retS, retN, retM, putE, setS, iteS, vOfE, eOfV, oOfV, kI, kB, kS, kN, nmV, nmO, op1, op2, opC, tst, tru, truD, notT, andT, orT, blV, vbl, andV, orV, notV, iteE, aNil, aCons, lNil, lCons, tupE, lstE, dicE, Opd.get, callF, frR, callI, callL, own1, addD, subD, negD, cmpD, lenD, intD, tupD, lisD, absD, isiD, tyD, min2D, max2D, Pv.R.of, raiseS, asgS, nameG, nilG, consG, tupG, isD, nisD, isNB, opS, pNone, pSome, seqI', itsD, sItS, putD, wipeE, backE]
  have e2 : F__law_whole none [.bl b] = .ok (.bl false, 0) none := by
    unfold F__law_whole g__law_whole
    simp [-List.map_map, fnF, en0, seqS, passS, noS, exprS, retS, retN, retM, putE, setS, iteS, vOfE, eOfV, oOfV, kI, kB, kS, kN, nmV, nmO, op1, op2, opC, tst, tru, truD, notT, andT, orT, blV, vbl, andV, orV, notV, iteE, aNil, aCons, lNil, lCons, tupE, lstE, dicE, Opd.get, callF, frR, callI, callL, own1, addD, subD, negD, cmpD, lenD, intD, tupD, lisD, absD, isiD, tyD, min2D, max2D, Pv.R.of, raiseS, asgS, nameG, nilG, consG, tupG, isD, nisD, isNB, opS, pNone, pSome, seqI', itsD, sItS, putD, wipeE, backE]
  exact ⟨by unfold F_is_rooted_graph g_is_rooted_graph; simp [-List.map_map, fnF, en0, seqS, passS, noS, exprS, retS, retN, retM, putE, setS, iteS, vOfE, eOfV, oOfV, kI, kB, kS, kN, nmV, nmO, op1, op2, opC, tst, tru, truD, notT, andT, orT, blV, vbl, andV, orV, notV, iteE, aNil, aCons, lNil, lCons, tupE, lstE, dicE, Opd.get, callF, frR, callI, callL, own1, addD, subD, negD, cmpD, lenD, intD, tupD, lisD, absD, isiD, tyD, min2D, max2D, Pv.R.of, raiseS, asgS, nameG, nilG, consG, tupG, isD, nisD, isNB, opS, pNone, pSome, seqI', itsD, sItS, putD, wipeE, backE, e1, at_0, at_1, idxD], by unfold F__law_is_graph g__law_is_graph; simp [-List.map_map, fnF, en0, seqS, passS, noS, exprS, retS, retN, retM, putE, setS, iteS, vOfE, eOfV, oOfV, kI, kB, kS, kN, nmV, nmO, op1, op2, opC, tst, tru, truD, notT, andT, orT, blV, vbl, andV, orV, notV, iteE, aNil, aCons, lNil, lCons, tupE, lstE, dicE, Opd.get, callF, frR, callI, callL, own1, addD, subD, negD, cmpD, lenD, intD, tupD, lisD, absD, isiD, tyD, min2D, max2D, Pv.R.of, raiseS, asgS, nameG, nilG, consG, tupG, isD, nisD, isNB, opS, pNone, pSome, seqI', itsD, sItS, putD, wipeE, backE, e2, at_0, at_1, idxD]⟩
theorem val_strp (s : Str) (d : D) : Val (.tup [.str s, d]) false := by
  have e1 : F_is_integer none [.str s] = .ok (.bl false, 0) none := by
    unfold F_is_integer g_is_integer
    simp [-List.map_map, fnF, en0, seqS, passS, noS, exprS, retS, retN, retM, putE, setS, iteS, vOfE, eOfV, oOfV, kI, kB, kS, kN, nmV, nmO, op1, op2, opC, tst, tru, truD, notT, andT, orT, blV, vbl, andV, orV, notV, iteE, aNil, aCons, lNil, lCons, tupE, lstE, dicE, Opd.get, callF, frR, callI, callL, own1, addD, subD, negD, cmpD, lenD, intD, tupD, lisD, absD, isiD, tyD, min2D, max2D, Pv.R.of, raiseS, asgS, nameG, nilG, consG, tupG, isD, nisD, isNB, opS, pNone, pSome, seqI', itsD, sItS, putD, wipeE, backE]
  have e2 : F__law_whole none [.str s] = .ok (.bl false, 0) none := by
    unfold F__law_whole g__law_whole
    simp [-List.map_map, fnF, en0, seqS, passS, noS, exprS, retS, retN, retM, putE, setS, iteS, vOfE, eOfV, oOfV, kI, kB, kS, kN, nmV, nmO, op1, op2, opC, tst, tru, truD, notT, andT, orT, blV, vbl, andV, orV, notV, iteE, aNil, aCons, lNil, lCons, tupE, lstE, dicE, Opd.get, callF, frR, callI, callL, own1, addD, subD, negD, cmpD, lenD, intD, tupD, lisD, absD, isiD, tyD, min2D, max2D, Pv.R.of, raiseS, asgS, nameG, nilG, consG, tupG, isD, nisD, isNB, opS, pNone, pSome, seqI', itsD, sItS, putD, wipeE, backE]
  exact ⟨by unfold F_is_rooted_graph g_is_rooted_graph; simp [-List.map_map, fnF, en0, seqS, passS, noS, exprS, retS, retN, retM, putE, setS, iteS, vOfE, eOfV, oOfV, kI, kB, kS, kN, nmV, nmO, op1, op2, opC, tst, tru, truD, notT, andT, orT, blV, vbl, andV, orV, notV, iteE, aNil, aCons, lNil, lCons, tupE, lstE, dicE, Opd.get, callF, frR, callI, callL, own1, addD, subD, negD, cmpD, lenD, intD, tupD, lisD, absD, isiD, tyD, min2D, max2D, Pv.R.of, raiseS, asgS, nameG, nilG, consG, tupG, isD, nisD, isNB, opS, pNone, pSome, seqI', itsD, sItS, putD, wipeE, backE, e1, at_0, at_1, idxD], by unfold F__law_is_graph g__law_is_graph; simp [-List.map_map, fnF, en0, seqS, passS, noS, exprS, retS, retN, retM, putE, setS, iteS, vOfE, eOfV, oOfV, kI, kB, kS, kN, nmV, nmO, op1, op2, opC, tst, tru, truD, notT, andT, orT, blV, vbl, andV, orV, notV, iteE, aNil, aCons, lNil, lCons, tupE, lstE, dicE, Opd.get, callF, frR, callI, callL, own1, addD, subD, negD, cmpD, lenD, intD, tupD, lisD, absD, isiD, tyD, min2D, max2D, Pv.R.of, raiseS, asgS, nameG, nilG, consG, tupG, isD, nisD, isNB, opS, pNone, pSome, seqI', itsD, sItS, putD, wipeE, backE, e2, at_0, at_1, idxD]⟩
theorem val_long (n : Nat) (xs : List D) (h1 : 1 ≤ n) (h4 : n ≤ 400) (hl : 4000 < xs.length) : Val (.tup [.int n, .tup xs]) false := by
  have g1 : ¬ (n : Int) < 1 := by omega
  have g2 : ¬ (400 : Int) < n := by omega
  have g3 : (1 : Int) ≤ n := by omega
  have g4 : (n : Int) ≤ 400 := by omega
  have g5 : (4000 : Int) < xs.length := by omega
  exact ⟨by unfold F_is_rooted_graph g_is_rooted_graph; simp [-List.map_map, fnF, en0, seqS, passS, noS, exprS, retS, retN, retM, putE, setS, iteS, vOfE, eOfV, oOfV, kI, kB, kS, kN, nmV, nmO, op1, op2, opC, tst, tru, truD, notT, andT, orT, blV, vbl, andV, orV, notV, iteE, aNil, aCons, lNil, lCons, tupE, lstE, dicE, Opd.get, callF, frR, callI, callL, own1, addD, subD, negD, cmpD, lenD, intD, tupD, lisD, absD, isiD, tyD, min2D, max2D, Pv.R.of, raiseS, asgS, nameG, nilG, consG, tupG, isD, nisD, isNB, opS, pNone, pSome, seqI', itsD, sItS, putD, wipeE, backE, isint, g1, g2, g5, at_0, at_1, idxD], by unfold F__law_is_graph g__law_is_graph; simp [-List.map_map, fnF, en0, seqS, passS, noS, exprS, retS, retN, retM, putE, setS, iteS, vOfE, eOfV, oOfV, kI, kB, kS, kN, nmV, nmO, op1, op2, opC, tst, tru, truD, notT, andT, orT, blV, vbl, andV, orV, notV, iteE, aNil, aCons, lNil, lCons, tupE, lstE, dicE, Opd.get, callF, frR, callI, callL, own1, addD, subD, negD, cmpD, lenD, intD, tupD, lisD, absD, isiD, tyD, min2D, max2D, Pv.R.of, raiseS, asgS, nameG, nilG, consG, tupG, isD, nisD, isNB, opS, pNone, pSome, seqI', itsD, sItS, putD, wipeE, backE, whole_int, g3, g4, g5, at_0, at_1, idxD]⟩
end L47
end

section
open Pv PySem
set_option Elab.async false
set_option linter.all false
set_option maxRecDepth 100000
namespace L47
def enP (p : E2) : PyData := .tuple [.int p.1, .int p.2]
theorem py_prs : ∀ es : List E2, D.pyL (es.map pr) = some (es.map enP)
  | [] => rfl
  | p :: es => by
    have e : D.py (pr p) = some (enP p) := rfl
    rw [List.map_cons, D.pyL, e, py_prs es]
    rfl
theorem eqv_prs : ∀ es fs : List E2, PyData.eqvAll (es.map enP) (fs.map enP) = decide (es = fs)
  | [], [] => by simp [PyData.eqvAll]
  | [], _ :: _ => by simp [PyData.eqvAll]
  | _ :: _, [] => by simp [PyData.eqvAll]
  | (a, b) :: es, (c, d) :: fs => by
    rw [List.map_cons, List.map_cons, PyData.eqvAll, eqv_prs es fs]
    have e : PyData.eqv (enP (a, b)) (enP (c, d)) = (decide (a = c) && decide (b = d)) := by
      simp [enP, PyData.eqv, PyData.eqvAll]
      by_cases h1 : a = c <;> by_cases h2 : b = d <;> simp [h1, h2] <;> omega
    rw [e]
    by_cases h1 : a = c <;> by_cases h2 : b = d <;> simp [h1, h2]
theorem lay_prs : ∀ es : List E2, PyData.canLayAll0 (es.map enP) = true
  | [] => by simp [PyData.canLayAll0]
  | p :: es => by
    rw [List.map_cons, PyData.canLayAll0, lay_prs es]
    simp [enP, PyData.canLay0, PyData.canLayAll0]
theorem dep_prs : ∀ es : List E2, PyData.depthAll (es.map enP) ≤ 2
  | [] => by simp [PyData.depthAll]
  | p :: es => by
    have := dep_prs es
    rw [List.map_cons, PyData.depthAll]
    have e : (enP p).depth ≤ 2 := by simp [enP, PyData.depth, PyData.depthAll]
    omega
end L47
end

section
open Pv PySem
set_option Elab.async false
set_option linter.all false
set_option maxRecDepth 100000
namespace L47
theorem eqB_prs (es fs : List E2) : eqB (.lst (es.map pr)) (.lst (fs.map pr)) = some (decide (es = fs)) := by
  have h1 : D.py (.lst (es.map pr)) = some (.list (es.map enP)) := by rw [D.py, py_prs]; rfl
  have h2 : D.py (.lst (fs.map pr)) = some (.list (fs.map enP)) := by rw [D.py, py_prs]; rfl
  have sh : ∀ es : List E2, SeqAt.shaped (.list (es.map enP)) = true := fun es => by
    unfold SeqAt.shaped
    have := dep_prs es
    rw [Bool.and_eq_true]
    exact ⟨by rw [PyData.canLay0]; exact lay_prs es, decide_eq_true (by rw [PyData.depth]; omega)⟩
  unfold eqB
  rw [h1, h2]
  simp only [sh, Bool.and_self, if_true]
  rw [PyData.eqv, eqv_prs]
theorem eqD_prs (es fs : List E2) : eqD (.lst (es.map pr)) (.lst (fs.map pr)) = some (.bl (decide (es = fs)), 0) := by
  unfold eqD
  rw [eqB_prs]
  rfl
theorem pw_of_chain : ∀ {es : List E2}, chain es = true → es.Pairwise fun p q => leN p q = true
  | [], _ => .nil
  | [p], _ => by simp
  | p :: q :: es, h => by
    have hh : leN p q = true ∧ chain (q :: es) = true := by
      unfold chain at h ⊢
      simpa using h
    have ih := pw_of_chain hh.2
    refine List.Pairwise.cons (fun r hr => ?_) ih
    rcases List.mem_cons.mp hr with rfl | hr
    · exact hh.1
    · have h2 := (List.pairwise_cons.mp ih).1 r hr
      have h1 := hh.1
      rw [leN_iff] at h1 h2 ⊢
      omega
theorem chain_sort (es : List E2) : decide (es = sortP es) = chain es := by
  cases h : chain es with
  | true =>
    have : sortP es = es := by
      unfold sortP
      rw [msr_eq leN _ _ (Nat.le_succ _)]
      exact List.mergeSort_of_pairwise (pw_of_chain h)
    simp [this]
  | false =>
    have : ¬ es = sortP es := fun e => by
      have := chain_of (sorted_sortP es)
      rw [← e, h] at this
      cases this
    simp [this]
end L47
end

section
open Pv PySem
set_option Elab.async false
set_option linter.all false
set_option maxRecDepth 100000
namespace L47
abbrev ie (v edges : D) (x : Sl) : En := [some (v, 0), some (edges, 0), x]
abbrev igB : En → SR := (seqS
  (iteS (orT (notT (tru (oOfV ((vOfE (op1 (isiD "tuple") (nmO 2))))))) (orT (tst (op2 neD (oOfV ((vOfE (op1 lenD (nmO 2))))) (oOfV (kI 2)))) (orT (notT (tru (oOfV ((vOfE (callF 1 (F__law_whole) (aCons ((vOfE (op2 idxD (nmO 2) (oOfV (kI 0))))) aNil))))))) (notT (tru (oOfV ((vOfE (callF 1 (F__law_whole) (aCons ((vOfE (op2 idxD (nmO 2) (oOfV (kI 1))))) aNil)))))))))) (retS ((eOfV (kB false)))) passS) (iteS (notT (tst (opC3 (cmpD fun i j => decide (i ≤ j)) (cmpD fun i j => decide (i ≤ j)) (cmpD fun i j => decide (i < j)) (oOfV (kI 0)) (oOfV ((vOfE (op2 idxD (nmO 2) (oOfV (kI 0)))))) (oOfV ((vOfE (op2 idxD (nmO 2) (oOfV (kI 1)))))) (oOfV ((vOfE (op2 idxD (nmO 0) (oOfV (kI 0))))))))) (retS ((eOfV (kB false)))) passS))
theorem ig_good (n : Nat) (d e : D) (p : E2) (h : okE n p = true) : igB (ie (.tup [.int n, d]) e (some (pr p, 0))) = .nx (ie (.tup [.int n, d]) e (some (pr p, 0))) := by
  obtain ⟨a, b⟩ := p
  simp [okE] at h
  obtain ⟨h1, h2, h3⟩ := h
  unfold igB
  simp [-List.map_map, fnF, en0, seqS, passS, noS, exprS, retS, retN, retM, putE, setS, iteS, vOfE, eOfV, oOfV, kI, kB, kS, kN, nmV, nmO, op1, op2, opC, tst, tru, truD, notT, andT, orT, blV, vbl, andV, orV, notV, iteE, aNil, aCons, lNil, lCons, tupE, lstE, dicE, Opd.get, callF, frR, callI, callL, own1, addD, subD, negD, cmpD, lenD, intD, tupD, lisD, absD, isiD, tyD, min2D, max2D, Pv.R.of, raiseS, asgS, nameG, nilG, consG, tupG, isD, nisD, isNB, opS, pNone, pSome, seqI', itsD, sItS, putD, wipeE, backE, pr, whole_int, at_0, at_1, idxD, opC3, h1, h2, h3]
end L47
end

section
open Pv PySem
set_option Elab.async false
set_option linter.all false
set_option maxRecDepth 100000
namespace L47
theorem val_good {n : Nat} {es : List E2} (g : Okg n es) : Val (Gd n es) true := by
  refine ⟨rooted_ok g, ?_⟩
  have g3 : (1 : Int) ≤ n := by have := g.n1; omega
  have g4 : (n : Int) ≤ 400 := by have := g.n4; omega
  have g5 : ¬ (4000 : Int) < es.length := by have := g.l; omega
  have a1 : g__law_is_graph_1 (en0 3 none [Gd n es]) = .nx [some (Gd n es, 0), none, none] := by
    simp [-List.map_map, fnF, en0, seqS, passS, noS, exprS, retS, retN, retM, putE, setS, iteS, vOfE, eOfV, oOfV, kI, kB, kS, kN, nmV, nmO, op1, op2, opC, tst, tru, truD, notT, andT, orT, blV, vbl, andV, orV, notV, iteE, aNil, aCons, lNil, lCons, tupE, lstE, dicE, Opd.get, callF, frR, callI, callL, own1, addD, subD, negD, cmpD, lenD, intD, tupD, lisD, absD, isiD, tyD, min2D, max2D, Pv.R.of, raiseS, asgS, nameG, nilG, consG, tupG, isD, nisD, isNB, opS, pNone, pSome, seqI', itsD, sItS, putD, wipeE, backE, Gd, whole_int, g3, g4, at_0, at_1, idxD]
  have a2 : g__law_is_graph_2 [some (Gd n es, 0), none, none] = .nx (ie (Gd n es) (.tup (es.map pr)) none) := by
    simp [-List.map_map, fnF, en0, seqS, passS, noS, exprS, retS, retN, retM, putE, setS, iteS, vOfE, eOfV, oOfV, kI, kB, kS, kN, nmV, nmO, op1, op2, opC, tst, tru, truD, notT, andT, orT, blV, vbl, andV, orV, notV, iteE, aNil, aCons, lNil, lCons, tupE, lstE, dicE, Opd.get, callF, frR, callI, callL, own1, addD, subD, negD, cmpD, lenD, intD, tupD, lisD, absD, isiD, tyD, min2D, max2D, Pv.R.of, raiseS, asgS, nameG, nilG, consG, tupG, isD, nisD, isNB, opS, pNone, pSome, seqI', itsD, sItS, putD, wipeE, backE, Gd, at_1, idxD]
  have a3 : g__law_is_graph_3 (ie (Gd n es) (.tup (es.map pr)) none) = .nx (ie (Gd n es) (.tup (es.map pr)) none) := by
    simp [-List.map_map, fnF, en0, seqS, passS, noS, exprS, retS, retN, retM, putE, setS, iteS, vOfE, eOfV, oOfV, kI, kB, kS, kN, nmV, nmO, op1, op2, opC, tst, tru, truD, notT, andT, orT, blV, vbl, andV, orV, notV, iteE, aNil, aCons, lNil, lCons, tupE, lstE, dicE, Opd.get, callF, frR, callI, callL, own1, addD, subD, negD, cmpD, lenD, intD, tupD, lisD, absD, isiD, tyD, min2D, max2D, Pv.R.of, raiseS, asgS, nameG, nilG, consG, tupG, isD, nisD, isNB, opS, pNone, pSome, seqI', itsD, sItS, putD, wipeE, backE, g5]
  obtain ⟨e, he, x, rfl⟩ := loopS_ex (g := nameG 2) (body := igB) pr es (fun i env => ∃ x, env = ie (Gd n es) (.tup (es.map pr)) x) (ie (Gd n es) (.tup (es.map pr)) none) ⟨none, rfl⟩ (fun i hi env hP => by
    obtain ⟨x, rfl⟩ := hP
    have hk := List.all_eq_true.mp g.e es[i] (List.getElem_mem hi)
    exact ⟨ie (Gd n es) (.tup (es.map pr)) (some (pr es[i], 0)), _, by simp [-List.map_map, fnF, en0, seqS, passS, noS, exprS, retS, retN, retM, putE, setS, iteS, vOfE, eOfV, oOfV, kI, kB, kS, kN, nmV, nmO, op1, op2, opC, tst, tru, truD, notT, andT, orT, blV, vbl, andV, orV, notV, iteE, aNil, aCons, lNil, lCons, tupE, lstE, dicE, Opd.get, callF, frR, callI, callL, own1, addD, subD, negD, cmpD, lenD, intD, tupD, lisD, absD, isiD, tyD, min2D, max2D, Pv.R.of, raiseS, asgS, nameG, nilG, consG, tupG, isD, nisD, isNB, opS, pNone, pSome, seqI', itsD, sItS, putD, wipeE, backE], ig_good n _ _ es[i] hk, some (pr es[i], 0), rfl⟩)
  have a4 : g__law_is_graph_4 (ie (Gd n es) (.tup (es.map pr)) none) = .nx (ie (Gd n es) (.tup (es.map pr)) x) :=
    (forS_ok (ds := es.map pr) (env1 := ie (Gd n es) (.tup (es.map pr)) none) (by simp [-List.map_map, fnF, en0, seqS, passS, noS, exprS, retS, retN, retM, putE, setS, iteS, vOfE, eOfV, oOfV, kI, kB, kS, kN, nmV, nmO, op1, op2, opC, tst, tru, truD, notT, andT, orT, blV, vbl, andV, orV, notV, iteE, aNil, aCons, lNil, lCons, tupE, lstE, dicE, Opd.get, callF, frR, callI, callL, own1, addD, subD, negD, cmpD, lenD, intD, tupD, lisD, absD, isiD, tyD, min2D, max2D, Pv.R.of, raiseS, asgS, nameG, nilG, consG, tupG, isD, nisD, isNB, opS, pNone, pSome, seqI', itsD, sItS, putD, wipeE, backE])).trans he
  have a5 : g__law_is_graph_5 (ie (Gd n es) (.tup (es.map pr)) x) = .ret (.bl true, 0) (ie (Gd n es) (.tup (es.map pr)) x) := by
    have hs := sort_pr es
    have hq := eqD_prs es (sortP es)
    rw [chain_sort, g.c] at hq
    generalize es.map pr = X at *
    generalize (sortP es).map pr = Y at *
    simp [-List.map_map, fnF, en0, seqS, passS, noS, exprS, retS, retN, retM, putE, setS, iteS, vOfE, eOfV, oOfV, kI, kB, kS, kN, nmV, nmO, op1, op2, opC, tst, tru, truD, notT, andT, orT, blV, vbl, andV, orV, notV, iteE, aNil, aCons, lNil, lCons, tupE, lstE, dicE, Opd.get, callF, frR, callI, callL, own1, addD, subD, negD, cmpD, lenD, intD, tupD, lisD, absD, isiD, tyD, min2D, max2D, Pv.R.of, raiseS, asgS, nameG, nilG, consG, tupG, isD, nisD, isNB, opS, pNone, pSome, seqI', itsD, sItS, putD, wipeE, backE, sortD, hs, hq]
  exact fnF_ret ((seqS_nx a1).trans ((seqS_nx a2).trans ((seqS_nx a3).trans ((seqS_nx a4).trans a5))))
end L47
end

section
open Pv PySem
set_option Elab.async false
set_option linter.all false
set_option maxRecDepth 100000
namespace L47
theorem bls_bl : ∀ bs : List Bool, D.bls (bs.map D.bl) = some bs := D.bls_map
theorem allD_bl (bs : List Bool) : allD (.lst (bs.map D.bl)) = some (.bl (bs.all id), 0) := by
  simp [allD]
theorem rooted_c3 (n : Nat) (es : List E2) (hl : es.length ≤ 4000) : comp (zipI (aCons (nmV 2) (aCons (vOfE (opS (nmO 2) (pSome (kI 1)) pNone)) aNil))) (tupG 2 (consG (nameG 4) (consG (nameG 5) nilG))) yesT (eOfV (vOfE (op2 leTD (nmO 4) (nmO 5)))) 0 [4, 5] (rgE n es) = .ok (.lst (((es.zip (es.drop 1)).map fun q => leN q.1 q.2).map D.bl), 1) (rgE n es) := by
  rw [comp_fix (ds := (es.zip (es.drop 1)).map fun q => .tup [pr q.1, pr q.2]) (f := fun d => match d with
    | .tup [a, b] => (match leTD a b with
      | some p => p.1
      | none => .non)
    | d => d) (env1 := rgE n es) (env0 := rgE n es) (env2 := rgE n es) ?_ rfl rfl (by apply le_lim; simp; omega) ?_]
  · rw [List.map_map, List.map_map]
    have : (es.zip (es.drop 1)).map ((fun d : D => match d with
      | D.tup [a, b] => (match leTD a b with
        | some p => p.1
        | none => D.non)
      | d => d) ∘ fun q : E2 × E2 => D.tup [pr q.1, pr q.2]) = (es.zip (es.drop 1)).map (D.bl ∘ fun q => leN q.1 q.2) := by
      apply List.map_congr_left
      intro q _
      simp only [Function.comp_def, le_pr]
    rw [this]
  · have hz : ((es.map pr).zip (es.map pr).tail).map (fun q : D × D => D.tup [q.1, q.2]) = (es.zip es.tail).map fun q => .tup [pr q.1, pr q.2] := by
      rw [← List.map_tail, List.zip_map, List.map_map]
      rfl
    simp [-List.map_map, fnF, en0, seqS, passS, noS, exprS, retS, retN, retM, putE, setS, iteS, vOfE, eOfV, oOfV, kI, kB, kS, kN, nmV, nmO, op1, op2, opC, tst, tru, truD, notT, andT, orT, blV, vbl, andV, orV, notV, iteE, aNil, aCons, lNil, lCons, tupE, lstE, dicE, Opd.get, callF, frR, callI, callL, own1, addD, subD, negD, cmpD, lenD, intD, tupD, lisD, absD, isiD, tyD, min2D, max2D, Pv.R.of, raiseS, asgS, nameG, nilG, consG, tupG, isD, nisD, isNB, opS, pNone, pSome, seqI', itsD, sItS, putD, wipeE, backE, zipI, zipD2, zipD, slD, cut1, hz]
  · intro d hd
    obtain ⟨q, hq, rfl⟩ := List.mem_map.mp hd
    exact ⟨[some (Gd n es, 0), some (.int n, 0), some (.tup (es.map pr), 0), none, some (pr q.1, 0), some (pr q.2, 0)], [some (Gd n es, 0), some (.int n, 0), some (.tup (es.map pr), 0), none, some (pr q.1, 0), some (pr q.2, 0)], [some (Gd n es, 0), some (.int n, 0), some (.tup (es.map pr), 0), none, some (pr q.1, 0), some (pr q.2, 0)], by simp [-List.map_map, fnF, en0, seqS, passS, noS, exprS, retS, retN, retM, putE, setS, iteS, vOfE, eOfV, oOfV, kI, kB, kS, kN, nmV, nmO, op1, op2, opC, tst, tru, truD, notT, andT, orT, blV, vbl, andV, orV, notV, iteE, aNil, aCons, lNil, lCons, tupE, lstE, dicE, Opd.get, callF, frR, callI, callL, own1, addD, subD, negD, cmpD, lenD, intD, tupD, lisD, absD, isiD, tyD, min2D, max2D, Pv.R.of, raiseS, asgS, nameG, nilG, consG, tupG, isD, nisD, isNB, opS, pNone, pSome, seqI', itsD, sItS, putD, wipeE, backE], rfl, by simp [-List.map_map, fnF, en0, seqS, passS, noS, exprS, retS, retN, retM, putE, setS, iteS, vOfE, eOfV, oOfV, kI, kB, kS, kN, nmV, nmO, op1, op2, opC, tst, tru, truD, notT, andT, orT, blV, vbl, andV, orV, notV, iteE, aNil, aCons, lNil, lCons, tupE, lstE, dicE, Opd.get, callF, frR, callI, callL, own1, addD, subD, negD, cmpD, lenD, intD, tupD, lisD, absD, isiD, tyD, min2D, max2D, Pv.R.of, raiseS, asgS, nameG, nilG, consG, tupG, isD, nisD, isNB, opS, pNone, pSome, seqI', itsD, sItS, putD, wipeE, backE, le_pr], rfl⟩
end L47
end

section
open Pv PySem
set_option Elab.async false
set_option linter.all false
set_option maxRecDepth 100000
namespace L47
theorem val_edges {n : Nat} {es : List E2} (n1 : 1 ≤ n) (n4 : n ≤ 400) (l : es.length ≤ 4000) (hk : es.all (okE n) = true) : Val (Gd n es) (chain es) := by
  cases hc : chain es with
  | true => exact val_good ⟨n1, n4, l, hk, hc⟩
  | false =>
    have g3 : (1 : Int) ≤ n := by omega
    have g4 : (n : Int) ≤ 400 := by omega
    have g5 : ¬ (4000 : Int) < es.length := by omega
    have g1 : ¬ (n : Int) < 1 := by omega
    have g2 : ¬ (400 : Int) < n := by omega
    refine ⟨?_, ?_⟩
    · have c1 := rooted_c1 n es l hk
      have c2 := rooted_c3 n es l
      have ha : ((es.zip (es.drop 1)).map fun q => leN q.1 q.2).all id = false := by
        rw [List.all_map]
        exact hc
      have hb := allD_bl ((es.zip (es.drop 1)).map fun q => leN q.1 q.2)
      rw [ha] at hb
      generalize ((es.zip (es.drop 1)).map fun q => leN q.1 q.2).map D.bl = Y at *
      unfold rgE at c1 c2
      simp only [Gd] at c1 c2
      unfold F_is_rooted_graph g_is_rooted_graph
      simp [-List.map_map, fnF, en0, seqS, passS, noS, exprS, retS, retN, retM, putE, setS, iteS, vOfE, eOfV, oOfV, kI, kB, kS, kN, nmV, nmO, op1, op2, opC, tst, tru, truD, notT, andT, orT, blV, vbl, andV, orV, notV, iteE, aNil, aCons, lNil, lCons, tupE, lstE, dicE, Opd.get, callF, frR, callI, callL, own1, addD, subD, negD, cmpD, lenD, intD, tupD, lisD, absD, isiD, tyD, min2D, max2D, Pv.R.of, raiseS, asgS, nameG, nilG, consG, tupG, isD, nisD, isNB, opS, pNone, pSome, seqI', itsD, sItS, putD, wipeE, backE, Gd, isint, g1, g2, g5, at_0, at_1, idxD, c1, c2, allD_true, hb]
    · have a1 : g__law_is_graph_1 (en0 3 none [Gd n es]) = .nx [some (Gd n es, 0), none, none] := by
        simp [-List.map_map, fnF, en0, seqS, passS, noS, exprS, retS, retN, retM, putE, setS, iteS, vOfE, eOfV, oOfV, kI, kB, kS, kN, nmV, nmO, op1, op2, opC, tst, tru, truD, notT, andT, orT, blV, vbl, andV, orV, notV, iteE, aNil, aCons, lNil, lCons, tupE, lstE, dicE, Opd.get, callF, frR, callI, callL, own1, addD, subD, negD, cmpD, lenD, intD, tupD, lisD, absD, isiD, tyD, min2D, max2D, Pv.R.of, raiseS, asgS, nameG, nilG, consG, tupG, isD, nisD, isNB, opS, pNone, pSome, seqI', itsD, sItS, putD, wipeE, backE, Gd, whole_int, g3, g4, at_0, at_1, idxD]
      have a2 : g__law_is_graph_2 [some (Gd n es, 0), none, none] = .nx (ie (Gd n es) (.tup (es.map pr)) none) := by
        simp [-List.map_map, fnF, en0, seqS, passS, noS, exprS, retS, retN, retM, putE, setS, iteS, vOfE, eOfV, oOfV, kI, kB, kS, kN, nmV, nmO, op1, op2, opC, tst, tru, truD, notT, andT, orT, blV, vbl, andV, orV, notV, iteE, aNil, aCons, lNil, lCons, tupE, lstE, dicE, Opd.get, callF, frR, callI, callL, own1, addD, subD, negD, cmpD, lenD, intD, tupD, lisD, absD, isiD, tyD, min2D, max2D, Pv.R.of, raiseS, asgS, nameG, nilG, consG, tupG, isD, nisD, isNB, opS, pNone, pSome, seqI', itsD, sItS, putD, wipeE, backE, Gd, at_1, idxD]
      have a3 : g__law_is_graph_3 (ie (Gd n es) (.tup (es.map pr)) none) = .nx (ie (Gd n es) (.tup (es.map pr)) none) := by
        simp [-List.map_map, fnF, en0, seqS, passS, noS, exprS, retS, retN, retM, putE, setS, iteS, vOfE, eOfV, oOfV, kI, kB, kS, kN, nmV, nmO, op1, op2, opC, tst, tru, truD, notT, andT, orT, blV, vbl, andV, orV, notV, iteE, aNil, aCons, lNil, lCons, tupE, lstE, dicE, Opd.get, callF, frR, callI, callL, own1, addD, subD, negD, cmpD, lenD, intD, tupD, lisD, absD, isiD, tyD, min2D, max2D, Pv.R.of, raiseS, asgS, nameG, nilG, consG, tupG, isD, nisD, isNB, opS, pNone, pSome, seqI', itsD, sItS, putD, wipeE, backE, g5]
      obtain ⟨e, he, x, rfl⟩ := loopS_ex (g := nameG 2) (body := igB) pr es (fun i env => ∃ x, env = ie (Gd n es) (.tup (es.map pr)) x) (ie (Gd n es) (.tup (es.map pr)) none) ⟨none, rfl⟩ (fun i hi env hP => by
        obtain ⟨x, rfl⟩ := hP
        have hk := List.all_eq_true.mp hk es[i] (List.getElem_mem hi)
        exact ⟨ie (Gd n es) (.tup (es.map pr)) (some (pr es[i], 0)), _, by simp [-List.map_map, fnF, en0, seqS, passS, noS, exprS, retS, retN, retM, putE, setS, iteS, vOfE, eOfV, oOfV, kI, kB, kS, kN, nmV, nmO, op1, op2, opC, tst, tru, truD, notT, andT, orT, blV, vbl, andV, orV, notV, iteE, aNil, aCons, lNil, lCons, tupE, lstE, dicE, Opd.get, callF, frR, callI, callL, own1, addD, subD, negD, cmpD, lenD, intD, tupD, lisD, absD, isiD, tyD, min2D, max2D, Pv.R.of, raiseS, asgS, nameG, nilG, consG, tupG, isD, nisD, isNB, opS, pNone, pSome, seqI', itsD, sItS, putD, wipeE, backE], ig_good n _ _ es[i] hk, some (pr es[i], 0), rfl⟩)
      have a4 : g__law_is_graph_4 (ie (Gd n es) (.tup (es.map pr)) none) = .nx (ie (Gd n es) (.tup (es.map pr)) x) :=
        (forS_ok (ds := es.map pr) (env1 := ie (Gd n es) (.tup (es.map pr)) none) (by simp [-List.map_map, fnF, en0, seqS, passS, noS, exprS, retS, retN, retM, putE, setS, iteS, vOfE, eOfV, oOfV, kI, kB, kS, kN, nmV, nmO, op1, op2, opC, tst, tru, truD, notT, andT, orT, blV, vbl, andV, orV, notV, iteE, aNil, aCons, lNil, lCons, tupE, lstE, dicE, Opd.get, callF, frR, callI, callL, own1, addD, subD, negD, cmpD, lenD, intD, tupD, lisD, absD, isiD, tyD, min2D, max2D, Pv.R.of, raiseS, asgS, nameG, nilG, consG, tupG, isD, nisD, isNB, opS, pNone, pSome, seqI', itsD, sItS, putD, wipeE, backE])).trans he
      have a5 : g__law_is_graph_5 (ie (Gd n es) (.tup (es.map pr)) x) = .ret (.bl false, 0) (ie (Gd n es) (.tup (es.map pr)) x) := by
        have hs := sort_pr es
        have hq := eqD_prs es (sortP es)
        rw [chain_sort, hc] at hq
        generalize es.map pr = X at *
        generalize (sortP es).map pr = Y at *
        simp [-List.map_map, fnF, en0, seqS, passS, noS, exprS, retS, retN, retM, putE, setS, iteS, vOfE, eOfV, oOfV, kI, kB, kS, kN, nmV, nmO, op1, op2, opC, tst, tru, truD, notT, andT, orT, blV, vbl, andV, orV, notV, iteE, aNil, aCons, lNil, lCons, tupE, lstE, dicE, Opd.get, callF, frR, callI, callL, own1, addD, subD, negD, cmpD, lenD, intD, tupD, lisD, absD, isiD, tyD, min2D, max2D, Pv.R.of, raiseS, asgS, nameG, nilG, consG, tupG, isD, nisD, isNB, opS, pNone, pSome, seqI', itsD, sItS, putD, wipeE, backE, sortD, hs, hq]
      exact fnF_ret ((seqS_nx a1).trans ((seqS_nx a2).trans ((seqS_nx a3).trans ((seqS_nx a4).trans a5))))
end L47
end

section
open Pv PySem
set_option Elab.async false
set_option linter.all false
set_option maxRecDepth 100000
namespace L47
/-- an edge that both tests refuse -/
structure BadE (n : Nat) (d : D) : Prop where
  p : F_is_edge none [d, .int n] = .ok (.bl false, 0) none
  l : ∀ v e : D, igB (ie (.tup [.int n, v]) e (some (d, 0))) = .ret (.bl false, 0) (ie (.tup [.int n, v]) e (some (d, 0)))
theorem loopS_snoc {β : Type} {g : D → En → Option En} {body : En → SR} (f : β → D) (P : En → Prop) (ds : List D) : ∀ (bs : List β) (env : En), P env → (∀ b ∈ bs, ∀ env, P env → ∃ e1 e2, g (f b) env = some e1 ∧ body e1 = .nx e2 ∧ P e2) → ∃ e, P e ∧ loopS g body (bs.map f ++ ds) env = loopS g body ds e
  | [], env, h, _ => ⟨env, h, rfl⟩
  | b :: bs, env, h, hs => by
    obtain ⟨e1, e2, h1, h2, h3⟩ := hs b List.mem_cons_self env h
    obtain ⟨e, q1, q2⟩ := loopS_snoc f P ds bs e2 h3 fun b' hb => hs b' (List.mem_cons_of_mem _ hb)
    refine ⟨e, q1, ?_⟩
    rw [List.map_cons, List.cons_append]
    rw [loopS, h1]
    simp only [h2]
    exact q2
theorem allD_app (bs : List Bool) : allD (.lst (bs.map D.bl ++ [.bl false])) = some (.bl false, 0) := by
  have : bs.map D.bl ++ [.bl false] = (bs ++ [false]).map D.bl := by simp
  rw [this, allD_bl]
  simp
end L47
end

section
open Pv PySem
set_option Elab.async false
set_option linter.all false
set_option maxRecDepth 100000
namespace L47
def edF (n : Nat) (x : D) : D := match F_is_edge none [x, .int n] with
  | .ok p _ => p.1
  | _ => .non
theorem edF_good {n : Nat} {p : E2} (h : okE n p = true) : edF n (pr p) = .bl true := by
  unfold edF
  rw [is_edge_ok n p h]
theorem edF_bad {n : Nat} {d : D} (h : BadE n d) : edF n d = .bl false := by
  unfold edF
  rw [h.p]
abbrev rgD' (n : Nat) (xs : List D) : En := [some (.tup [.int n, .tup xs], 0), some (.int n, 0), some (.tup xs, 0), none, none, none]
theorem val_bad {n : Nat} {es : List E2} {d : D} (n1 : 1 ≤ n) (n4 : n ≤ 400) (l : es.length < 4000) (hk : es.all (okE n) = true) (hd : BadE n d) : Val (.tup [.int n, .tup (es.map pr ++ [d])]) false := by
  have g3 : (1 : Int) ≤ n := by omega
  have g4 : (n : Int) ≤ 400 := by omega
  have g1 : ¬ (n : Int) < 1 := by omega
  have g2 : ¬ (400 : Int) < n := by omega
  have g5 : ¬ (4000 : Int) < ((es.map pr ++ [d]).length : Int) := by
    rw [List.length_append, List.length_map, List.length_singleton]
    omega
  obtain ⟨X, hX⟩ : ∃ X, X = es.map pr ++ [d] := ⟨_, rfl⟩
  rw [← hX] at g5 ⊢
  refine ⟨?_, ?_⟩
  · have c1 : comp (seqI' (nmV 2)) (nameG 3) yesT (eOfV (vOfE (callF 2 F_is_edge (aCons (nmV 3) (aCons (nmV 1) aNil))))) 0 [3] (rgD' n X) = .ok (.lst (List.map D.bl (List.replicate es.length true) ++ [.bl false]), 1) (rgD' n X) := by
      rw [comp_fix (ds := X) (f := edF n) (env1 := rgD' n X) (env0 := rgD' n X) (env2 := rgD' n X) (by simp [-List.map_map, fnF, en0, seqS, passS, noS, exprS, retS, retN, retM, putE, setS, iteS, vOfE, eOfV, oOfV, kI, kB, kS, kN, nmV, nmO, op1, op2, opC, tst, tru, truD, notT, andT, orT, blV, vbl, andV, orV, notV, iteE, aNil, aCons, lNil, lCons, tupE, lstE, dicE, Opd.get, callF, frR, callI, callL, own1, addD, subD, negD, cmpD, lenD, intD, tupD, lisD, absD, isiD, tyD, min2D, max2D, Pv.R.of, raiseS, asgS, nameG, nilG, consG, tupG, isD, nisD, isNB, opS, pNone, pSome, seqI', itsD, sItS, putD, wipeE, backE]) rfl rfl (by apply le_lim; rw [hX]; simp; omega) ?_]
      · rw [hX, List.map_append, List.map_map, List.map_singleton, edF_bad hd]
        have : es.map (edF n ∘ pr) = List.map D.bl (List.replicate es.length true) := by
          rw [map_true (edF n ∘ pr) es fun p hp => edF_good (List.all_eq_true.mp hk p hp), List.map_replicate]
        rw [this]
      · intro x hx
        rw [hX] at hx
        have hv : ∃ b, F_is_edge none [x, .int n] = .ok (.bl b, 0) none := by
          rcases List.mem_append.mp hx with hx | hx
          · obtain ⟨p, hp, rfl⟩ := List.mem_map.mp hx
            exact ⟨true, is_edge_ok n p (List.all_eq_true.mp hk p hp)⟩
          · rw [List.mem_singleton.mp hx]; exact ⟨false, hd.p⟩
        obtain ⟨b, hb⟩ := hv
        have e : edF n x = .bl b := by unfold edF; rw [hb]
        rw [e]
        exact ⟨[some (.tup [.int n, .tup X], 0), some (.int n, 0), some (.tup X, 0), some (x, 0), none, none], [some (.tup [.int n, .tup X], 0), some (.int n, 0), some (.tup X, 0), some (x, 0), none, none], [some (.tup [.int n, .tup X], 0), some (.int n, 0), some (.tup X, 0), some (x, 0), none, none], by simp [-List.map_map, fnF, en0, seqS, passS, noS, exprS, retS, retN, retM, putE, setS, iteS, vOfE, eOfV, oOfV, kI, kB, kS, kN, nmV, nmO, op1, op2, opC, tst, tru, truD, notT, andT, orT, blV, vbl, andV, orV, notV, iteE, aNil, aCons, lNil, lCons, tupE, lstE, dicE, Opd.get, callF, frR, callI, callL, own1, addD, subD, negD, cmpD, lenD, intD, tupD, lisD, absD, isiD, tyD, min2D, max2D, Pv.R.of, raiseS, asgS, nameG, nilG, consG, tupG, isD, nisD, isNB, opS, pNone, pSome, seqI', itsD, sItS, putD, wipeE, backE], rfl, by simp [-List.map_map, fnF, en0, seqS, passS, noS, exprS, retS, retN, retM, putE, setS, iteS, vOfE, eOfV, oOfV, kI, kB, kS, kN, nmV, nmO, op1, op2, opC, tst, tru, truD, notT, andT, orT, blV, vbl, andV, orV, notV, iteE, aNil, aCons, lNil, lCons, tupE, lstE, dicE, Opd.get, callF, frR, callI, callL, own1, addD, subD, negD, cmpD, lenD, intD, tupD, lisD, absD, isiD, tyD, min2D, max2D, Pv.R.of, raiseS, asgS, nameG, nilG, consG, tupG, isD, nisD, isNB, opS, pNone, pSome, seqI', itsD, sItS, putD, wipeE, backE, hb], rfl⟩
    have ha := allD_app (List.replicate es.length true)
    generalize List.map D.bl (List.replicate es.length true) ++ [.bl false] = Y at *
    unfold F_is_rooted_graph g_is_rooted_graph
    simp [-List.map_map, fnF, en0, seqS, passS, noS, exprS, retS, retN, retM, putE, setS, iteS, vOfE, eOfV, oOfV, kI, kB, kS, kN, nmV, nmO, op1, op2, opC, tst, tru, truD, notT, andT, orT, blV, vbl, andV, orV, notV, iteE, aNil, aCons, lNil, lCons, tupE, lstE, dicE, Opd.get, callF, frR, callI, callL, own1, addD, subD, negD, cmpD, lenD, intD, tupD, lisD, absD, isiD, tyD, min2D, max2D, Pv.R.of, raiseS, asgS, nameG, nilG, consG, tupG, isD, nisD, isNB, opS, pNone, pSome, seqI', itsD, sItS, putD, wipeE, backE, isint, g1, g2, g5, at_0, at_1, idxD, c1, ha]
  · have a1 : g__law_is_graph_1 (en0 3 none [.tup [.int n, .tup X]]) = .nx [some (.tup [.int n, .tup X], 0), none, none] := by
      simp [-List.map_map, fnF, en0, seqS, passS, noS, exprS, retS, retN, retM, putE, setS, iteS, vOfE, eOfV, oOfV, kI, kB, kS, kN, nmV, nmO, op1, op2, opC, tst, tru, truD, notT, andT, orT, blV, vbl, andV, orV, notV, iteE, aNil, aCons, lNil, lCons, tupE, lstE, dicE, Opd.get, callF, frR, callI, callL, own1, addD, subD, negD, cmpD, lenD, intD, tupD, lisD, absD, isiD, tyD, min2D, max2D, Pv.R.of, raiseS, asgS, nameG, nilG, consG, tupG, isD, nisD, isNB, opS, pNone, pSome, seqI', itsD, sItS, putD, wipeE, backE, whole_int, g3, g4, at_0, at_1, idxD]
    have a2 : g__law_is_graph_2 [some (.tup [.int n, .tup X], 0), none, none] = .nx (ie (.tup [.int n, .tup X]) (.tup X) none) := by
      simp [-List.map_map, fnF, en0, seqS, passS, noS, exprS, retS, retN, retM, putE, setS, iteS, vOfE, eOfV, oOfV, kI, kB, kS, kN, nmV, nmO, op1, op2, opC, tst, tru, truD, notT, andT, orT, blV, vbl, andV, orV, notV, iteE, aNil, aCons, lNil, lCons, tupE, lstE, dicE, Opd.get, callF, frR, callI, callL, own1, addD, subD, negD, cmpD, lenD, intD, tupD, lisD, absD, isiD, tyD, min2D, max2D, Pv.R.of, raiseS, asgS, nameG, nilG, consG, tupG, isD, nisD, isNB, opS, pNone, pSome, seqI', itsD, sItS, putD, wipeE, backE, at_1, idxD]
    have a3 : g__law_is_graph_3 (ie (.tup [.int n, .tup X]) (.tup X) none) = .nx (ie (.tup [.int n, .tup X]) (.tup X) none) := by
      simp [-List.map_map, fnF, en0, seqS, passS, noS, exprS, retS, retN, retM, putE, setS, iteS, vOfE, eOfV, oOfV, kI, kB, kS, kN, nmV, nmO, op1, op2, opC, tst, tru, truD, notT, andT, orT, blV, vbl, andV, orV, notV, iteE, aNil, aCons, lNil, lCons, tupE, lstE, dicE, Opd.get, callF, frR, callI, callL, own1, addD, subD, negD, cmpD, lenD, intD, tupD, lisD, absD, isiD, tyD, min2D, max2D, Pv.R.of, raiseS, asgS, nameG, nilG, consG, tupG, isD, nisD, isNB, opS, pNone, pSome, seqI', itsD, sItS, putD, wipeE, backE, g5]
    obtain ⟨e, ⟨x, rfl⟩, he⟩ := loopS_snoc (g := nameG 2) (body := igB) pr (fun env => ∃ x, env = ie (.tup [.int n, .tup X]) (.tup X) x) [d] es (ie (.tup [.int n, .tup X]) (.tup X) none) ⟨none, rfl⟩ (fun p hp env hP => by
      obtain ⟨x, rfl⟩ := hP
      exact ⟨ie (.tup [.int n, .tup X]) (.tup X) (some (pr p, 0)), _, by simp [-List.map_map, fnF, en0, seqS, passS, noS, exprS, retS, retN, retM, putE, setS, iteS, vOfE, eOfV, oOfV, kI, kB, kS, kN, nmV, nmO, op1, op2, opC, tst, tru, truD, notT, andT, orT, blV, vbl, andV, orV, notV, iteE, aNil, aCons, lNil, lCons, tupE, lstE, dicE, Opd.get, callF, frR, callI, callL, own1, addD, subD, negD, cmpD, lenD, intD, tupD, lisD, absD, isiD, tyD, min2D, max2D, Pv.R.of, raiseS, asgS, nameG, nilG, consG, tupG, isD, nisD, isNB, opS, pNone, pSome, seqI', itsD, sItS, putD, wipeE, backE], ig_good n _ _ p (List.all_eq_true.mp hk p hp), some (pr p, 0), rfl⟩)
    have hr : loopS (nameG 2) igB [d] (ie (.tup [.int n, .tup X]) (.tup X) x) = .ret (.bl false, 0) (ie (.tup [.int n, .tup X]) (.tup X) (some (d, 0))) := by
      rw [loopS]
      have : nameG 2 d (ie (.tup [.int n, .tup X]) (.tup X) x) = some (ie (.tup [.int n, .tup X]) (.tup X) (some (d, 0))) := by simp [-List.map_map, fnF, en0, seqS, passS, noS, exprS, retS, retN, retM, putE, setS, iteS, vOfE, eOfV, oOfV, kI, kB, kS, kN, nmV, nmO, op1, op2, opC, tst, tru, truD, notT, andT, orT, blV, vbl, andV, orV, notV, iteE, aNil, aCons, lNil, lCons, tupE, lstE, dicE, Opd.get, callF, frR, callI, callL, own1, addD, subD, negD, cmpD, lenD, intD, tupD, lisD, absD, isiD, tyD, min2D, max2D, Pv.R.of, raiseS, asgS, nameG, nilG, consG, tupG, isD, nisD, isNB, opS, pNone, pSome, seqI', itsD, sItS, putD, wipeE, backE]
      rw [this]
      simp only [hd.l]
    rw [← hX] at he
    have a4 : g__law_is_graph_4 (ie (.tup [.int n, .tup X]) (.tup X) none) = .ret (.bl false, 0) (ie (.tup [.int n, .tup X]) (.tup X) (some (d, 0))) :=
      ((forS_ok (ds := X) (env1 := ie (.tup [.int n, .tup X]) (.tup X) none) (by simp [-List.map_map, fnF, en0, seqS, passS, noS, exprS, retS, retN, retM, putE, setS, iteS, vOfE, eOfV, oOfV, kI, kB, kS, kN, nmV, nmO, op1, op2, opC, tst, tru, truD, notT, andT, orT, blV, vbl, andV, orV, notV, iteE, aNil, aCons, lNil, lCons, tupE, lstE, dicE, Opd.get, callF, frR, callI, callL, own1, addD, subD, negD, cmpD, lenD, intD, tupD, lisD, absD, isiD, tyD, min2D, max2D, Pv.R.of, raiseS, asgS, nameG, nilG, consG, tupG, isD, nisD, isNB, opS, pNone, pSome, seqI', itsD, sItS, putD, wipeE, backE])).trans he).trans hr
    exact fnF_ret ((seqS_nx a1).trans ((seqS_nx a2).trans ((seqS_nx a3).trans (seqS_ret a4))))
end L47
end

section
open Pv PySem
set_option Elab.async false
set_option linter.all false
set_option maxRecDepth 100000
namespace L47
theorem bad_non (n : Nat) : BadE n .non := ⟨by unfold F_is_edge g_is_edge; simp [-List.map_map, fnF, en0, seqS, passS, noS, exprS, retS, retN, retM, putE, setS, iteS, vOfE, eOfV, oOfV, kI, kB, kS, kN, nmV, nmO, op1, op2, opC, tst, tru, truD, notT, andT, orT, blV, vbl, andV, orV, notV, iteE, aNil, aCons, lNil, lCons, tupE, lstE, dicE, Opd.get, callF, frR, callI, callL, own1, addD, subD, negD, cmpD, lenD, intD, tupD, lisD, absD, isiD, tyD, min2D, max2D, Pv.R.of, raiseS, asgS, nameG, nilG, consG, tupG, isD, nisD, isNB, opS, pNone, pSome, seqI', itsD, sItS, putD, wipeE, backE], fun v e => by unfold igB; simp [-List.map_map, fnF, en0, seqS, passS, noS, exprS, retS, retN, retM, putE, setS, iteS, vOfE, eOfV, oOfV, kI, kB, kS, kN, nmV, nmO, op1, op2, opC, tst, tru, truD, notT, andT, orT, blV, vbl, andV, orV, notV, iteE, aNil, aCons, lNil, lCons, tupE, lstE, dicE, Opd.get, callF, frR, callI, callL, own1, addD, subD, negD, cmpD, lenD, intD, tupD, lisD, absD, isiD, tyD, min2D, max2D, Pv.R.of, raiseS, asgS, nameG, nilG, consG, tupG, isD, nisD, isNB, opS, pNone, pSome, seqI', itsD, sItS, putD, wipeE, backE]⟩
theorem bad_lst (n : Nat) (xs : List D) : BadE n (.lst xs) := ⟨by unfold F_is_edge g_is_edge; simp [-List.map_map, fnF, en0, seqS, passS, noS, exprS, retS, retN, retM, putE, setS, iteS, vOfE, eOfV, oOfV, kI, kB, kS, kN, nmV, nmO, op1, op2, opC, tst, tru, truD, notT, andT, orT, blV, vbl, andV, orV, notV, iteE, aNil, aCons, lNil, lCons, tupE, lstE, dicE, Opd.get, callF, frR, callI, callL, own1, addD, subD, negD, cmpD, lenD, intD, tupD, lisD, absD, isiD, tyD, min2D, max2D, Pv.R.of, raiseS, asgS, nameG, nilG, consG, tupG, isD, nisD, isNB, opS, pNone, pSome, seqI', itsD, sItS, putD, wipeE, backE], fun v e => by unfold igB; simp [-List.map_map, fnF, en0, seqS, passS, noS, exprS, retS, retN, retM, putE, setS, iteS, vOfE, eOfV, oOfV, kI, kB, kS, kN, nmV, nmO, op1, op2, opC, tst, tru, truD, notT, andT, orT, blV, vbl, andV, orV, notV, iteE, aNil, aCons, lNil, lCons, tupE, lstE, dicE, Opd.get, callF, frR, callI, callL, own1, addD, subD, negD, cmpD, lenD, intD, tupD, lisD, absD, isiD, tyD, min2D, max2D, Pv.R.of, raiseS, asgS, nameG, nilG, consG, tupG, isD, nisD, isNB, opS, pNone, pSome, seqI', itsD, sItS, putD, wipeE, backE]⟩
theorem bad_3 (n : Nat) (a b c : D) : BadE n (.tup [a, b, c]) := ⟨by unfold F_is_edge g_is_edge; simp [-List.map_map, fnF, en0, seqS, passS, noS, exprS, retS, retN, retM, putE, setS, iteS, vOfE, eOfV, oOfV, kI, kB, kS, kN, nmV, nmO, op1, op2, opC, tst, tru, truD, notT, andT, orT, blV, vbl, andV, orV, notV, iteE, aNil, aCons, lNil, lCons, tupE, lstE, dicE, Opd.get, callF, frR, callI, callL, own1, addD, subD, negD, cmpD, lenD, intD, tupD, lisD, absD, isiD, tyD, min2D, max2D, Pv.R.of, raiseS, asgS, nameG, nilG, consG, tupG, isD, nisD, isNB, opS, pNone, pSome, seqI', itsD, sItS, putD, wipeE, backE], fun v e => by unfold igB; simp [-List.map_map, fnF, en0, seqS, passS, noS, exprS, retS, retN, retM, putE, setS, iteS, vOfE, eOfV, oOfV, kI, kB, kS, kN, nmV, nmO, op1, op2, opC, tst, tru, truD, notT, andT, orT, blV, vbl, andV, orV, notV, iteE, aNil, aCons, lNil, lCons, tupE, lstE, dicE, Opd.get, callF, frR, callI, callL, own1, addD, subD, negD, cmpD, lenD, intD, tupD, lisD, absD, isiD, tyD, min2D, max2D, Pv.R.of, raiseS, asgS, nameG, nilG, consG, tupG, isD, nisD, isNB, opS, pNone, pSome, seqI', itsD, sItS, putD, wipeE, backE]⟩
end L47
end

section
open Pv PySem
set_option Elab.async false
set_option linter.all false
set_option maxRecDepth 100000
namespace L47
theorem isp (x : Int) (n : Nat) : F_is_point none [.int x, .int n] = .ok (.bl (decide (0 ≤ x ∧ x < n)), 0) none := by
  by_cases h1 : 0 ≤ x
  · by_cases h2 : x < n
    · unfold F_is_point g_is_point; simp [-List.map_map, fnF, en0, seqS, passS, noS, exprS, retS, retN, retM, putE, setS, iteS, vOfE, eOfV, oOfV, kI, kB, kS, kN, nmV, nmO, op1, op2, opC, tst, tru, truD, notT, andT, orT, blV, vbl, andV, orV, notV, iteE, aNil, aCons, lNil, lCons, tupE, lstE, dicE, Opd.get, callF, frR, callI, callL, own1, addD, subD, negD, cmpD, lenD, intD, tupD, lisD, absD, isiD, tyD, min2D, max2D, Pv.R.of, raiseS, asgS, nameG, nilG, consG, tupG, isD, nisD, isNB, opS, pNone, pSome, seqI', itsD, sItS, putD, wipeE, backE, isint, opC, h1, h2]
    · unfold F_is_point g_is_point; simp [-List.map_map, fnF, en0, seqS, passS, noS, exprS, retS, retN, retM, putE, setS, iteS, vOfE, eOfV, oOfV, kI, kB, kS, kN, nmV, nmO, op1, op2, opC, tst, tru, truD, notT, andT, orT, blV, vbl, andV, orV, notV, iteE, aNil, aCons, lNil, lCons, tupE, lstE, dicE, Opd.get, callF, frR, callI, callL, own1, addD, subD, negD, cmpD, lenD, intD, tupD, lisD, absD, isiD, tyD, min2D, max2D, Pv.R.of, raiseS, asgS, nameG, nilG, consG, tupG, isD, nisD, isNB, opS, pNone, pSome, seqI', itsD, sItS, putD, wipeE, backE, isint, opC, h1, h2]
  · unfold F_is_point g_is_point; simp [-List.map_map, fnF, en0, seqS, passS, noS, exprS, retS, retN, retM, putE, setS, iteS, vOfE, eOfV, oOfV, kI, kB, kS, kN, nmV, nmO, op1, op2, opC, tst, tru, truD, notT, andT, orT, blV, vbl, andV, orV, notV, iteE, aNil, aCons, lNil, lCons, tupE, lstE, dicE, Opd.get, callF, frR, callI, callL, own1, addD, subD, negD, cmpD, lenD, intD, tupD, lisD, absD, isiD, tyD, min2D, max2D, Pv.R.of, raiseS, asgS, nameG, nilG, consG, tupG, isD, nisD, isNB, opS, pNone, pSome, seqI', itsD, sItS, putD, wipeE, backE, isint, opC, h1]
theorem isp_bl (b : Bool) (n : Nat) : F_is_point none [.bl b, .int n] = .ok (.bl false, 0) none := by
  have e1 : F_is_integer none [.bl b] = .ok (.bl false, 0) none := by
    unfold F_is_integer g_is_integer
    simp [-List.map_map, fnF, en0, seqS, passS, noS, exprS, retS, retN, retM, putE, setS, iteS, vOfE, eOfV, oOfV, kI, kB, kS, kN, nmV, nmO, op1, op2, opC, tst, tru, truD, notT, andT, orT, blV, vbl, andV, orV, notV, iteE, aNil, aCons, lNil, lCons, tupE, lstE, dicE, Opd.get, callF, frR, callI, callL, own1, addD, subD, negD, cmpD, lenD, intD, tupD, lisD, absD, isiD, tyD, min2D, max2D, Pv.R.of, raiseS, asgS, nameG, nilG, consG, tupG, isD, nisD, isNB, opS, pNone, pSome, seqI', itsD, sItS, putD, wipeE, backE]
  unfold F_is_point g_is_point; simp [-List.map_map, fnF, en0, seqS, passS, noS, exprS, retS, retN, retM, putE, setS, iteS, vOfE, eOfV, oOfV, kI, kB, kS, kN, nmV, nmO, op1, op2, opC, tst, tru, truD, notT, andT, orT, blV, vbl, andV, orV, notV, iteE, aNil, aCons, lNil, lCons, tupE, lstE, dicE, Opd.get, callF, frR, callI, callL, own1, addD, subD, negD, cmpD, lenD, intD, tupD, lisD, absD, isiD, tyD, min2D, max2D, Pv.R.of, raiseS, asgS, nameG, nilG, consG, tupG, isD, nisD, isNB, opS, pNone, pSome, seqI', itsD, sItS, putD, wipeE, backE, e1]
theorem bad_off (n : Nat) (x y : Int) (h : ¬ (0 ≤ x ∧ x ≤ y ∧ y < n)) : BadE n (.tup [.int x, .int y]) := by
  refine ⟨?_, fun v e => ?_⟩
  · by_cases h1 : 0 ≤ x ∧ x < n
    · by_cases h2 : 0 ≤ y ∧ y < n
      · have h3 : ¬ x ≤ y := by omega
        unfold F_is_edge g_is_edge
        simp [-List.map_map, fnF, en0, seqS, passS, noS, exprS, retS, retN, retM, putE, setS, iteS, vOfE, eOfV, oOfV, kI, kB, kS, kN, nmV, nmO, op1, op2, opC, tst, tru, truD, notT, andT, orT, blV, vbl, andV, orV, notV, iteE, aNil, aCons, lNil, lCons, tupE, lstE, dicE, Opd.get, callF, frR, callI, callL, own1, addD, subD, negD, cmpD, lenD, intD, tupD, lisD, absD, isiD, tyD, min2D, max2D, Pv.R.of, raiseS, asgS, nameG, nilG, consG, tupG, isD, nisD, isNB, opS, pNone, pSome, seqI', itsD, sItS, putD, wipeE, backE, isp, h1, h2, h3, at_0, at_1, idxD]
      · unfold F_is_edge g_is_edge
        simp [-List.map_map, fnF, en0, seqS, passS, noS, exprS, retS, retN, retM, putE, setS, iteS, vOfE, eOfV, oOfV, kI, kB, kS, kN, nmV, nmO, op1, op2, opC, tst, tru, truD, notT, andT, orT, blV, vbl, andV, orV, notV, iteE, aNil, aCons, lNil, lCons, tupE, lstE, dicE, Opd.get, callF, frR, callI, callL, own1, addD, subD, negD, cmpD, lenD, intD, tupD, lisD, absD, isiD, tyD, min2D, max2D, Pv.R.of, raiseS, asgS, nameG, nilG, consG, tupG, isD, nisD, isNB, opS, pNone, pSome, seqI', itsD, sItS, putD, wipeE, backE, isp, h1, h2, at_0, at_1, idxD]
    · unfold F_is_edge g_is_edge
      simp [-List.map_map, fnF, en0, seqS, passS, noS, exprS, retS, retN, retM, putE, setS, iteS, vOfE, eOfV, oOfV, kI, kB, kS, kN, nmV, nmO, op1, op2, opC, tst, tru, truD, notT, andT, orT, blV, vbl, andV, orV, notV, iteE, aNil, aCons, lNil, lCons, tupE, lstE, dicE, Opd.get, callF, frR, callI, callL, own1, addD, subD, negD, cmpD, lenD, intD, tupD, lisD, absD, isiD, tyD, min2D, max2D, Pv.R.of, raiseS, asgS, nameG, nilG, consG, tupG, isD, nisD, isNB, opS, pNone, pSome, seqI', itsD, sItS, putD, wipeE, backE, isp, h1, at_0, at_1, idxD]
  · by_cases h1 : 0 ≤ x
    · by_cases h2 : x ≤ y
      · have h3 : ¬ y < n := by omega
        unfold igB
        simp [-List.map_map, fnF, en0, seqS, passS, noS, exprS, retS, retN, retM, putE, setS, iteS, vOfE, eOfV, oOfV, kI, kB, kS, kN, nmV, nmO, op1, op2, opC, tst, tru, truD, notT, andT, orT, blV, vbl, andV, orV, notV, iteE, aNil, aCons, lNil, lCons, tupE, lstE, dicE, Opd.get, callF, frR, callI, callL, own1, addD, subD, negD, cmpD, lenD, intD, tupD, lisD, absD, isiD, tyD, min2D, max2D, Pv.R.of, raiseS, asgS, nameG, nilG, consG, tupG, isD, nisD, isNB, opS, pNone, pSome, seqI', itsD, sItS, putD, wipeE, backE, whole_int, at_0, at_1, idxD, opC3, h1, h2, h3]
      · unfold igB
        simp [-List.map_map, fnF, en0, seqS, passS, noS, exprS, retS, retN, retM, putE, setS, iteS, vOfE, eOfV, oOfV, kI, kB, kS, kN, nmV, nmO, op1, op2, opC, tst, tru, truD, notT, andT, orT, blV, vbl, andV, orV, notV, iteE, aNil, aCons, lNil, lCons, tupE, lstE, dicE, Opd.get, callF, frR, callI, callL, own1, addD, subD, negD, cmpD, lenD, intD, tupD, lisD, absD, isiD, tyD, min2D, max2D, Pv.R.of, raiseS, asgS, nameG, nilG, consG, tupG, isD, nisD, isNB, opS, pNone, pSome, seqI', itsD, sItS, putD, wipeE, backE, whole_int, at_0, at_1, idxD, opC3, h1, h2]
    · unfold igB
      simp [-List.map_map, fnF, en0, seqS, passS, noS, exprS, retS, retN, retM, putE, setS, iteS, vOfE, eOfV, oOfV, kI, kB, kS, kN, nmV, nmO, op1, op2, opC, tst, tru, truD, notT, andT, orT, blV, vbl, andV, orV, notV, iteE, aNil, aCons, lNil, lCons, tupE, lstE, dicE, Opd.get, callF, frR, callI, callL, own1, addD, subD, negD, cmpD, lenD, intD, tupD, lisD, absD, isiD, tyD, min2D, max2D, Pv.R.of, raiseS, asgS, nameG, nilG, consG, tupG, isD, nisD, isNB, opS, pNone, pSome, seqI', itsD, sItS, putD, wipeE, backE, whole_int, at_0, at_1, idxD, opC3, h1]
theorem bad_bl (n : Nat) (b : Bool) (y : Int) : BadE n (.tup [.bl b, .int y]) := by
  have e2 : F__law_whole none [.bl b] = .ok (.bl false, 0) none := by
    unfold F__law_whole g__law_whole
    simp [-List.map_map, fnF, en0, seqS, passS, noS, exprS, retS, retN, retM, putE, setS, iteS, vOfE, eOfV, oOfV, kI, kB, kS, kN, nmV, nmO, op1, op2, opC, tst, tru, truD, notT, andT, orT, blV, vbl, andV, orV, notV, iteE, aNil, aCons, lNil, lCons, tupE, lstE, dicE, Opd.get, callF, frR, callI, callL, own1, addD, subD, negD, cmpD, lenD, intD, tupD, lisD, absD, isiD, tyD, min2D, max2D, Pv.R.of, raiseS, asgS, nameG, nilG, consG, tupG, isD, nisD, isNB, opS, pNone, pSome, seqI', itsD, sItS, putD, wipeE, backE]
  refine ⟨?_, fun v e => ?_⟩
  · unfold F_is_edge g_is_edge
    simp [-List.map_map, fnF, en0, seqS, passS, noS, exprS, retS, retN, retM, putE, setS, iteS, vOfE, eOfV, oOfV, kI, kB, kS, kN, nmV, nmO, op1, op2, opC, tst, tru, truD, notT, andT, orT, blV, vbl, andV, orV, notV, iteE, aNil, aCons, lNil, lCons, tupE, lstE, dicE, Opd.get, callF, frR, callI, callL, own1, addD, subD, negD, cmpD, lenD, intD, tupD, lisD, absD, isiD, tyD, min2D, max2D, Pv.R.of, raiseS, asgS, nameG, nilG, consG, tupG, isD, nisD, isNB, opS, pNone, pSome, seqI', itsD, sItS, putD, wipeE, backE, isp_bl, at_0, at_1, idxD]
  · unfold igB
    simp [-List.map_map, fnF, en0, seqS, passS, noS, exprS, retS, retN, retM, putE, setS, iteS, vOfE, eOfV, oOfV, kI, kB, kS, kN, nmV, nmO, op1, op2, opC, tst, tru, truD, notT, andT, orT, blV, vbl, andV, orV, notV, iteE, aNil, aCons, lNil, lCons, tupE, lstE, dicE, Opd.get, callF, frR, callI, callL, own1, addD, subD, negD, cmpD, lenD, intD, tupD, lisD, absD, isiD, tyD, min2D, max2D, Pv.R.of, raiseS, asgS, nameG, nilG, consG, tupG, isD, nisD, isNB, opS, pNone, pSome, seqI', itsD, sItS, putD, wipeE, backE, e2, at_0, at_1, idxD]
end L47
end

section
open Pv PySem
set_option Elab.async false
set_option linter.all false
set_option maxRecDepth 100000
namespace L47
def ones (k : Nat) : List E2 := List.replicate k (0, 0)
/-- the law's values -/
def valsD (n : Nat) (es : List E2) (s : Str) : List D :=
  [Gd n es, .lst [.int n, .tup (es.map pr)], .tup [.int n, .lst (es.map pr)], .tup [.int n], .tup [.int n, .tup (es.map pr), .int 0], .tup [.int 0, .tup []], .tup [.int 401, .tup []], .tup [.int 400, .tup []], .tup [.bl true, .tup []], .tup [.int n, .non], .non, .int 5, .str (PySem.Str.ofString "G")]
  ++ [.tup [.int n, .tup (es.map pr ++ [.tup [.int 0, .int n]])], .tup [.int n, .tup [.tup [.int 0, .int (-1)]]], .tup [.int n, .tup [.tup [.int 0, .int 0, .int 0]]], .tup [.int n, .tup [.non]], .tup [.int n, .tup [.tup [.bl false, .int 0]]]]
  ++ [.tup [.int n, .tup (es.map pr).reverse], .tup [.int n, .tup [.tup [.int ((n : Int) - 1), .int 0]]], .tup [.int 1, .tup ((ones 4000).map pr)], .tup [.int 1, .tup ((ones 4001).map pr)], .tup [.str s, .tup (es.map pr)], .tup [.int n, .tup [.lst [.int 0, .int 0]]]]
theorem chain_ones : ∀ k, chain (ones k) = true
  | 0 => rfl
  | 1 => by simp [ones, chain]
  | k + 2 => by
    have ih := chain_ones (k + 1)
    have e : ones (k + 2) = (0, 0) :: (0, 0) :: ones k := rfl
    have e' : ones (k + 1) = (0, 0) :: ones k := rfl
    rw [e'] at ih
    rw [e]
    unfold chain at ih ⊢
    simp only [List.drop_succ_cons, List.drop_zero, List.zip_cons_cons, List.all_cons] at ih ⊢
    rw [ih]
    rfl
theorem vals_ok {n : Nat} {es : List E2} (g : Okg n es) (hl : es.length < 4000) (s : Str) : ∀ v ∈ valsD n es s, ∃ b, Val v b := by
  have h1 := g.n1
  have h4 := g.n4
  have hk := g.e
  have nil_bad : ∀ {d : D}, BadE n d → Val (.tup [.int n, .tup [d]]) false := fun {d} hd => val_bad (es := []) h1 h4 (by simp) rfl hd
  intro v hv
  simp only [valsD, List.cons_append, List.nil_append, List.mem_cons, List.not_mem_nil, or_false] at hv
  rcases hv with rfl | rfl | rfl | rfl | rfl | rfl | rfl | rfl | rfl | rfl | rfl | rfl | rfl | rfl | rfl | rfl | rfl | rfl | rfl | rfl | rfl | rfl | rfl | rfl
  · exact ⟨_, val_good g⟩
  · exact ⟨_, val_lst _⟩
  · exact ⟨_, val_notup n _ (fun _ e => by cases e) ⟨"list", rfl, by decide⟩ h1 h4⟩
  · exact ⟨_, val_1 _⟩
  · exact ⟨_, val_3 _ _ _⟩
  · exact ⟨_, val_off _ _ (by omega)⟩
  · exact ⟨_, val_off _ _ (by omega)⟩
  · exact ⟨_, val_good (n := 400) (es := []) ⟨by omega, by omega, by simp, rfl, rfl⟩⟩
  · exact ⟨_, val_bl _ _⟩
  · exact ⟨_, val_notup n _ (fun _ e => by cases e) ⟨"NoneType", rfl, by decide⟩ h1 h4⟩
  · exact ⟨_, val_non⟩
  · exact ⟨_, val_int _⟩
  · exact ⟨_, val_str _⟩
  · exact ⟨_, val_bad h1 h4 hl hk (bad_off n 0 n (by omega))⟩
  · exact ⟨_, nil_bad (bad_off n 0 (-1) (by omega))⟩
  · exact ⟨_, nil_bad (bad_3 n _ _ _)⟩
  · exact ⟨_, nil_bad (bad_non n)⟩
  · exact ⟨_, nil_bad (bad_bl n _ _)⟩
  · refine ⟨chain es.reverse, ?_⟩
    have := val_edges (es := es.reverse) h1 h4 (by simpa using g.l) (by rw [List.all_reverse]; exact hk)
    rw [Gd, List.map_reverse] at this
    exact this
  · by_cases h : n = 1
    · subst h
      exact ⟨chain [(0, 0)], val_edges (n := 1) (es := [(0, 0)]) (by omega) (by omega) (by simp) rfl⟩
    · exact ⟨_, nil_bad (bad_off n ((n : Int) - 1) 0 (by omega))⟩
  · exact ⟨true, val_good (n := 1) (es := ones 4000) ⟨by omega, by omega, by simp [ones], by simp [ones, okE], chain_ones 4000⟩⟩
  · exact ⟨_, val_long 1 _ (by omega) (by omega) (by simp [ones])⟩
  · exact ⟨_, val_strp _ _⟩
  · exact ⟨_, nil_bad (bad_lst n _)⟩
end L47
end

section
open Pv PySem
set_option Elab.async false
set_option linter.all false
set_option maxRecDepth 100000
namespace L47
abbrev ve (s G vs v b n es du x y k ac gi : Sl) : En := [s, G, vs, v, b, n, es, du, x, y, k, ac, gi]
theorem rep_ones (k : Nat) (h : 2 ≤ k) (h2 : k ≤ 100000) : repD (.tup [.tup [.int 0, .int 0]]) (.int k) = some (.tup ((ones k).map pr), 0) := by
  have hb : repB (k : Int) = true := by
    unfold repB
    exact Nat.ble_eq_true_of_le (by omega)
  have e : (List.replicate k [D.tup [.int 0, .int 0]]).flatten = (ones k).map pr := by
    have : ∀ j : Nat, (List.replicate j [D.tup [.int 0, .int 0]]).flatten = (ones j).map pr := by
      intro j
      induction j with
      | zero => rfl
      | succ j ih =>
        rw [List.replicate_succ, List.flatten_cons, ih]
        rfl
    exact this k
  have h3 : ¬ ((k : Int) = 1) := by omega
  have h4 : ¬ ((k : Int) ≤ 0) := by omega
  have h5 : k * 1 ≤ lim := le_lim (by omega)
  unfold repD
  simp only [hb, if_true, List.isEmpty_cons, Bool.false_eq_true, false_or, if_neg h3, if_neg h4, Int.toNat_natCast, List.length_singleton, if_pos h5, e]
theorem same_bl (b : Bool) : F__law_same 6 none [.bl b, .bl b] = .ok (.bl true, 0) none := by
  show fnF 3 false (g__law_same (F__law_same 5)) none _ = _
  unfold g__law_same
  simp [-List.map_map, fnF, en0, seqS, passS, noS, exprS, retS, retN, retM, putE, setS, iteS, vOfE, eOfV, oOfV, kI, kB, kS, kN, nmV, nmO, op1, op2, opC, tst, tru, truD, notT, andT, orT, blV, vbl, andV, orV, notV, iteE, aNil, aCons, lNil, lCons, tupE, lstE, dicE, Opd.get, callF, frR, callI, callL, own1, addD, subD, negD, cmpD, lenD, intD, tupD, lisD, absD, isiD, tyD, min2D, max2D, Pv.R.of, raiseS, asgS, nameG, nilG, consG, tupG, isD, nisD, isNB, opS, pNone, pSome, seqI', itsD, sItS, putD, wipeE, backE]
theorem vh1 (s0 : D) (n : Nat) (es : List E2) : g__law_values_hold_1 (en0 13 none [s0, Gd n es]) = .nx (ve (some (s0, 0)) (some (Gd n es, 0)) none none none (some (.int n, 0)) (some (.tup (es.map pr), 0)) none none none none none none) := by
  simp [-List.map_map, fnF, en0, seqS, passS, noS, exprS, retS, retN, retM, putE, setS, iteS, vOfE, eOfV, oOfV, kI, kB, kS, kN, nmV, nmO, op1, op2, opC, tst, tru, truD, notT, andT, orT, blV, vbl, andV, orV, notV, iteE, aNil, aCons, lNil, lCons, tupE, lstE, dicE, Opd.get, callF, frR, callI, callL, own1, addD, subD, negD, cmpD, lenD, intD, tupD, lisD, absD, isiD, tyD, min2D, max2D, Pv.R.of, raiseS, asgS, nameG, nilG, consG, tupG, isD, nisD, isNB, opS, pNone, pSome, seqI', itsD, sItS, putD, wipeE, backE, Gd]
theorem strn (n : Nat) (h : n ≤ 40) : strD (.int n) = some (.str (toString (n : Int)), 0) := by
  have h1 : (n : Int).natAbs.log2 < 1920 := by
    have h1 : (n : Int).natAbs = n := by omega
    rw [h1]
    have : n.log2 ≤ n := Nat.log2_le_self n
    omega
  show (if (n : Int).natAbs.log2 < 1920 then some (D.str (toString (n : Int)), 0) else none) = _
  rw [if_pos h1]
theorem vh24 (s0 : Sl) (n : Nat) (es : List E2) (h : n ≤ 40) (hl : es.length ≤ 50) (g : En → SR) : seqS g__law_values_hold_2 (seqS g__law_values_hold_3 (seqS g__law_values_hold_4 g)) (ve s0 (some (Gd n es, 0)) none none none (some (.int n, 0)) (some (.tup (es.map pr), 0)) none none none none none none) = g (ve s0 (some (Gd n es, 0)) (some (.lst (valsD n es (toString (n : Int))), 1)) none none (some (.int n, 0)) (some (.tup (es.map pr), 0)) none none none none none none) := by
  have r1 : repD (.tup [.tup [.int 0, .int 0]]) (.int 4000) = some (.tup ((ones 4000).map pr), 0) := rep_ones 4000 (by omega) (by omega)
  have r2 : repD (.tup [.tup [.int 0, .int 0]]) (.int 4001) = some (.tup ((ones 4001).map pr), 0) := rep_ones 4001 (by omega) (by omega)
  have r3 := strn n h
  have hl : (es.map pr).length + 1 ≤ 100000 := by simp; omega
  unfold valsD
  generalize (ones 4000).map pr = O1 at *
  generalize (ones 4001).map pr = O2 at *
  simp only [Gd]
  generalize es.map pr = X at *
  have a2 : g__law_values_hold_2 (ve s0 (some (.tup [.int n, .tup X], 0)) none none none (some (.int n, 0)) (some (.tup X, 0)) none none none none none none) = .nx (ve s0 (some (.tup [.int n, .tup X], 0)) (some (.lst [.tup [.int n, .tup X], .lst [.int n, .tup X], .tup [.int n, .lst X], .tup [.int n], .tup [.int n, .tup X, .int 0], .tup [.int 0, .tup []], .tup [.int 401, .tup []], .tup [.int 400, .tup []], .tup [.bl true, .tup []], .tup [.int n, .non], .non, .int 5, .str (PySem.Str.ofString "G")], 1)) none none (some (.int n, 0)) (some (.tup X, 0)) none none none none none none) := by
    simp [-List.map_map, fnF, en0, seqS, passS, noS, exprS, retS, retN, retM, putE, setS, iteS, vOfE, eOfV, oOfV, kI, kB, kS, kN, nmV, nmO, op1, op2, opC, tst, tru, truD, notT, andT, orT, blV, vbl, andV, orV, notV, iteE, aNil, aCons, lNil, lCons, tupE, lstE, dicE, Opd.get, callF, frR, callI, callL, own1, addD, subD, negD, cmpD, lenD, intD, tupD, lisD, absD, isiD, tyD, min2D, max2D, Pv.R.of, raiseS, asgS, nameG, nilG, consG, tupG, isD, nisD, isNB, opS, pNone, pSome, seqI', itsD, sItS, putD, wipeE, backE]
  refine (seqS_nx a2).trans ?_
  have a3 : g__law_values_hold_3 (ve s0 (some (.tup [.int n, .tup X], 0)) (some (.lst [.tup [.int n, .tup X], .lst [.int n, .tup X], .tup [.int n, .lst X], .tup [.int n], .tup [.int n, .tup X, .int 0], .tup [.int 0, .tup []], .tup [.int 401, .tup []], .tup [.int 400, .tup []], .tup [.bl true, .tup []], .tup [.int n, .non], .non, .int 5, .str (PySem.Str.ofString "G")], 1)) none none (some (.int n, 0)) (some (.tup X, 0)) none none none none none none)
     = .nx (ve s0 (some (.tup [.int n, .tup X], 0)) (some (.lst ([.tup [.int n, .tup X], .lst [.int n, .tup X], .tup [.int n, .lst X], .tup [.int n], .tup [.int n, .tup X, .int 0], .tup [.int 0, .tup []], .tup [.int 401, .tup []], .tup [.int 400, .tup []], .tup [.bl true, .tup []], .tup [.int n, .non], .non, .int 5, .str (PySem.Str.ofString "G")] ++ [.tup [.int n, .tup (X ++ [.tup [.int 0, .int n]])], .tup [.int n, .tup [.tup [.int 0, .int (-1)]]], .tup [.int n, .tup [.tup [.int 0, .int 0, .int 0]]], .tup [.int n, .tup [.non]], .tup [.int n, .tup [.tup [.bl false, .int 0]]]]), 1)) none none (some (.int n, 0)) (some (.tup X, 0)) none none none none none none) := by
    have hX : X.length + 1 ≤ lim := le_lim hl
    simp [-List.map_map, fnF, en0, seqS, passS, noS, exprS, retS, retN, retM, putE, setS, iteS, vOfE, eOfV, oOfV, kI, kB, kS, kN, nmV, nmO, op1, op2, opC, tst, tru, truD, notT, andT, orT, blV, vbl, andV, orV, notV, iteE, aNil, aCons, lNil, lCons, tupE, lstE, dicE, Opd.get, callF, frR, callI, callL, own1, addD, subD, negD, cmpD, lenD, intD, tupD, lisD, absD, isiD, tyD, min2D, max2D, Pv.R.of, raiseS, asgS, nameG, nilG, consG, tupG, isD, nisD, isNB, opS, pNone, pSome, seqI', itsD, sItS, putD, wipeE, backE, hX]
  refine (seqS_nx a3).trans ?_
  refine (seqS_nx ?_).trans rfl
  simp [-List.map_map, fnF, en0, seqS, passS, noS, exprS, retS, retN, retM, putE, setS, iteS, vOfE, eOfV, oOfV, kI, kB, kS, kN, nmV, nmO, op1, op2, opC, tst, tru, truD, notT, andT, orT, blV, vbl, andV, orV, notV, iteE, aNil, aCons, lNil, lCons, tupE, lstE, dicE, Opd.get, callF, frR, callI, callL, own1, addD, subD, negD, cmpD, lenD, intD, tupD, lisD, absD, isiD, tyD, min2D, max2D, Pv.R.of, raiseS, asgS, nameG, nilG, consG, tupG, isD, nisD, isNB, opS, pNone, pSome, seqI', itsD, sItS, putD, wipeE, backE, r1, r2, r3, revD]
abbrev vB : En → SR := (seqS
  (setS 7 ((callF 1 (F__law_is_graph) (aCons ((nmV 3)) aNil)))) (seqS
  (iteS (notT (tru (oOfV ((vOfE (callF 2 (F__law_same 6) (aCons ((vOfE (callF 1 (F_is_rooted_graph) (aCons ((nmV 3)) aNil)))) (aCons ((nmV 7)) aNil)))))))) (retS ((eOfV (kB false)))) passS) (forS (seqI' ((vOfE (lstE (aCons ((tupE (aCons ((fun env => .ok (.fn 0) env)) (aCons ((tupE (aCons ((nmV 3)) (aCons (kI 2) aNil)))) aNil)))) (aCons ((tupE (aCons ((fun env => .ok (.fn 1) env)) (aCons ((tupE (aCons ((nmV 3)) (aCons (kI 2) aNil)))) aNil)))) (aCons ((tupE (aCons ((fun env => .ok (.fn 2) env)) (aCons ((tupE (aCons ((nmV 3)) (aCons (kI 0) (aCons (kI 0) (aCons (kI 2) aNil)))))) aNil)))) aNil))))))) (tupG 2 (consG (nameG 11) (consG (nameG 12) nilG))) (iteS (andT (notT (tru (nmO 7))) (notT (tru (oOfV ((vOfE (callF 2 (F__law_is_raised) (aCons ((vOfE (callF 2 (F__law_told) (aCons ((nmV 11)) (aCons ((nmV 12)) aNil))))) (aCons (kS (PySem.Str.ofString "malformed")) aNil))))))))) (retS ((eOfV (kB false)))) passS))))
theorem vB_ok (s G vs b n es du x y k ac gi : Sl) (v : D) (bb : Bool) (h : Val v bb) : ∃ du' ac' gi', vB (ve s G vs (some (v, 0)) b n es du x y k ac gi) = .nx (ve s G vs (some (v, 0)) b n es du' x y k ac' gi') := by
  have a1 : setS 7 (callF 1 (F__law_is_graph) (aCons (nmV 3) aNil)) (ve s G vs (some (v, 0)) b n es du x y k ac gi) = .nx (ve s G vs (some (v, 0)) b n es (some (.bl bb, 0)) x y k ac gi) := by
    simp [-List.map_map, fnF, en0, seqS, passS, noS, exprS, retS, retN, retM, putE, setS, iteS, vOfE, eOfV, oOfV, kI, kB, kS, kN, nmV, nmO, op1, op2, opC, tst, tru, truD, notT, andT, orT, blV, vbl, andV, orV, notV, iteE, aNil, aCons, lNil, lCons, tupE, lstE, dicE, Opd.get, callF, frR, callI, callL, own1, addD, subD, negD, cmpD, lenD, intD, tupD, lisD, absD, isiD, tyD, min2D, max2D, Pv.R.of, raiseS, asgS, nameG, nilG, consG, tupG, isD, nisD, isNB, opS, pNone, pSome, seqI', itsD, sItS, putD, wipeE, backE, h.l]
  obtain ⟨e, he, ac', gi', rfl⟩ := loopS_inv (g := tupG 2 (consG (nameG 11) (consG (nameG 12) nilG))) (body := (iteS (andT (notT (tru (nmO 7))) (notT (tru (oOfV ((vOfE (callF 2 (F__law_is_raised) (aCons ((vOfE (callF 2 (F__law_told) (aCons ((nmV 11)) (aCons ((nmV 12)) aNil))))) (aCons (kS (PySem.Str.ofString "malformed")) aNil))))))))) (retS ((eOfV (kB false)))) passS))
    (fun e => ∃ ac gi, e = ve s G vs (some (v, 0)) b n es (some (.bl bb, 0)) x y k ac gi) [.tup [.fn 0, .tup [v, .int 2]], .tup [.fn 1, .tup [v, .int 2]], .tup [.fn 2, .tup [v, .int 0, .int 0, .int 2]]] (ve s G vs (some (v, 0)) b n es (some (.bl bb, 0)) x y k ac gi) ⟨ac, gi, rfl⟩ (fun d hd env hP => by
      obtain ⟨ac, gi, rfl⟩ := hP
      cases bb with
      | true =>
        simp only [List.mem_cons, List.not_mem_nil, or_false] at hd
        rcases hd with rfl | rfl | rfl
        · exact ⟨_, ve s G vs (some (v, 0)) b n es (some (.bl true, 0)) x y k (some (.fn 0, 0)) (some (.tup [v, .int 2], 0)), by simp [-List.map_map, fnF, en0, seqS, passS, noS, exprS, retS, retN, retM, putE, setS, iteS, vOfE, eOfV, oOfV, kI, kB, kS, kN, nmV, nmO, op1, op2, opC, tst, tru, truD, notT, andT, orT, blV, vbl, andV, orV, notV, iteE, aNil, aCons, lNil, lCons, tupE, lstE, dicE, Opd.get, callF, frR, callI, callL, own1, addD, subD, negD, cmpD, lenD, intD, tupD, lisD, absD, isiD, tyD, min2D, max2D, Pv.R.of, raiseS, asgS, nameG, nilG, consG, tupG, isD, nisD, isNB, opS, pNone, pSome, seqI', itsD, sItS, putD, wipeE, backE]; rfl, by simp [-List.map_map, fnF, en0, seqS, passS, noS, exprS, retS, retN, retM, putE, setS, iteS, vOfE, eOfV, oOfV, kI, kB, kS, kN, nmV, nmO, op1, op2, opC, tst, tru, truD, notT, andT, orT, blV, vbl, andV, orV, notV, iteE, aNil, aCons, lNil, lCons, tupE, lstE, dicE, Opd.get, callF, frR, callI, callL, own1, addD, subD, negD, cmpD, lenD, intD, tupD, lisD, absD, isiD, tyD, min2D, max2D, Pv.R.of, raiseS, asgS, nameG, nilG, consG, tupG, isD, nisD, isNB, opS, pNone, pSome, seqI', itsD, sItS, putD, wipeE, backE], _, _, rfl⟩
        · exact ⟨_, ve s G vs (some (v, 0)) b n es (some (.bl true, 0)) x y k (some (.fn 1, 0)) (some (.tup [v, .int 2], 0)), by simp [-List.map_map, fnF, en0, seqS, passS, noS, exprS, retS, retN, retM, putE, setS, iteS, vOfE, eOfV, oOfV, kI, kB, kS, kN, nmV, nmO, op1, op2, opC, tst, tru, truD, notT, andT, orT, blV, vbl, andV, orV, notV, iteE, aNil, aCons, lNil, lCons, tupE, lstE, dicE, Opd.get, callF, frR, callI, callL, own1, addD, subD, negD, cmpD, lenD, intD, tupD, lisD, absD, isiD, tyD, min2D, max2D, Pv.R.of, raiseS, asgS, nameG, nilG, consG, tupG, isD, nisD, isNB, opS, pNone, pSome, seqI', itsD, sItS, putD, wipeE, backE]; rfl, by simp [-List.map_map, fnF, en0, seqS, passS, noS, exprS, retS, retN, retM, putE, setS, iteS, vOfE, eOfV, oOfV, kI, kB, kS, kN, nmV, nmO, op1, op2, opC, tst, tru, truD, notT, andT, orT, blV, vbl, andV, orV, notV, iteE, aNil, aCons, lNil, lCons, tupE, lstE, dicE, Opd.get, callF, frR, callI, callL, own1, addD, subD, negD, cmpD, lenD, intD, tupD, lisD, absD, isiD, tyD, min2D, max2D, Pv.R.of, raiseS, asgS, nameG, nilG, consG, tupG, isD, nisD, isNB, opS, pNone, pSome, seqI', itsD, sItS, putD, wipeE, backE], _, _, rfl⟩
        · exact ⟨_, ve s G vs (some (v, 0)) b n es (some (.bl true, 0)) x y k (some (.fn 2, 0)) (some (.tup [v, .int 0, .int 0, .int 2], 0)), by simp [-List.map_map, fnF, en0, seqS, passS, noS, exprS, retS, retN, retM, putE, setS, iteS, vOfE, eOfV, oOfV, kI, kB, kS, kN, nmV, nmO, op1, op2, opC, tst, tru, truD, notT, andT, orT, blV, vbl, andV, orV, notV, iteE, aNil, aCons, lNil, lCons, tupE, lstE, dicE, Opd.get, callF, frR, callI, callL, own1, addD, subD, negD, cmpD, lenD, intD, tupD, lisD, absD, isiD, tyD, min2D, max2D, Pv.R.of, raiseS, asgS, nameG, nilG, consG, tupG, isD, nisD, isNB, opS, pNone, pSome, seqI', itsD, sItS, putD, wipeE, backE]; rfl, by simp [-List.map_map, fnF, en0, seqS, passS, noS, exprS, retS, retN, retM, putE, setS, iteS, vOfE, eOfV, oOfV, kI, kB, kS, kN, nmV, nmO, op1, op2, opC, tst, tru, truD, notT, andT, orT, blV, vbl, andV, orV, notV, iteE, aNil, aCons, lNil, lCons, tupE, lstE, dicE, Opd.get, callF, frR, callI, callL, own1, addD, subD, negD, cmpD, lenD, intD, tupD, lisD, absD, isiD, tyD, min2D, max2D, Pv.R.of, raiseS, asgS, nameG, nilG, consG, tupG, isD, nisD, isNB, opS, pNone, pSome, seqI', itsD, sItS, putD, wipeE, backE], _, _, rfl⟩
      | false =>
        have t0 := told2x (i := 0) (F := F_closed_walks) rfl (closed_bad h (.int 2))
        have t1 := told2x (i := 1) (F := F_first_walks) rfl (first_bad h (.int 2))
        have t2 := told4x (i := 2) (F := F_walk_number) rfl (walkn_bad h (.int 0) (.int 0) (.int 2))
        simp only [List.mem_cons, List.not_mem_nil, or_false] at hd
        rcases hd with rfl | rfl | rfl
        · exact ⟨_, ve s G vs (some (v, 0)) b n es (some (.bl false, 0)) x y k (some (.fn 0, 0)) (some (.tup [v, .int 2], 0)), by simp [-List.map_map, fnF, en0, seqS, passS, noS, exprS, retS, retN, retM, putE, setS, iteS, vOfE, eOfV, oOfV, kI, kB, kS, kN, nmV, nmO, op1, op2, opC, tst, tru, truD, notT, andT, orT, blV, vbl, andV, orV, notV, iteE, aNil, aCons, lNil, lCons, tupE, lstE, dicE, Opd.get, callF, frR, callI, callL, own1, addD, subD, negD, cmpD, lenD, intD, tupD, lisD, absD, isiD, tyD, min2D, max2D, Pv.R.of, raiseS, asgS, nameG, nilG, consG, tupG, isD, nisD, isNB, opS, pNone, pSome, seqI', itsD, sItS, putD, wipeE, backE]; rfl, by simp [-List.map_map, fnF, en0, seqS, passS, noS, exprS, retS, retN, retM, putE, setS, iteS, vOfE, eOfV, oOfV, kI, kB, kS, kN, nmV, nmO, op1, op2, opC, tst, tru, truD, notT, andT, orT, blV, vbl, andV, orV, notV, iteE, aNil, aCons, lNil, lCons, tupE, lstE, dicE, Opd.get, callF, frR, callI, callL, own1, addD, subD, negD, cmpD, lenD, intD, tupD, lisD, absD, isiD, tyD, min2D, max2D, Pv.R.of, raiseS, asgS, nameG, nilG, consG, tupG, isD, nisD, isNB, opS, pNone, pSome, seqI', itsD, sItS, putD, wipeE, backE, t0, is_raised], _, _, rfl⟩
        · exact ⟨_, ve s G vs (some (v, 0)) b n es (some (.bl false, 0)) x y k (some (.fn 1, 0)) (some (.tup [v, .int 2], 0)), by simp [-List.map_map, fnF, en0, seqS, passS, noS, exprS, retS, retN, retM, putE, setS, iteS, vOfE, eOfV, oOfV, kI, kB, kS, kN, nmV, nmO, op1, op2, opC, tst, tru, truD, notT, andT, orT, blV, vbl, andV, orV, notV, iteE, aNil, aCons, lNil, lCons, tupE, lstE, dicE, Opd.get, callF, frR, callI, callL, own1, addD, subD, negD, cmpD, lenD, intD, tupD, lisD, absD, isiD, tyD, min2D, max2D, Pv.R.of, raiseS, asgS, nameG, nilG, consG, tupG, isD, nisD, isNB, opS, pNone, pSome, seqI', itsD, sItS, putD, wipeE, backE]; rfl, by simp [-List.map_map, fnF, en0, seqS, passS, noS, exprS, retS, retN, retM, putE, setS, iteS, vOfE, eOfV, oOfV, kI, kB, kS, kN, nmV, nmO, op1, op2, opC, tst, tru, truD, notT, andT, orT, blV, vbl, andV, orV, notV, iteE, aNil, aCons, lNil, lCons, tupE, lstE, dicE, Opd.get, callF, frR, callI, callL, own1, addD, subD, negD, cmpD, lenD, intD, tupD, lisD, absD, isiD, tyD, min2D, max2D, Pv.R.of, raiseS, asgS, nameG, nilG, consG, tupG, isD, nisD, isNB, opS, pNone, pSome, seqI', itsD, sItS, putD, wipeE, backE, t1, is_raised], _, _, rfl⟩
        · exact ⟨_, ve s G vs (some (v, 0)) b n es (some (.bl false, 0)) x y k (some (.fn 2, 0)) (some (.tup [v, .int 0, .int 0, .int 2], 0)), by simp [-List.map_map, fnF, en0, seqS, passS, noS, exprS, retS, retN, retM, putE, setS, iteS, vOfE, eOfV, oOfV, kI, kB, kS, kN, nmV, nmO, op1, op2, opC, tst, tru, truD, notT, andT, orT, blV, vbl, andV, orV, notV, iteE, aNil, aCons, lNil, lCons, tupE, lstE, dicE, Opd.get, callF, frR, callI, callL, own1, addD, subD, negD, cmpD, lenD, intD, tupD, lisD, absD, isiD, tyD, min2D, max2D, Pv.R.of, raiseS, asgS, nameG, nilG, consG, tupG, isD, nisD, isNB, opS, pNone, pSome, seqI', itsD, sItS, putD, wipeE, backE]; rfl, by simp [-List.map_map, fnF, en0, seqS, passS, noS, exprS, retS, retN, retM, putE, setS, iteS, vOfE, eOfV, oOfV, kI, kB, kS, kN, nmV, nmO, op1, op2, opC, tst, tru, truD, notT, andT, orT, blV, vbl, andV, orV, notV, iteE, aNil, aCons, lNil, lCons, tupE, lstE, dicE, Opd.get, callF, frR, callI, callL, own1, addD, subD, negD, cmpD, lenD, intD, tupD, lisD, absD, isiD, tyD, min2D, max2D, Pv.R.of, raiseS, asgS, nameG, nilG, consG, tupG, isD, nisD, isNB, opS, pNone, pSome, seqI', itsD, sItS, putD, wipeE, backE, t2, is_raised], _, _, rfl⟩)
  have hs := same_bl bb
  have a2 : (iteS (notT (tru (oOfV ((vOfE (callF 2 (F__law_same 6) (aCons ((vOfE (callF 1 (F_is_rooted_graph) (aCons ((nmV 3)) aNil)))) (aCons ((nmV 7)) aNil)))))))) (retS ((eOfV (kB false)))) passS) (ve s G vs (some (v, 0)) b n es (some (.bl bb, 0)) x y k ac gi) = .nx (ve s G vs (some (v, 0)) b n es (some (.bl bb, 0)) x y k ac gi) := by
    simp [-List.map_map, fnF, en0, seqS, passS, noS, exprS, retS, retN, retM, putE, setS, iteS, vOfE, eOfV, oOfV, kI, kB, kS, kN, nmV, nmO, op1, op2, opC, tst, tru, truD, notT, andT, orT, blV, vbl, andV, orV, notV, iteE, aNil, aCons, lNil, lCons, tupE, lstE, dicE, Opd.get, callF, frR, callI, callL, own1, addD, subD, negD, cmpD, lenD, intD, tupD, lisD, absD, isiD, tyD, min2D, max2D, Pv.R.of, raiseS, asgS, nameG, nilG, consG, tupG, isD, nisD, isNB, opS, pNone, pSome, seqI', itsD, sItS, putD, wipeE, backE, h.p, hs]
  exact ⟨_, ac', gi', (seqS_nx a1).trans ((seqS_nx a2).trans ((forS_ok (ds := [.tup [.fn 0, .tup [v, .int 2]], .tup [.fn 1, .tup [v, .int 2]], .tup [.fn 2, .tup [v, .int 0, .int 0, .int 2]]]) (env1 := ve s G vs (some (v, 0)) b n es (some (.bl bb, 0)) x y k ac gi) (by simp [-List.map_map, fnF, en0, seqS, passS, noS, exprS, retS, retN, retM, putE, setS, iteS, vOfE, eOfV, oOfV, kI, kB, kS, kN, nmV, nmO, op1, op2, opC, tst, tru, truD, notT, andT, orT, blV, vbl, andV, orV, notV, iteE, aNil, aCons, lNil, lCons, tupE, lstE, dicE, Opd.get, callF, frR, callI, callL, own1, addD, subD, negD, cmpD, lenD, intD, tupD, lisD, absD, isiD, tyD, min2D, max2D, Pv.R.of, raiseS, asgS, nameG, nilG, consG, tupG, isD, nisD, isNB, opS, pNone, pSome, seqI', itsD, sItS, putD, wipeE, backE])).trans he))⟩
theorem vh5 (s G b n' es' du x y k ac gi : Sl) {n : Nat} {es : List E2} (g : Okg n es) (hl : es.length < 4000) (st : Str) (v : Sl) : ∃ v' du' ac' gi', g__law_values_hold_5 (ve s G (some (.lst (valsD n es st), 1)) v b n' es' du x y k ac gi) = .nx (ve s G (some (.lst (valsD n es st), 0)) v' b n' es' du' x y k ac' gi') := by
  obtain ⟨e, he, v', du', ac', gi', rfl⟩ := loopS_inv (g := nameG 3) (body := vB) (fun e => ∃ v du ac gi, e = ve s G (some (.lst (valsD n es st), 0)) v b n' es' du x y k ac gi) (valsD n es st) (ve s G (some (.lst (valsD n es st), 0)) v b n' es' du x y k ac gi) ⟨v, du, ac, gi, rfl⟩ (fun d hd env hP => by
    obtain ⟨v, du, ac, gi, rfl⟩ := hP
    obtain ⟨bb, hv⟩ := vals_ok g hl st d hd
    obtain ⟨du', ac', gi', h1⟩ := vB_ok s G (some (.lst (valsD n es st), 0)) b n' es' du x y k ac gi d bb hv
    exact ⟨_, _, by generalize valsD n es st = Y; simp [-List.map_map, fnF, en0, seqS, passS, noS, exprS, retS, retN, retM, putE, setS, iteS, vOfE, eOfV, oOfV, kI, kB, kS, kN, nmV, nmO, op1, op2, opC, tst, tru, truD, notT, andT, orT, blV, vbl, andV, orV, notV, iteE, aNil, aCons, lNil, lCons, tupE, lstE, dicE, Opd.get, callF, frR, callI, callL, own1, addD, subD, negD, cmpD, lenD, intD, tupD, lisD, absD, isiD, tyD, min2D, max2D, Pv.R.of, raiseS, asgS, nameG, nilG, consG, tupG, isD, nisD, isNB, opS, pNone, pSome, seqI', itsD, sItS, putD, wipeE, backE], h1, _, _, _, _, rfl⟩)
  exact ⟨v', du', ac', gi', (forS_ok (ds := valsD n es st) (by generalize valsD n es st = Y; simp [-List.map_map, fnF, en0, seqS, passS, noS, exprS, retS, retN, retM, putE, setS, iteS, vOfE, eOfV, oOfV, kI, kB, kS, kN, nmV, nmO, op1, op2, opC, tst, tru, truD, notT, andT, orT, blV, vbl, andV, orV, notV, iteE, aNil, aCons, lNil, lCons, tupE, lstE, dicE, Opd.get, callF, frR, callI, callL, own1, addD, subD, negD, cmpD, lenD, intD, tupD, lisD, absD, isiD, tyD, min2D, max2D, Pv.R.of, raiseS, asgS, nameG, nilG, consG, tupG, isD, nisD, isNB, opS, pNone, pSome, seqI', itsD, sItS, putD, wipeE, backE])).trans he⟩
end L47
end

section
open Pv PySem
set_option Elab.async false
set_option linter.all false
set_option maxRecDepth 100000
namespace L47
def badL : List D := [.int (-1), .int 13, .non, .bl true, .str (PySem.Str.ofString "1")]
theorem clen_bad : ∀ d ∈ badL, F_check_length none [d, .int 12] = .ex (.mk 1 []) := by
  intro d hd
  simp only [badL, List.mem_cons, List.not_mem_nil, or_false] at hd
  rcases hd with rfl | rfl | rfl | rfl | rfl <;> kernel_rfl
theorem closed_badlen {n : Nat} {es : List E2} (g : Okg n es) (d : D) (hd : d ∈ badL) : F_closed_walks none [Gd n es, d] = .ex (.mk 1 []) := by
  have h1 := clen_bad d hd
  have h2 := check_ok g
  generalize Gd n es = X at *
  unfold F_closed_walks g_closed_walks
  simp [-List.map_map, fnF, en0, seqS, passS, noS, exprS, retS, retN, retM, putE, setS, iteS, vOfE, eOfV, oOfV, kI, kB, kS, kN, nmV, nmO, op1, op2, opC, tst, tru, truD, notT, andT, orT, blV, vbl, andV, orV, notV, iteE, aNil, aCons, lNil, lCons, tupE, lstE, dicE, Opd.get, callF, frR, callI, callL, own1, addD, subD, negD, cmpD, lenD, intD, tupD, lisD, absD, isiD, tyD, min2D, max2D, Pv.R.of, raiseS, asgS, nameG, nilG, consG, tupG, isD, nisD, isNB, opS, pNone, pSome, seqI', itsD, sItS, putD, wipeE, backE, h1, h2]
theorem first_badlen {n : Nat} {es : List E2} (g : Okg n es) (d : D) (hd : d ∈ badL) : F_first_walks none [Gd n es, d] = .ex (.mk 1 []) := by
  have h1 := clen_bad d hd
  have h2 := check_ok g
  generalize Gd n es = X at *
  unfold F_first_walks g_first_walks
  simp [-List.map_map, fnF, en0, seqS, passS, noS, exprS, retS, retN, retM, putE, setS, iteS, vOfE, eOfV, oOfV, kI, kB, kS, kN, nmV, nmO, op1, op2, opC, tst, tru, truD, notT, andT, orT, blV, vbl, andV, orV, notV, iteE, aNil, aCons, lNil, lCons, tupE, lstE, dicE, Opd.get, callF, frR, callI, callL, own1, addD, subD, negD, cmpD, lenD, intD, tupD, lisD, absD, isiD, tyD, min2D, max2D, Pv.R.of, raiseS, asgS, nameG, nilG, consG, tupG, isD, nisD, isNB, opS, pNone, pSome, seqI', itsD, sItS, putD, wipeE, backE, h1, h2]
theorem vh6 (s vs v n' es' du x y k ac gi b : Sl) {n : Nat} {es : List E2} (g : Okg n es) : ∃ b', g__law_values_hold_6 (ve s (some (Gd n es, 0)) vs v b n' es' du x y k ac gi) = .nx (ve s (some (Gd n es, 0)) vs v b' n' es' du x y k ac gi) := by
  have ht0 : ∀ d ∈ badL, F__law_told none [.fn 0, .tup [Gd n es, d]] = .ok (malD, 0) none := fun d hd => told2x (i := 0) (F := F_closed_walks) rfl (closed_badlen g d hd)
  have ht1 : ∀ d ∈ badL, F__law_told none [.fn 1, .tup [Gd n es, d]] = .ok (malD, 0) none := fun d hd => told2x (i := 1) (F := F_first_walks) rfl (first_badlen g d hd)
  generalize Gd n es = X at *
  obtain ⟨e, he, b', rfl⟩ := loopS_inv (g := nameG 4) (body := (iteS (orT (notT (tru (oOfV ((vOfE (callF 2 (F__law_is_raised) (aCons ((vOfE (callF 2 (F__law_told) (aCons ((fun env => .ok (.fn 0) env)) (aCons ((tupE (aCons ((nmV 1)) (aCons ((nmV 4)) aNil)))) aNil))))) (aCons (kS (PySem.Str.ofString "malformed")) aNil)))))))) (notT (tru (oOfV ((vOfE (callF 2 (F__law_is_raised) (aCons ((vOfE (callF 2 (F__law_told) (aCons ((fun env => .ok (.fn 1) env)) (aCons ((tupE (aCons ((nmV 1)) (aCons ((nmV 4)) aNil)))) aNil))))) (aCons (kS (PySem.Str.ofString "malformed")) aNil))))))))) (retS ((eOfV (kB false)))) passS))
    (fun e => ∃ b, e = ve s (some (X, 0)) vs v b n' es' du x y k ac gi) badL (ve s (some (X, 0)) vs v b n' es' du x y k ac gi) ⟨b, rfl⟩ (fun d hd env hP => by
      obtain ⟨b, rfl⟩ := hP
      have h0 := ht0 d hd
      have h1 := ht1 d hd
      exact ⟨ve s (some (X, 0)) vs v (some (d, 0)) n' es' du x y k ac gi, ve s (some (X, 0)) vs v (some (d, 0)) n' es' du x y k ac gi, by simp [-List.map_map, fnF, en0, seqS, passS, noS, exprS, retS, retN, retM, putE, setS, iteS, vOfE, eOfV, oOfV, kI, kB, kS, kN, nmV, nmO, op1, op2, opC, tst, tru, truD, notT, andT, orT, blV, vbl, andV, orV, notV, iteE, aNil, aCons, lNil, lCons, tupE, lstE, dicE, Opd.get, callF, frR, callI, callL, own1, addD, subD, negD, cmpD, lenD, intD, tupD, lisD, absD, isiD, tyD, min2D, max2D, Pv.R.of, raiseS, asgS, nameG, nilG, consG, tupG, isD, nisD, isNB, opS, pNone, pSome, seqI', itsD, sItS, putD, wipeE, backE], by simp [-List.map_map, fnF, en0, seqS, passS, noS, exprS, retS, retN, retM, putE, setS, iteS, vOfE, eOfV, oOfV, kI, kB, kS, kN, nmV, nmO, op1, op2, opC, tst, tru, truD, notT, andT, orT, blV, vbl, andV, orV, notV, iteE, aNil, aCons, lNil, lCons, tupE, lstE, dicE, Opd.get, callF, frR, callI, callL, own1, addD, subD, negD, cmpD, lenD, intD, tupD, lisD, absD, isiD, tyD, min2D, max2D, Pv.R.of, raiseS, asgS, nameG, nilG, consG, tupG, isD, nisD, isNB, opS, pNone, pSome, seqI', itsD, sItS, putD, wipeE, backE, h0, h1, is_raised], _, rfl⟩)
  exact ⟨b', (forS_ok (ds := badL) (by simp [-List.map_map, fnF, en0, seqS, passS, noS, exprS, retS, retN, retM, putE, setS, iteS, vOfE, eOfV, oOfV, kI, kB, kS, kN, nmV, nmO, op1, op2, opC, tst, tru, truD, notT, andT, orT, blV, vbl, andV, orV, notV, iteE, aNil, aCons, lNil, lCons, tupE, lstE, dicE, Opd.get, callF, frR, callI, callL, own1, addD, subD, negD, cmpD, lenD, intD, tupD, lisD, absD, isiD, tyD, min2D, max2D, Pv.R.of, raiseS, asgS, nameG, nilG, consG, tupG, isD, nisD, isNB, opS, pNone, pSome, seqI', itsD, sItS, putD, wipeE, backE, badL])).trans he⟩
theorem wn_x {n : Nat} {es : List E2} (g : Okg n es) {x y k : D} (hx : F_is_point none [x, .int n] = .ok (.bl false, 0) none) : F_walk_number none [Gd n es, x, y, k] = .ex (.mk 1 []) := by
  have h2 := check_ok g
  have h3 : idxD (Gd n es) (.int 0) = some (.int n, 0) := by simp [Gd, idxD, at_0]
  generalize Gd n es = X at *
  unfold F_walk_number g_walk_number
  simp [-List.map_map, fnF, en0, seqS, passS, noS, exprS, retS, retN, retM, putE, setS, iteS, vOfE, eOfV, oOfV, kI, kB, kS, kN, nmV, nmO, op1, op2, opC, tst, tru, truD, notT, andT, orT, blV, vbl, andV, orV, notV, iteE, aNil, aCons, lNil, lCons, tupE, lstE, dicE, Opd.get, callF, frR, callI, callL, own1, addD, subD, negD, cmpD, lenD, intD, tupD, lisD, absD, isiD, tyD, min2D, max2D, Pv.R.of, raiseS, asgS, nameG, nilG, consG, tupG, isD, nisD, isNB, opS, pNone, pSome, seqI', itsD, sItS, putD, wipeE, backE, hx, h2, h3]
theorem wn_y {n : Nat} {es : List E2} (g : Okg n es) {x y k : D} (hx : F_is_point none [x, .int n] = .ok (.bl true, 0) none) (hy : F_is_point none [y, .int n] = .ok (.bl false, 0) none) : F_walk_number none [Gd n es, x, y, k] = .ex (.mk 1 []) := by
  have h2 := check_ok g
  have h3 : idxD (Gd n es) (.int 0) = some (.int n, 0) := by simp [Gd, idxD, at_0]
  generalize Gd n es = X at *
  unfold F_walk_number g_walk_number
  simp [-List.map_map, fnF, en0, seqS, passS, noS, exprS, retS, retN, retM, putE, setS, iteS, vOfE, eOfV, oOfV, kI, kB, kS, kN, nmV, nmO, op1, op2, opC, tst, tru, truD, notT, andT, orT, blV, vbl, andV, orV, notV, iteE, aNil, aCons, lNil, lCons, tupE, lstE, dicE, Opd.get, callF, frR, callI, callL, own1, addD, subD, negD, cmpD, lenD, intD, tupD, lisD, absD, isiD, tyD, min2D, max2D, Pv.R.of, raiseS, asgS, nameG, nilG, consG, tupG, isD, nisD, isNB, opS, pNone, pSome, seqI', itsD, sItS, putD, wipeE, backE, hx, hy, h2, h3]
theorem wn_k {n : Nat} {es : List E2} (g : Okg n es) {x y k : D} (hx : F_is_point none [x, .int n] = .ok (.bl true, 0) none) (hy : F_is_point none [y, .int n] = .ok (.bl true, 0) none) (hk : F_check_length none [k, .int 60] = .ex (.mk 1 [])) : F_walk_number none [Gd n es, x, y, k] = .ex (.mk 1 []) := by
  have h2 := check_ok g
  have h3 : idxD (Gd n es) (.int 0) = some (.int n, 0) := by simp [Gd, idxD, at_0]
  generalize Gd n es = X at *
  unfold F_walk_number g_walk_number
  simp [-List.map_map, fnF, en0, seqS, passS, noS, exprS, retS, retN, retM, putE, setS, iteS, vOfE, eOfV, oOfV, kI, kB, kS, kN, nmV, nmO, op1, op2, opC, tst, tru, truD, notT, andT, orT, blV, vbl, andV, orV, notV, iteE, aNil, aCons, lNil, lCons, tupE, lstE, dicE, Opd.get, callF, frR, callI, callL, own1, addD, subD, negD, cmpD, lenD, intD, tupD, lisD, absD, isiD, tyD, min2D, max2D, Pv.R.of, raiseS, asgS, nameG, nilG, consG, tupG, isD, nisD, isNB, opS, pNone, pSome, seqI', itsD, sItS, putD, wipeE, backE, hx, hy, hk, h2, h3]
def badW (n : Nat) : List (D × D × D) := [(.int (-1), .int 0, .int 1), (.int 0, .int n, .int 1), (.int 0, .int 0, .int (-1)), (.int 0, .int 0, .int 61), (.non, .int 0, .int 1), (.int 0, .bl true, .int 1), (.int 0, .int 0, .str (PySem.Str.ofString "1"))]
theorem isp_non (n : Nat) : F_is_point none [.non, .int n] = .ok (.bl false, 0) none := by
  have e1 : F_is_integer none [.non] = .ok (.bl false, 0) none := by kernel_rfl
  unfold F_is_point g_is_point; simp [-List.map_map, fnF, en0, seqS, passS, noS, exprS, retS, retN, retM, putE, setS, iteS, vOfE, eOfV, oOfV, kI, kB, kS, kN, nmV, nmO, op1, op2, opC, tst, tru, truD, notT, andT, orT, blV, vbl, andV, orV, notV, iteE, aNil, aCons, lNil, lCons, tupE, lstE, dicE, Opd.get, callF, frR, callI, callL, own1, addD, subD, negD, cmpD, lenD, intD, tupD, lisD, absD, isiD, tyD, min2D, max2D, Pv.R.of, raiseS, asgS, nameG, nilG, consG, tupG, isD, nisD, isNB, opS, pNone, pSome, seqI', itsD, sItS, putD, wipeE, backE, e1]
theorem badW_ok {n : Nat} {es : List E2} (g : Okg n es) : ∀ q ∈ badW n, F_walk_number none [Gd n es, q.1, q.2.1, q.2.2] = .ex (.mk 1 []) := by
  have h1 := g.n1
  have p0 : F_is_point none [.int 0, .int n] = .ok (.bl true, 0) none := by rw [isp]; simp; omega
  have pm : F_is_point none [.int (-1), .int n] = .ok (.bl false, 0) none := by rw [isp]; simp
  have pn : F_is_point none [.int n, .int n] = .ok (.bl false, 0) none := by rw [isp]; simp
  intro q hq
  simp only [badW, List.mem_cons, List.not_mem_nil, or_false] at hq
  rcases hq with rfl | rfl | rfl | rfl | rfl | rfl | rfl
  · exact wn_x g pm
  · exact wn_y g p0 pn
  · exact wn_k g p0 p0 (by kernel_rfl)
  · exact wn_k g p0 p0 (by kernel_rfl)
  · exact wn_x g (isp_non n)
  · exact wn_y g p0 (isp_bl true n)
  · exact wn_k g p0 p0 (by kernel_rfl)
def trD (q : D × D × D) : D := .tup [q.1, q.2.1, q.2.2]
theorem vh7 (s vs v es' du x y k ac gi b : Sl) {n : Nat} {es : List E2} (g : Okg n es) : ∃ x' y' k', g__law_values_hold_7 (ve s (some (Gd n es, 0)) vs v b (some (.int n, 0)) es' du x y k ac gi) = .nx (ve s (some (Gd n es, 0)) vs v b (some (.int n, 0)) es' du x' y' k' ac gi) := by
  have ht : ∀ q ∈ badW n, F__law_told none [.fn 2, .tup [Gd n es, q.1, q.2.1, q.2.2]] = .ok (malD, 0) none := fun q hq => told4x (i := 2) (F := F_walk_number) rfl (badW_ok g q hq)
  generalize Gd n es = X at *
  obtain ⟨e, he, x', y', k', rfl⟩ := loopS_inv (g := tupG 3 (consG (nameG 8) (consG (nameG 9) (consG (nameG 10) nilG)))) (body := (iteS (notT (tru (oOfV ((vOfE (callF 2 (F__law_is_raised) (aCons ((vOfE (callF 2 (F__law_told) (aCons ((fun env => .ok (.fn 2) env)) (aCons ((tupE (aCons ((nmV 1)) (aCons ((nmV 8)) (aCons ((nmV 9)) (aCons ((nmV 10)) aNil)))))) aNil))))) (aCons (kS (PySem.Str.ofString "malformed")) aNil)))))))) (retS ((eOfV (kB false)))) passS))
    (fun e => ∃ x y k, e = ve s (some (X, 0)) vs v b (some (.int n, 0)) es' du x y k ac gi) ((badW n).map trD) (ve s (some (X, 0)) vs v b (some (.int n, 0)) es' du x y k ac gi) ⟨x, y, k, rfl⟩ (fun d hd env hP => by
      obtain ⟨x, y, k, rfl⟩ := hP
      obtain ⟨q, hq, rfl⟩ := List.mem_map.mp hd
      have h0 := ht q hq
      obtain ⟨q1, q2, q3⟩ := q
      exact ⟨ve s (some (X, 0)) vs v b (some (.int n, 0)) es' du (some (q1, 0)) (some (q2, 0)) (some (q3, 0)) ac gi, ve s (some (X, 0)) vs v b (some (.int n, 0)) es' du (some (q1, 0)) (some (q2, 0)) (some (q3, 0)) ac gi, by simp [-List.map_map, fnF, en0, seqS, passS, noS, exprS, retS, retN, retM, putE, setS, iteS, vOfE, eOfV, oOfV, kI, kB, kS, kN, nmV, nmO, op1, op2, opC, tst, tru, truD, notT, andT, orT, blV, vbl, andV, orV, notV, iteE, aNil, aCons, lNil, lCons, tupE, lstE, dicE, Opd.get, callF, frR, callI, callL, own1, addD, subD, negD, cmpD, lenD, intD, tupD, lisD, absD, isiD, tyD, min2D, max2D, Pv.R.of, raiseS, asgS, nameG, nilG, consG, tupG, isD, nisD, isNB, opS, pNone, pSome, seqI', itsD, sItS, putD, wipeE, backE, trD], by simp [-List.map_map, fnF, en0, seqS, passS, noS, exprS, retS, retN, retM, putE, setS, iteS, vOfE, eOfV, oOfV, kI, kB, kS, kN, nmV, nmO, op1, op2, opC, tst, tru, truD, notT, andT, orT, blV, vbl, andV, orV, notV, iteE, aNil, aCons, lNil, lCons, tupE, lstE, dicE, Opd.get, callF, frR, callI, callL, own1, addD, subD, negD, cmpD, lenD, intD, tupD, lisD, absD, isiD, tyD, min2D, max2D, Pv.R.of, raiseS, asgS, nameG, nilG, consG, tupG, isD, nisD, isNB, opS, pNone, pSome, seqI', itsD, sItS, putD, wipeE, backE, h0, is_raised], _, _, _, rfl⟩)
  exact ⟨x', y', k', (forS_ok (ds := (badW n).map trD) (by simp [-List.map_map, fnF, en0, seqS, passS, noS, exprS, retS, retN, retM, putE, setS, iteS, vOfE, eOfV, oOfV, kI, kB, kS, kN, nmV, nmO, op1, op2, opC, tst, tru, truD, notT, andT, orT, blV, vbl, andV, orV, notV, iteE, aNil, aCons, lNil, lCons, tupE, lstE, dicE, Opd.get, callF, frR, callI, callL, own1, addD, subD, negD, cmpD, lenD, intD, tupD, lisD, absD, isiD, tyD, min2D, max2D, Pv.R.of, raiseS, asgS, nameG, nilG, consG, tupG, isD, nisD, isNB, opS, pNone, pSome, seqI', itsD, sItS, putD, wipeE, backE, badW, trD])).trans he⟩
theorem values_ok (s0 : D) {n : Nat} {es : List E2} (g : Okg n es) (hn : n ≤ 40) (hl : es.length ≤ 50) : F__law_values_hold none [s0, Gd n es] = .ok (.bl true, 0) none := by
  obtain ⟨v', du', ac', gi', e5⟩ := vh5 (some (s0, 0)) (some (Gd n es, 0)) none (some (.int n, 0)) (some (.tup (es.map pr), 0)) none none none none none none g (by omega) (toString (n : Int)) none
  obtain ⟨b', e6⟩ := vh6 (some (s0, 0)) (some (.lst (valsD n es (toString (n : Int))), 0)) v' (some (.int n, 0)) (some (.tup (es.map pr), 0)) du' none none none ac' gi' none g
  obtain ⟨x', y', k', e7⟩ := vh7 (some (s0, 0)) (some (.lst (valsD n es (toString (n : Int))), 0)) v' (some (.tup (es.map pr), 0)) du' none none none ac' gi' b' g
  exact fnF_ret ((seqS_nx (vh1 s0 n es)).trans ((vh24 _ n es hn hl _).trans ((seqS_nx e5).trans ((seqS_nx e6).trans ((seqS_nx e7).trans rfl)))))
end L47
end

section
open Pv PySem
set_option Elab.async false
set_option linter.all false
set_option maxRecDepth 100000
namespace L47
/-- how great walk numbers are -/
theorem sumN_le {c : Nat} (f : Nat → Nat) : ∀ l : List Nat, (∀ x, f x ≤ c) → sumN (l.map f) ≤ l.length * c
  | [], _ => by simp [sumN]
  | x :: l, h => by
    have ih := sumN_le f l h
    have hx := h x
    rw [List.map_cons, sumN, List.length_cons, Nat.add_mul]
    omega
theorem rowAt_le {n : Nat} {near : List (List Nat)} (h : Nr n near) : ∀ k t, nth (rowAt near n k) t ≤ 100000 ^ k
  | 0, t => by
    by_cases ht : t < n
    · show nth (startP n) t ≤ 1
      rw [nth_start_at n t ht]
      unfold unit
      split <;> omega
    · have : ∀ (l : List Nat) (t : Nat), l.length ≤ t → nth l t = 0 := by
        intro l
        induction l with
        | nil => intro t _; cases t <;> rfl
        | cons a l ih =>
          intro t ht
          cases t with
          | zero => simp at ht
          | succ t => exact ih t (by simpa using ht)
      have e := this (rowAt near n 0) t (by rw [rowAt_len h.l]; omega)
      rw [e]; exact Nat.zero_le _
  | k + 1, t => by
    by_cases ht : t < near.length
    · show nth (ledN near (rowAt near n k)) t ≤ _
      rw [nth_led ht]
      unfold Lf
      refine Nat.le_trans (sumN_le (c := 100000 ^ k) _ _ fun x => rowAt_le h k x) ?_
      have ho : (near.getD t []).length ≤ 100000 := by
        rw [List.getD_eq_getElem?_getD, List.getElem?_eq_getElem ht, Option.getD_some]
        exact h.o _ (List.getElem_mem ht)
      rw [Nat.pow_succ, Nat.mul_comm (100000 ^ k)]
      exact Nat.mul_le_mul_right _ ho
    · have : ∀ (l : List Nat) (t : Nat), l.length ≤ t → nth l t = 0 := by
        intro l
        induction l with
        | nil => intro t _; cases t <;> rfl
        | cons a l ih =>
          intro t ht
          cases t with
          | zero => simp at ht
          | succ t => exact ih t (by simpa using ht)
      have e := this (rowAt near n (k + 1)) t (by rw [rowAt_len h.l]; have := h.l; omega)
      rw [e]; exact Nat.zero_le _
theorem log_le {a k : Nat} (h : a ≤ 100000 ^ k) (hk : k ≤ 13) : (a : Int).natAbs.log2 < 500000 := by
  have h1 : (a : Int).natAbs = a := by omega
  rw [h1]
  have h2 : 100000 ^ k ≤ 100000 ^ 13 := Nat.pow_le_pow_right (by omega) hk
  by_cases h0 : a = 0
  · subst h0; decide
  · have h3 : a < 2 ^ 250 := Nat.lt_of_le_of_lt (Nat.le_trans h h2) (by decide)
    have h4 : a.log2 < 250 := (Nat.log2_lt h0).mpr h3
    omega
theorem mul_walks {a b k j : Nat} (ha : a ≤ 100000 ^ k) (hb : b ≤ 100000 ^ j) (hk : k ≤ 13) (hj : j ≤ 13) : mulD (.int a) (.int b) = some (.int (a * b : Nat), 0) := by
  have h1 := log_le ha hk
  have h2 := log_le hb hj
  have hm : mulOk (a : Int) (b : Int) = true := by
    unfold mulOk
    rw [Bool.or_eq_true, Bool.or_eq_true]
    exact .inr (.inr (decide_eq_true (by omega)))
  unfold mulD
  simp only [hm, if_true]
  rfl
abbrev le (sc st G n w f k c tb tu x y z b m i : Sl) : En := [sc, st, G, n, w, f, k, c, tb, tu, x, y, z, b, m, i]
theorem law1 (ns : List Int) : ∃ a b, g_law_1 (en0 16 none [.scr ns]) = .nx (le (some (.scr ns, 0)) (stt a b) none none none none none none none none none none none none none none) := by
  obtain ⟨a, b, h⟩ := lawState_ok ns
  have h' : F__law_state none [.scr ns] = .ok (.lst [.int a, .int b], 1) none := h
  exact ⟨a, b, by simp [-List.map_map, fnF, en0, seqS, passS, noS, exprS, retS, retN, retM, putE, setS, iteS, vOfE, eOfV, oOfV, kI, kB, kS, kN, nmV, nmO, op1, op2, opC, tst, tru, truD, notT, andT, orT, blV, vbl, andV, orV, notV, iteE, aNil, aCons, lNil, lCons, tupE, lstE, dicE, Opd.get, callF, frR, callI, callL, own1, addD, subD, negD, cmpD, lenD, intD, tupD, lisD, absD, isiD, tyD, min2D, max2D, Pv.R.of, raiseS, asgS, nameG, nilG, consG, tupG, isD, nisD, isNB, opS, pNone, pSome, seqI', itsD, sItS, putD, wipeE, backE, h']⟩
theorem law2 (sc : Sl) (a b : Int) : ∃ (n : Nat) (es : List E2) (a' b' : Int), g_law_2 (le sc (stt a b) none none none none none none none none none none none none none none) = .nx (le sc (stt a' b') (some (Gd n es, 0)) none none none none none none none none none none none none none) ∧ Okg n es ∧ n ≤ 40 ∧ es.length ≤ 50 := by
  obtain ⟨v, a1, b1, h1, h2⟩ := take_nat a b 3 (by omega) (by omega)
  have h1' : F__law_take (some (.lst [.int a, .int b], 1)) [.int 3] = .ok (.int v, 0) (some (.lst [.int a1, .int b1], 1)) := h1
  obtain ⟨m, hm0, hm, hi⟩ : ∃ m : Nat, 0 < m ∧ m ≤ 40 ∧ idxD (.lst [.int 8, .int 8, .int 40]) (.int v) = some (.int m, 0) := by
    match v, h2 with
    | 0, _ => exact ⟨8, by omega, by omega, rfl⟩
    | 1, _ => exact ⟨8, by omega, by omega, rfl⟩
    | 2, _ => exact ⟨40, by omega, by omega, rfl⟩
  obtain ⟨n, es, a2, b2, h3, g, hn, hl⟩ := graph_ok a1 b1 m hm0 hm
  exact ⟨n, es, a2, b2, by simp [-List.map_map, fnF, en0, seqS, passS, noS, exprS, retS, retN, retM, putE, setS, iteS, vOfE, eOfV, oOfV, kI, kB, kS, kN, nmV, nmO, op1, op2, opC, tst, tru, truD, notT, andT, orT, blV, vbl, andV, orV, notV, iteE, aNil, aCons, lNil, lCons, tupE, lstE, dicE, Opd.get, callF, frR, callI, callL, own1, addD, subD, negD, cmpD, lenD, intD, tupD, lisD, absD, isiD, tyD, min2D, max2D, Pv.R.of, raiseS, asgS, nameG, nilG, consG, tupG, isD, nisD, isNB, opS, pNone, pSome, seqI', itsD, sItS, putD, wipeE, backE, h1', hi, h3], g, hn, hl⟩
section
variable {n : Nat} {es : List E2} (g : Okg n es) (hn : n ≤ 40) (hl : es.length ≤ 50)
theorem law3 (sc G : Sl) (a b : Int) : ∃ (k : Nat) (a' b' : Int), g_law_3 (le sc (stt a b) G none none none none none none none none none none none none none) = .nx (le sc (stt a' b') G (some (.int k, 0)) none none none none none none none none none none none none) ∧ k ≤ 12 := by
  obtain ⟨v, a1, b1, h1, h2⟩ := take_nat a b 13 (by omega) (by omega)
  have h1' : F__law_take (some (.lst [.int a, .int b], 1)) [.int 13] = .ok (.int v, 0) (some (.lst [.int a1, .int b1], 1)) := h1
  exact ⟨v, a1, b1, by simp [-List.map_map, fnF, en0, seqS, passS, noS, exprS, retS, retN, retM, putE, setS, iteS, vOfE, eOfV, oOfV, kI, kB, kS, kN, nmV, nmO, op1, op2, opC, tst, tru, truD, notT, andT, orT, blV, vbl, andV, orV, notV, iteE, aNil, aCons, lNil, lCons, tupE, lstE, dicE, Opd.get, callF, frR, callI, callL, own1, addD, subD, negD, cmpD, lenD, intD, tupD, lisD, absD, isiD, tyD, min2D, max2D, Pv.R.of, raiseS, asgS, nameG, nilG, consG, tupG, isD, nisD, isNB, opS, pNone, pSome, seqI', itsD, sItS, putD, wipeE, backE, h1'], by omega⟩
include g
theorem law4 (sc st : Sl) (k : Nat) (hk : k ≤ 12) : g_law_4 (le sc st (some (Gd n es, 0)) (some (.int k, 0)) none none none none none none none none none none none none) = .nx (le sc st (some (Gd n es, 0)) (some (.int k, 0)) (some (rowD (wks n es k), 1)) none none none none none none none none none none none) := by
  have h := lawwalks_ok g k (by omega)
  generalize rowD (wks n es k) = W at *
  generalize Gd n es = X at *
  simp [-List.map_map, fnF, en0, seqS, passS, noS, exprS, retS, retN, retM, putE, setS, iteS, vOfE, eOfV, oOfV, kI, kB, kS, kN, nmV, nmO, op1, op2, opC, tst, tru, truD, notT, andT, orT, blV, vbl, andV, orV, notV, iteE, aNil, aCons, lNil, lCons, tupE, lstE, dicE, Opd.get, callF, frR, callI, callL, own1, addD, subD, negD, cmpD, lenD, intD, tupD, lisD, absD, isiD, tyD, min2D, max2D, Pv.R.of, raiseS, asgS, nameG, nilG, consG, tupG, isD, nisD, isNB, opS, pNone, pSome, seqI', itsD, sItS, putD, wipeE, backE, h]
theorem law5 (sc st : Sl) (k : Nat) (hk : k ≤ 12) : g_law_5 (le sc st (some (Gd n es, 0)) (some (.int k, 0)) (some (rowD (wks n es k), 1)) none none none none none none none none none none none) = .nx (le sc st (some (Gd n es, 0)) (some (.int k, 0)) (some (rowD (wks n es k), 0)) none none none none none none none none none none none) := by
  have h1 := told2 (i := 0) (F := F_closed_walks) rfl (closed_ok g k hk)
  have hp : plain 5 (closedD n es k) = true := by
    unfold closedD
    simp [plain]
    omega
  have h2 := is_told hp
  have hc : comp (seqI' ((nmV 4))) (nameG 14) (yesT) ((eOfV ((tupE (aCons ((nmV 14)) (aCons (kI 1) aNil)))))) 0 [14] (le sc st (some (Gd n es, 0)) (some (.int k, 0)) (some (rowD (wks n es k), 1)) none none none none none none none none none none none)
      = .ok (.lst ((wks n es k).map fun a => .tup [.int (a : Nat), .int 1]), 1) (le sc st (some (Gd n es, 0)) (some (.int k, 0)) (some (rowD (wks n es k), 0)) none none none none none none none none none none none) := by
    rw [comp_fix (ds := (wks n es k).map nD) (f := fun d => .tup [d, .int 1]) (env1 := le sc st (some (Gd n es, 0)) (some (.int k, 0)) (some (rowD (wks n es k), 0)) none none none none none none none none none none none) (env0 := le sc st (some (Gd n es, 0)) (some (.int k, 0)) (some (rowD (wks n es k), 0)) none none none none none none none none none none none) (env2 := le sc st (some (Gd n es, 0)) (some (.int k, 0)) (some (rowD (wks n es k), 0)) none none none none none none none none none none none) (by simp [-List.map_map, fnF, en0, seqS, passS, noS, exprS, retS, retN, retM, putE, setS, iteS, vOfE, eOfV, oOfV, kI, kB, kS, kN, nmV, nmO, op1, op2, opC, tst, tru, truD, notT, andT, orT, blV, vbl, andV, orV, notV, iteE, aNil, aCons, lNil, lCons, tupE, lstE, dicE, Opd.get, callF, frR, callI, callL, own1, addD, subD, negD, cmpD, lenD, intD, tupD, lisD, absD, isiD, tyD, min2D, max2D, Pv.R.of, raiseS, asgS, nameG, nilG, consG, tupG, isD, nisD, isNB, opS, pNone, pSome, seqI', itsD, sItS, putD, wipeE, backE, rowD]) rfl rfl (by apply le_lim; simp [wks]; omega) ?_]
    · rw [List.map_map]; rfl
    · intro d hd
      generalize Gd n es = X at *
      generalize rowD (wks n es k) = W at *
      exact ⟨le sc st (some (X, 0)) (some (.int k, 0)) (some (W, 0)) none none none none none none none none none (some (d, 0)) none, _, _, by simp [-List.map_map, fnF, en0, seqS, passS, noS, exprS, retS, retN, retM, putE, setS, iteS, vOfE, eOfV, oOfV, kI, kB, kS, kN, nmV, nmO, op1, op2, opC, tst, tru, truD, notT, andT, orT, blV, vbl, andV, orV, notV, iteE, aNil, aCons, lNil, lCons, tupE, lstE, dicE, Opd.get, callF, frR, callI, callL, own1, addD, subD, negD, cmpD, lenD, intD, tupD, lisD, absD, isiD, tyD, min2D, max2D, Pv.R.of, raiseS, asgS, nameG, nilG, consG, tupG, isD, nisD, isNB, opS, pNone, pSome, seqI', itsD, sItS, putD, wipeE, backE], rfl, by simp [-List.map_map, fnF, en0, seqS, passS, noS, exprS, retS, retN, retM, putE, setS, iteS, vOfE, eOfV, oOfV, kI, kB, kS, kN, nmV, nmO, op1, op2, opC, tst, tru, truD, notT, andT, orT, blV, vbl, andV, orV, notV, iteE, aNil, aCons, lNil, lCons, tupE, lstE, dicE, Opd.get, callF, frR, callI, callL, own1, addD, subD, negD, cmpD, lenD, intD, tupD, lisD, absD, isiD, tyD, min2D, max2D, Pv.R.of, raiseS, asgS, nameG, nilG, consG, tupG, isD, nisD, isNB, opS, pNone, pSome, seqI', itsD, sItS, putD, wipeE, backE]; rfl, rfl⟩
  have he : D.tup ((wks n es k).map fun a => .tup [.int (a : Nat), .int 1]) = closedD n es k := by
    unfold wks closedD
    rw [List.map_map]
    rfl
  rw [← he] at h1 h2
  simp only at h1
  generalize ((wks n es k).map fun a => D.tup [.int (a : Nat), .int 1]) = C at *
  generalize Gd n es = X at *
  generalize rowD (wks n es k) = W at *
  simp [-List.map_map, fnF, en0, seqS, passS, noS, exprS, retS, retN, retM, putE, setS, iteS, vOfE, eOfV, oOfV, kI, kB, kS, kN, nmV, nmO, op1, op2, opC, tst, tru, truD, notT, andT, orT, blV, vbl, andV, orV, notV, iteE, aNil, aCons, lNil, lCons, tupE, lstE, dicE, Opd.get, callF, frR, callI, callL, own1, addD, subD, negD, cmpD, lenD, intD, tupD, lisD, absD, isiD, tyD, min2D, max2D, Pv.R.of, raiseS, asgS, nameG, nilG, consG, tupG, isD, nisD, isNB, opS, pNone, pSome, seqI', itsD, sItS, putD, wipeE, backE, h1, hc, h2]
theorem fws_le (k : Nat) : nth (ledN (nearP n es) (frL (nearP n es) n k)) 0 ≤ 100000 ^ (k + 1) := by
  have h1 := rowAt_le (nr_of g) (k + 1) 0
  rw [first_eq g k] at h1
  omega
/-- the law's first walks -/
theorem fw_eq (k : Nat) : (nth (rowAt (nearP n es) n (k + 1)) 0 : Int) - ((sumN ((List.range k).map fun i => nth (ledN (nearP n es) (frL (nearP n es) n i)) 0 * nth (rowAt (nearP n es) n (k - i)) 0) : Nat) : Int) = (nth (ledN (nearP n es) (frL (nearP n es) n k)) 0 : Nat) := by
  have := first_eq g k
  omega
end
end L47
end

section
open Pv PySem
set_option Elab.async false
set_option linter.all false
set_option maxRecDepth 100000
namespace L47
theorem nth_rm (f : Nat → Nat) {k i : Nat} (h : i < k) : nth ((List.range k).map f) i = f i := by
  have h1 := nth_at ((List.range k).map f) i (by simpa using h)
  rw [List.getElem?_map, List.getElem?_range h] at h1
  exact (Option.some.inj h1).symm
section
variable {n : Nat} {es : List E2} (g : Okg n es)
include g
abbrev c7 : En → R (D × Nat) := (comp (rg1 (aCons ((nmV 6)) aNil)) (nameG 15) (yesT) ((eOfV ((vOfE (op2 mulD (oOfV ((vOfE (op2 idxD (nmO 5) (nmO 15))))) (oOfV ((vOfE (op2 idxD (nmO 4) (oOfV ((vOfE (op2 subD (oOfV ((vOfE (op2 subD (nmO 6) (nmO 15))))) (oOfV (kI 1))))))))))))))) 0 [15])
theorem law7c (sc st G : Sl) (kk k : Nat) (hkk : kk ≤ 12) (hk : k < kk) : c7 (le sc st G (some (.int kk, 0)) (some (rowD (wks n es kk), 0)) (some (rowD (fws (nearP n es) n k), 1)) (some (.int k, 0)) none none none none none none none none none)
    = .ok (.lst (((List.range k).map fun i => nth (ledN (nearP n es) (frL (nearP n es) n i)) 0 * nth (rowAt (nearP n es) n (k - i)) 0).map nD), 1) (le sc st G (some (.int kk, 0)) (some (rowD (wks n es kk), 0)) (some (rowD (fws (nearP n es) n k), 1)) (some (.int k, 0)) none none none none none none none none none) := by
  rw [List.map_map]
  refine comp_map1 (fun i : Nat => .int i) (fun i => nD (nth (ledN (nearP n es) (frL (nearP n es) n i)) 0 * nth (rowAt (nearP n es) n (k - i)) 0)) (rg1_ok (n := k) (env1 := le sc st G (some (.int kk, 0)) (some (rowD (wks n es kk), 0)) (some (rowD (fws (nearP n es) n k), 1)) (some (.int k, 0)) none none none none none none none none none) (by simp [-List.map_map, fnF, en0, seqS, passS, noS, exprS, retS, retN, retM, putE, setS, iteS, vOfE, eOfV, oOfV, kI, kB, kS, kN, nmV, nmO, op1, op2, opC, tst, tru, truD, notT, andT, orT, blV, vbl, andV, orV, notV, iteE, aNil, aCons, lNil, lCons, tupE, lstE, dicE, Opd.get, callF, frR, callI, callL, own1, addD, subD, negD, cmpD, lenD, intD, tupD, lisD, absD, isiD, tyD, min2D, max2D, Pv.R.of, raiseS, asgS, nameG, nilG, consG, tupG, isD, nisD, isNB, opS, pNone, pSome, seqI', itsD, sItS, putD, wipeE, backE]) (by omega)) rfl (by simp; omega) fun i hi => ?_
  have hi := List.mem_range.mp hi
  have e1 : idxD (rowD (fws (nearP n es) n k)) (.int i) = some (nD (nth (ledN (nearP n es) (frL (nearP n es) n i)) 0), 0) := by
    rw [idx_row (by simp [fws]; exact hi)]
    unfold fws
    rw [nth_rm _ hi]
  have e2 : idxD (rowD (wks n es kk)) (.int ((k : Int) - (i : Int) - 1)) = some (nD (nth (rowAt (nearP n es) n (k - i)) 0), 0) := by
    have e : ((k : Int) - (i : Int) - 1) = ((k - i - 1 : Nat) : Int) := by omega
    rw [e, idx_row (by simp [wks]; omega)]
    unfold wks
    rw [nth_rm _ (by omega)]
    have : k - i - 1 + 1 = k - i := by omega
    rw [this]
  have e3 := mul_walks (fws_le g i) (rowAt_le (nr_of g) (k - i) 0) (by omega) (by omega)
  generalize rowD (fws (nearP n es) n k) = A at *
  generalize rowD (wks n es kk) = B at *
  unfold nD at *
  simp [-List.map_map, fnF, en0, seqS, passS, noS, exprS, retS, retN, retM, putE, setS, iteS, vOfE, eOfV, oOfV, kI, kB, kS, kN, nmV, nmO, op1, op2, opC, tst, tru, truD, notT, andT, orT, blV, vbl, andV, orV, notV, iteE, aNil, aCons, lNil, lCons, tupE, lstE, dicE, Opd.get, callF, frR, callI, callL, own1, addD, subD, negD, cmpD, lenD, intD, tupD, lisD, absD, isiD, tyD, min2D, max2D, Pv.R.of, raiseS, asgS, nameG, nilG, consG, tupG, isD, nisD, isNB, opS, pNone, pSome, seqI', itsD, sItS, putD, wipeE, backE, e1, e2, e3]
theorem law7 (sc st G : Sl) (kk : Nat) (hkk : kk ≤ 12) : ∃ k', g_law_7 (le sc st G (some (.int kk, 0)) (some (rowD (wks n es kk), 0)) (some (.lst [], 1)) none none none none none none none none none none) = .nx (le sc st G (some (.int kk, 0)) (some (rowD (wks n es kk), 0)) (some (rowD (fws (nearP n es) n kk), 1)) k' none none none none none none none none none) := by
  obtain ⟨e, he, k', rfl⟩ := loopS_ex (g := nameG 6) (body := (appS 5 ((vOfE (op2 subD (oOfV ((vOfE (op2 idxD (nmO 4) (nmO 6))))) (oOfV ((vOfE (op1 sumD (oOfV ((vOfE c7))))))))))))
    (fun i : Nat => .int i) (List.range kk) (fun i env => ∃ k', env = le sc st G (some (.int kk, 0)) (some (rowD (wks n es kk), 0)) (some (rowD (fws (nearP n es) n i), 1)) k' none none none none none none none none none)
    (le sc st G (some (.int kk, 0)) (some (rowD (wks n es kk), 0)) (some (.lst [], 1)) none none none none none none none none none none) ⟨none, rfl⟩ (fun i hi env hP => by
      obtain ⟨k', rfl⟩ := hP
      simp only [List.length_range] at hi
      have hc := law7c g sc st G kk i hkk hi
      have e1 : idxD (rowD (wks n es kk)) (.int i) = some (nD (nth (rowAt (nearP n es) n (i + 1)) 0), 0) := by
        rw [idx_row (by simp [wks]; exact hi)]
        unfold wks
        rw [nth_rm _ hi]
      have e2 := fw_eq g i
      have e3 := sum_nD ((List.range i).map fun j => nth (ledN (nearP n es) (frL (nearP n es) n j)) 0 * nth (rowAt (nearP n es) n (i - j)) 0)
      have hf : fws (nearP n es) n (i + 1) = fws (nearP n es) n i ++ [nth (ledN (nearP n es) (frL (nearP n es) n i)) 0] := by
        unfold fws
        rw [List.range_succ, List.map_append]
        rfl
      have hlen : (fws (nearP n es) n i).length < lim := by apply lt_lim; simp [fws]; omega
      generalize ((List.range i).map fun j => nth (ledN (nearP n es) (frL (nearP n es) n j)) 0 * nth (rowAt (nearP n es) n (i - j)) 0) = L at *
      refine ⟨le sc st G (some (.int kk, 0)) (some (rowD (wks n es kk), 0)) (some (rowD (fws (nearP n es) n i), 1)) (some (.int i, 0)) none none none none none none none none none, _, by simp [-List.map_map, fnF, en0, seqS, passS, noS, exprS, retS, retN, retM, putE, setS, iteS, vOfE, eOfV, oOfV, kI, kB, kS, kN, nmV, nmO, op1, op2, opC, tst, tru, truD, notT, andT, orT, blV, vbl, andV, orV, notV, iteE, aNil, aCons, lNil, lCons, tupE, lstE, dicE, Opd.get, callF, frR, callI, callL, own1, addD, subD, negD, cmpD, lenD, intD, tupD, lisD, absD, isiD, tyD, min2D, max2D, Pv.R.of, raiseS, asgS, nameG, nilG, consG, tupG, isD, nisD, isNB, opS, pNone, pSome, seqI', itsD, sItS, putD, wipeE, backE, List.getElem_range], ?_, some (.int i, 0), rfl⟩
      unfold appS
      rw [if_pos (by rfl)]
      rw [hf]
      generalize rowD (wks n es kk) = W at *
      generalize nth (ledN (nearP n es) (frL (nearP n es) n i)) 0 = q at *
      generalize nth (rowAt (nearP n es) n (i + 1)) 0 = p at *
      generalize fws (nearP n es) n i = Fw at *
      unfold nD at e1
      unfold rowD at hc
      simp [-List.map_map, fnF, en0, seqS, passS, noS, exprS, retS, retN, retM, putE, setS, iteS, vOfE, eOfV, oOfV, kI, kB, kS, kN, nmV, nmO, op1, op2, opC, tst, tru, truD, notT, andT, orT, blV, vbl, andV, orV, notV, iteE, aNil, aCons, lNil, lCons, tupE, lstE, dicE, Opd.get, callF, frR, callI, callL, own1, addD, subD, negD, cmpD, lenD, intD, tupD, lisD, absD, isiD, tyD, min2D, max2D, Pv.R.of, raiseS, asgS, nameG, nilG, consG, tupG, isD, nisD, isNB, opS, pNone, pSome, seqI', itsD, sItS, putD, wipeE, backE, e1, hc, e3, e2, rowD, hlen, nD])
  simp only [List.length_range] at he
  exact ⟨k', (forS_ok (rg1_ok (n := kk) (by simp [-List.map_map, fnF, en0, seqS, passS, noS, exprS, retS, retN, retM, putE, setS, iteS, vOfE, eOfV, oOfV, kI, kB, kS, kN, nmV, nmO, op1, op2, opC, tst, tru, truD, notT, andT, orT, blV, vbl, andV, orV, notV, iteE, aNil, aCons, lNil, lCons, tupE, lstE, dicE, Opd.get, callF, frR, callI, callL, own1, addD, subD, negD, cmpD, lenD, intD, tupD, lisD, absD, isiD, tyD, min2D, max2D, Pv.R.of, raiseS, asgS, nameG, nilG, consG, tupG, isD, nisD, isNB, opS, pNone, pSome, seqI', itsD, sItS, putD, wipeE, backE]) (by omega))).trans he⟩
end
end L47
end

section
open Pv PySem
set_option Elab.async false
set_option linter.all false
set_option maxRecDepth 100000
namespace L47
theorem anyD_bl (bs : List Bool) : anyD (.lst (bs.map D.bl)) = some (.bl (bs.any id), 0) := by
  simp [anyD]
section
variable {n : Nat} {es : List E2} (g : Okg n es)
include g
theorem law8 (sc st k' : Sl) (k : Nat) (hk : k ≤ 12) (W : D) : g_law_8 (le sc st (some (Gd n es, 0)) (some (.int k, 0)) (some (W, 0)) (some (rowD (fws (nearP n es) n k), 1)) k' none none none none none none none none none) = .nx (le sc st (some (Gd n es, 0)) (some (.int k, 0)) (some (W, 0)) (some (rowD (fws (nearP n es) n k), 0)) k' none none none none none none none none none) := by
  have h1 := told2 (i := 1) (F := F_first_walks) rfl (firstw_ok g k hk)
  have hp : plain 5 (.tup ((fws (nearP n es) n k).map nD)) = true := by
    unfold plain
    rw [Bool.and_eq_true]
    refine ⟨?_, decide_eq_true (by simp [fws]; omega)⟩
    rw [List.all_eq_true]
    intro x hx
    obtain ⟨a, _, rfl⟩ := List.mem_map.mp hx
    rfl
  have h2 := is_told hp
  have hl : (fws (nearP n es) n k).length ≤ 100000 := by simp [fws]; omega
  have hc : comp (seqI' ((nmV 5))) (nameG 13) (yesT) ((eOfV ((vOfE (op2 (cmpD fun i j => decide (i < j)) (nmO 13) (oOfV (kI 0))))))) 0 [13] (le sc st (some (Gd n es, 0)) (some (.int k, 0)) (some (W, 0)) (some (rowD (fws (nearP n es) n k), 1)) k' none none none none none none none none none)
      = .ok (.lst ((List.replicate (fws (nearP n es) n k).length false).map D.bl), 1) (le sc st (some (Gd n es, 0)) (some (.int k, 0)) (some (W, 0)) (some (rowD (fws (nearP n es) n k), 0)) k' none none none none none none none none none) := by
    have e : (List.replicate (fws (nearP n es) n k).length false).map D.bl = (fws (nearP n es) n k).map fun _ => D.bl false := by
      rw [List.map_replicate, List.map_const']
    rw [e]
    refine comp_map1 nD (fun _ => .bl false) (env1 := le sc st (some (Gd n es, 0)) (some (.int k, 0)) (some (W, 0)) (some (rowD (fws (nearP n es) n k), 0)) k' none none none none none none none none none) (by simp [-List.map_map, fnF, en0, seqS, passS, noS, exprS, retS, retN, retM, putE, setS, iteS, vOfE, eOfV, oOfV, kI, kB, kS, kN, nmV, nmO, op1, op2, opC, tst, tru, truD, notT, andT, orT, blV, vbl, andV, orV, notV, iteE, aNil, aCons, lNil, lCons, tupE, lstE, dicE, Opd.get, callF, frR, callI, callL, own1, addD, subD, negD, cmpD, lenD, intD, tupD, lisD, absD, isiD, tyD, min2D, max2D, Pv.R.of, raiseS, asgS, nameG, nilG, consG, tupG, isD, nisD, isNB, opS, pNone, pSome, seqI', itsD, sItS, putD, wipeE, backE, rowD]) rfl hl fun a _ => ?_
    have ha : ¬ (a : Int) < 0 := by omega
    generalize Gd n es = X at *
    generalize rowD (fws (nearP n es) n k) = F at *
    simp [-List.map_map, fnF, en0, seqS, passS, noS, exprS, retS, retN, retM, putE, setS, iteS, vOfE, eOfV, oOfV, kI, kB, kS, kN, nmV, nmO, op1, op2, opC, tst, tru, truD, notT, andT, orT, blV, vbl, andV, orV, notV, iteE, aNil, aCons, lNil, lCons, tupE, lstE, dicE, Opd.get, callF, frR, callI, callL, own1, addD, subD, negD, cmpD, lenD, intD, tupD, lisD, absD, isiD, tyD, min2D, max2D, Pv.R.of, raiseS, asgS, nameG, nilG, consG, tupG, isD, nisD, isNB, opS, pNone, pSome, seqI', itsD, sItS, putD, wipeE, backE, nD, ha]
  have ha := anyD_bl (List.replicate (fws (nearP n es) n k).length false)
  have hb : (List.replicate (fws (nearP n es) n k).length false).any id = false := by simp
  rw [hb] at ha
  simp only at h1
  have hr : rowD (fws (nearP n es) n k) = .lst ((fws (nearP n es) n k).map nD) := rfl
  rw [hr] at hc ⊢
  generalize (List.replicate (fws (nearP n es) n k).length false).map D.bl = C at *
  generalize (fws (nearP n es) n k).map nD = F at *
  generalize Gd n es = X at *
  simp [-List.map_map, fnF, en0, seqS, passS, noS, exprS, retS, retN, retM, putE, setS, iteS, vOfE, eOfV, oOfV, kI, kB, kS, kN, nmV, nmO, op1, op2, opC, tst, tru, truD, notT, andT, orT, blV, vbl, andV, orV, notV, iteE, aNil, aCons, lNil, lCons, tupE, lstE, dicE, Opd.get, callF, frR, callI, callL, own1, addD, subD, negD, cmpD, lenD, intD, tupD, lisD, absD, isiD, tyD, min2D, max2D, Pv.R.of, raiseS, asgS, nameG, nilG, consG, tupG, isD, nisD, isNB, opS, pNone, pSome, seqI', itsD, sItS, putD, wipeE, backE, h1, h2, hc, ha]
theorem law9 (sc k' : Sl) (K : D) (a b : Int) (W F : D) : ∃ (x y k : Nat) (a' b' : Int), g_law_9 (le sc (stt a b) (some (Gd n es, 0)) (some (K, 0)) (some (W, 0)) (some (F, 0)) k' none none none none none none none none none) = .nx (le sc (stt a' b') (some (Gd n es, 0)) (some (K, 0)) (some (W, 0)) (some (F, 0)) (some (.int k, 0)) none none none (some (.int x, 0)) (some (.int y, 0)) none none none none) ∧ x < n ∧ y < n ∧ k ≤ 60 := by
  have n1 := g.n1
  have n4 := g.n4
  obtain ⟨x, a1, b1, h1, h1'⟩ := take_nat a b n (by omega) (by omega)
  obtain ⟨y, a2, b2, h2, h2'⟩ := take_nat a1 b1 n (by omega) (by omega)
  obtain ⟨v, a3, b3, h3, h3'⟩ := take_nat a2 b2 2 (by omega) (by omega)
  have h3 : F__law_take (some (.lst [.int a2, .int b2], 1)) [.int 2] = .ok (.int v, 0) (some (.lst [.int a3, .int b3], 1)) := h3
  obtain ⟨m, hm0, hm, hi⟩ : ∃ m : Nat, 0 < m ∧ m ≤ 61 ∧ idxD (.lst [.int 9, .int 61]) (.int v) = some (.int m, 0) := by
    match v, h3' with
    | 0, _ => exact ⟨9, by omega, by omega, rfl⟩
    | 1, _ => exact ⟨61, by omega, by omega, rfl⟩
  obtain ⟨k, a4, b4, h4, h4'⟩ := take_nat a3 b3 m hm0 (by omega)
  have h0 : idxD (Gd n es) (.int 0) = some (.int n, 0) := by simp [Gd, idxD, at_0]
  generalize Gd n es = X at *
  exact ⟨x, y, k, a4, b4, by simp [-List.map_map, fnF, en0, seqS, passS, noS, exprS, retS, retN, retM, putE, setS, iteS, vOfE, eOfV, oOfV, kI, kB, kS, kN, nmV, nmO, op1, op2, opC, tst, tru, truD, notT, andT, orT, blV, vbl, andV, orV, notV, iteE, aNil, aCons, lNil, lCons, tupE, lstE, dicE, Opd.get, callF, frR, callI, callL, own1, addD, subD, negD, cmpD, lenD, intD, tupD, lisD, absD, isiD, tyD, min2D, max2D, Pv.R.of, raiseS, asgS, nameG, nilG, consG, tupG, isD, nisD, isNB, opS, pNone, pSome, seqI', itsD, sItS, putD, wipeE, backE, h0, h1, h2, h3, hi, h4], h1', h2', by omega⟩
theorem law10 (sc st k x : Sl) (K : D) (y : Nat) (W F : D) : g_law_10 (le sc st (some (Gd n es, 0)) (some (K, 0)) (some (W, 0)) (some (F, 0)) k none none none x (some (.int y, 0)) none none none none) = .nx (le sc st (some (Gd n es, 0)) (some (K, 0)) (some (W, 0)) (some (F, 0)) k (some (rowD (startX n y), 1)) none none x (some (.int y, 0)) none none none none) := by
  have n4 := g.n4
  have h0 : idxD (Gd n es) (.int 0) = some (.int n, 0) := by simp [Gd, idxD, at_0]
  have hc : (comp (rg1 (aCons ((vOfE (op2 idxD (nmO 2) (oOfV (kI 0))))) aNil)) (nameG 12) (yesT) ((eOfV ((vOfE (op1 intD (oOfV ((vOfE (op2 eqD (nmO 12) (nmO 11)))))))))) 0 [12]) (le sc st (some (Gd n es, 0)) (some (K, 0)) (some (W, 0)) (some (F, 0)) k none none none x (some (.int y, 0)) none none none none) = .ok (rowD (startX n y), 1) (le sc st (some (Gd n es, 0)) (some (K, 0)) (some (W, 0)) (some (F, 0)) k none none none x (some (.int y, 0)) none none none none) := by
    unfold startX rowD
    rw [List.map_map]
    generalize Gd n es = X at *
    refine comp_map1 (fun i : Nat => .int i) _ (rg1_ok (n := n) (env1 := le sc st (some (X, 0)) (some (K, 0)) (some (W, 0)) (some (F, 0)) k none none none x (some (.int y, 0)) none none none none) (by simp [-List.map_map, fnF, en0, seqS, passS, noS, exprS, retS, retN, retM, putE, setS, iteS, vOfE, eOfV, oOfV, kI, kB, kS, kN, nmV, nmO, op1, op2, opC, tst, tru, truD, notT, andT, orT, blV, vbl, andV, orV, notV, iteE, aNil, aCons, lNil, lCons, tupE, lstE, dicE, Opd.get, callF, frR, callI, callL, own1, addD, subD, negD, cmpD, lenD, intD, tupD, lisD, absD, isiD, tyD, min2D, max2D, Pv.R.of, raiseS, asgS, nameG, nilG, consG, tupG, isD, nisD, isNB, opS, pNone, pSome, seqI', itsD, sItS, putD, wipeE, backE, h0]) (by omega)) rfl (by simp; omega) fun i _ => ?_
    by_cases hy : i = y
    · have : (i : Int) = y := by omega
      simp [-List.map_map, fnF, en0, seqS, passS, noS, exprS, retS, retN, retM, putE, setS, iteS, vOfE, eOfV, oOfV, kI, kB, kS, kN, nmV, nmO, op1, op2, opC, tst, tru, truD, notT, andT, orT, blV, vbl, andV, orV, notV, iteE, aNil, aCons, lNil, lCons, tupE, lstE, dicE, Opd.get, callF, frR, callI, callL, own1, addD, subD, negD, cmpD, lenD, intD, tupD, lisD, absD, isiD, tyD, min2D, max2D, Pv.R.of, raiseS, asgS, nameG, nilG, consG, tupG, isD, nisD, isNB, opS, pNone, pSome, seqI', itsD, sItS, putD, wipeE, backE, hy, this, nD]
    · have : ¬ (i : Int) = y := by omega
      simp [-List.map_map, fnF, en0, seqS, passS, noS, exprS, retS, retN, retM, putE, setS, iteS, vOfE, eOfV, oOfV, kI, kB, kS, kN, nmV, nmO, op1, op2, opC, tst, tru, truD, notT, andT, orT, blV, vbl, andV, orV, notV, iteE, aNil, aCons, lNil, lCons, tupE, lstE, dicE, Opd.get, callF, frR, callI, callL, own1, addD, subD, negD, cmpD, lenD, intD, tupD, lisD, absD, isiD, tyD, min2D, max2D, Pv.R.of, raiseS, asgS, nameG, nilG, consG, tupG, isD, nisD, isNB, opS, pNone, pSome, seqI', itsD, sItS, putD, wipeE, backE, hy, this, nD]
  generalize rowD (startX n y) = Y at *
  generalize Gd n es = X at *
  simp [-List.map_map, fnF, en0, seqS, passS, noS, exprS, retS, retN, retM, putE, setS, iteS, vOfE, eOfV, oOfV, kI, kB, kS, kN, nmV, nmO, op1, op2, opC, tst, tru, truD, notT, andT, orT, blV, vbl, andV, orV, notV, iteE, aNil, aCons, lNil, lCons, tupE, lstE, dicE, Opd.get, callF, frR, callI, callL, own1, addD, subD, negD, cmpD, lenD, intD, tupD, lisD, absD, isiD, tyD, min2D, max2D, Pv.R.of, raiseS, asgS, nameG, nilG, consG, tupG, isD, nisD, isNB, opS, pNone, pSome, seqI', itsD, sItS, putD, wipeE, backE, hc]
theorem law11 (sc st k x y : Sl) (K : D) (W F C : D) : g_law_11 (le sc st (some (Gd n es, 0)) (some (K, 0)) (some (W, 0)) (some (F, 0)) k (some (C, 1)) none none x y none none none none) = .nx (le sc st (some (Gd n es, 0)) (some (K, 0)) (some (W, 0)) (some (F, 0)) k (some (C, 1)) (some (nearD (tabP n es), 2)) none x y none none none none) := by
  have h := table_ok g
  generalize nearD (tabP n es) = T at *
  generalize Gd n es = X at *
  simp [-List.map_map, fnF, en0, seqS, passS, noS, exprS, retS, retN, retM, putE, setS, iteS, vOfE, eOfV, oOfV, kI, kB, kS, kN, nmV, nmO, op1, op2, opC, tst, tru, truD, notT, andT, orT, blV, vbl, andV, orV, notV, iteE, aNil, aCons, lNil, lCons, tupE, lstE, dicE, Opd.get, callF, frR, callI, callL, own1, addD, subD, negD, cmpD, lenD, intD, tupD, lisD, absD, isiD, tyD, min2D, max2D, Pv.R.of, raiseS, asgS, nameG, nilG, consG, tupG, isD, nisD, isNB, opS, pNone, pSome, seqI', itsD, sItS, putD, wipeE, backE, h]
theorem law12 (sc st G x y' : Sl) (K : D) (W F : D) (k y : Nat) (hk : k ≤ 60) : ∃ d e tu, g_law_12 (le sc st G (some (K, 0)) (some (W, 0)) (some (F, 0)) (some (.int k, 0)) (some (rowD (startX n y), 1)) (some (nearD (tabP n es), 2)) none x y' none none none none) = .nx (le sc st G (some (K, 0)) (some (W, 0)) (some (F, 0)) (some (.int k, 0)) (some (rowD (rowX (nearP n es) n y k), d)) (some (nearD (tabP n es), e)) tu x y' none none none none) ∧ d ≤ 1 := by
  have hnr := nr_of g
  obtain ⟨e, he, d, e', tu, hd, rfl⟩ := loopS_ex (g := nameG 9) (body := (setS 7 ((callF 2 (F__law_led) (aCons ((nmV 8)) (aCons ((nmV 7)) aNil))))))
    (fun i : Nat => .int i) (List.range k) (fun i env => ∃ d e tu, d ≤ 1 ∧ env = le sc st G (some (K, 0)) (some (W, 0)) (some (F, 0)) (some (.int k, 0)) (some (rowD (rowX (nearP n es) n y i), d)) (some (nearD (tabP n es), e)) tu x y' none none none none)
    (le sc st G (some (K, 0)) (some (W, 0)) (some (F, 0)) (some (.int k, 0)) (some (rowD (startX n y), 1)) (some (nearD (tabP n es), 2)) none x y' none none none none) ⟨1, 2, none, Nat.le_refl _, rfl⟩ (fun i hi env hP => by
      obtain ⟨d, e', tu, hd, rfl⟩ := hP
      have h1 := ledG_ok g (rowX (nearP n es) n y i) (rowX_len hnr.l i)
      have h2 : rowX (nearP n es) n y (i + 1) = ledN (nearP n es) (rowX (nearP n es) n y i) := rfl
      rw [h2]
      generalize rowD (ledN (nearP n es) (rowX (nearP n es) n y i)) = A at *
      generalize rowD (rowX (nearP n es) n y i) = B at *
      generalize nearD (tabP n es) = T at *
      refine ⟨le sc st G (some (K, 0)) (some (W, 0)) (some (F, 0)) (some (.int k, 0)) (some (B, d)) (some (T, e')) (some (.int i, 0)) x y' none none none none, _, by simp [-List.map_map, fnF, en0, seqS, passS, noS, exprS, retS, retN, retM, putE, setS, iteS, vOfE, eOfV, oOfV, kI, kB, kS, kN, nmV, nmO, op1, op2, opC, tst, tru, truD, notT, andT, orT, blV, vbl, andV, orV, notV, iteE, aNil, aCons, lNil, lCons, tupE, lstE, dicE, Opd.get, callF, frR, callI, callL, own1, addD, subD, negD, cmpD, lenD, intD, tupD, lisD, absD, isiD, tyD, min2D, max2D, Pv.R.of, raiseS, asgS, nameG, nilG, consG, tupG, isD, nisD, isNB, opS, pNone, pSome, seqI', itsD, sItS, putD, wipeE, backE, List.getElem_range], by simp [-List.map_map, fnF, en0, seqS, passS, noS, exprS, retS, retN, retM, putE, setS, iteS, vOfE, eOfV, oOfV, kI, kB, kS, kN, nmV, nmO, op1, op2, opC, tst, tru, truD, notT, andT, orT, blV, vbl, andV, orV, notV, iteE, aNil, aCons, lNil, lCons, tupE, lstE, dicE, Opd.get, callF, frR, callI, callL, own1, addD, subD, negD, cmpD, lenD, intD, tupD, lisD, absD, isiD, tyD, min2D, max2D, Pv.R.of, raiseS, asgS, nameG, nilG, consG, tupG, isD, nisD, isNB, opS, pNone, pSome, seqI', itsD, sItS, putD, wipeE, backE, h1], 1, 0, some (.int i, 0), Nat.le_refl _, rfl⟩)
  simp only [List.length_range] at he
  refine ⟨d, e', tu, (forS_ok (rg1_ok (n := k) (by simp [-List.map_map, fnF, en0, seqS, passS, noS, exprS, retS, retN, retM, putE, setS, iteS, vOfE, eOfV, oOfV, kI, kB, kS, kN, nmV, nmO, op1, op2, opC, tst, tru, truD, notT, andT, orT, blV, vbl, andV, orV, notV, iteE, aNil, aCons, lNil, lCons, tupE, lstE, dicE, Opd.get, callF, frR, callI, callL, own1, addD, subD, negD, cmpD, lenD, intD, tupD, lisD, absD, isiD, tyD, min2D, max2D, Pv.R.of, raiseS, asgS, nameG, nilG, consG, tupG, isD, nisD, isNB, opS, pNone, pSome, seqI', itsD, sItS, putD, wipeE, backE]) (by omega))).trans he, hd⟩
theorem law13 (sc st tu : Sl) (K : D) (W F T : D) (k x y d e : Nat) (hx : x < n) (hy : y < n) (hk : k ≤ 60) (hd : d ≤ 1) : g_law_13 (le sc st (some (Gd n es, 0)) (some (K, 0)) (some (W, 0)) (some (F, 0)) (some (.int k, 0)) (some (rowD (rowX (nearP n es) n y k), d)) (some (T, e)) tu (some (.int x, 0)) (some (.int y, 0)) none none none none) = .nx (le sc st (some (Gd n es, 0)) (some (K, 0)) (some (W, 0)) (some (F, 0)) (some (.int k, 0)) (some (rowD (rowX (nearP n es) n y k), d)) (some (T, e)) tu (some (.int x, 0)) (some (.int y, 0)) none none none none) := by
  have hnr := nr_of g
  have h1 := told4 (i := 2) (F := F_walk_number) rfl (walkn_ok g x y k hx hy hk)
  have h2 := told4 (i := 2) (F := F_walk_number) rfl (walkn_ok g y x k hy hx hk)
  rw [walk_sym g hx hy k] at h1
  have h3 : idxD (rowD (rowX (nearP n es) n y k)) (.int x) = some (.int (nth (rowX (nearP n es) n y k) x : Nat), 0) := idx_row (by rw [rowX_len hnr.l]; exact hx)
  have h4 : F__law_is_told none [toldD (.int (nth (rowX (nearP n es) n y k) x : Nat)), .int (nth (rowX (nearP n es) n y k) x : Nat)] = .ok (.bl true, 0) none := is_told rfl
  simp only at h1 h2
  generalize nth (rowX (nearP n es) n y k) x = q at *
  generalize rowD (rowX (nearP n es) n y k) = R at *
  generalize Gd n es = X at *
  have hd' : d = 0 ∨ d = 1 := by omega
  rcases hd' with rfl | rfl
  · simp [-List.map_map, fnF, en0, seqS, passS, noS, exprS, retS, retN, retM, putE, setS, iteS, vOfE, eOfV, oOfV, kI, kB, kS, kN, nmV, nmO, op1, op2, opC, tst, tru, truD, notT, andT, orT, blV, vbl, andV, orV, notV, iteE, aNil, aCons, lNil, lCons, tupE, lstE, dicE, Opd.get, callF, frR, callI, callL, own1, addD, subD, negD, cmpD, lenD, intD, tupD, lisD, absD, isiD, tyD, min2D, max2D, Pv.R.of, raiseS, asgS, nameG, nilG, consG, tupG, isD, nisD, isNB, opS, pNone, pSome, seqI', itsD, sItS, putD, wipeE, backE, h1, h2, h3, h4]
  · simp [-List.map_map, fnF, en0, seqS, passS, noS, exprS, retS, retN, retM, putE, setS, iteS, vOfE, eOfV, oOfV, kI, kB, kS, kN, nmV, nmO, op1, op2, opC, tst, tru, truD, notT, andT, orT, blV, vbl, andV, orV, notV, iteE, aNil, aCons, lNil, lCons, tupE, lstE, dicE, Opd.get, callF, frR, callI, callL, own1, addD, subD, negD, cmpD, lenD, intD, tupD, lisD, absD, isiD, tyD, min2D, max2D, Pv.R.of, raiseS, asgS, nameG, nilG, consG, tupG, isD, nisD, isNB, opS, pNone, pSome, seqI', itsD, sItS, putD, wipeE, backE, h1, h2, h3, h4]
theorem law14 (sc k tu x y : Sl) (st C : D) (d' : Nat) (K : D) (W F T : D) (d e : Nat) (hn : n ≤ 40) (hl : es.length ≤ 50) : ∃ e', g_law_14 (le sc (some (st, d')) (some (Gd n es, 0)) (some (K, 0)) (some (W, 0)) (some (F, 0)) k (some (C, d)) (some (T, e)) tu x y none none none none) = .ret (.bl true, 0) e' := by
  have h := values_ok st g hn hl
  generalize Gd n es = X at *
  exact ⟨_, by simp [-List.map_map, fnF, en0, seqS, passS, noS, exprS, retS, retN, retM, putE, setS, iteS, vOfE, eOfV, oOfV, kI, kB, kS, kN, nmV, nmO, op1, op2, opC, tst, tru, truD, notT, andT, orT, blV, vbl, andV, orV, notV, iteE, aNil, aCons, lNil, lCons, tupE, lstE, dicE, Opd.get, callF, frR, callI, callL, own1, addD, subD, negD, cmpD, lenD, intD, tupD, lisD, absD, isiD, tyD, min2D, max2D, Pv.R.of, raiseS, asgS, nameG, nilG, consG, tupG, isD, nisD, isNB, opS, pNone, pSome, seqI', itsD, sItS, putD, wipeE, backE, h]; rfl⟩
end
theorem law_all (ns : List Int) (h : ns.length ≤ 63) : ∃ fin, F_law none [.scr ns] = .ok (.bl true, 0) fin := by
  obtain ⟨a, b, e1⟩ := law1 ns
  obtain ⟨n, es, a2, b2, e2, g, hn, hl⟩ := law2 (some (.scr ns, 0)) a b
  obtain ⟨k, a3, b3, e3, hk⟩ := law3 (some (.scr ns, 0)) (some (Gd n es, 0)) a2 b2
  have e4 := law4 g (some (.scr ns, 0)) (stt a3 b3) k hk
  have e5 := law5 g (some (.scr ns, 0)) (stt a3 b3) k hk
  have e6 : g_law_6 (le (some (.scr ns, 0)) (stt a3 b3) (some (Gd n es, 0)) (some (.int k, 0)) (some (rowD (wks n es k), 0)) none none none none none none none none none none none) = .nx (le (some (.scr ns, 0)) (stt a3 b3) (some (Gd n es, 0)) (some (.int k, 0)) (some (rowD (wks n es k), 0)) (some (.lst [], 1)) none none none none none none none none none none) := by
    generalize rowD (wks n es k) = W
    generalize Gd n es = X
    simp [-List.map_map, fnF, en0, seqS, passS, noS, exprS, retS, retN, retM, putE, setS, iteS, vOfE, eOfV, oOfV, kI, kB, kS, kN, nmV, nmO, op1, op2, opC, tst, tru, truD, notT, andT, orT, blV, vbl, andV, orV, notV, iteE, aNil, aCons, lNil, lCons, tupE, lstE, dicE, Opd.get, callF, frR, callI, callL, own1, addD, subD, negD, cmpD, lenD, intD, tupD, lisD, absD, isiD, tyD, min2D, max2D, Pv.R.of, raiseS, asgS, nameG, nilG, consG, tupG, isD, nisD, isNB, opS, pNone, pSome, seqI', itsD, sItS, putD, wipeE, backE]
  obtain ⟨k', e7⟩ := law7 g (some (.scr ns, 0)) (stt a3 b3) (some (Gd n es, 0)) k hk
  have e8 := law8 g (some (.scr ns, 0)) (stt a3 b3) k' k hk (rowD (wks n es k))
  obtain ⟨x, y, q, a4, b4, e9, hx, hy, hq⟩ := law9 g (some (.scr ns, 0)) k' (.int k) a3 b3 (rowD (wks n es k)) (rowD (fws (nearP n es) n k))
  have e10 := law10 g (some (.scr ns, 0)) (stt a4 b4) (some (.int q, 0)) (some (.int x, 0)) (.int k) y (rowD (wks n es k)) (rowD (fws (nearP n es) n k))
  have e11 := law11 g (some (.scr ns, 0)) (stt a4 b4) (some (.int q, 0)) (some (.int x, 0)) (some (.int y, 0)) (.int k) (rowD (wks n es k)) (rowD (fws (nearP n es) n k)) (rowD (startX n y))
  obtain ⟨d, e, tu, e12, hd⟩ := law12 g (some (.scr ns, 0)) (stt a4 b4) (some (Gd n es, 0)) (some (.int x, 0)) (some (.int y, 0)) (.int k) (rowD (wks n es k)) (rowD (fws (nearP n es) n k)) q y hq
  have e13 := law13 g (some (.scr ns, 0)) (stt a4 b4) tu (.int k) (rowD (wks n es k)) (rowD (fws (nearP n es) n k)) (nearD (tabP n es)) q x y d e hx hy hq hd
  obtain ⟨e', e14⟩ := law14 g (some (.scr ns, 0)) (some (.int q, 0)) tu (some (.int x, 0)) (some (.int y, 0)) (.lst [.int a4, .int b4]) (rowD (rowX (nearP n es) n y q)) 1 (.int k) (rowD (wks n es k)) (rowD (fws (nearP n es) n k)) (nearD (tabP n es)) d e hn hl
  exact ⟨none, fnF_ret (Eq.trans (seqS_nx e1) <| Eq.trans (seqS_nx e2) <| Eq.trans (seqS_nx e3) <| Eq.trans (seqS_nx e4) <| Eq.trans (seqS_nx e5) <| Eq.trans (seqS_nx e6) <| Eq.trans (seqS_nx e7) <| Eq.trans (seqS_nx e8) <| Eq.trans (seqS_nx e9) <| Eq.trans (seqS_nx e10) <| Eq.trans (seqS_nx e11) <| Eq.trans (seqS_nx e12) <| Eq.trans (seqS_nx e13) e14)⟩
end L47
end

namespace L47
open PySem PySem.Spec PyProof.Rows L2 Pv
theorem all_mk {l : PySem.W.OpenLaw} {w : World} {K : PySem.W.Frag} {h : Heap} {mg : Str → Option Value} {fa : Addr} (X : K.In h) (G : h.Ns mainGlobals mg) (hfa : mg "law" = some (.ref fa))
    {f0 : Addr} {oc0 : Value} {od0 an0 : Option Addr} {sl0 : Array (Option Value)} {kV0 dc0 pm0 cd0 ct0 : Value}
    {f1 : Addr} {oc1 : Value} {od1 an1 : Option Addr} {sl1 : Array (Option Value)} {kV1 dc1 pm1 cd1 ct1 : Value}
    {f2 : Addr} {oc2 : Value} {od2 an2 : Option Addr} {sl2 : Array (Option Value)} {kV2 dc2 pm2 cd2 ct2 : Value}
    {f3 : Addr} {oc3 : Value} {od3 an3 : Option Addr} {sl3 : Array (Option Value)} {kV3 dc3 pm3 cd3 ct3 : Value}
    {f4 : Addr} {oc4 : Value} {od4 an4 : Option Addr} {sl4 : Array (Option Value)} {kV4 dc4 pm4 cd4 ct4 : Value}
    {f5 : Addr} {oc5 : Value} {od5 an5 : Option Addr} {sl5 : Array (Option Value)} {kV5 dc5 pm5 cd5 ct5 : Value}
    {f6 : Addr} {oc6 : Value} {od6 an6 : Option Addr} {sl6 : Array (Option Value)} {kV6 dc6 pm6 cd6 ct6 : Value}
    {f7 : Addr} {oc7 : Value} {od7 an7 : Option Addr} {sl7 : Array (Option Value)} {kV7 dc7 pm7 cd7 ct7 : Value}
    {f8 : Addr} {oc8 : Value} {od8 an8 : Option Addr} {sl8 : Array (Option Value)} {kV8 dc8 pm8 cd8 ct8 : Value}
    {f9 : Addr} {oc9 : Value} {od9 an9 : Option Addr} {sl9 : Array (Option Value)} {kV9 dc9 pm9 cd9 ct9 : Value}
    {f10 : Addr} {oc10 : Value} {od10 an10 : Option Addr} {sl10 : Array (Option Value)} {kV10 dc10 pm10 cd10 ct10 : Value}
    {f11 : Addr} {oc11 : Value} {od11 an11 : Option Addr} {sl11 : Array (Option Value)} {kV11 dc11 pm11 cd11 ct11 : Value}
    {f12 : Addr} {oc12 : Value} {od12 an12 : Option Addr} {sl12 : Array (Option Value)} {kV12 dc12 pm12 cd12 ct12 : Value}
    {f13 : Addr} {oc13 : Value} {od13 an13 : Option Addr} {sl13 : Array (Option Value)} {kV13 dc13 pm13 cd13 ct13 : Value}
    {f14 : Addr} {oc14 : Value} {od14 an14 : Option Addr} {sl14 : Array (Option Value)} {kV14 dc14 pm14 cd14 ct14 : Value}
    {f15 : Addr} {oc15 : Value} {od15 an15 : Option Addr} {sl15 : Array (Option Value)} {kV15 dc15 pm15 cd15 ct15 : Value}
    {f16 : Addr} {oc16 : Value} {od16 an16 : Option Addr} {sl16 : Array (Option Value)} {kV16 dc16 pm16 cd16 ct16 : Value}
    {f17 : Addr} {oc17 : Value} {od17 an17 : Option Addr} {sl17 : Array (Option Value)} {kV17 dc17 pm17 cd17 ct17 : Value}
    {f18 : Addr} {oc18 : Value} {od18 an18 : Option Addr} {sl18 : Array (Option Value)} {kV18 dc18 pm18 cd18 ct18 : Value}
    {f19 : Addr} {oc19 : Value} {od19 an19 : Option Addr} {sl19 : Array (Option Value)} {kV19 dc19 pm19 cd19 ct19 : Value}
    {f20 : Addr} {oc20 : Value} {od20 an20 : Option Addr} {sl20 : Array (Option Value)} {kV20 dc20 pm20 cd20 ct20 : Value}
    {f21 : Addr} {oc21 : Value} {od21 an21 : Option Addr} {sl21 : Array (Option Value)} {kV21 dc21 pm21 cd21 ct21 : Value}
    {f22 : Addr} {oc22 : Value} {od22 an22 : Option Addr} {sl22 : Array (Option Value)} {kV22 dc22 pm22 cd22 ct22 : Value}
    {f23 : Addr} {oc23 : Value} {od23 an23 : Option Addr} {sl23 : Array (Option Value)} {kV23 dc23 pm23 cd23 ct23 : Value}
    {f24 : Addr} {oc24 : Value} {od24 an24 : Option Addr} {sl24 : Array (Option Value)} {kV24 dc24 pm24 cd24 ct24 : Value}
    {f25 : Addr} {oc25 : Value} {od25 an25 : Option Addr} {sl25 : Array (Option Value)} {kV25 dc25 pm25 cd25 ct25 : Value}
    {f26 : Addr} {oc26 : Value} {od26 an26 : Option Addr} {sl26 : Array (Option Value)} {kV26 dc26 pm26 cd26 ct26 : Value}
    {x_Malformed : Addr}
    {t_MOST_EDGES : Tok}
    {t_MOST_LENGTH : Tok}
    {t_MOST_POINTS : Tok}
    {t_MOST_STEPS : Tok}
    (a0 : PySem.W.nsIn K mainGlobals "_law_state" = some (some (.ref f0))) (l0 : K.lookup f0 = some ⟨oc0, od0, .func (PySem.W.fnOf "_law_state" "_law_state" (defArgs s__law_state) (defBody s__law_state) (defScope s__law_state) .none kV0 dc0 pm0 an0 cd0 ct0), sl0⟩) (e0 : PySem.W.codeIn K cd0 "_law_state" = true) (k0 : PySem.W.keepIn K (.ref f0) = true)
    (a1 : PySem.W.nsIn K mainGlobals "_law_take" = some (some (.ref f1))) (l1 : K.lookup f1 = some ⟨oc1, od1, .func (PySem.W.fnOf "_law_take" "_law_take" (defArgs s__law_take) (defBody s__law_take) (defScope s__law_take) .none kV1 dc1 pm1 an1 cd1 ct1), sl1⟩) (e1 : PySem.W.codeIn K cd1 "_law_take" = true) (k1 : PySem.W.keepIn K (.ref f1) = true)
    (a2 : PySem.W.nsIn K mainGlobals "_law_table" = some (some (.ref f2))) (l2 : K.lookup f2 = some ⟨oc2, od2, .func (PySem.W.fnOf "_law_table" "_law_table" (defArgs s__law_table) (defBody s__law_table) (defScope s__law_table) .none kV2 dc2 pm2 an2 cd2 ct2), sl2⟩) (e2 : PySem.W.codeIn K cd2 "_law_table" = true) (k2 : PySem.W.keepIn K (.ref f2) = true)
    (a3 : PySem.W.nsIn K mainGlobals "_law_led" = some (some (.ref f3))) (l3 : K.lookup f3 = some ⟨oc3, od3, .func (PySem.W.fnOf "_law_led" "_law_led" (defArgs s__law_led) (defBody s__law_led) (defScope s__law_led) .none kV3 dc3 pm3 an3 cd3 ct3), sl3⟩) (e3 : PySem.W.codeIn K cd3 "_law_led" = true) (k3 : PySem.W.keepIn K (.ref f3) = true)
    (a4 : PySem.W.nsIn K mainGlobals "_law_whole" = some (some (.ref f4))) (l4 : K.lookup f4 = some ⟨oc4, od4, .func (PySem.W.fnOf "_law_whole" "_law_whole" (defArgs s__law_whole) (defBody s__law_whole) (defScope s__law_whole) .none kV4 dc4 pm4 an4 cd4 ct4), sl4⟩) (e4 : PySem.W.codeIn K cd4 "_law_whole" = true) (k4 : PySem.W.keepIn K (.ref f4) = true)
    (a5 : PySem.W.nsIn K mainGlobals "is_integer" = some (some (.ref f5))) (l5 : K.lookup f5 = some ⟨oc5, od5, .func (PySem.W.fnOf "is_integer" "is_integer" (defArgs s_is_integer) (defBody s_is_integer) (defScope s_is_integer) .none kV5 dc5 pm5 an5 cd5 ct5), sl5⟩) (e5 : PySem.W.codeIn K cd5 "is_integer" = true) (k5 : PySem.W.keepIn K (.ref f5) = true)
    (a6 : PySem.W.nsIn K mainGlobals "near_points" = some (some (.ref f6))) (l6 : K.lookup f6 = some ⟨oc6, od6, .func (PySem.W.fnOf "near_points" "near_points" (defArgs s_near_points) (defBody s_near_points) (defScope s_near_points) .none kV6 dc6 pm6 an6 cd6 ct6), sl6⟩) (e6 : PySem.W.codeIn K cd6 "near_points" = true) (k6 : PySem.W.keepIn K (.ref f6) = true)
    (a7 : PySem.W.nsIn K mainGlobals "start_row" = some (some (.ref f7))) (l7 : K.lookup f7 = some ⟨oc7, od7, .func (PySem.W.fnOf "start_row" "start_row" (defArgs s_start_row) (defBody s_start_row) (defScope s_start_row) .none kV7 dc7 pm7 an7 cd7 ct7), sl7⟩) (e7 : PySem.W.codeIn K cd7 "start_row" = true) (k7 : PySem.W.keepIn K (.ref f7) = true)
    (a8 : PySem.W.nsIn K mainGlobals "led" = some (some (.ref f8))) (l8 : K.lookup f8 = some ⟨oc8, od8, .func (PySem.W.fnOf "led" "led" (defArgs s_led) (defBody s_led) (defScope s_led) .none kV8 dc8 pm8 an8 cd8 ct8), sl8⟩) (e8 : PySem.W.codeIn K cd8 "led" = true) (k8 : PySem.W.keepIn K (.ref f8) = true)
    (a9 : PySem.W.nsIn K mainGlobals "_law_graph" = some (some (.ref f9))) (l9 : K.lookup f9 = some ⟨oc9, od9, .func (PySem.W.fnOf "_law_graph" "_law_graph" (defArgs s__law_graph) (defBody s__law_graph) (defScope s__law_graph) .none kV9 dc9 pm9 an9 cd9 ct9), sl9⟩) (e9 : PySem.W.codeIn K cd9 "_law_graph" = true) (k9 : PySem.W.keepIn K (.ref f9) = true)
    (a10 : PySem.W.nsIn K mainGlobals "_law_walks" = some (some (.ref f10))) (l10 : K.lookup f10 = some ⟨oc10, od10, .func (PySem.W.fnOf "_law_walks" "_law_walks" (defArgs s__law_walks) (defBody s__law_walks) (defScope s__law_walks) .none kV10 dc10 pm10 an10 cd10 ct10), sl10⟩) (e10 : PySem.W.codeIn K cd10 "_law_walks" = true) (k10 : PySem.W.keepIn K (.ref f10) = true)
    (a11 : PySem.W.nsIn K mainGlobals "_law_is_graph" = some (some (.ref f11))) (l11 : K.lookup f11 = some ⟨oc11, od11, .func (PySem.W.fnOf "_law_is_graph" "_law_is_graph" (defArgs s__law_is_graph) (defBody s__law_is_graph) (defScope s__law_is_graph) .none kV11 dc11 pm11 an11 cd11 ct11), sl11⟩) (e11 : PySem.W.codeIn K cd11 "_law_is_graph" = true) (k11 : PySem.W.keepIn K (.ref f11) = true)
    (a12 : PySem.W.nsIn K mainGlobals "is_point" = some (some (.ref f12))) (l12 : K.lookup f12 = some ⟨oc12, od12, .func (PySem.W.fnOf "is_point" "is_point" (defArgs s_is_point) (defBody s_is_point) (defScope s_is_point) .none kV12 dc12 pm12 an12 cd12 ct12), sl12⟩) (e12 : PySem.W.codeIn K cd12 "is_point" = true) (k12 : PySem.W.keepIn K (.ref f12) = true)
    (a13 : PySem.W.nsIn K mainGlobals "check_length" = some (some (.ref f13))) (l13 : K.lookup f13 = some ⟨oc13, od13, .func (PySem.W.fnOf "check_length" "check_length" (defArgs s_check_length) (defBody s_check_length) (defScope s_check_length) .none kV13 dc13 pm13 an13 cd13 ct13), sl13⟩) (e13 : PySem.W.codeIn K cd13 "check_length" = true) (k13 : PySem.W.keepIn K (.ref f13) = true)
    (a14 : PySem.W.nsIn K mainGlobals "walk_counts" = some (some (.ref f14))) (l14 : K.lookup f14 = some ⟨oc14, od14, .func (PySem.W.fnOf "walk_counts" "walk_counts" (defArgs s_walk_counts) (defBody s_walk_counts) (defScope s_walk_counts) .none kV14 dc14 pm14 an14 cd14 ct14), sl14⟩) (e14 : PySem.W.codeIn K cd14 "walk_counts" = true) (k14 : PySem.W.keepIn K (.ref f14) = true)
    (a15 : PySem.W.nsIn K mainGlobals "is_edge" = some (some (.ref f15))) (l15 : K.lookup f15 = some ⟨oc15, od15, .func (PySem.W.fnOf "is_edge" "is_edge" (defArgs s_is_edge) (defBody s_is_edge) (defScope s_is_edge) .none kV15 dc15 pm15 an15 cd15 ct15), sl15⟩) (e15 : PySem.W.codeIn K cd15 "is_edge" = true) (k15 : PySem.W.keepIn K (.ref f15) = true)
    (a16 : PySem.W.nsIn K mainGlobals "is_rooted_graph" = some (some (.ref f16))) (l16 : K.lookup f16 = some ⟨oc16, od16, .func (PySem.W.fnOf "is_rooted_graph" "is_rooted_graph" (defArgs s_is_rooted_graph) (defBody s_is_rooted_graph) (defScope s_is_rooted_graph) .none kV16 dc16 pm16 an16 cd16 ct16), sl16⟩) (e16 : PySem.W.codeIn K cd16 "is_rooted_graph" = true) (k16 : PySem.W.keepIn K (.ref f16) = true)
    (a17 : PySem.W.nsIn K mainGlobals "check_graph" = some (some (.ref f17))) (l17 : K.lookup f17 = some ⟨oc17, od17, .func (PySem.W.fnOf "check_graph" "check_graph" (defArgs s_check_graph) (defBody s_check_graph) (defScope s_check_graph) .none kV17 dc17 pm17 an17 cd17 ct17), sl17⟩) (e17 : PySem.W.codeIn K cd17 "check_graph" = true) (k17 : PySem.W.keepIn K (.ref f17) = true)
    (a18 : PySem.W.nsIn K mainGlobals "closed_walks" = some (some (.ref f18))) (l18 : K.lookup f18 = some ⟨oc18, od18, .func (PySem.W.fnOf "closed_walks" "closed_walks" (defArgs s_closed_walks) (defBody s_closed_walks) (defScope s_closed_walks) .none kV18 dc18 pm18 an18 cd18 ct18), sl18⟩) (e18 : PySem.W.codeIn K cd18 "closed_walks" = true) (k18 : PySem.W.keepIn K (.ref f18) = true)
    (a19 : PySem.W.nsIn K mainGlobals "first_walks" = some (some (.ref f19))) (l19 : K.lookup f19 = some ⟨oc19, od19, .func (PySem.W.fnOf "first_walks" "first_walks" (defArgs s_first_walks) (defBody s_first_walks) (defScope s_first_walks) .none kV19 dc19 pm19 an19 cd19 ct19), sl19⟩) (e19 : PySem.W.codeIn K cd19 "first_walks" = true) (k19 : PySem.W.keepIn K (.ref f19) = true)
    (a20 : PySem.W.nsIn K mainGlobals "walk_number" = some (some (.ref f20))) (l20 : K.lookup f20 = some ⟨oc20, od20, .func (PySem.W.fnOf "walk_number" "walk_number" (defArgs s_walk_number) (defBody s_walk_number) (defScope s_walk_number) .none kV20 dc20 pm20 an20 cd20 ct20), sl20⟩) (e20 : PySem.W.codeIn K cd20 "walk_number" = true) (k20 : PySem.W.keepIn K (.ref f20) = true)
    (a21 : PySem.W.nsIn K mainGlobals "_law_same" = some (some (.ref f21))) (l21 : K.lookup f21 = some ⟨oc21, od21, .func (PySem.W.fnOf "_law_same" "_law_same" (defArgs s__law_same) (defBody s__law_same) (defScope s__law_same) .none kV21 dc21 pm21 an21 cd21 ct21), sl21⟩) (e21 : PySem.W.codeIn K cd21 "_law_same" = true) (k21 : PySem.W.keepIn K (.ref f21) = true)
    (a22 : PySem.W.nsIn K mainGlobals "_law_told" = some (some (.ref f22))) (l22 : K.lookup f22 = some ⟨oc22, od22, .func (PySem.W.fnOf "_law_told" "_law_told" (defArgs s__law_told) (defBody s__law_told) (defScope s__law_told) .none kV22 dc22 pm22 an22 cd22 ct22), sl22⟩) (e22 : PySem.W.codeIn K cd22 "_law_told" = true) (k22 : PySem.W.keepIn K (.ref f22) = true)
    (a23 : PySem.W.nsIn K mainGlobals "_law_is_raised" = some (some (.ref f23))) (l23 : K.lookup f23 = some ⟨oc23, od23, .func (PySem.W.fnOf "_law_is_raised" "_law_is_raised" (defArgs s__law_is_raised) (defBody s__law_is_raised) (defScope s__law_is_raised) .none kV23 dc23 pm23 an23 cd23 ct23), sl23⟩) (e23 : PySem.W.codeIn K cd23 "_law_is_raised" = true) (k23 : PySem.W.keepIn K (.ref f23) = true)
    (a24 : PySem.W.nsIn K mainGlobals "_law_is_told" = some (some (.ref f24))) (l24 : K.lookup f24 = some ⟨oc24, od24, .func (PySem.W.fnOf "_law_is_told" "_law_is_told" (defArgs s__law_is_told) (defBody s__law_is_told) (defScope s__law_is_told) .none kV24 dc24 pm24 an24 cd24 ct24), sl24⟩) (e24 : PySem.W.codeIn K cd24 "_law_is_told" = true) (k24 : PySem.W.keepIn K (.ref f24) = true)
    (a25 : PySem.W.nsIn K mainGlobals "_law_values_hold" = some (some (.ref f25))) (l25 : K.lookup f25 = some ⟨oc25, od25, .func (PySem.W.fnOf "_law_values_hold" "_law_values_hold" (defArgs s__law_values_hold) (defBody s__law_values_hold) (defScope s__law_values_hold) .none kV25 dc25 pm25 an25 cd25 ct25), sl25⟩) (e25 : PySem.W.codeIn K cd25 "_law_values_hold" = true) (k25 : PySem.W.keepIn K (.ref f25) = true)
    (a26 : PySem.W.nsIn K mainGlobals "law" = some (some (.ref f26))) (l26 : K.lookup f26 = some ⟨oc26, od26, .func (PySem.W.fnOf "law" "law" (defArgs s_law) (defBody s_law) (defScope s_law) .none kV26 dc26 pm26 an26 cd26 ct26), sl26⟩) (e26 : PySem.W.codeIn K cd26 "law" = true) (k26 : PySem.W.keepIn K (.ref f26) = true)
    (xa_Malformed : PySem.W.nsIn K mainGlobals "Malformed" = some (some (.ref x_Malformed))) (xk_Malformed : PySem.W.keepIn K (.ref x_Malformed) = true) (xq_Malformed : PySem.W.excIn K x_Malformed [.type "ValueError", .type "Exception", .type "BaseException", .type "object"] "ValueError.__new__" = true) (xs_Malformed : PySem.W.subIn K (.ref x_Malformed) (.type "BaseException") = some true) (xt_Malformed : PySem.W.typeIn K (.ref x_Malformed) = some (.type "type")) (xi_Malformed : PySem.W.isClsIn K x_Malformed = true) (xf_Malformed : PySem.W.subIn K (.ref x_Malformed) (.ref x_Malformed) = some true)
    (c_MOST_EDGES : PySem.W.nsIn K mainGlobals "MOST_EDGES" = some (some (.int 4000 t_MOST_EDGES)))
    (c_MOST_LENGTH : PySem.W.nsIn K mainGlobals "MOST_LENGTH" = some (some (.int 12 t_MOST_LENGTH)))
    (c_MOST_POINTS : PySem.W.nsIn K mainGlobals "MOST_POINTS" = some (some (.int 400 t_MOST_POINTS)))
    (c_MOST_STEPS : PySem.W.nsIn K mainGlobals "MOST_STEPS" = some (some (.int 60 t_MOST_STEPS)))
    (b_abs : PySem.W.nsIn K mainGlobals "abs" = some none)
    (b_all : PySem.W.nsIn K mainGlobals "all" = some none)
    (b_any : PySem.W.nsIn K mainGlobals "any" = some none)
    (b_bool : PySem.W.nsIn K mainGlobals "bool" = some none)
    (b_int : PySem.W.nsIn K mainGlobals "int" = some none)
    (b_isinstance : PySem.W.nsIn K mainGlobals "isinstance" = some none)
    (b_len : PySem.W.nsIn K mainGlobals "len" = some none)
    (b_list : PySem.W.nsIn K mainGlobals "list" = some none)
    (b_max : PySem.W.nsIn K mainGlobals "max" = some none)
    (b_min : PySem.W.nsIn K mainGlobals "min" = some none)
    (b_range : PySem.W.nsIn K mainGlobals "range" = some none)
    (b_sorted : PySem.W.nsIn K mainGlobals "sorted" = some none)
    (b_str : PySem.W.nsIn K mainGlobals "str" = some none)
    (b_sum : PySem.W.nsIn K mainGlobals "sum" = some none)
    (b_tuple : PySem.W.nsIn K mainGlobals "tuple" = some none)
    (b_zip : PySem.W.nsIn K mainGlobals "zip" = some none) :
    ∃ fd : FuncData, (∀ (s : Shared) (v : Value), BindsTo s fd ⟨[v], []⟩ [("script", v)]) ∧ ∀ base : Heap, K.In base → base.Ns mainGlobals mg → FnOk l.prog w K mg base (L2.CX l.prog w) 10 fa fd ["script"] (lawSp K F_law) := by
  let E : Facts K mg := {
    d__law_state := DA.of X G a0 l0 e0 k0 fun _ _ _ _ _ _ us hl => match us, hl with | [_], _ => rfl,
    d__law_take := DA.of X G a1 l1 e1 k1 fun _ _ _ _ _ _ us hl => match us, hl with | [_, _], _ => rfl,
    d__law_table := DA.of X G a2 l2 e2 k2 fun _ _ _ _ _ _ us hl => match us, hl with | [_], _ => rfl,
    d__law_led := DA.of X G a3 l3 e3 k3 fun _ _ _ _ _ _ us hl => match us, hl with | [_, _], _ => rfl,
    d__law_whole := DA.of X G a4 l4 e4 k4 fun _ _ _ _ _ _ us hl => match us, hl with | [_], _ => rfl,
    d_is_integer := DA.of X G a5 l5 e5 k5 fun _ _ _ _ _ _ us hl => match us, hl with | [_], _ => rfl,
    d_near_points := DA.of X G a6 l6 e6 k6 fun _ _ _ _ _ _ us hl => match us, hl with | [_], _ => rfl,
    d_start_row := DA.of X G a7 l7 e7 k7 fun _ _ _ _ _ _ us hl => match us, hl with | [_, _], _ => rfl,
    d_led := DA.of X G a8 l8 e8 k8 fun _ _ _ _ _ _ us hl => match us, hl with | [_, _], _ => rfl,
    d__law_graph := DA.of X G a9 l9 e9 k9 fun _ _ _ _ _ _ us hl => match us, hl with | [_, _], _ => rfl,
    d__law_walks := DA.of X G a10 l10 e10 k10 fun _ _ _ _ _ _ us hl => match us, hl with | [_, _], _ => rfl,
    d__law_is_graph := DA.of X G a11 l11 e11 k11 fun _ _ _ _ _ _ us hl => match us, hl with | [_], _ => rfl,
    d_is_point := DA.of X G a12 l12 e12 k12 fun _ _ _ _ _ _ us hl => match us, hl with | [_, _], _ => rfl,
    d_check_length := DA.of X G a13 l13 e13 k13 fun _ _ _ _ _ _ us hl => match us, hl with | [_, _], _ => rfl,
    d_walk_counts := DA.of X G a14 l14 e14 k14 fun _ _ _ _ _ _ us hl => match us, hl with | [_, _], _ => rfl,
    d_is_edge := DA.of X G a15 l15 e15 k15 fun _ _ _ _ _ _ us hl => match us, hl with | [_, _], _ => rfl,
    d_is_rooted_graph := DA.of X G a16 l16 e16 k16 fun _ _ _ _ _ _ us hl => match us, hl with | [_], _ => rfl,
    d_check_graph := DA.of X G a17 l17 e17 k17 fun _ _ _ _ _ _ us hl => match us, hl with | [_], _ => rfl,
    d_closed_walks := DA.of X G a18 l18 e18 k18 fun _ _ _ _ _ _ us hl => match us, hl with | [_, _], _ => rfl,
    d_first_walks := DA.of X G a19 l19 e19 k19 fun _ _ _ _ _ _ us hl => match us, hl with | [_, _], _ => rfl,
    d_walk_number := DA.of X G a20 l20 e20 k20 fun _ _ _ _ _ _ us hl => match us, hl with | [_, _, _, _], _ => rfl,
    d__law_same := DA.of X G a21 l21 e21 k21 fun _ _ _ _ _ _ us hl => match us, hl with | [_, _], _ => rfl,
    d__law_told := DA.of X G a22 l22 e22 k22 fun _ _ _ _ _ _ us hl => match us, hl with | [_, _], _ => rfl,
    d__law_is_raised := DA.of X G a23 l23 e23 k23 fun _ _ _ _ _ _ us hl => match us, hl with | [_, _], _ => rfl,
    d__law_is_told := DA.of X G a24 l24 e24 k24 fun _ _ _ _ _ _ us hl => match us, hl with | [_, _], _ => rfl,
    d__law_values_hold := DA.of X G a25 l25 e25 k25 fun _ _ _ _ _ _ us hl => match us, hl with | [_, _], _ => rfl,
    d_law := DA.of X G a26 l26 e26 k26 fun _ _ _ _ _ _ us hl => match us, hl with | [_], _ => rfl,
    x_Malformed := ⟨x_Malformed, PySem.W.mg_of X G xa_Malformed, xk_Malformed, xq_Malformed, xs_Malformed, xt_Malformed, xi_Malformed, xf_Malformed⟩,
    t_MOST_EDGES := t_MOST_EDGES,
    c_MOST_EDGES := PySem.W.mg_of X G c_MOST_EDGES,
    t_MOST_LENGTH := t_MOST_LENGTH,
    c_MOST_LENGTH := PySem.W.mg_of X G c_MOST_LENGTH,
    t_MOST_POINTS := t_MOST_POINTS,
    c_MOST_POINTS := PySem.W.mg_of X G c_MOST_POINTS,
    t_MOST_STEPS := t_MOST_STEPS,
    c_MOST_STEPS := PySem.W.mg_of X G c_MOST_STEPS,
    b_abs := PySem.W.mg_none_of X G b_abs,
    b_all := PySem.W.mg_none_of X G b_all,
    b_any := PySem.W.mg_none_of X G b_any,
    b_bool := PySem.W.mg_none_of X G b_bool,
    b_int := PySem.W.mg_none_of X G b_int,
    b_isinstance := PySem.W.mg_none_of X G b_isinstance,
    b_len := PySem.W.mg_none_of X G b_len,
    b_list := PySem.W.mg_none_of X G b_list,
    b_max := PySem.W.mg_none_of X G b_max,
    b_min := PySem.W.mg_none_of X G b_min,
    b_range := PySem.W.mg_none_of X G b_range,
    b_sorted := PySem.W.mg_none_of X G b_sorted,
    b_str := PySem.W.mg_none_of X G b_str,
    b_sum := PySem.W.mg_none_of X G b_sum,
    b_tuple := PySem.W.mg_none_of X G b_tuple,
    b_zip := PySem.W.mg_none_of X G b_zip }
  have e := hfa.symm.trans E.d_law.m
  cases e
  exact ⟨E.d_law.fd, fun s v => .of_eq rfl, fun base _ _ => lawSp_of (C := E.C) rfl (ok_law E)⟩
end L47
open PySem PySem.W PyProof.Rows
set_option maxHeartbeats 0 in
theorem PySem.Challenge.cw_momentroads_k47_whole_graphs_and_closed_holds : PySem.Challenge.rw_momentroads_k47_whole_graphs_and_closed.Holds := by
  w_on; o_law; k_head; (case hw => w_witness2)
  k_fill
  refine L2.walk_of (l := PySem.Challenge.rw_momentroads_k47_whole_graphs_and_closed) (n := 63) (k := 10) (x := "script") (CX := fun w => L2.CX PySem.Challenge.pw_momentroads_k47_whole_graphs_and_closed w) (sp := fun w => Pv.lawSp _ L47.F_law) rfl (by decide) rfl ⟨rfl, by decide, by decide⟩ (fun w h Y => PySem.W.kIn_of Y) ?F (fun w H a ns hl hO hS => Pv.lawSp_in hO hS (L47.law_all ns hl)) (fun _ _ _ _ _ h => Pv.cx_no h)
  case F =>
    intro w mg fa h KX G hmg
    refine' L47.all_mk KX G hmg ?a0 ?l0 ?e0 ?k0 ?a1 ?l1 ?e1 ?k1 ?a2 ?l2 ?e2 ?k2 ?a3 ?l3 ?e3 ?k3 ?a4 ?l4 ?e4 ?k4 ?a5 ?l5 ?e5 ?k5 ?a6 ?l6 ?e6 ?k6 ?a7 ?l7 ?e7 ?k7 ?a8 ?l8 ?e8 ?k8 ?a9 ?l9 ?e9 ?k9 ?a10 ?l10 ?e10 ?k10 ?a11 ?l11 ?e11 ?k11 ?a12 ?l12 ?e12 ?k12 ?a13 ?l13 ?e13 ?k13 ?a14 ?l14 ?e14 ?k14 ?a15 ?l15 ?e15 ?k15 ?a16 ?l16 ?e16 ?k16 ?a17 ?l17 ?e17 ?k17 ?a18 ?l18 ?e18 ?k18 ?a19 ?l19 ?e19 ?k19 ?a20 ?l20 ?e20 ?k20 ?a21 ?l21 ?e21 ?k21 ?a22 ?l22 ?e22 ?k22 ?a23 ?l23 ?e23 ?k23 ?a24 ?l24 ?e24 ?k24 ?a25 ?l25 ?e25 ?k25 ?a26 ?l26 ?e26 ?k26 ?xa_Malformed ?xk_Malformed ?xq_Malformed ?xs_Malformed ?xt_Malformed ?xi_Malformed ?xf_Malformed ?c_MOST_EDGES ?c_MOST_LENGTH ?c_MOST_POINTS ?c_MOST_STEPS ?b_abs ?b_all ?b_any ?b_bool ?b_int ?b_isinstance ?b_len ?b_list ?b_max ?b_min ?b_range ?b_sorted ?b_str ?b_sum ?b_tuple ?b_zip
    (case a0 => k_is)
    (case l0 => k_is)
    (case e0 => k_is)
    (case k0 => k_is)
    (case a1 => k_is)
    (case l1 => k_is)
    (case e1 => k_is)
    (case k1 => k_is)
    (case a2 => k_is)
    (case l2 => k_is)
    (case e2 => k_is)
    (case k2 => k_is)
    (case a3 => k_is)
    (case l3 => k_is)
    (case e3 => k_is)
    (case k3 => k_is)
    (case a4 => k_is)
    (case l4 => k_is)
    (case e4 => k_is)
    (case k4 => k_is)
    (case a5 => k_is)
    (case l5 => k_is)
    (case e5 => k_is)
    (case k5 => k_is)
    (case a6 => k_is)
    (case l6 => k_is)
    (case e6 => k_is)
    (case k6 => k_is)
    (case a7 => k_is)
    (case l7 => k_is)
    (case e7 => k_is)
    (case k7 => k_is)
    (case a8 => k_is)
    (case l8 => k_is)
    (case e8 => k_is)
    (case k8 => k_is)
    (case a9 => k_is)
    (case l9 => k_is)
    (case e9 => k_is)
    (case k9 => k_is)
    (case a10 => k_is)
    (case l10 => k_is)
    (case e10 => k_is)
    (case k10 => k_is)
    (case a11 => k_is)
    (case l11 => k_is)
    (case e11 => k_is)
    (case k11 => k_is)
    (case a12 => k_is)
    (case l12 => k_is)
    (case e12 => k_is)
    (case k12 => k_is)
    (case a13 => k_is)
    (case l13 => k_is)
    (case e13 => k_is)
    (case k13 => k_is)
    (case a14 => k_is)
    (case l14 => k_is)
    (case e14 => k_is)
    (case k14 => k_is)
    (case a15 => k_is)
    (case l15 => k_is)
    (case e15 => k_is)
    (case k15 => k_is)
    (case a16 => k_is)
    (case l16 => k_is)
    (case e16 => k_is)
    (case k16 => k_is)
    (case a17 => k_is)
    (case l17 => k_is)
    (case e17 => k_is)
    (case k17 => k_is)
    (case a18 => k_is)
    (case l18 => k_is)
    (case e18 => k_is)
    (case k18 => k_is)
    (case a19 => k_is)
    (case l19 => k_is)
    (case e19 => k_is)
    (case k19 => k_is)
    (case a20 => k_is)
    (case l20 => k_is)
    (case e20 => k_is)
    (case k20 => k_is)
    (case a21 => k_is)
    (case l21 => k_is)
    (case e21 => k_is)
    (case k21 => k_is)
    (case a22 => k_is)
    (case l22 => k_is)
    (case e22 => k_is)
    (case k22 => k_is)
    (case a23 => k_is)
    (case l23 => k_is)
    (case e23 => k_is)
    (case k23 => k_is)
    (case a24 => k_is)
    (case l24 => k_is)
    (case e24 => k_is)
    (case k24 => k_is)
    (case a25 => k_is)
    (case l25 => k_is)
    (case e25 => k_is)
    (case k25 => k_is)
    (case a26 => k_is)
    (case l26 => k_is)
    (case e26 => k_is)
    (case k26 => k_is)
    (case xa_Malformed => k_is)
    (case xk_Malformed => k_is)
    (case xq_Malformed => k_exc)
    (case xs_Malformed => k_is)
    (case xt_Malformed => k_is)
    (case xi_Malformed => k_is)
    (case xf_Malformed => first | rfl | k_is)
    (case c_MOST_EDGES => k_is)
    (case c_MOST_LENGTH => k_is)
    (case c_MOST_POINTS => k_is)
    (case c_MOST_STEPS => k_is)
    (case b_abs => k_is)
    (case b_all => k_is)
    (case b_any => k_is)
    (case b_bool => k_is)
    (case b_int => k_is)
    (case b_isinstance => k_is)
    (case b_len => k_is)
    (case b_list => k_is)
    (case b_max => k_is)
    (case b_min => k_is)
    (case b_range => k_is)
    (case b_sorted => k_is)
    (case b_str => k_is)
    (case b_sum => k_is)
    (case b_tuple => k_is)
    (case b_zip => k_is)
