import PyProof.Rows.All
import Wide.All
import OpenK.AllK
import Wide.FinOn
import HandS.ForMost
import HandS.Exc
import HandS.ExcOwn
import HandS.CallSlots
import HandS.TupAny
import HandS.TupLe
import HandS.TupMul
import HandS.IsInst
import HandS.Wide
import HandS.Flow
import HandS.Style
import HandS.Deep
import KE.DataMinMax
import HandS.SortInts
import HandS.WordsDict
import HandS.WordsExc
import HandS.Zip
import HandS.Small
import HandS.TryMany
import HandS.Ends
import HandS.EndBits
import KE.SortData
import PyProof.TupleOfSeq
import KE.GoesMore
import KE.GoesEnum
import HandS.Iter
import HandS.SetFor
import HandS.Strs
import HandS.Conv
import HandS.SortKw
import PySem.Challenge.RW_momentroads_k17_complements
set_option Elab.async false
set_option linter.all false
set_option maxRecDepth 100000
set_option maxHeartbeats 4000000
section
set_option Elab.async false
set_option linter.all false
set_option maxRecDepth 100000
set_option maxHeartbeats 4000000
/-! Pv1: pure values over the hand layer: data D, how values bear it (Sh: shared, Ow: owned), the state (Stt), what may change (Evo). -/
namespace Pv
open PySem PySem.Spec PyProof.Rows L2

/-- a value as data -/
inductive D where
  | non | bl (b : Bool) | int (i : Int) | str (s : Str) | fn (n : Nat)
  | tup (xs : List D) | lst (xs : List D) | dic (ks : List Key) (vs : List D) | scr (ns : List Int)
  deriving Inhabited

/-- what may be changed in place -/
def D.isMut : D → Bool
  | .lst _ => true
  | .dic _ _ => true
  | _ => false

/-- what is fixed: the written part, where the defs and the error classes stand -/
structure RC where
  K : PySem.W.Frag
  fa : Nat → Option Addr
  ca : Nat → Option Addr

abbrev Fp := Addr → Prop
abbrev nowhere : Hp := fun _ => none

/-- the script -/
def Scr (C : RC) (H : Hp) (a : Addr) (ns : List Int) : Prop := (∃ o, H a = some (.frz o (.lst (ns.map V.int)))) ∨ SqL C.K nowhere a (ns.map V.int)

mutual
inductive Sh (C : RC) (Z : Fp) (H : Hp) : V → D → Prop
  | non : Sh C Z H .non .non
  | bl (b : Bool) : Sh C Z H (.bl b) (.bl b)
  | int (i : Int) : Sh C Z H (.int i) (.int i)
  | str (x : Str) : Sh C Z H (.str x) (.str x)
  | fn {n : Nat} {a : Addr} : C.fa n = some a → Sh C Z H (.ref a) (.fn n)
  | tup {a : Addr} {xs : List V} {ds : List D} : SqT C.K H a xs → ShL C Z H xs ds → Sh C Z H (.ref a) (.tup ds)
  | lst {a : Addr} {xs : List V} {ds : List D} : H a = some (.lst xs) → Z a → ShL C Z H xs ds → Sh C Z H (.ref a) (.lst ds)
  | scr {a : Addr} {ns : List Int} : Scr C H a ns → Sh C Z H (.ref a) (.scr ns)
  | dic {a : Addr} {ks : List Key} {xs : List V} {ds : List D} : H a = some (.dK (ks.zip xs)) → Z a → ks.length = xs.length → ShL C Z H xs ds → Sh C Z H (.ref a) (.dic ks ds)
inductive ShL (C : RC) (Z : Fp) (H : Hp) : List V → List D → Prop
  | nil : ShL C Z H [] []
  | cons {v : V} {vs : List V} {d : D} {ds : List D} : Sh C Z H v d → ShL C Z H vs ds → ShL C Z H (v :: vs) (d :: ds)
end

section
variable {C : RC} {Z Z' : Fp} {H H' : Hp}
theorem ShL.length : ∀ {vs : List V} {ds : List D}, ShL C Z H vs ds → vs.length = ds.length
  | _, _, .nil => rfl
  | _, _, .cons _ r => by rw [List.length_cons, List.length_cons, r.length]
theorem ShL.get : ∀ {vs : List V} {ds : List D} {i : Nat} {v : V}, ShL C Z H vs ds → vs[i]? = some v → ∃ d, ds[i]? = some d ∧ Sh C Z H v d
  | _, _, _, _, .nil, e => by simp at e
  | _, _, 0, _, .cons h _, e => by simp at e; subst e; exact ⟨_, rfl, h⟩
  | _, _, i + 1, _, .cons _ r, e => by
    obtain ⟨d, h1, h2⟩ := r.get (i := i) (by simpa using e)
    exact ⟨d, by simpa using h1, h2⟩
theorem ShL.get' : ∀ {vs : List V} {ds : List D} {i : Nat} {d : D}, ShL C Z H vs ds → ds[i]? = some d → ∃ v, vs[i]? = some v ∧ Sh C Z H v d
  | _, _, _, _, .nil, e => by simp at e
  | _, _, 0, _, .cons h _, e => by simp at e; subst e; exact ⟨_, rfl, h⟩
  | _, _, i + 1, _, .cons _ r, e => by
    obtain ⟨d, h1, h2⟩ := r.get' (i := i) (by simpa using e)
    exact ⟨d, by simpa using h1, h2⟩
theorem ShL.append : ∀ {vs ws : List V} {ds es : List D}, ShL C Z H vs ds → ShL C Z H ws es → ShL C Z H (vs ++ ws) (ds ++ es)
  | _, _, _, _, .nil, s => s
  | _, _, _, _, .cons h r, s => .cons h (r.append s)
theorem ShL.take : ∀ {vs : List V} {ds : List D} (n : Nat), ShL C Z H vs ds → ShL C Z H (vs.take n) (ds.take n)
  | _, _, 0, _ => .nil
  | _, _, _ + 1, .nil => .nil
  | _, _, n + 1, .cons h r => .cons h (r.take n)
theorem ShL.drop : ∀ {vs : List V} {ds : List D} (n : Nat), ShL C Z H vs ds → ShL C Z H (vs.drop n) (ds.drop n)
  | _, _, 0, r => r
  | _, _, _ + 1, .nil => .nil
  | _, _, n + 1, .cons _ r => r.drop n
theorem ShL.set {v : V} {d : D} (h : Sh C Z H v d) : ∀ {vs : List V} {ds : List D} (i : Nat), ShL C Z H vs ds → ShL C Z H (vs.set i v) (ds.set i d)
  | _, _, _, .nil => .nil
  | _, _, 0, .cons _ r => .cons h r
  | _, _, i + 1, .cons q r => .cons q (ShL.set h i r)
theorem ShL.eraseIdx : ∀ {vs : List V} {ds : List D} (i : Nat), ShL C Z H vs ds → ShL C Z H (vs.eraseIdx i) (ds.eraseIdx i)
  | _, _, _, .nil => .nil
  | _, _, 0, .cons _ r => r
  | _, _, i + 1, .cons q r => .cons q (ShL.eraseIdx i r)
theorem ShL.snoc {vs : List V} {ds : List D} {v : V} {d : D} (r : ShL C Z H vs ds) (h : Sh C Z H v d) : ShL C Z H (vs ++ [v]) (ds ++ [d]) := r.append (.cons h .nil)
theorem ShL.reverse : ∀ {vs : List V} {ds : List D}, ShL C Z H vs ds → ShL C Z H vs.reverse ds.reverse
  | _, _, .nil => .nil
  | _, _, .cons h r => by rw [List.reverse_cons, List.reverse_cons]; exact r.reverse.snoc h
theorem ShL.flat : ∀ {ls : List V} {k : Nat} {ds : List D}, ShL C Z H ls ds → ShL C Z H (List.replicate k ls).flatten (List.replicate k ds).flatten
  | _, 0, _, _ => .nil
  | _, k + 1, _, h => by rw [List.replicate_succ, List.replicate_succ, List.flatten_cons, List.flatten_cons]; exact h.append h.flat
theorem ShL.ints {ns : List Int} : ∀ {vs : List V}, ShL C Z H vs (ns.map D.int) → vs = ns.map V.int := by
  induction ns with
  | nil => intro vs h; cases h; rfl
  | cons n ns ih =>
    intro vs h
    cases h with
    | cons h r => cases h; rw [List.map_cons, ih r]
theorem ShL.bools {ns : List Bool} : ∀ {vs : List V}, ShL C Z H vs (ns.map D.bl) → vs = ns.map V.bl := by
  induction ns with
  | nil => intro vs h; cases h; rfl
  | cons n ns ih =>
    intro vs h
    cases h with
    | cons h r => cases h; rw [List.map_cons, ih r]
theorem shl_ints : ∀ {ns : List Int}, ShL C Z H (ns.map V.int) (ns.map D.int)
  | [] => .nil
  | n :: ns => .cons (.int n) shl_ints

/-- what shared values lean on stays -/
structure Ext (Z : Fp) (H : Hp) (Z' : Fp) (H' : Hp) : Prop where
  zk : ∀ a o, Z a → H a = some o → H' a = some o
  zm : ∀ a, Z a → Z' a
  tk : ∀ a xs, H a = some (.tup xs) → H' a = some (.tup xs)
  fk : ∀ a o u, H a = some (.frz o u) → H' a = some (.frz o u)
theorem Ext.refl : Ext Z H Z H := ⟨fun _ _ _ h => h, fun _ h => h, fun _ _ h => h, fun _ _ _ h => h⟩
theorem Ext.trans {Z1 Z2 : Fp} {H1 H2 : Hp} (a : Ext Z H Z1 H1) (b : Ext Z1 H1 Z2 H2) : Ext Z H Z2 H2 :=
  ⟨fun x o z h => b.zk x o (a.zm x z) (a.zk x o z h), fun x z => b.zm x (a.zm x z), fun x xs h => b.tk x xs (a.tk x xs h), fun x o u h => b.fk x o u (a.fk x o u h)⟩
theorem Ext.sqT (x : Ext Z H Z' H') {a : Addr} {xs : List V} (h : SqT C.K H a xs) : SqT C.K H' a xs := by
  rcases h with (h | ⟨o, h⟩) | h
  · exact .inl (.inl (x.tk _ _ h))
  · exact .inl (.inr ⟨o, x.fk _ _ _ h⟩)
  · exact .inr h
theorem Ext.scr (x : Ext Z H Z' H') {a : Addr} {ns : List Int} (h : Scr C H a ns) : Scr C H' a ns := by
  rcases h with ⟨o, h⟩ | h
  · exact .inl ⟨o, x.fk _ _ _ h⟩
  · exact .inr h
theorem Scr.sqL {a : Addr} {ns : List Int} (h : Scr C H a ns) : SqL C.K H a (ns.map V.int) := by
  rcases h with ⟨o, h⟩ | h
  · exact .inl (.inr ⟨o, h⟩)
  · rcases h with (h | ⟨o, h⟩) | h
    · cases h
    · cases h
    · exact .inr h
mutual
theorem Sh.ext (x : Ext Z H Z' H') : ∀ (d : D) (v : V), Sh C Z H v d → Sh C Z' H' v d
  | .non, _, h => by cases h; exact .non
  | .bl b, _, h => by cases h; exact .bl b
  | .int i, _, h => by cases h; exact .int i
  | .str y, _, h => by cases h; exact .str y
  | .fn n, _, h => by cases h with | fn e => exact .fn e
  | .tup ds, _, h => by cases h with | tup s r => exact .tup (x.sqT s) (ShL.ext x ds _ r)
  | .lst ds, _, h => by cases h with | lst s z r => exact .lst (x.zk _ _ z s) (x.zm _ z) (ShL.ext x ds _ r)
  | .scr ns, _, h => by cases h with | scr s => exact .scr (x.scr s)
  | .dic ks ds, _, h => by cases h with | dic s z l r => exact .dic (x.zk _ _ z s) (x.zm _ z) l (ShL.ext x ds _ r)
theorem ShL.ext (x : Ext Z H Z' H') : ∀ (ds : List D) (vs : List V), ShL C Z H vs ds → ShL C Z' H' vs ds
  | [], _, h => by cases h; exact .nil
  | d :: ds, _, h => by cases h with | cons h r => exact .cons (Sh.ext x d _ h) (ShL.ext x ds _ r)
end
end

/-! ### owned data -/
def isM : Option HO → Prop
  | some (.lst _) => True
  | some (.dK _) => True
  | _ => False
/-- v bears d; the lists down to depth k are v's own, they stand at A -/
def Ow (C : RC) (Z : Fp) (H : Hp) : Nat → V → D → Fp → Prop
  | 0, v, d, A => Sh C Z H v d ∧ ∀ a, ¬ A a
  | k + 1, v, d, A => (d.isMut = false ∧ Sh C Z H v d ∧ ∀ a, ¬ A a) ∨
      (∃ (a : Addr) (xs : List V) (ds : List D) (B : Nat → Fp), v = .ref a ∧ d = .lst ds ∧ H a = some (.lst xs) ∧ xs.length = ds.length ∧ (∀ i x e, xs[i]? = some x → ds[i]? = some e → Ow C Z H k x e (B i)) ∧
        (∀ i j b, B i b → B j b → i = j) ∧ (∀ i, ¬ B i a) ∧ (∀ i b, B i b → i < xs.length) ∧ (∀ b, A b ↔ b = a ∨ ∃ i, B i b)) ∨
      (∃ (a : Addr) (ks : List Key) (xs : List V) (ds : List D), v = .ref a ∧ d = .dic ks ds ∧ H a = some (.dK (ks.zip xs)) ∧ ks.length = xs.length ∧ ShL C Z H xs ds ∧ ∀ b, A b ↔ b = a)
section
variable {C : RC} {Z Z' : Fp} {H H' : Hp}
theorem Ow.sh {v : V} {d : D} (h : Sh C Z H v d) : Ow C Z H 0 v d (fun _ => False) := ⟨h, fun _ z => z⟩
theorem Ow.im {k : Nat} {v : V} {d : D} (h : Sh C Z H v d) (m : d.isMut = false) : Ow C Z H k v d (fun _ => False) := by
  cases k with
  | zero => exact ⟨h, fun _ z => z⟩
  | succ k => exact .inl ⟨m, h, fun _ z => z⟩
theorem Ow.congr {k : Nat} {v : V} {d : D} {A B : Fp} (h : Ow C Z H k v d A) (e : ∀ a, A a ↔ B a) : Ow C Z H k v d B := by
  have : A = B := funext fun a => propext (e a)
  rw [← this]; exact h
theorem Ow.mut : ∀ {k : Nat} {v : V} {d : D} {A : Fp}, Ow C Z H k v d A → ∀ a, A a → isM (H a)
  | 0, _, _, _, ⟨_, n⟩, a, h => (n a h).elim
  | k + 1, _, _, _, h, a, ha => by
    rcases h with ⟨_, _, n⟩ | ⟨b, xs, ds, B, rfl, rfl, hb, hl, hc, _, _, hi, e⟩ | ⟨b, ks, xs, ds, rfl, rfl, hb, hl, r, e⟩
    · exact (n a ha).elim
    · rcases (e a).mp ha with rfl | ⟨i, q⟩
      · rw [hb]; trivial
      · have hx := hi i a q
        have hy : i < ds.length := hl ▸ hx
        exact (hc i xs[i] ds[i] (List.getElem?_eq_getElem hx) (List.getElem?_eq_getElem hy)).mut a q
    · rw [(e a).mp ha, hb]; trivial
/-- owned data is kept where its lists and what is shared are kept -/
theorem Ow.ext (x : Ext Z H Z' H') : ∀ {k : Nat} {v : V} {d : D} {A : Fp}, Ow C Z H k v d A → (∀ a o, A a → H a = some o → H' a = some o) → Ow C Z' H' k v d A
  | 0, _, _, _, ⟨h, n⟩, _ => ⟨h.ext x, n⟩
  | k + 1, _, _, _, h, hk => by
    rcases h with ⟨m, h, n⟩ | ⟨b, xs, ds, B, rfl, rfl, hb, hl, hc, hd, ha, hi, e⟩ | ⟨b, ks, xs, ds, rfl, rfl, hb, hl, r, e⟩
    · exact .inl ⟨m, h.ext x, n⟩
    · exact .inr (.inl ⟨b, xs, ds, B, rfl, rfl, hk b _ ((e b).mpr (.inl rfl)) hb, hl, fun i y z e1 e2 => (hc i y z e1 e2).ext x fun a o q => hk a o ((e a).mpr (.inr ⟨i, q⟩)), hd, ha, hi, e⟩)
    · exact .inr (.inr ⟨b, ks, xs, ds, rfl, rfl, hk b _ ((e b).mpr rfl) hb, hl, r.ext x, e⟩)
theorem shl_of_ix : ∀ {xs : List V} {ds : List D}, xs.length = ds.length → (∀ (i : Nat) (x : V) (e : D), xs[i]? = some x → ds[i]? = some e → Sh C Z H x e) → ShL C Z H xs ds
  | [], [], _, _ => .nil
  | [], _ :: _, h, _ => by simp at h
  | _ :: _, [], h, _ => by simp at h
  | x :: xs, d :: ds, h, k => .cons (k 0 x d rfl rfl) (shl_of_ix (by simpa using h) fun i y e h1 h2 => k (i + 1) y e (by simpa using h1) (by simpa using h2))
/-- what is owned may be shared -/
theorem Ow.frz : ∀ {k : Nat} {v : V} {d : D} {A W : Fp}, Ow C Z H k v d A → (∀ a, Z a → W a) → (∀ a, A a → W a) → Sh C W H v d
  | 0, _, _, _, _, ⟨h, n⟩, hz, ha => h.ext ⟨fun _ _ _ q => q, hz, fun _ _ q => q, fun _ _ _ q => q⟩
  | k + 1, _, _, _, W, h, hz, hw => by
    have X : Ext Z H W H := ⟨fun _ _ _ q => q, hz, fun _ _ q => q, fun _ _ _ q => q⟩
    rcases h with ⟨m, h, n⟩ | ⟨b, xs, ds, B, rfl, rfl, hb, hl, hc, hd, ha, hi, e⟩ | ⟨b, ks, xs, ds, rfl, rfl, hb, hl, r, e⟩
    · exact h.ext X
    · exact .lst hb (hw b ((e b).mpr (.inl rfl))) (shl_of_ix hl fun i x y e1 e2 => (hc i x y e1 e2).frz hz fun a q => hw a ((e a).mpr (.inr ⟨i, q⟩)))
    · exact .dic hb (hw b ((e b).mpr rfl)) hl (r.ext X)
theorem Ow.im_inv {k : Nat} {v : V} {d : D} {A : Fp} (h : Ow C Z H k v d A) (m : d.isMut = false) : Sh C Z H v d := by
  cases k with
  | zero => exact h.1
  | succ k =>
    rcases h with ⟨_, h, _⟩ | ⟨_, _, _, _, _, e, _⟩ | ⟨_, _, _, _, _, e, _⟩
    · exact h
    · subst e; cases m
    · subst e; cases m
/-- a new list of shared things -/
theorem Ow.lst1 {a : Addr} {xs : List V} {ds : List D} (h : H a = some (.lst xs)) (r : ShL C Z H xs ds) : Ow C Z H 1 (.ref a) (.lst ds) (fun b => b = a) :=
  .inr (.inl ⟨a, xs, ds, fun _ _ => False, rfl, rfl, h, r.length, fun i x e h1 h2 => by
    obtain ⟨d, e1, e2⟩ := r.get h1
    rw [h2] at e1; cases e1
    exact ⟨e2, fun _ z => z⟩, fun _ _ _ z => z.elim, fun _ z => z, fun _ _ z => z.elim, fun b => ⟨.inl, fun z => z.elim id fun ⟨_, q⟩ => q.elim⟩⟩)
theorem Ow.dic1 {a : Addr} {ks : List Key} {xs : List V} {ds : List D} (h : H a = some (.dK (ks.zip xs))) (l : ks.length = xs.length) (r : ShL C Z H xs ds) : Ow C Z H 1 (.ref a) (.dic ks ds) (fun b => b = a) :=
  .inr (.inr ⟨a, ks, xs, ds, rfl, rfl, h, l, r, fun _ => Iff.rfl⟩)
theorem Ow.lst_inv {v : V} {ds : List D} {A : Fp} (h : Ow C Z H 1 v (.lst ds) A) : ∃ a xs, v = .ref a ∧ H a = some (.lst xs) ∧ ShL C Z H xs ds ∧ ∀ b, A b ↔ b = a := by
  rcases h with ⟨m, _⟩ | ⟨b, xs, ds', B, rfl, e0, hb, hl, hc, hd, ha, hi, e⟩ | ⟨b, ks, xs, ds', rfl, e0, hb, hl, r, e⟩
  · cases m
  · cases e0
    refine ⟨b, xs, rfl, hb, shl_of_ix hl fun i x y e1 e2 => (hc i x y e1 e2).1, fun c => ⟨fun q => ?_, fun q => (e c).mpr (.inl q)⟩⟩
    rcases (e c).mp q with q | ⟨i, q⟩
    · exact q
    · have hx := hi i c q
      exact ((hc i xs[i] (ds[i]'(hl ▸ hx)) (List.getElem?_eq_getElem hx) (List.getElem?_eq_getElem _)).2 c q).elim
  · cases e0
theorem Ow.dic_inv {k : Nat} {v : V} {ks : List Key} {ds : List D} {A : Fp} (h : Ow C Z H (k + 1) v (.dic ks ds) A) : ∃ a xs, v = .ref a ∧ H a = some (.dK (ks.zip xs)) ∧ ks.length = xs.length ∧ ShL C Z H xs ds ∧ ∀ b, A b ↔ b = a := by
  rcases h with ⟨m, _⟩ | ⟨b, xs, ds', B, rfl, e0, hb, hl, hc, hd, ha, hi, e⟩ | ⟨b, ks', xs, ds', rfl, e0, hb, hl, r, e⟩
  · cases m
  · cases e0
  · cases e0
    exact ⟨b, xs, rfl, hb, hl, r, e⟩

/-! ### what may change -/
/-- from (Z, H), F owned, to (Z', H'), F' owned -/
structure Evo (Z : Fp) (H : Hp) (F : Fp) (Z' : Fp) (H' : Hp) (F' : Fp) : Prop where
  keep : ∀ a o, H a = some o → ¬ F a → H' a = some o
  zm : ∀ a, Z a → Z' a
  zn : ∀ a, Z' a → Z a ∨ F a ∨ H a = none
  fn : ∀ a, F' a → F a ∨ H a = none
theorem Evo.refl {F : Fp} : Evo Z H F Z H F := ⟨fun _ _ h _ => h, fun _ h => h, fun _ h => .inl h, fun _ h => .inl h⟩
theorem Evo.back {F F' : Fp} (e : Evo Z H F Z' H' F') {a : Addr} (h : H' a = none) : F a ∨ H a = none := by
  cases q : H a with
  | none => exact .inr rfl
  | some o =>
    by_cases f : F a
    · exact .inl f
    · rw [e.keep a o q f] at h; cases h
theorem Evo.trans {Z1 Z2 F F1 F2 : Fp} {H1 H2 : Hp} (a : Evo Z H F Z1 H1 F1) (b : Evo Z1 H1 F1 Z2 H2 F2) : Evo Z H F Z2 H2 F2 where
  keep := fun x o h f => b.keep x o (a.keep x o h f) fun q => (a.fn x q).elim f fun z => by rw [h] at z; cases z
  zm := fun x z => b.zm x (a.zm x z)
  zn := fun x z => by
    rcases b.zn x z with z | z | z
    · exact a.zn x z
    · exact .inr (a.fn x z)
    · exact .inr (a.back z)
  fn := fun x z => by
    rcases b.fn x z with z | z
    · exact a.fn x z
    · exact a.back z
theorem Evo.sub {F F' F2 : Fp} (e : Evo Z H F Z' H' F') (h : ∀ a, F2 a → F' a) : Evo Z H F Z' H' F2 := ⟨e.keep, e.zm, e.zn, fun a q => e.fn a (h a q)⟩
/-- a greater footprint ahead -/
theorem Evo.more {F F' G : Fp} (e : Evo Z H F Z' H' F') (h : ∀ a, F a → G a) : Evo Z H G Z' H' F' :=
  ⟨fun a o q n => e.keep a o q fun z => n (h a z), e.zm, fun a z => (e.zn a z).imp id fun q => q.imp (h a) id, fun a z => (e.fn a z).imp (h a) id⟩
theorem Evo.mono0 {F F' : Fp} (e : Evo Z H F Z' H' F') (h : ∀ a, ¬ F a) : Evo Z H (fun _ => False) Z' H' F' := e.more fun a z => h a z
theorem Evo.ext {F F' : Fp} (e : Evo Z H F Z' H' F') (mu : ∀ a, F a → isM (H a)) (nz : ∀ a, F a → ¬ Z a) : Ext Z H Z' H' :=
  ⟨fun a o z h => e.keep a o h fun f => nz a f z, e.zm, fun a xs h => e.keep a _ h fun f => by have := mu a f; rw [h] at this; exact this, fun a o u h => e.keep a _ h fun f => by have := mu a f; rw [h] at this; exact this⟩
end

/-! ### the slots -/
abbrev Sl := Option (D × Nat)
abbrev En := List Sl
abbrev Tot (φ : Nat → Fp) : Fp := fun a => ∃ i, φ i a
structure Stt (C : RC) (io : List Nat) (σ₀ : L2.St) (Z : Fp) (σ : L2.St) (H : Hp) (env : En) (φ : Nat → Fp) : Prop where
  len : σ.length = env.length
  slot : ∀ i d k, env[i]? = some (some (d, k)) → ∃ v, σ[i]? = some (some v) ∧ Ow C Z H k v d (φ i)
  off : ∀ i, (∀ p, env[i]? ≠ some (some p)) → ∀ a, ¬ φ i a
  dj : ∀ i j a, φ i a → φ j a → i = j
  nz : ∀ i a, φ i a → ¬ Z a
  zh : ∀ a, Z a → H a ≠ none
  l0 : io ≠ [] → σ.length = σ₀.length
  io : ∀ i ∈ io, σ[i]? = σ₀[i]?
section
variable {C : RC} {io : List Nat} {σ₀ σ : L2.St} {Z Z' : Fp} {H H' : Hp} {env : En} {φ : Nat → Fp}
theorem Stt.mu (S : Stt C io σ₀ Z σ H env φ) : ∀ a, Tot φ a → isM (H a) := fun a ⟨i, h⟩ => by
  by_cases q : ∃ p, env[i]? = some (some p)
  · obtain ⟨⟨d, k⟩, q⟩ := q
    obtain ⟨v, _, o⟩ := S.slot i d k q
    exact o.mut a h
  · exact (S.off i (fun p e => q ⟨p, e⟩) a h).elim
theorem Stt.tnz (S : Stt C io σ₀ Z σ H env φ) : ∀ a, Tot φ a → ¬ Z a := fun a ⟨i, h⟩ => S.nz i a h
theorem Stt.ext (S : Stt C io σ₀ Z σ H env φ) {F' : Fp} (e : Evo Z H (Tot φ) Z' H' F') : Ext Z H Z' H' := e.ext S.mu S.tnz
theorem Stt.lt {i : Nat} (S : Stt C io σ₀ Z σ H env φ) {p : Sl} (h : env[i]? = some p) : i < σ.length := by
  rw [S.len]; exact (List.getElem?_eq_some_iff.mp h).1
/-- the slot i is given v (bearing d, at A) -/
theorem Stt.put {i : Nat} {v : V} {d : D} {k : Nat} {A : Fp} (S : Stt C io σ₀ Z σ H env φ) (hi : i < env.length) (hio : i ∉ io) (o : Ow C Z H k v d A) (dj : ∀ j a, j ≠ i → φ j a → ¬ A a) (nz : ∀ a, A a → ¬ Z a) :
    Stt C io σ₀ Z (σ.set i (some v)) H (env.set i (some (d, k))) (fun j => if j = i then A else φ j) where
  len := by simp [S.len]
  slot := fun j e l h => by
    by_cases q : j = i
    · subst q
      rw [List.getElem?_set_self hi] at h
      cases h
      exact ⟨v, List.getElem?_set_self (by rw [S.len]; exact hi), by rw [if_pos rfl]; exact o⟩
    · rw [List.getElem?_set_ne (Ne.symm q)] at h
      obtain ⟨w, h1, h2⟩ := S.slot j e l h
      exact ⟨w, by rw [List.getElem?_set_ne (Ne.symm q)]; exact h1, by rw [if_neg q]; exact h2⟩
  off := fun j h a => by
    by_cases q : j = i
    · subst q
      exact (h (d, k) (List.getElem?_set_self hi)).elim
    · rw [if_neg q]
      exact S.off j (fun p => by have := h p; rwa [List.getElem?_set_ne (Ne.symm q)] at this) a
  dj := fun j l a h1 h2 => by
    by_cases q : j = i
    · subst q
      rw [if_pos rfl] at h1
      by_cases r : l = j
      · exact r.symm
      · rw [if_neg r] at h2
        exact (dj l a r h2 h1).elim
    · rw [if_neg q] at h1
      by_cases r : l = i
      · subst r
        rw [if_pos rfl] at h2
        exact (dj j a q h1 h2).elim
      · rw [if_neg r] at h2
        exact S.dj j l a h1 h2
  nz := fun j a h => by
    by_cases q : j = i
    · rw [if_pos q] at h; exact nz a h
    · rw [if_neg q] at h; exact S.nz j a h
  zh := S.zh
  io := fun j h => by
    rw [List.getElem?_set_ne (fun e : i = j => hio (by rw [e]; exact h))]
    exact S.io j h
  l0 := fun h => by rw [List.length_set]; exact S.l0 h
/-- the slot i is forgotten -/
theorem Stt.drop (i : Nat) (S : Stt C io σ₀ Z σ H env φ) : Stt C io σ₀ Z σ H (env.set i none) (fun j a => j ≠ i ∧ φ j a) where
  len := by simp [S.len]
  slot := fun j e l h => by
    by_cases q : j = i
    · subst q
      by_cases hj : j < env.length
      · rw [List.getElem?_set_self hj] at h; cases h
      · rw [List.getElem?_eq_none (by simpa using hj)] at h; cases h
    · rw [List.getElem?_set_ne (Ne.symm q)] at h
      obtain ⟨w, h1, h2⟩ := S.slot j e l h
      exact ⟨w, h1, h2.congr fun a => ⟨fun z => ⟨q, z⟩, fun z => z.2⟩⟩
  off := fun j h a ⟨q, z⟩ => S.off j (fun p => by have := h p; rwa [List.getElem?_set_ne (Ne.symm q)] at this) a z
  dj := fun j l a h1 h2 => S.dj j l a h1.2 h2.2
  nz := fun j a h => S.nz j a h.2
  zh := S.zh
  io := S.io
  l0 := S.l0
/-- the slot's data stands, the value stays, its ownership and data are told anew (a list was changed in place, or shared) -/
theorem Stt.reput {i : Nat} {v : V} {d : D} {k : Nat} {A : Fp} (S : Stt C io σ₀ Z σ H env φ) (hi : i < env.length) (hv : σ[i]? = some (some v)) (o : Ow C Z H k v d A) (dj : ∀ j a, j ≠ i → φ j a → ¬ A a) (nz : ∀ a, A a → ¬ Z a) :
    Stt C io σ₀ Z σ H (env.set i (some (d, k))) (fun j => if j = i then A else φ j) where
  len := by simp [S.len]
  slot := fun j e l h => by
    by_cases q : j = i
    · subst q
      rw [List.getElem?_set_self hi] at h
      cases h
      exact ⟨v, hv, by rw [if_pos rfl]; exact o⟩
    · rw [List.getElem?_set_ne (Ne.symm q)] at h
      obtain ⟨w, h1, h2⟩ := S.slot j e l h
      exact ⟨w, h1, by rw [if_neg q]; exact h2⟩
  off := fun j h a => by
    by_cases q : j = i
    · subst q
      exact (h (d, k) (List.getElem?_set_self hi)).elim
    · rw [if_neg q]
      exact S.off j (fun p => by have := h p; rwa [List.getElem?_set_ne (Ne.symm q)] at this) a
  dj := fun j l a h1 h2 => by
    by_cases q : j = i
    · subst q
      rw [if_pos rfl] at h1
      by_cases r : l = j
      · exact r.symm
      · rw [if_neg r] at h2
        exact (dj l a r h2 h1).elim
    · rw [if_neg q] at h1
      by_cases r : l = i
      · subst r
        rw [if_pos rfl] at h2
        exact (dj j a q h1 h2).elim
      · rw [if_neg r] at h2
        exact S.dj j l a h1 h2
  nz := fun j a h => by
    by_cases q : j = i
    · rw [if_pos q] at h; exact nz a h
    · rw [if_neg q] at h; exact S.nz j a h
  zh := S.zh
  io := S.io
  l0 := S.l0
/-- the heap went on: the slots' lists were kept (what changed was not theirs) -/
theorem Stt.go (S : Stt C io σ₀ Z σ H env φ) (x : Ext Z H Z' H') (k : ∀ a o, Tot φ a → H a = some o → H' a = some o) (nz : ∀ a, Tot φ a → ¬ Z' a) (zh : ∀ a, Z' a → H' a ≠ none) : Stt C io σ₀ Z' σ H' env φ where
  len := S.len
  slot := fun i d l h => by
    obtain ⟨v, h1, h2⟩ := S.slot i d l h
    exact ⟨v, h1, h2.ext x fun a o q => k a o ⟨i, q⟩⟩
  off := S.off
  dj := S.dj
  nz := fun i a h => nz a ⟨i, h⟩
  zh := zh
  io := S.io
  l0 := S.l0
/-- a new object -/
theorem Ext.new {p : Addr} {o : HO} (h : H p = none) : Ext Z H Z (upd H p o) :=
  ⟨fun a u _ e => by rw [upd_ne (ne_of_none e h)]; exact e, fun _ z => z, fun a u e => by rw [upd_ne (ne_of_none e h)]; exact e, fun a u w e => by rw [upd_ne (ne_of_none e h)]; exact e⟩
theorem Stt.new {p : Addr} {o : HO} (S : Stt C io σ₀ Z σ H env φ) (h : H p = none) : Stt C io σ₀ Z σ (upd H p o) env φ :=
  S.go (Ext.new h) (fun a u _ e => by rw [upd_ne (ne_of_none e h)]; exact e) S.tnz fun a z => by
    by_cases q : a = p
    · subst q; rw [upd_same]; exact Option.some_ne_none _
    · rw [upd_ne q]; exact S.zh a z
/-- the slots' names alone are forgotten or told less of -/
theorem Stt.fresh (S : Stt C io σ₀ Z σ H env φ) (h : H a = none) : ¬ Z a ∧ ¬ Tot φ a := ⟨fun z => S.zh a z h, fun z => by have := S.mu a z; rw [h] at this; exact this⟩
end
end Pv
end

section
set_option Elab.async false
set_option linter.all false
set_option maxRecDepth 100000
set_option maxHeartbeats 4000000
/-! Pv2: results, judgements, names, constants, displays, operators. -/
namespace Pv
open PySem PySem.Spec PyProof.Rows L2

/-- an error: its class's number, its own fields -/
inductive Xn where
  | mk (c : Nat) (fs : List (Str × D))
/-- a result: a value and the slots; an error; nothing is known -/
inductive R (α : Type) where
  | ok (a : α) (e : En) | ex (x : Xn) | no
def R.bind {α β : Type} (r : R α) (f : α → En → R β) : R β :=
  match r with
  | .ok a e => f a e
  | .ex x => .ex x
  | .no => .no
@[simp] theorem R.bind_ok {α β : Type} (a : α) (e : En) (f : α → En → R β) : (R.ok a e).bind f = f a e := rfl
@[simp] theorem R.bind_ex {α β : Type} (x : Xn) (f : α → En → R β) : (R.ex x : R α).bind f = .ex x := rfl
@[simp] theorem R.bind_no {α β : Type} (f : α → En → R β) : (R.no : R α).bind f = .no := rfl
/-- a value that may be lacking -/
def R.of {α : Type} (o : Option α) (e : En) : R α :=
  match o with
  | some a => .ok a e
  | none => .no
@[simp] theorem R.of_some {α : Type} (a : α) (e : En) : R.of (some a) e = .ok a e := rfl
@[simp] theorem R.of_none {α : Type} (e : En) : R.of (none : Option α) e = .no := rfl

def ExR (C : RC) (Z : Fp) (H : Hp) : Xn → Value → Option Addr → Prop
  | .mk c fs, cls, dx => ∃ a, C.ca c = some a ∧ cls = .ref a ∧ (fs = [] ∨ ∃ dd gs, dx = some dd ∧ H dd = some (.xd gs) ∧ gs.map (·.1) = fs.map (·.1) ∧ ShL C Z H (gs.map (·.2)) (fs.map (·.2)))

/-- where a proof stands: the context, the fixed things, the wish about errors, the slots that are never stored (and their values) -/
structure Ct where
  X : Cx
  C : RC
  W : WX
  io : List Nat
  σ₀ : L2.St
structure Good (Γ : Ct) : Prop where
  hK : Γ.C.K = Γ.X.K
  nd : Γ.X.N.Nodup
  calm : Γ.X.calm = true
  tk : Takes Γ.X Γ.W
abbrev SttC (Γ : Ct) := Stt Γ.C Γ.io Γ.σ₀

def PostX (Γ : Ct) (σ : L2.St) (Z : Fp) (H : Hp) (F : Fp) (x : Xn) : Prop :=
  ∀ cls dx H' Z', Evo Z H F Z' H' (fun _ => False) → (∀ a, Z' a → H' a ≠ none) → ExR Γ.C Z' H' x cls dx → Γ.W cls dx σ H'
/-- a relation of what is reckoned and what stands: the owned addresses, shared ones, the heap -/
abbrev Rel (α β : Type) := Fp → Fp → Hp → α → β → Prop
def Post {α β : Type} (Γ : Ct) (σ : L2.St) (Z : Fp) (H : Hp) (F : Fp) (rel : Rel α β) (r : R α) (Q : β → Hp → Prop) : Prop :=
  match r with
  | .ok a env' => ∀ b H' Z' φ' A, SttC Γ Z' σ H' env' φ' → rel A Z' H' a b → (∀ x, A x → ¬ Tot φ' x ∧ ¬ Z' x) → Evo Z H F Z' H' (fun x => Tot φ' x ∨ A x) → Q b H'
  | .ex x => PostX Γ σ Z H F x
  | .no => False
def Ev {α β : Type} (Γ : Ct) (rel : L2.St → Rel α β) (f : En → R α) (t : L2.St → Hp → (β → Hp → Prop) → Prop) : Prop :=
  ∀ σ H Z env φ, SttC Γ Z σ H env φ → ∀ Q, Post Γ σ Z H (Tot φ) (rel σ) (f env) Q → t σ H Q

section
variable {Γ : Ct} {α β γ δ : Type} {σ : L2.St} {Z Z1 : Fp} {H H1 : Hp} {F F1 : Fp}
theorem PostX.mono {x : Xn} (h : PostX Γ σ Z H F x) (e : Evo Z H F Z1 H1 F1) : PostX Γ σ Z1 H1 F1 x := fun cls dx H' Z' e2 zh q => h cls dx H' Z' (e.trans e2) zh q
theorem Post.mono {rel : Rel α β} {r : R α} {Q : β → Hp → Prop} (h : Post Γ σ Z H F rel r Q) (e : Evo Z H F Z1 H1 F1) : Post Γ σ Z1 H1 F1 rel r Q := by
  cases r with
  | ok a env => exact fun b H' Z' φ' A S q d e2 => h b H' Z' φ' A S q d (e.trans e2)
  | ex x => exact PostX.mono h e
  | no => exact h
/-- what follows a result -/
theorem Ev.bind {rel1 : L2.St → Rel α β} {f : En → R α} {t : L2.St → Hp → (β → Hp → Prop) → Prop} (h : Ev Γ rel1 f t) {env : En} {φ : Nat → Fp} (S : SttC Γ Z σ H env φ) {rel : Rel γ δ} {g : α → En → R γ} {Q : δ → Hp → Prop} {Q1 : β → Hp → Prop}
    (P : Post Γ σ Z H (Tot φ) rel ((f env).bind g) Q)
    (k : ∀ a env1 b H1 Z1 φ1 A, f env = .ok a env1 → SttC Γ Z1 σ H1 env1 φ1 → rel1 σ A Z1 H1 a b → (∀ x, A x → ¬ Tot φ1 x ∧ ¬ Z1 x) → Evo Z H (Tot φ) Z1 H1 (fun x => Tot φ1 x ∨ A x) →
      Post Γ σ Z1 H1 (fun x => Tot φ1 x ∨ A x) rel (g a env1) Q → Q1 b H1) : t σ H Q1 := by
  refine h σ H Z env φ S Q1 ?_
  cases e : f env with
  | ok a env1 =>
    rw [e] at P
    exact fun b H1 Z1 φ1 A S1 q d ev => k a env1 b H1 Z1 φ1 A e S1 q d ev (Post.mono P ev)
  | ex x => rw [e] at P; exact P
  | no => rw [e] at P; exact P
/-- the end: a value of what is known -/
theorem Post.here {rel : Rel α β} {a : α} {env : En} {φ : Nat → Fp} {Q : β → Hp → Prop} (h : Post Γ σ Z H (Tot φ) rel (.ok a env) Q) (S : SttC Γ Z σ H env φ) {b : β} (q : rel (fun _ => False) Z H a b) : Q b H :=
  h b H Z φ (fun _ => False) S q (fun _ z => z.elim) (Evo.refl.sub fun x z => z.elim id fun q => q.elim)
theorem Evo.new {p : Addr} {o : HO} (h : H p = none) {F F' : Fp} (hs : ∀ a, F' a → F a ∨ a = p) : Evo Z H F Z (upd H p o) F' :=
  ⟨fun a u e _ => by rw [upd_ne (ne_of_none e h)]; exact e, fun _ z => z, fun _ z => .inl z, fun a z => (hs a z).imp id fun q => by rw [q]; exact h⟩
/-- a new object that holds shared things, not owned (a tuple) -/
theorem Post.newT {rel : Rel α β} {a : α} {env : En} {φ : Nat → Fp} {Q : β → Hp → Prop} {p : Addr} {o : HO} (h : Post Γ σ Z H (Tot φ) rel (.ok a env) Q) (S : SttC Γ Z σ H env φ) (hp : H p = none) {b : β} (q : rel (fun _ => False) Z (upd H p o) a b) : Q b (upd H p o) :=
  h b _ Z φ (fun _ => False) (S.new hp) q (fun _ z => z.elim) (Evo.new hp fun x z => .inl (z.elim id fun q => q.elim))
/-- a new list, owned -/
theorem Post.newL {rel : Rel α β} {a : α} {env : En} {φ : Nat → Fp} {Q : β → Hp → Prop} {p : Addr} {o : HO} (h : Post Γ σ Z H (Tot φ) rel (.ok a env) Q) (S : SttC Γ Z σ H env φ) (hp : H p = none) {b : β} (q : rel (fun x => x = p) Z (upd H p o) a b) : Q b (upd H p o) :=
  h b _ Z φ (fun x => x = p) (S.new hp) q (fun x z => by rw [z]; exact ⟨(S.fresh hp).2, (S.fresh hp).1⟩) (Evo.new hp fun x z => z)
end

/-! ### the kinds -/
abbrev VR (C : RC) : L2.St → Rel D V := fun _ _ Z H d v => Sh C Z H v d
abbrev ER (C : RC) : L2.St → Rel (D × Nat) V := fun _ A Z H p v => Ow C Z H p.2 v p.1 A
abbrev TR : L2.St → Rel Bool Bool := fun _ _ _ _ b c => b = c
abbrev AR (C : RC) : L2.St → Rel (List D) (List V) := fun _ _ Z H ds vs => ShL C Z H vs ds
/-- an operand: a shared value, or what slot i holds -/
inductive Opd where
  | val (d : D) | pla (i : Nat)
abbrev OR (C : RC) : L2.St → Rel Opd V := fun σ _ Z H o v =>
  match o with
  | .val d => Sh C Z H v d
  | .pla i => σ[i]? = some (some v)
def Opd.get (o : Opd) (env : En) : Option D :=
  match o with
  | .val d => some d
  | .pla i => match env[i]? with
    | some (some (d, 0)) => some d
    | some (some (d, 1)) => some d
    | _ => none
/-- an expression: its shared value; its value, perhaps owned; an operand -/
def EvV (Γ : Ct) (e : Expr) (f : En → R D) : Prop := ∃ t, PE Γ.X e t ∧ Ev Γ (VR Γ.C) f t
def EvE (Γ : Ct) (e : Expr) (f : En → R (D × Nat)) : Prop := ∃ t, PE Γ.X e t ∧ Ev Γ (ER Γ.C) f t
def EvO (Γ : Ct) (e : Expr) (f : En → R Opd) : Prop := ∃ t, PE Γ.X e t ∧ Ev Γ (OR Γ.C) f t
def EvT (Γ : Ct) (e : Expr) (f : En → R Bool) : Prop := ∃ t, PT Γ.X e t ∧ Ev Γ TR f t
def EvA (Γ : Ct) (es : List Expr) (f : En → R (List D)) : Prop := ∃ t, PA Γ.X es t ∧ Ev Γ (AR Γ.C) f t

/-- what an operation may read of a value now -/
inductive Rd1 (C : RC) (Z : Fp) (H : Hp) : V → D → Prop
  | sh {v : V} {d : D} : Sh C Z H v d → Rd1 C Z H v d
  | lst {a : Addr} {xs : List V} {ds : List D} : H a = some (.lst xs) → ShL C Z H xs ds → Rd1 C Z H (.ref a) (.lst ds)
  | dic {a : Addr} {ks : List Key} {xs : List V} {ds : List D} : H a = some (.dK (ks.zip xs)) → ks.length = xs.length → ShL C Z H xs ds → Rd1 C Z H (.ref a) (.dic ks ds)
section
variable {C : RC} {Z : Fp} {H : Hp}
theorem Rd1.of_ow {k : Nat} {v : V} {d : D} {A : Fp} (h : Ow C Z H k v d A) (hk : k ≤ 1) : Rd1 C Z H v d := by
  match k, h, hk with
  | 0, h, _ => exact .sh h.1
  | 1, h, _ =>
    have h0 := h
    rcases h with ⟨_, h, _⟩ | ⟨b, xs, ds, B, rfl, rfl, hb, hl, hc, hd, ha, hi, e⟩ | ⟨b, ks, xs, ds, rfl, rfl, hb, hl, r, e⟩
    · exact .sh h
    · exact .lst hb (shl_of_ix hl fun i x y e1 e2 => (hc i x y e1 e2).1)
    · exact .dic hb hl r
theorem Rd1.tupI {v : V} {ds : List D} (h : Rd1 C Z H v (.tup ds)) : ∃ a xs, v = .ref a ∧ SqT C.K H a xs ∧ ShL C Z H xs ds := by
  cases h with
  | sh h => cases h with | tup s r => exact ⟨_, _, rfl, s, r⟩
theorem Rd1.lstI {v : V} {ds : List D} (h : Rd1 C Z H v (.lst ds)) : ∃ a xs, v = .ref a ∧ H a = some (.lst xs) ∧ ShL C Z H xs ds := by
  cases h with
  | sh h => cases h with | lst s z r => exact ⟨_, _, rfl, s, r⟩
  | lst h r => exact ⟨_, _, rfl, h, r⟩
theorem Rd1.scrI {v : V} {ns : List Int} (h : Rd1 C Z H v (.scr ns)) : ∃ a, v = .ref a ∧ SqL C.K H a (ns.map V.int) := by
  cases h with
  | sh h => cases h with | scr s => exact ⟨_, rfl, s.sqL⟩
theorem Rd1.dicI {v : V} {ks : List Key} {ds : List D} (h : Rd1 C Z H v (.dic ks ds)) : ∃ a xs, v = .ref a ∧ H a = some (.dK (ks.zip xs)) ∧ ks.length = xs.length ∧ ShL C Z H xs ds := by
  cases h with
  | sh h => cases h with | dic s z l r => exact ⟨_, _, rfl, s, l, r⟩
  | dic h l r => exact ⟨_, _, rfl, h, l, r⟩
theorem Rd1.intI {v : V} {i : Int} (h : Rd1 C Z H v (.int i)) : v = .int i := by
  cases h with
  | sh h => cases h; rfl
theorem Rd1.blI {v : V} {i : Bool} (h : Rd1 C Z H v (.bl i)) : v = .bl i := by
  cases h with
  | sh h => cases h; rfl
theorem Rd1.strI {v : V} {i : Str} (h : Rd1 C Z H v (.str i)) : v = .str i := by
  cases h with
  | sh h => cases h; rfl
theorem Rd1.nonI {v : V} (h : Rd1 C Z H v .non) : v = .non := by
  cases h with
  | sh h => cases h; rfl
end
/-- an operand's data at the end of the operands' evaluation -/
theorem Opd.rd {Γ : Ct} {σ : L2.St} {Z : Fp} {H : Hp} {env : En} {φ : Nat → Fp} (S : SttC Γ Z σ H env φ) {o : Opd} {v : V} {d : D} {A : Fp} (h : OR Γ.C σ A Z H o v) (g : o.get env = some d) : Rd1 Γ.C Z H v d := by
  cases o with
  | val e =>
    have : e = d := Option.some.inj g
    subst this
    exact .sh h
  | pla i =>
    have h : σ[i]? = some (some v) := h
    unfold Opd.get at g
    simp only at g
    split at g
    · rename_i e
      cases g
      obtain ⟨w, h1, h2⟩ := S.slot i d 0 e
      rw [h] at h1; cases h1
      exact .of_ow h2 (Nat.zero_le _)
    · rename_i e
      cases g
      obtain ⟨w, h1, h2⟩ := S.slot i d 1 e
      rw [h] at h1; cases h1
      exact .of_ow h2 (Nat.le_refl _)
    · cases g
/-- an operand stays through what follows -/
theorem OR.go {Γ : Ct} {σ : L2.St} {Z Z1 : Fp} {H H1 : Hp} (x : Ext Z H Z1 H1) {o : Opd} {v : V} {A B : Fp} (h : OR Γ.C σ A Z H o v) : OR Γ.C σ B Z1 H1 o v := by
  cases o with
  | val e => exact Sh.ext x e v h
  | pla i => exact h

section
variable {Γ : Ct} {e a b : Expr} {pos : Pos}
/-! ### from kind to kind -/
def vOfE (f : En → R (D × Nat)) : En → R D := fun env => (f env).bind fun p env1 => .ok p.1 env1
def eOfV (f : En → R D) : En → R (D × Nat) := fun env => (f env).bind fun d env1 => .ok (d, 0) env1
def oOfV (f : En → R D) : En → R Opd := fun env => (f env).bind fun d env1 => .ok (.val d) env1
theorem EvE.toV {f : En → R (D × Nat)} (h : EvE Γ e f) : EvV Γ e (vOfE f) := by
  obtain ⟨t, h1, h2⟩ := h
  refine ⟨t, h1, fun σ H Z env φ S Q P => ?_⟩
  refine h2.bind S P fun p env1 v H1 Z1 φ1 A e1 S1 o dj ev P1 => ?_
  obtain ⟨d, k⟩ := p
  -- what was owned is shared now
  have x : Ext Z1 H1 (fun y => Z1 y ∨ A y) H1 := ⟨fun _ _ _ q => q, fun _ z => .inl z, fun _ _ q => q, fun _ _ _ q => q⟩
  have S2 : SttC Γ (fun y => Z1 y ∨ A y) σ H1 env1 φ1 := S1.go x (fun _ _ _ q => q) (fun y q z => z.elim (S1.tnz y q) fun z => (dj y z).1 q) fun y z => z.elim (S1.zh y) fun z e => by
    have := o.mut y z
    rw [e] at this; exact this
  refine P1 v H1 _ φ1 (fun _ => False) S2 (o.frz (fun _ z => .inl z) fun _ z => .inr z) (fun _ z => z.elim) ⟨fun _ _ q _ => q, fun _ z => .inl z, fun y z => z.imp id fun z => .inl (.inr z), fun y z => .inl (z.elim .inl fun z => z.elim)⟩
theorem EvV.toE {f : En → R D} (h : EvV Γ e f) : EvE Γ e (eOfV f) := by
  obtain ⟨t, h1, h2⟩ := h
  refine ⟨t, h1, fun σ H Z env φ S Q P => ?_⟩
  refine h2.bind S P fun d env1 v H1 Z1 φ1 A e1 S1 o dj ev P1 => ?_
  exact Post.here (P1.mono (Evo.refl.sub fun _ z => .inl z)) S1 ⟨o, fun _ z => z⟩
theorem EvV.toO {f : En → R D} (h : EvV Γ e f) : EvO Γ e (oOfV f) := by
  obtain ⟨t, h1, h2⟩ := h
  refine ⟨t, h1, fun σ H Z env φ S Q P => ?_⟩
  refine h2.bind S P fun d env1 v H1 Z1 φ1 A e1 S1 o dj ev P1 => ?_
  exact Post.here (P1.mono (Evo.refl.sub fun _ z => .inl z)) S1 o

/-! ### constants and names -/
def kI (i : Int) : En → R D := fun env => .ok (.int i) env
def kB (b : Bool) : En → R D := fun env => .ok (.bl b) env
def kS (x : Str) : En → R D := fun env => .ok (.str x) env
def kN : En → R D := fun env => .ok .non env
theorem ev_c {v : V} {d : D} (h : ∀ Z H, Sh Γ.C Z H v d) (p : PE Γ.X e (tC v)) : EvV Γ e (fun env => .ok d env) :=
  ⟨_, p, fun σ H Z env φ S Q P => Post.here P S (h Z H)⟩
theorem ev_int {i j} : EvV Γ (.Constant (.int i) j pos) (kI i) := ev_c (fun _ _ => .int i) pe_int
theorem ev_bl {i j} : EvV Γ (.Constant (.bool i) j pos) (kB i) := ev_c (fun _ _ => .bl i) pe_bl
theorem ev_str {i j} : EvV Γ (.Constant (.str i) j pos) (kS i) := ev_c (fun _ _ => .str i) pe_str
theorem ev_non {j} : EvV Γ (.Constant .none j pos) kN := ev_c (fun _ _ => .non) pe_non
/-- a def as a value -/
theorem ev_fn {n : Nat} {f : Addr} {x : Str} (hg : Gl Γ.X x) (hm : Γ.X.mg x = some (.ref f)) (hn : Γ.C.fa n = some f) (hd : (x == ("__debug__" : Str)) = false := by decide) : EvV Γ (.Name x pos) (fun env => .ok (.fn n) env) :=
  ev_c (v := .ref f) (fun _ _ => .fn hn) (pe_glob hg hm rfl hd)
/-- a module's int -/
theorem ev_gint {i : Int} {t : Tok} {x : Str} (hg : Gl Γ.X x) (hm : Γ.X.mg x = some (.int i t)) (hd : (x == ("__debug__" : Str)) = false := by decide) : EvV Γ (.Name x pos) (kI i) :=
  ev_c (fun _ _ => .int i) (pe_glob hg hm ⟨t, rfl⟩ hd)
theorem ev_gstr {i : Str} {t : Tok} {x : Str} (hg : Gl Γ.X x) (hm : Γ.X.mg x = some (.str i t)) (hd : (x == ("__debug__" : Str)) = false := by decide) : EvV Γ (.Name x pos) (kS i) :=
  ev_c (fun _ _ => .str i) (pe_glob hg hm ⟨t, rfl⟩ hd)

/-- a name read to be kept elsewhere: its lists are shared from now on -/
def nmV (i : Nat) : En → R D := fun env =>
  match env[i]? with
  | some (some (d, _)) => .ok d (env.set i (some (d, 0)))
  | _ => .no
/-- a name read as an operand -/
def nmO (i : Nat) : En → R Opd := fun env =>
  match env[i]? with
  | some (some (d, 0)) => .ok (.val d) env
  | some (some (_, 1)) => .ok (.pla i) env
  | some (some (d, _)) => .ok (.val d) (env.set i (some (d, 0)))
  | _ => .no
theorem Stt.share {C : RC} {io : List Nat} {σ₀ σ : L2.St} {Z : Fp} {H : Hp} {env : En} {φ : Nat → Fp} (S : Stt C io σ₀ Z σ H env φ) {i : Nat} {d : D} {k : Nat} (h : env[i]? = some (some (d, k))) :
    ∃ v, σ[i]? = some (some v) ∧ Stt C io σ₀ (fun y => Z y ∨ φ i y) σ H (env.set i (some (d, 0))) (fun j => if j = i then (fun _ => False) else φ j) ∧ Sh C (fun y => Z y ∨ φ i y) H v d ∧
      Evo Z H (Tot φ) (fun y => Z y ∨ φ i y) H (Tot fun j => if j = i then (fun _ => False) else φ j) := by
  obtain ⟨v, hv, o⟩ := S.slot i d k h
  have sh : Sh C (fun y => Z y ∨ φ i y) H v d := o.frz (fun _ z => .inl z) fun _ z => .inr z
  have x : Ext Z H (fun y => Z y ∨ φ i y) H := ⟨fun _ _ _ q => q, fun _ z => .inl z, fun _ _ q => q, fun _ _ _ q => q⟩
  have zh : ∀ a, Z a ∨ φ i a → H a ≠ none := fun a z => z.elim (S.zh a) fun z e => by
    have := S.mu a ⟨i, z⟩
    rw [e] at this; exact this
  have S1 := (S.drop i).go x (fun _ _ _ q => q) (fun a ⟨j, q, z⟩ zz => zz.elim (S.nz j a z) fun y => q (S.dj j i a z y)) zh
  have hi : i < env.length := (List.getElem?_eq_some_iff.mp h).1
  have S2 := S1.reput (i := i) (by simpa using hi) hv (Ow.sh sh) (fun _ _ _ _ z => z) (fun _ z => z.elim)
  refine ⟨v, hv, ?_, sh, ⟨fun _ _ q _ => q, fun _ z => .inl z, fun a z => z.elim .inl fun z => .inr (.inl ⟨i, z⟩), fun a ⟨j, z⟩ => ?_⟩⟩
  · have e1 : (env.set i none).set i (some (d, 0)) = env.set i (some (d, 0)) := by rw [List.set_set]
    rw [e1] at S2
    have e2 : (fun j => if j = i then (fun _ : Addr => False) else fun a => j ≠ i ∧ φ j a) = fun j => if j = i then (fun _ => False) else φ j := by
      funext j
      by_cases q : j = i
      · rw [if_pos q, if_pos q]
      · rw [if_neg q, if_neg q]
        funext a
        exact propext ⟨fun z => z.2, fun z => ⟨q, z⟩⟩
    rw [e2] at S2
    exact S2
  · by_cases q : j = i
    · simp only [if_pos q] at z
    · simp only [if_neg q] at z; exact .inl ⟨j, z⟩
theorem ev_name {i : Nat} {x : Str} (hN : Γ.X.N[i]? = some x) (hv : Vis Γ.X.env.scope x) (hd : (x == ("__debug__" : Str)) = false := by decide) (hcd : (x == ("__classdict__" : Str)) = false := by decide) : EvV Γ (.Name x pos) (nmV i) := by
  refine ⟨_, pe_var hN hv hd hcd, fun σ H Z env φ S Q P => ?_⟩
  unfold nmV at P
  split at P
  · rename_i d k h
    obtain ⟨v, h1, S1, sh, ev⟩ := S.share h
    exact ⟨v, h1, Post.here (P.mono ev) S1 sh⟩
  · exact P.elim
theorem ev_nameO {i : Nat} {x : Str} (hN : Γ.X.N[i]? = some x) (hv : Vis Γ.X.env.scope x) (hd : (x == ("__debug__" : Str)) = false := by decide) (hcd : (x == ("__classdict__" : Str)) = false := by decide) : EvO Γ (.Name x pos) (nmO i) := by
  refine ⟨_, pe_var hN hv hd hcd, fun σ H Z env φ S Q P => ?_⟩
  unfold nmO at P
  split at P
  · rename_i d h
    obtain ⟨v, h1, o⟩ := S.slot i d 0 h
    exact ⟨v, h1, Post.here P S o.1⟩
  · rename_i d h
    obtain ⟨v, h1, o⟩ := S.slot i d 1 h
    exact ⟨v, h1, Post.here P S h1⟩
  · rename_i d k _ _ h
    obtain ⟨v, h1, S1, sh, ev⟩ := S.share h
    exact ⟨v, h1, Post.here (P.mono ev) S1 sh⟩
  · exact P.elim

/-! ### operators by values -/
/-- what an operation makes of data: with the depth that is its own -/
def own1 : D → Nat
  | .lst _ => 1
  | .dic _ _ => 1
  | _ => 0
def op2 (g : D → D → Option (D × Nat)) (fa fb : En → R Opd) : En → R (D × Nat) := fun env => (fa env).bind fun oa env1 => (fb env1).bind fun ob env2 =>
  match oa.get env2, ob.get env2 with
  | some x, some y => R.of (g x y) env2
  | _, _ => .no
/-- a rule's reading r does what g tells -/
def Does2 (Γ : Ct) (g : D → D → Option (D × Nat)) (r : R2) : Prop :=
  ∀ σ H Z env φ, SttC Γ Z σ H env φ → ∀ x y d e p, Rd1 Γ.C Z H x d → Rd1 Γ.C Z H y e → g d e = some p → ∀ Q : VK, Post Γ σ Z H (Tot φ) (ER Γ.C σ) (.ok p env) Q → r x y H Q
theorem ev_op2 {ta : R2} {mk : TE → TE → TE} {g : D → D → Option (D × Nat)} {r : R2} {fa fb : En → R Opd} (ha : EvO Γ a fa) (hb : EvO Γ b fb) (hp : ∀ ta tb, PE Γ.X a ta → PE Γ.X b tb → PE Γ.X e (tOp r ta tb)) (hr : Does2 Γ g r) : EvE Γ e (op2 g fa fb) := by
  obtain ⟨ta, a1, a2⟩ := ha
  obtain ⟨tb, b1, b2⟩ := hb
  refine ⟨_, hp ta tb a1 b1, fun σ H Z env φ S Q P => ?_⟩
  refine a2.bind S P fun oa env1 x H1 Z1 φ1 A e1 S1 q1 dj1 ev1 P1 => ?_
  refine b2.bind S1 (P1.mono (Evo.refl.sub fun _ z => .inl z)) fun ob env2 y H2 Z2 φ2 B e2 S2 q2 dj2 ev2 P2 => ?_
  have P3 := P2.mono (Evo.refl.sub (F2 := Tot φ2) fun _ z => .inl z)
  have q1' : OR Γ.C σ B Z2 H2 oa x := OR.go (S1.ext ev2) q1
  cases ga : oa.get env2 with
  | none => rw [ga] at P3; exact P3.elim
  | some d =>
    cases gb : ob.get env2 with
    | none => rw [ga, gb] at P3; exact P3.elim
    | some e =>
      rw [ga, gb] at P3
      cases gg : g d e with
      | none => simp only [gg] at P3; exact P3.elim
      | some p =>
        simp only [gg] at P3
        exact hr σ H2 Z2 env2 φ2 S2 x y d e p (Opd.rd S2 q1' ga) (Opd.rd S2 q2 gb) gg Q P3
end
end Pv
end

section
set_option Elab.async false
set_option linter.all false
set_option maxRecDepth 100000
set_option maxHeartbeats 4000000
/-! Pv3: operators, comparisons, tests. -/
namespace Pv
open PySem PySem.Spec PyProof.Rows L2

def lim : Nat := 16000000
theorem lim_le {n : Nat} (h : n ≤ lim) : n ≤ sizeLine := Nat.le_trans h (by decide)

/-! ### arithmetic -/
def sml (i : Int) : Bool := Nat.ble i.natAbs 18446744073709551615
theorem sml_ok {i : Int} (h : sml i = true) : -(2 ^ 64) < i ∧ i < 2 ^ 64 := by
  have h1 := Nat.le_of_ble_eq_true h
  omega
def mulOk (i j : Int) : Bool := sml j || (sml i || decide (i.natAbs.log2 + j.natAbs.log2 < 1000000))
theorem mulOk.ok {i j : Int} (h : mulOk i j = true) : IntMulOk i j := by
  unfold mulOk at h
  simp only [Bool.or_eq_true, decide_eq_true_eq] at h
  rcases h with h | h | h
  · exact CMul.ok (.inr (sml_ok h))
  · exact CMul.ok (.inl (sml_ok h))
  · exact CMulW.ok h
def addD : D → D → Option (D × Nat)
  | .int i, .int j => some (.int (i + j), 0)
  | .tup xs, .tup ys => if xs.length + ys.length ≤ lim then some (.tup (xs ++ ys), 0) else none
  | .lst xs, .lst ys => if xs.length + ys.length ≤ lim then some (.lst (xs ++ ys), 1) else none
  | .str x, .str y => if x.length + y.length ≤ lim then some (.str (x ++ y), 0) else none
  | _, _ => none
def subD : D → D → Option (D × Nat)
  | .int i, .int j => some (.int (i - j), 0)
  | _, _ => none
def mulD : D → D → Option (D × Nat)
  | .int i, .int j => if mulOk i j then some (.int (i * j), 0) else none
  | .lst xs, .int k => if xs.length * k.toNat ≤ lim ∧ -(2 ^ 63) ≤ k ∧ k < 2 ^ 63 then some (.lst (List.replicate k.toNat xs).flatten, 1) else none
  | .tup xs, .int k => if xs ≠ [] ∧ 2 ≤ k ∧ k ≤ 1000 ∧ xs.length ≤ 1000 then some (.tup (List.replicate k.toNat xs).flatten, 0) else none
  | _, _ => none
def fdivD : D → D → Option (D × Nat)
  | .int i, .int j => if j ≠ 0 ∧ j.natAbs.log2 < 9000 then some (.int (i.fdiv j), 0) else none
  | _, _ => none
def modD : D → D → Option (D × Nat)
  | .int i, .int j => if j ≠ 0 then some (.int (i.fmod j), 0) else none
  | _, _ => none
def rMulZ : R2 := fun x y H Q => ∃ i j, x = .int i ∧ y = .int j ∧ IntMulOk i j ∧ Q (.int (i * j)) H
def rDivZ : R2 := fun x y H Q => ∃ i j : Int, x = .int i ∧ y = .int j ∧ (j ≠ 0 ∧ j.natAbs.log2 < 9000) ∧ Q (.int (i.fdiv j)) H
section
variable {X : Cx}
theorem op_mulZ : OpR X (binaryOp .Mult) rMulZ := by
  intro pins s σ H x y v u Q I rx ry h
  obtain ⟨i, j, rfl, rfl, hc, q⟩ := h
  obtain ⟨t, rfl⟩ := rx
  obtain ⟨t', rfl⟩ := ry
  exact mul_int ⟨.int _, H, I.tok _, ⟨_, rfl⟩, q⟩ hc
theorem op_divZ : OpR X (binaryOp .FloorDiv) rDivZ := by
  intro pins s σ H x y v u Q I rx ry h
  obtain ⟨i, j, rfl, rfl, hc, q⟩ := h
  obtain ⟨t, rfl⟩ := rx
  obtain ⟨t', rfl⟩ := ry
  exact floordiv_int hc.1 ⟨.int _, H, I.tok _, ⟨_, rfl⟩, q⟩ (.inl (PyProof.noPylong_of_log2 hc.2))
theorem iop_divZ : OpR X (inplaceOp .FloorDiv) rDivZ := by
  intro pins s σ H x y v u Q I rx ry h
  obtain ⟨i, j, rfl, rfl, hc, q⟩ := h
  obtain ⟨t, rfl⟩ := rx
  obtain ⟨t', rfl⟩ := ry
  exact ifloordiv_int hc.1 ⟨.int _, H, I.tok _, ⟨_, rfl⟩, q⟩ (.inl (PyProof.noPylong_of_log2 hc.2))
end
abbrev rAddA (K : PySem.W.Frag) : R2 := fun x y H Q => rI0 (fun i j => .int (i + j)) x y H Q ∨ rCatA K x y H Q ∨ rCat x y H Q ∨ (∃ i j, x = .str i ∧ y = .str j ∧ i.length + j.length ≤ sizeLine ∧ Q (.str (i ++ j)) H)
abbrev rMulA (K : PySem.W.Frag) : R2 := fun x y H Q => rMulZ x y H Q ∨ rRep x y H Q ∨ rRepT K x y H Q
section
variable {Γ : Ct} (G : Good Γ)
include G
theorem does_add : Does2 Γ addD (rAddA Γ.X.K) := by
  intro σ H Z env φ S x y d e p hx hy hg Q P
  unfold addD at hg
  split at hg
  · cases hg
    rw [hx.intI, hy.intI]
    exact .inl ⟨_, _, rfl, rfl, Post.here P S (Ow.sh (.int _))⟩
  · rename_i xs ys
    split at hg
    · rename_i hz
      cases hg
      obtain ⟨a, us, rfl, ha, ra⟩ := hx.tupI
      obtain ⟨b, vs, rfl, hb, rb⟩ := hy.tupI
      have la := ra.length
      have lb := rb.length
      rw [G.hK] at ha hb
      refine .inr (.inl ⟨a, b, us, vs, rfl, rfl, ha, hb, by rw [la, lb]; exact lim_le hz, fun e => ?_, fun _ e => ?_, fun _ _ p hp => ?_⟩)
      · subst e
        cases ra
        exact Post.here P S (Ow.sh (.tup (by rw [G.hK]; exact hb) rb))
      · subst e
        cases rb
        rw [List.append_nil] at P
        exact Post.here P S (Ow.sh (.tup (by rw [G.hK]; exact ha) ra))
      · have x : Ext Z H Z (upd H p (.tup (us ++ vs))) := Ext.new hp
        exact Post.newT P S hp (Ow.sh (.tup (SqT.of upd_same) ((ra.append rb).ext x)))
    · cases hg
  · rename_i xs ys
    split at hg
    · rename_i hz
      cases hg
      obtain ⟨a, us, rfl, ha, ra⟩ := hx.lstI
      obtain ⟨b, vs, rfl, hb, rb⟩ := hy.lstI
      have la := ra.length
      have lb := rb.length
      refine .inr (.inr (.inl ⟨a, b, us, vs, rfl, rfl, ha, hb, by rw [la, lb]; exact lim_le hz, fun p hp => ?_⟩))
      have x : Ext Z H Z (upd H p (.lst (us ++ vs))) := Ext.new hp
      exact Post.newL P S hp (Ow.lst1 upd_same ((ra.append rb).ext x))
    · cases hg
  · split at hg
    · rename_i hz
      cases hg
      rw [hx.strI, hy.strI]
      exact .inr (.inr (.inr ⟨_, _, rfl, rfl, lim_le hz, Post.here P S (Ow.sh (.str _))⟩))
    · cases hg
  · cases hg
omit G in
theorem does_sub : Does2 Γ subD (rI0 fun i j => .int (i - j)) := by
  intro σ H Z env φ S x y d e p hx hy hg Q P
  unfold subD at hg
  split at hg
  · cases hg
    rw [hx.intI, hy.intI]
    exact ⟨_, _, rfl, rfl, Post.here P S (Ow.sh (.int _))⟩
  · cases hg
theorem does_mul : Does2 Γ mulD (rMulA Γ.X.K) := by
  intro σ H Z env φ S x y d e p hx hy hg Q P
  unfold mulD at hg
  split at hg
  · split at hg
    · rename_i hz
      cases hg
      rw [hx.intI, hy.intI]
      exact .inl ⟨_, _, rfl, rfl, mulOk.ok hz, Post.here P S (Ow.sh (.int _))⟩
    · cases hg
  · rename_i xs k
    split at hg
    · rename_i hz
      cases hg
      obtain ⟨a, us, rfl, ha, ra⟩ := hx.lstI
      rw [hy.intI]
      have la := ra.length
      refine .inr (.inl ⟨a, k, us, rfl, rfl, ha, hz.2.1, hz.2.2, by rw [la]; exact lim_le hz.1, fun p hp => ?_⟩)
      have x : Ext Z H Z (upd H p (.lst (List.replicate k.toNat us).flatten)) := Ext.new hp
      exact Post.newL P S hp (Ow.lst1 upd_same (ra.flat.ext x))
    · cases hg
  · rename_i xs k
    split at hg
    · rename_i hz
      cases hg
      obtain ⟨a, us, rfl, ha, ra⟩ := hx.tupI
      rw [hy.intI]
      have la := ra.length
      rw [G.hK] at ha
      refine .inr (.inr ⟨a, k, us, rfl, rfl, ha, fun e => hz.1 (by subst e; cases ra; rfl), hz.2.1, hz.2.2.1, by rw [la]; exact hz.2.2.2, fun p hp => ?_⟩)
      have x : Ext Z H Z (upd H p (.tup (List.replicate k.toNat us).flatten)) := Ext.new hp
      exact Post.newT P S hp (Ow.sh (.tup (SqT.of upd_same) (ra.flat.ext x)))
    · cases hg
  · cases hg
omit G in
theorem does_fdiv : Does2 Γ fdivD rDivZ := by
  intro σ H Z env φ S x y d e p hx hy hg Q P
  unfold fdivD at hg
  split at hg
  · split at hg
    · rename_i hz
      cases hg
      rw [hx.intI, hy.intI]
      exact ⟨_, _, rfl, rfl, hz, Post.here P S (Ow.sh (.int _))⟩
    · cases hg
  · cases hg
omit G in
theorem does_mod : Does2 Γ modD (rI (fun _ j => j ≠ 0) fun i j => .int (i.fmod j)) := by
  intro σ H Z env φ S x y d e p hx hy hg Q P
  unfold modD at hg
  split at hg
  · split at hg
    · rename_i hz
      cases hg
      rw [hx.intI, hy.intI]
      exact ⟨_, _, rfl, rfl, hz, Post.here P S (Ow.sh (.int _))⟩
    · cases hg
  · cases hg
end
section
variable {Γ : Ct} {a b : Expr} {fa fb : En → R Opd} {pos : Pos}
theorem ev_add (G : Good Γ) (ha : EvO Γ a fa) (hb : EvO Γ b fb) : EvE Γ (.BinOp a .Add b pos) (op2 addD fa fb) := ev_op2 (ta := rAddA Γ.X.K) (mk := fun x _ => x) ha hb (fun _ _ p q => pe_op (op_add.or (op_catA.or (op_cat.or op_add_str))) p q) (does_add G)
theorem ev_sub (ha : EvO Γ a fa) (hb : EvO Γ b fb) : EvE Γ (.BinOp a .Sub b pos) (op2 subD fa fb) := ev_op2 (ta := rAddA Γ.X.K) (mk := fun x _ => x) ha hb (fun _ _ p q => pe_op op_sub p q) does_sub
theorem ev_mul (G : Good Γ) (ha : EvO Γ a fa) (hb : EvO Γ b fb) : EvE Γ (.BinOp a .Mult b pos) (op2 mulD fa fb) := ev_op2 (ta := rAddA Γ.X.K) (mk := fun x _ => x) ha hb (fun _ _ p q => pe_op (op_mulZ.or (op_rep.or op_repT)) p q) (does_mul G)
theorem ev_fdiv (ha : EvO Γ a fa) (hb : EvO Γ b fb) : EvE Γ (.BinOp a .FloorDiv b pos) (op2 fdivD fa fb) := ev_op2 (ta := rAddA Γ.X.K) (mk := fun x _ => x) ha hb (fun _ _ p q => pe_op op_divZ p q) does_fdiv
theorem ev_mod (ha : EvO Γ a fa) (hb : EvO Γ b fb) : EvE Γ (.BinOp a .Mod b pos) (op2 modD fa fb) := ev_op2 (ta := rAddA Γ.X.K) (mk := fun x _ => x) ha hb (fun _ _ p q => pe_op op_modN p q) does_mod
end

/-! ### data for == -/
mutual
def D.py : D → Option PyData
  | .non => some .none
  | .bl b => some (.bool b)
  | .int i => some (.int i)
  | .str x => some (.str x)
  | .tup ds => (D.pyL ds).map .tuple
  | .lst ds => (D.pyL ds).map .list
  | .fn _ => none
  | .dic _ _ => none
  | .scr _ => none
def D.pyL : List D → Option (List PyData)
  | [] => some []
  | d :: ds => match D.py d, D.pyL ds with
    | some p, some ps => some (p :: ps)
    | _, _ => none
end
section
variable {C : RC} {Z : Fp} {H : Hp}
mutual
theorem Sh.dp : ∀ (d : D) (v : V) (p : PyData), Sh C Z H v d → d.py = some p → Dp C.K H v p
  | .non, _, _, h, e => by cases h; cases e; exact .non
  | .bl b, _, _, h, e => by cases h; cases e; exact .bl b
  | .int i, _, _, h, e => by cases h; cases e; exact .int i
  | .str x, _, _, h, e => by cases h; cases e; exact .str x
  | .tup ds, _, p, h, e => by
    cases h with
    | tup s r =>
      unfold D.py at e
      obtain ⟨ps, e1, rfl⟩ := Option.map_eq_some_iff.mp e
      exact .tup s (ShL.dp ds _ ps r e1)
  | .lst ds, _, p, h, e => by
    cases h with
    | lst s z r =>
      unfold D.py at e
      obtain ⟨ps, e1, rfl⟩ := Option.map_eq_some_iff.mp e
      exact .lst (SqL.of s) (ShL.dp ds _ ps r e1)
  | .fn _, _, _, _, e => by cases e
  | .dic _ _, _, _, _, e => by cases e
  | .scr _, _, _, _, e => by cases e
theorem ShL.dp : ∀ (ds : List D) (vs : List V) (ps : List PyData), ShL C Z H vs ds → D.pyL ds = some ps → DpAll C.K H vs ps
  | [], _, _, h, e => by cases h; cases e; exact .nil
  | d :: ds, _, ps, h, e => by
    cases h with
    | cons h r =>
      unfold D.pyL at e
      split at e
      · rename_i p qs e1 e2
        cases e
        exact .cons (Sh.dp d _ _ h e1) (ShL.dp ds _ _ r e2)
      · cases e
end
theorem Rd1.dp {v : V} {d : D} {p : PyData} (h : Rd1 C Z H v d) (e : d.py = some p) : Dp C.K H v p := by
  cases h with
  | sh h => exact Sh.dp d v p h e
  | lst s r =>
    unfold D.py at e
    obtain ⟨ps, e1, rfl⟩ := Option.map_eq_some_iff.mp e
    exact .lst (SqL.of s) (ShL.dp _ _ ps r e1)
  | dic s l r => cases e
end
/-- == where both can be compared -/
def eqB (d e : D) : Option Bool :=
  match d.py, e.py with
  | some p, some q => if SeqAt.shaped p && SeqAt.shaped q then some (PyData.eqv p q) else none
  | _, _ => none
def eqD (d e : D) : Option (D × Nat) := (eqB d e).map fun b => (.bl b, 0)
def neD (d e : D) : Option (D × Nat) := (eqB d e).map fun b => (.bl (!b), 0)
def cmpD (f : Int → Int → Bool) : D → D → Option (D × Nat)
  | .int i, .int j => some (.bl (f i j), 0)
  | _, _ => none
def D.ints : List D → Option (List Int)
  | [] => some []
  | .int i :: r => (D.ints r).map (i :: ·)
  | _ :: _ => none
theorem D.ints_eq : ∀ {ds : List D} {ns : List Int}, D.ints ds = some ns → ds = ns.map D.int
  | [], ns, h => by cases h; rfl
  | .int i :: r, ns, h => by
    unfold D.ints at h
    obtain ⟨ms, e, rfl⟩ := Option.map_eq_some_iff.mp h
    rw [List.map_cons, ← D.ints_eq e]
  | .non :: _, _, h => by cases h
  | .bl _ :: _, _, h => by cases h
  | .str _ :: _, _, h => by cases h
  | .fn _ :: _, _, h => by cases h
  | .tup _ :: _, _, h => by cases h
  | .lst _ :: _, _, h => by cases h
  | .dic _ _ :: _, _, h => by cases h
  | .scr _ :: _, _, h => by cases h
@[simp] theorem D.ints_map : ∀ ns : List Int, D.ints (ns.map D.int) = some ns
  | [] => rfl
  | n :: ns => by rw [List.map_cons, D.ints, D.ints_map ns]; rfl
/-- flat data -/
def D.flat : D → Bool
  | .non => true
  | .bl _ => true
  | .int _ => true
  | .str _ => true
  | _ => false
def eqF : D → D → Bool
  | .non, .non => true
  | .bl a, .bl b => a == b
  | .bl a, .int b => (if a then 1 else 0) == b
  | .int a, .bl b => a == (if b then 1 else 0)
  | .int a, .int b => a == b
  | .str a, .str b => a == b
  | _, _ => false
def keyD : D → Option Key
  | .int i => some (.inl i)
  | .str x => some (.inr x)
  | _ => none
theorem keyD_eq {d : D} {k : Key} (h : keyD d = some k) {C : RC} {Z : Fp} {H : Hp} {v : V} (r : Rd1 C Z H v d) : v = kV k := by
  cases d with
  | int i => cases h; exact r.intI
  | str x => cases h; exact r.strI
  | _ => cases h
section
variable {C : RC} {Z : Fp} {H : Hp}
theorem Sh.flat {v : V} {d : D} (h : Sh C Z H v d) (f : d.flat = true) : flatV v = true := by
  cases h <;> first | rfl | cases f
theorem ShL.flat_all : ∀ {vs : List V} {ds : List D}, ShL C Z H vs ds → ds.all D.flat = true → vs.all flatV = true
  | _, _, .nil, _ => rfl
  | _, _, .cons h r, f => by
    rw [List.all_cons, Bool.and_eq_true] at f ⊢
    exact ⟨h.flat f.1, r.flat_all f.2⟩
theorem eqV_eqF {v w : V} {d e : D} (h : Sh C Z H v d) (h' : Sh C Z H w e) (f : d.flat = true) (f' : e.flat = true) : eqV v w = eqF d e := by
  cases h <;> first | (cases f; done) | (cases h' <;> first | (cases f'; done) | rfl)
theorem inV_eqF {v : V} {d : D} (h : Sh C Z H v d) (f : d.flat = true) : ∀ {vs : List V} {ds : List D}, ShL C Z H vs ds → ds.all D.flat = true → inV v vs = ds.any fun e => eqF e d
  | _, _, .nil, _ => rfl
  | _, _, .cons (v := w) (d := e) h1 r, g => by
    rw [List.all_cons, Bool.and_eq_true] at g
    unfold inV
    rw [List.any_cons, List.any_cons, eqV_eqF h1 h g.1 f]
    have := inV_eqF h f r g.2
    unfold inV at this
    rw [this]
end
def hasK {κ : Type} [DecidableEq κ] (ks : List κ) (k : κ) : Bool := ks.any fun j => decide (j = k)
def inB (d : D) : D → Option Bool
  | .tup ds => if d.flat && ds.all D.flat then some (ds.any fun e => eqF e d) else none
  | .lst ds => if d.flat && ds.all D.flat then some (ds.any fun e => eqF e d) else
      match d.py, D.pyL ds with
      | some p, some qs => if SeqAt.shaped p && SeqAt.shaped (.list qs) then some (qs.any fun q => PyData.eqv q p) else none
      | _, _ => none
  | .dic ks _ => (keyD d).map fun k => hasK ks k
  | .str y => match d with
    | .str x => some (!(Builtin.Str.occurrences y x 0 y.length 1).isEmpty)
    | _ => none
  | _ => none
def inD (d e : D) : Option (D × Nat) := (inB d e).map fun b => (.bl b, 0)
def ninD (d e : D) : Option (D × Nat) := (inB d e).map fun b => (.bl (!b), 0)
def isNB : D → Bool
  | .non => true
  | _ => false
/-- x is e, e a written None, True, False; what is known of other values: they are not None -/
def isD (d e : D) : Option (D × Nat) :=
  match e, d with
  | .non, d => some (.bl (isNB d), 0)
  | .bl b, .bl c => some (.bl (decide (c = b)), 0)
  | _, _ => none
def nisD (d e : D) : Option (D × Nat) :=
  match e, d with
  | .non, d => some (.bl (!isNB d), 0)
  | .bl b, .bl c => some (.bl (!decide (c = b)), 0)
  | _, _ => none

theorem cval {κ : Type} [DecidableEq κ] : ∀ (ks : List κ) (xs : List V) (k : κ), ks.length = xs.length → (valV (ks.zip xs) k).isSome = hasK ks k
  | [], _, _, _ => rfl
  | _ :: _, [], _, h => by simp at h
  | j :: ks, x :: xs, k, h => by
    rw [List.zip_cons_cons]
    unfold hasK
    rw [List.any_cons]
    by_cases e : j = k
    · rw [valV_pos e, e]; simp
    · rw [valV_neg e, cval ks xs k (by simpa using h), decide_eq_false e, Bool.false_or]
      rfl
abbrev rDIn : R2 := fun x y H Q => ∃ a o, y = .ref a ∧ DGet H a x o ∧ Q (.bl o.isSome) H
abbrev rDNin : R2 := fun x y H Q => ∃ a o, y = .ref a ∧ DGet H a x o ∧ Q (.bl (!o.isSome)) H
section
variable {X : Cx}
theorem op_din (hu : X.A.units + 1 < cLine) : OpR X (compareOp .In) rDIn := by
  intro pins s σ H x y v u Q I rx ry h
  obtain ⟨a, o, rfl, g, q⟩ := h
  cases ry
  exact d_in hu I g rx fun s' I' => ⟨.bl _, H, I', rfl, q⟩
theorem op_dnin (hu : X.A.units + 1 < cLine) : OpR X (compareOp .NotIn) rDNin := by
  intro pins s σ H x y v u Q I rx ry h
  obtain ⟨a, o, rfl, g, q⟩ := h
  cases ry
  exact d_notIn hu I g rx fun s' I' => ⟨.bl _, H, I', rfl, q⟩
end
end Pv
end

section
set_option Elab.async false
set_option linter.all false
set_option maxRecDepth 100000
set_option maxHeartbeats 4000000
/-! Pv4: comparisons, tests, subscripts, slices, displays. -/
namespace Pv
open PySem PySem.Spec PyProof.Rows L2

/-- a rule that hands back a bool that is reckoned of the data -/
theorem does_bool {Γ : Ct} {g : D → D → Option Bool} {h : D → D → Option (D × Nat)} {r : R2} (hh : ∀ d e, h d e = (g d e).map fun b => (.bl b, 0))
    (k : ∀ (Z : Fp) (H : Hp) (x y : V) (d e : D) (b : Bool), Rd1 Γ.C Z H x d → Rd1 Γ.C Z H y e → g d e = some b → ∀ Q : VK, Q (.bl b) H → r x y H Q) : Does2 Γ h r := by
  intro σ H Z env φ S x y d e p hx hy hg Q P
  rw [hh] at hg
  obtain ⟨b, e1, rfl⟩ := Option.map_eq_some_iff.mp hg
  exact k Z H x y d e b hx hy e1 Q (Post.here P S (Ow.sh (.bl b)))
abbrev rInA (K : PySem.W.Frag) : R2 := fun x y H Q => rIn K false x y H Q ∨ rInD K x y H Q ∨ rDIn x y H Q ∨ (∃ i j, x = .str i ∧ y = .str j ∧ Q (.bl (!(Builtin.Str.occurrences j i 0 j.length 1).isEmpty)) H)
abbrev rNinA (K : PySem.W.Frag) : R2 := fun x y H Q => rIn K true x y H Q ∨ rNotInD K x y H Q ∨ rDNin x y H Q ∨ (∃ i j, x = .str i ∧ y = .str j ∧ Q (.bl (!(!(Builtin.Str.occurrences j i 0 j.length 1).isEmpty))) H)
theorem inB_sound {Γ : Ct} (G : Good Γ) {Z : Fp} {H : Hp} {x y : V} {d e : D} {b : Bool} (hx : Rd1 Γ.C Z H x d) (hy : Rd1 Γ.C Z H y e) (h : inB d e = some b) :
    (∀ Q : VK, Q (.bl b) H → rInA Γ.X.K x y H Q) ∧ ∀ Q : VK, Q (.bl (!b)) H → rNinA Γ.X.K x y H Q := by
  unfold inB at h
  split at h
  · rename_i ds
    split at h
    · rename_i hf
      cases h
      rw [Bool.and_eq_true] at hf
      obtain ⟨a, vs, rfl, ha, ra⟩ := hy.tupI
      rw [G.hK] at ha
      have hx' : Sh Γ.C Z H x d := by
        cases hx with
        | sh h => exact h
        | lst _ _ => cases hf.1
        | dic _ _ _ => cases hf.1
      have e1 := inV_eqF hx' hf.1 ra hf.2
      exact ⟨fun Q q => .inl ⟨a, vs, rfl, .inr ha, hx'.flat hf.1, ra.flat_all hf.2, by rw [e1]; exact q⟩, fun Q q => .inl ⟨a, vs, rfl, .inr ha, hx'.flat hf.1, ra.flat_all hf.2, by rw [e1]; exact q⟩⟩
    · cases h
  · rename_i ds
    split at h
    · rename_i hf
      cases h
      rw [Bool.and_eq_true] at hf
      obtain ⟨a, vs, rfl, ha, ra⟩ := hy.lstI
      have ha' : SqL Γ.X.K H a vs := SqL.of ha
      have hx' : Sh Γ.C Z H x d := by
        cases hx with
        | sh h => exact h
        | lst _ _ => cases hf.1
        | dic _ _ _ => cases hf.1
      have e1 := inV_eqF hx' hf.1 ra hf.2
      exact ⟨fun Q q => .inl ⟨a, vs, rfl, .inl ha', hx'.flat hf.1, ra.flat_all hf.2, by rw [e1]; exact q⟩, fun Q q => .inl ⟨a, vs, rfl, .inl ha', hx'.flat hf.1, ra.flat_all hf.2, by rw [e1]; exact q⟩⟩
    · split at h
      · rename_i p qs e1 e2
        split at h
        · rename_i hs
          cases h
          rw [Bool.and_eq_true] at hs
          have d1 := hx.dp e1
          have d2 := hy.dp (show (D.lst ds).py = some (.list qs) by unfold D.py; rw [e2]; rfl)
          rw [G.hK] at d1 d2
          exact ⟨fun Q q => .inr (.inl ⟨p, qs, d1, d2, hs.1, hs.2, q⟩), fun Q q => .inr (.inl ⟨p, qs, d1, d2, hs.1, hs.2, q⟩)⟩
        · cases h
      · cases h
  · rename_i ks vs
    obtain ⟨k, e1, rfl⟩ := Option.map_eq_some_iff.mp h
    obtain ⟨a, xs, rfl, ha, hl, ra⟩ := hy.dicI
    have ex := keyD_eq e1 hx
    subst ex
    have g := DGet.k (k := k) ha
    have e2 := cval ks xs k hl
    exact ⟨fun Q q => .inr (.inr (.inl ⟨a, _, rfl, g, by rw [e2]; exact q⟩)), fun Q q => .inr (.inr (.inl ⟨a, _, rfl, g, by rw [e2]; exact q⟩))⟩
  · split at h
    · cases h
      rw [hx.strI, hy.strI]
      exact ⟨fun Q q => .inr (.inr (.inr ⟨_, _, rfl, rfl, q⟩)), fun Q q => .inr (.inr (.inr ⟨_, _, rfl, rfl, q⟩))⟩
    · cases h
  · cases h
abbrev rIsA : R2 := fun x y H Q => (y = .non ∧ Q (.bl (decide (x = .non))) H) ∨ ∃ a b, x = .bl a ∧ y = .bl b ∧ Q (.bl (decide (a = b))) H
abbrev rNisA : R2 := fun x y H Q => (y = .non ∧ Q (.bl (!decide (x = .non))) H) ∨ ∃ a b, x = .bl a ∧ y = .bl b ∧ Q (.bl (!decide (a = b))) H
theorem isNB_eq {C : RC} {Z : Fp} {H : Hp} {x : V} {d : D} (h : Rd1 C Z H x d) : decide (x = .non) = isNB d := by
  cases h with
  | sh h => cases h <;> first | rfl | (apply decide_eq_false; intro e; cases e)
  | lst _ _ => rfl
  | dic _ _ _ => rfl
section
variable {Γ : Ct} {a b c : Expr} {fa fb fc : En → R Opd} {pos : Pos}
theorem does_eq (G : Good Γ) : Does2 Γ eqD (rEqD Γ.X.K) := does_bool (g := eqB) (fun _ _ => rfl) fun Z H x y d e b hx hy h Q q => by
  unfold eqB at h
  split at h
  · rename_i p q' e1 e2
    split at h
    · rename_i hs
      cases h
      rw [Bool.and_eq_true] at hs
      have d1 := hx.dp e1
      have d2 := hy.dp e2
      rw [G.hK] at d1 d2
      exact ⟨p, q', d1, d2, hs.1, hs.2, q⟩
    · cases h
  · cases h
theorem does_ne (G : Good Γ) : Does2 Γ neD (rNeD Γ.X.K) := does_bool (g := fun d e => (eqB d e).map (!·)) (fun d e => by unfold neD; cases eqB d e <;> rfl) fun Z H x y d e b hx hy h Q q => by
  obtain ⟨b', h', eb⟩ := Option.map_eq_some_iff.mp h
  subst eb
  clear h
  have h := h'
  unfold eqB at h
  split at h
  · rename_i p q' e1 e2
    split at h
    · rename_i hs
      have eb := Option.some.inj h
      subst eb
      rw [Bool.and_eq_true] at hs
      have d1 := hx.dp e1
      have d2 := hy.dp e2
      rw [G.hK] at d1 d2
      exact ⟨p, q', d1, d2, hs.1, hs.2, q⟩
    · cases h
  · cases h
theorem does_in (G : Good Γ) : Does2 Γ inD (rInA Γ.X.K) := does_bool (g := inB) (fun _ _ => rfl) fun Z H x y d e b hx hy h Q q => (inB_sound G hx hy h).1 Q q
theorem does_nin (G : Good Γ) : Does2 Γ ninD (rNinA Γ.X.K) := does_bool (g := fun d e => (inB d e).map (!·)) (fun d e => by unfold ninD; cases inB d e <;> rfl) fun Z H x y d e b hx hy h Q q => by
  obtain ⟨b', h', rfl⟩ := Option.map_eq_some_iff.mp h
  exact (inB_sound G hx hy h').2 Q q
theorem does_is : Does2 Γ isD rIsA := by
  intro σ H Z env φ S x y d e p hx hy hg Q P
  unfold isD at hg
  split at hg
  · cases hg
    exact .inl ⟨hy.nonI, by rw [isNB_eq hx]; exact Post.here P S (Ow.sh (.bl _))⟩
  · cases hg
    exact .inr ⟨_, _, hx.blI, hy.blI, Post.here P S (Ow.sh (.bl _))⟩
  · cases hg
theorem does_nis : Does2 Γ nisD rNisA := by
  intro σ H Z env φ S x y d e p hx hy hg Q P
  unfold nisD at hg
  split at hg
  · cases hg
    exact .inl ⟨hy.nonI, by rw [isNB_eq hx]; exact Post.here P S (Ow.sh (.bl _))⟩
  · cases hg
    exact .inr ⟨_, _, hx.blI, hy.blI, Post.here P S (Ow.sh (.bl _))⟩
  · cases hg
theorem does_cmp {f : Int → Int → Bool} : Does2 Γ (cmpD f) (rI0 fun i j => .bl (f i j)) := by
  intro σ H Z env φ S x y d e p hx hy hg Q P
  unfold cmpD at hg
  split at hg
  · cases hg
    rw [hx.intI, hy.intI]
    exact ⟨_, _, rfl, rfl, Post.here P S (Ow.sh (.bl _))⟩
  · cases hg

/-! ### comparisons as values, as tests -/
/-- the operator's rule: what it asks, what it tells -/
structure CmpR (Γ : Ct) (op : CmpOp) (g : D → D → Option (D × Nat)) where
  r : R2
  ok : OpR Γ.X (compareOp op) r
  does : Does2 Γ g r
def cEq (G : Good Γ) {k : Nat} (hr : Room k Γ.X.A) : CmpR Γ .Eq eqD := ⟨_, op_eqD hr.units, does_eq G⟩
def cNe (G : Good Γ) {k : Nat} (hr : Room k Γ.X.A) : CmpR Γ .NotEq neD := ⟨_, op_neD hr.units, does_ne G⟩
def cIn (G : Good Γ) {k : Nat} (hr : Room k Γ.X.A) : CmpR Γ .In inD := ⟨_, op_in_seq.or ((op_inD (by have := hr.un; omega)).or ((op_din (by have := hr.un; omega)).or op_in_str)), does_in G⟩
def cNin (G : Good Γ) {k : Nat} (hr : Room k Γ.X.A) : CmpR Γ .NotIn ninD := ⟨_, op_notIn_seq.or ((op_notInD (by have := hr.un; omega)).or ((op_dnin (by have := hr.un; omega)).or op_notIn_str)), does_nin G⟩
def cIs : CmpR Γ .Is isD := ⟨_, op_isN.or op_is_bl, does_is⟩
def cNis : CmpR Γ .IsNot nisD := ⟨_, op_notN.or op_isnot_bl, does_nis⟩
def cLt : CmpR Γ .Lt (cmpD fun i j => decide (i < j)) := ⟨_, op_lt, does_cmp⟩
def cLe : CmpR Γ .LtE (cmpD fun i j => decide (i ≤ j)) := ⟨_, op_le, does_cmp⟩
def cGt : CmpR Γ .Gt (cmpD fun i j => decide (j < i)) := ⟨_, op_gt, does_cmp⟩
def cGe : CmpR Γ .GtE (cmpD fun i j => decide (j ≤ i)) := ⟨_, op_ge, does_cmp⟩
theorem ev_cmp {op : CmpOp} {g : D → D → Option (D × Nat)} (c : CmpR Γ op g) (ha : EvO Γ a fa) (hb : EvO Γ b fb) (hm : behindInMarks op b = false := by first | exact nomark _ | rfl) : EvE Γ (.Compare a [op] [b] pos) (op2 g fa fb) :=
  ev_op2 (ta := rIsA) (mk := fun x _ => x) ha hb (fun _ _ p q => pe_cmpR c.ok p q hm) c.does
/-- the truth of a result that is True or False -/
def tst (f : En → R (D × Nat)) : En → R Bool := fun env => (f env).bind fun p env1 => match p with
  | (.bl b, _) => .ok b env1
  | _ => .no
theorem Ev.test {f : En → R (D × Nat)} {t : TE} (h : Ev Γ (ER Γ.C) f t) : Ev Γ TR (tst f) (tTest t) := by
  intro σ H Z env φ S Q P
  refine h.bind S P fun p env1 v H1 Z1 φ1 A e1 S1 o dj ev P1 => ?_
  obtain ⟨d, k⟩ := p
  have P2 := P1.mono (Evo.refl.sub (F2 := Tot φ1) fun _ z => .inl z)
  cases d with
  | bl b =>
    have e : v = .bl b := (Rd1.sh (o.im_inv rfl)).blI
    exact ⟨b, e, Post.here P2 S1 rfl⟩
  | _ => exact P2.elim
end
end Pv
end

section
set_option Elab.async false
set_option linter.all false
set_option maxRecDepth 100000
set_option maxHeartbeats 4000000
/-! Pv5: tests, and, or, not, if .. else; argument lists, displays, subscripts, slices, unary minus. -/
namespace Pv
open PySem PySem.Spec PyProof.Rows L2
section
variable {Γ : Ct} {e a b c : Expr} {rest : List Expr} {fa fb fc : En → R Opd} {pos : Pos}

/-! ### tests -/
def EvW (Γ : Ct) (e : Expr) (f : En → R Bool) : Prop := ∃ t, PW Γ.X e t ∧ Ev Γ TR f t
theorem et_cmp {op : CmpOp} {g : D → D → Option (D × Nat)} (c : CmpR Γ op g) (ha : EvO Γ a fa) (hb : EvO Γ b fb) (hm : behindInMarks op b = false := by first | exact nomark _ | rfl) : EvT Γ (.Compare a [op] [b] pos) (tst (op2 g fa fb)) := by
  obtain ⟨ta, a1, a2⟩ := ha
  obtain ⟨tb, b1, b2⟩ := hb
  refine ⟨_, pt_cmpR c.ok a1 b1 hm, Ev.test fun σ H Z env φ S Q P => ?_⟩
  refine a2.bind S P fun oa env1 x H1 Z1 φ1 A e1 S1 q1 dj1 ev1 P1 => ?_
  refine b2.bind S1 (P1.mono (Evo.refl.sub fun _ z => .inl z)) fun ob env2 y H2 Z2 φ2 B e2 S2 q2 dj2 ev2 P2 => ?_
  have P3 := P2.mono (Evo.refl.sub (F2 := Tot φ2) fun _ z => .inl z)
  have q1' : OR Γ.C σ B Z2 H2 oa x := OR.go (S1.ext ev2) q1
  cases ga : oa.get env2 with
  | none => rw [ga] at P3; exact P3.elim
  | some d =>
    cases gb : ob.get env2 with
    | none => rw [ga, gb] at P3; exact P3.elim
    | some e =>
      rw [ga, gb] at P3
      cases gg : g d e with
      | none => simp only [gg] at P3; exact P3.elim
      | some p =>
        simp only [gg] at P3
        exact c.does σ H2 Z2 env2 φ2 S2 x y d e p (Opd.rd S2 q1' ga) (Opd.rd S2 q2 gb) gg Q P3
/-- an expression that is no test by its form -/
abbrev IsVal (X : Cx) (e : Expr) : Prop := ∀ whole, isTrue e X.env whole = (do let v ← whole; standAt e.pos; holding [v] (truthy v))
theorem et_val {f : En → R (D × Nat)} (h : EvE Γ e f) (he : IsVal Γ.X e := by intro _; rfl) : EvT Γ e (tst f) := by
  obtain ⟨t, h1, h2⟩ := h
  exact ⟨_, pt_val h1 he, h2.test⟩
theorem zip_isEmpty : ∀ {ks : List Key} {vs : List V}, ks.length = vs.length → (ks.zip vs).isEmpty = ks.isEmpty
  | [], _, _ => rfl
  | _ :: _, [], h => by simp at h
  | _ :: _, _ :: _, _ => rfl
/-- truth of a value of any kind -/
def truD : D → Option Bool
  | .non => some false
  | .bl b => some b
  | .int i => some (i != 0)
  | .str x => if x.length ≤ lim then some ((x.length : Int) != 0) else none
  | .tup xs => some (!xs.isEmpty)
  | .lst xs => some (!xs.isEmpty)
  | .dic ks _ => some (!ks.isEmpty)
  | _ => none
def tru (fa : En → R Opd) : En → R Bool := fun env => (fa env).bind fun o env1 => match o.get env1 with
  | some d => R.of (truD d) env1
  | none => .no
theorem et_tru (G : Good Γ) (ha : EvO Γ e fa) (he : IsVal Γ.X e := by intro _; rfl) : EvT Γ e (tru fa) := by
  obtain ⟨ta, a1, a2⟩ := ha
  refine ⟨_, pt_truth a1 he, fun σ H Z env φ S Q P => ?_⟩
  refine a2.bind S P fun oa env1 x H1 Z1 φ1 A e1 S1 q1 dj1 ev1 P1 => ?_
  have P3 := P1.mono (Evo.refl.sub (F2 := Tot φ1) fun _ z => .inl z)
  cases ga : oa.get env1 with
  | none => rw [ga] at P3; exact P3.elim
  | some d =>
    rw [ga] at P3
    have rd := Opd.rd S1 q1 ga
    cases gd : truD d with
    | none => simp only [gd] at P3; exact P3.elim
    | some k =>
      simp only [gd] at P3
      refine ⟨k, ?_, Post.here P3 S1 rfl⟩
      unfold truD at gd
      split at gd
      · cases gd; rw [rd.nonI]; rfl
      · cases gd; rw [rd.blI]; rfl
      · cases gd; rw [rd.intI]; rfl
      · split at gd
        · rename_i hz
          cases gd; rw [rd.strI]; exact ⟨lim_le hz, rfl⟩
        · cases gd
      · cases gd
        obtain ⟨p, vs, rfl, hp, r⟩ := rd.tupI
        rw [G.hK] at hp
        refine .inr (.inl ⟨vs, hp, ?_⟩)
        cases r <;> rfl
      · cases gd
        obtain ⟨p, vs, rfl, hp, r⟩ := rd.lstI
        refine .inl ⟨vs, SqL.of hp, ?_⟩
        cases r <;> rfl
      · cases gd
        obtain ⟨p, vs, rfl, hp, hl, r⟩ := rd.dicI
        exact .inr (.inr ⟨_, hp, by rw [zip_isEmpty hl]⟩)
      · cases gd
def notT (f : En → R Bool) : En → R Bool := fun env => (f env).bind fun b env1 => .ok (!b) env1
def andT (f g : En → R Bool) : En → R Bool := fun env => (f env).bind fun b env1 => if b = true then g env1 else .ok false env1
def orT (f g : En → R Bool) : En → R Bool := fun env => (f env).bind fun b env1 => if b = true then .ok true env1 else g env1
variable {f g h : En → R Bool}
theorem et_not (ha : EvT Γ a f) : EvT Γ (.UnaryOp .Not a pos) (notT f) := by
  obtain ⟨t, h1, h2⟩ := ha
  refine ⟨_, pt_not h1, fun σ H Z env φ S Q P => ?_⟩
  refine h2.bind S P fun x env1 y H1 Z1 φ1 A e1 S1 q1 dj1 ev1 P1 => ?_
  cases (show x = y from q1)
  exact Post.here (P1.mono (Evo.refl.sub fun _ z => .inl z)) S1 rfl
theorem ew_and1 (ha : EvT Γ a f) : EvW Γ (.BoolOp .And [a] pos) f := by
  obtain ⟨t, h1, h2⟩ := ha
  exact ⟨_, pw_and1 h1, h2⟩
theorem ew_or1 (ha : EvT Γ a f) : EvW Γ (.BoolOp .Or [a] pos) f := by
  obtain ⟨t, h1, h2⟩ := ha
  exact ⟨_, pw_or1 h1, h2⟩
theorem ew_and (ha : EvT Γ a f) (hb : EvW Γ (.BoolOp .And (b :: rest) pos) g) : EvW Γ (.BoolOp .And (a :: b :: rest) pos) (andT f g) := by
  obtain ⟨t, h1, h2⟩ := ha
  obtain ⟨u, k1, k2⟩ := hb
  refine ⟨_, pw_and h1 k1, fun σ H Z env φ S Q P => ?_⟩
  refine h2.bind S P fun x env1 y H1 Z1 φ1 A e1 S1 q1 dj1 ev1 P1 => ?_
  cases (show x = y from q1)
  have P2 := P1.mono (Evo.refl.sub (F2 := Tot φ1) fun _ z => .inl z)
  cases x with
  | true => exact k2 σ H1 Z1 env1 φ1 S1 Q P2
  | false => exact Post.here P2 S1 rfl
theorem ew_or (ha : EvT Γ a f) (hb : EvW Γ (.BoolOp .Or (b :: rest) pos) g) : EvW Γ (.BoolOp .Or (a :: b :: rest) pos) (orT f g) := by
  obtain ⟨t, h1, h2⟩ := ha
  obtain ⟨u, k1, k2⟩ := hb
  refine ⟨_, pw_or h1 k1, fun σ H Z env φ S Q P => ?_⟩
  refine h2.bind S P fun x env1 y H1 Z1 φ1 A e1 S1 q1 dj1 ev1 P1 => ?_
  cases (show x = y from q1)
  have P2 := P1.mono (Evo.refl.sub (F2 := Tot φ1) fun _ z => .inl z)
  cases x with
  | true => exact Post.here P2 S1 rfl
  | false => exact k2 σ H1 Z1 env1 φ1 S1 Q P2
theorem EvW.t (h : EvW Γ e f) : EvT Γ e f := by
  obtain ⟨t, h1, h2⟩ := h
  exact ⟨t, h1.pt, h2⟩
/-! ### as values -/
def blV (f : En → R Bool) : En → R D := fun env => (f env).bind fun b env1 => .ok (.bl b) env1
/-- a value that is True or False -/
def vbl (f : En → R D) : En → R Bool := fun env => (f env).bind fun p env1 => match p with
  | .bl b => .ok b env1
  | _ => .no
theorem Ev.vtest {f : En → R D} {t : TE} (h : Ev Γ (VR Γ.C) f t) {σ : L2.St} {Z : Fp} {H : Hp} {env : En} {φ : Nat → Fp} (S : SttC Γ Z σ H env φ) {γ δ : Type} {rel : Rel γ δ} {g : Bool → En → R γ} {Q : δ → Hp → Prop} {Q1 : VK}
    (P : Post Γ σ Z H (Tot φ) rel ((vbl f env).bind g) Q)
    (k : ∀ b env1 H1 Z1 φ1, SttC Γ Z1 σ H1 env1 φ1 → Evo Z H (Tot φ) Z1 H1 (Tot φ1) → Post Γ σ Z1 H1 (Tot φ1) rel (g b env1) Q → Q1 (.bl b) H1) : t σ H Q1 := by
  have P' : Post Γ σ Z H (Tot φ) rel ((f env).bind fun p env1 => match p with
    | .bl b => g b env1
    | _ => .no) Q := by
    unfold vbl at P
    cases e : f env with
    | ok p env1 =>
      rw [e] at P
      cases p <;> exact P
    | ex x => rw [e] at P; exact P
    | no => rw [e] at P; exact P
  refine h.bind S P' fun p env1 v H1 Z1 φ1 A e1 S1 o dj ev P1 => ?_
  have P2 := P1.mono (Evo.refl.sub (F2 := Tot φ1) fun _ z => .inl z)
  cases p with
  | bl b =>
    have e : v = .bl b := (Rd1.sh (C := Γ.C) o).blI
    subst e
    exact k b env1 H1 Z1 φ1 S1 (ev.sub fun _ z => .inl z) P2
  | _ => exact P2.elim
def andV (f : En → R D) (g : En → R D) : En → R D := fun env => (vbl f env).bind fun b env1 => if b = true then g env1 else .ok (.bl false) env1
def orV (f : En → R D) (g : En → R D) : En → R D := fun env => (vbl f env).bind fun b env1 => if b = true then .ok (.bl true) env1 else g env1
variable {u v : En → R D}
theorem ev_one {op : BoolOp} (hb : EvV Γ b u) : EvV Γ (.BoolOp op [b] pos) u := by
  obtain ⟨t, h1, h2⟩ := hb
  exact ⟨t, pe_one h1, h2⟩
theorem ev_and (ha : EvV Γ a u) (hb : EvV Γ (.BoolOp .And (b :: rest) pos) v) : EvV Γ (.BoolOp .And (a :: b :: rest) pos) (andV u v) := by
  obtain ⟨t, h1, h2⟩ := ha
  obtain ⟨w, k1, k2⟩ := hb
  refine ⟨_, pe_and h1 k1, fun σ H Z env φ S Q P => ?_⟩
  refine h2.vtest S P fun x env1 H1 Z1 φ1 S1 ev P2 => ?_
  refine ⟨x, rfl, ?_⟩
  cases x with
  | true => exact k2 σ H1 Z1 env1 φ1 S1 Q P2
  | false => exact Post.here P2 S1 (.bl false)
theorem ev_or (ha : EvV Γ a u) (hb : EvV Γ (.BoolOp .Or (b :: rest) pos) v) : EvV Γ (.BoolOp .Or (a :: b :: rest) pos) (orV u v) := by
  obtain ⟨t, h1, h2⟩ := ha
  obtain ⟨w, k1, k2⟩ := hb
  refine ⟨_, pe_or h1 k1, fun σ H Z env φ S Q P => ?_⟩
  refine h2.vtest S P fun x env1 H1 Z1 φ1 S1 ev P2 => ?_
  refine ⟨x, rfl, ?_⟩
  cases x with
  | true => exact Post.here P2 S1 (.bl true)
  | false => exact k2 σ H1 Z1 env1 φ1 S1 Q P2
def notV (f : En → R D) : En → R D := fun env => (vbl f env).bind fun b env1 => .ok (.bl (!b)) env1
theorem ev_not (ha : EvV Γ a u) : EvV Γ (.UnaryOp .Not a pos) (notV u) := by
  obtain ⟨t, h1, h2⟩ := ha
  refine ⟨_, pe_not h1, fun σ H Z env φ S Q P => ?_⟩
  refine h2.vtest S P fun x env1 H1 Z1 φ1 S1 ev P2 => ?_
  exact ⟨x, rfl, Post.here P2 S1 (.bl _)⟩
def iteE {α : Type} (f : En → R Bool) (g h : En → R α) : En → R α := fun env => (f env).bind fun b env1 => if b = true then g env1 else h env1
theorem ev_ite {p q : En → R (D × Nat)} (hc : EvT Γ c f) (ha : EvE Γ a p) (hb : EvE Γ b q) : EvE Γ (.IfExp c a b pos) (iteE f p q) := by
  obtain ⟨t, h1, h2⟩ := hc
  obtain ⟨w, k1, k2⟩ := ha
  obtain ⟨z, l1, l2⟩ := hb
  refine ⟨_, pe_ifExp h1 k1 l1, fun σ H Z env φ S Q P => ?_⟩
  refine h2.bind S P fun x env1 y H1 Z1 φ1 A e1 S1 q1 dj1 ev1 P1 => ?_
  cases (show x = y from q1)
  have P2 := P1.mono (Evo.refl.sub (F2 := Tot φ1) fun _ z => .inl z)
  cases x with
  | true => exact k2 σ H1 Z1 env1 φ1 S1 Q P2
  | false => exact l2 σ H1 Z1 env1 φ1 S1 Q P2
/-- a op1 b op2 c -/
def opC (g g' : D → D → Option (D × Nat)) (fa fb fc : En → R Opd) : En → R (D × Nat) := fun env => (fa env).bind fun oa env1 => (fb env1).bind fun ob env2 =>
  match oa.get env2, ob.get env2 with
  | some x, some y => (match g x y with
    | some (.bl true, _) => (fc env2).bind fun oc env3 => (match ob.get env3, oc.get env3 with
      | some y, some z => R.of (g' y z) env3
      | _, _ => .no)
    | some (.bl false, _) => .ok (.bl false, 0) env2
    | _ => .no)
  | _, _ => .no
/-- a comparison that tells True or False -/
structure CmpB (Γ : Ct) (op : CmpOp) (g : D → D → Option (D × Nat)) extends CmpR Γ op g where
  bool : ∀ (σ : L2.St) (Z : Fp) (H : Hp) (x y : V) (d e : D) (b : Bool) (k : Nat), Rd1 Γ.C Z H x d → Rd1 Γ.C Z H y e → g d e = some (.bl b, k) → ∀ Q : VK, Q (.bl b) H → r x y H Q
theorem cmp_bool {C : RC} {Z : Fp} {H : Hp} {x y : V} {d e : D} {b : Bool} {k : Nat} {f : Int → Int → Bool} (hx : Rd1 C Z H x d) (hy : Rd1 C Z H y e) (h : cmpD f d e = some (.bl b, k)) {Q : VK} (q : Q (.bl b) H) : rI0 (fun i j => .bl (f i j)) x y H Q := by
  unfold cmpD at h
  split at h
  · cases h; rw [hx.intI, hy.intI]; exact ⟨_, _, rfl, rfl, q⟩
  · cases h
def bLt : CmpB Γ .Lt (cmpD fun i j => decide (i < j)) := ⟨cLt, fun _ _ _ _ _ d e b _ hx hy h Q q => cmp_bool hx hy h q⟩
def bLe : CmpB Γ .LtE (cmpD fun i j => decide (i ≤ j)) := ⟨cLe, fun _ _ _ _ _ d e b _ hx hy h Q q => cmp_bool hx hy h q⟩
def bGt : CmpB Γ .Gt (cmpD fun i j => decide (j < i)) := ⟨cGt, fun _ _ _ _ _ d e b _ hx hy h Q q => cmp_bool hx hy h q⟩
def bGe : CmpB Γ .GtE (cmpD fun i j => decide (j ≤ i)) := ⟨cGe, fun _ _ _ _ _ d e b _ hx hy h Q q => cmp_bool hx hy h q⟩
theorem eq_bool (G : Good Γ) {Z : Fp} {H : Hp} {x y : V} {d e : D} {b : Bool} {k : Nat} (hx : Rd1 Γ.C Z H x d) (hy : Rd1 Γ.C Z H y e) (h : eqD d e = some (.bl b, k)) {Q : VK} (q : Q (.bl b) H) : rEqD Γ.X.K x y H Q := by
  unfold eqD at h
  obtain ⟨b', h, e'⟩ := Option.map_eq_some_iff.mp h
  cases e'
  unfold eqB at h
  split at h
  · rename_i p q' e1 e2
    split at h
    · rename_i hs
      cases h
      rw [Bool.and_eq_true] at hs
      have d1 := hx.dp e1
      have d2 := hy.dp e2
      rw [G.hK] at d1 d2
      exact ⟨p, q', d1, d2, hs.1, hs.2, q⟩
    · cases h
  · cases h
def bEq (G : Good Γ) {k : Nat} (hr : Room k Γ.X.A) : CmpB Γ .Eq eqD := ⟨cEq G hr, fun _ _ _ _ _ d e b _ hx hy h Q q => eq_bool G hx hy h q⟩
theorem Ev.chain {op op' : CmpOp} {g g' : D → D → Option (D × Nat)} (k : CmpB Γ op g) (k' : CmpR Γ op' g') {ta tb tc : TE} (a2 : Ev Γ (OR Γ.C) fa ta) (b2 : Ev Γ (OR Γ.C) fb tb) (c2 : Ev Γ (OR Γ.C) fc tc) : Ev Γ (ER Γ.C) (opC g g' fa fb fc) (tChain k.r k'.r ta tb tc) := by
  intro σ H Z env φ S Q P
  refine a2.bind S P fun oa env1 x H1 Z1 φ1 A e1 S1 q1 dj1 ev1 P1 => ?_
  refine b2.bind S1 (P1.mono (Evo.refl.sub fun _ z => .inl z)) fun ob env2 y H2 Z2 φ2 B e2 S2 q2 dj2 ev2 P2 => ?_
  have P3 := P2.mono (Evo.refl.sub (F2 := Tot φ2) fun _ z => .inl z)
  have q1' : OR Γ.C σ B Z2 H2 oa x := OR.go (S1.ext ev2) q1
  cases ga : oa.get env2 with
  | none => rw [ga] at P3; exact P3.elim
  | some d =>
    cases gb : ob.get env2 with
    | none => rw [ga, gb] at P3; exact P3.elim
    | some e =>
      simp only [ga, gb] at P3
      have ra := Opd.rd S2 q1' ga
      have rb := Opd.rd S2 q2 gb
      cases gg : g d e with
      | none => rw [gg] at P3; exact P3.elim
      | some p =>
        obtain ⟨p, m⟩ := p
        rw [gg] at P3
        cases p with
        | bl w =>
          refine k.bool σ Z2 H2 x y d e w m ra rb gg _ ⟨w, rfl, ?_⟩
          cases w with
          | false => exact Post.here P3 S2 (Ow.sh (.bl false))
          | true =>
            rw [if_pos rfl]
            refine c2.bind S2 P3 fun oc env3 z H3 Z3 φ3 B3 e3 S3 q3 dj3 ev3 P4 => ?_
            have P5 := P4.mono (Evo.refl.sub (F2 := Tot φ3) fun _ z => .inl z)
            have q2' : OR Γ.C σ B3 Z3 H3 ob y := OR.go (S2.ext ev3) q2
            cases gb3 : ob.get env3 with
            | none => rw [gb3] at P5; exact P5.elim
            | some d3 =>
              cases gc3 : oc.get env3 with
              | none => rw [gb3, gc3] at P5; exact P5.elim
              | some f3 =>
                simp only [gb3, gc3] at P5
                cases g3 : g' d3 f3 with
                | none => rw [g3] at P5; exact P5.elim
                | some p3 =>
                  rw [g3] at P5
                  exact k'.does σ H3 Z3 env3 φ3 S3 y z d3 f3 p3 (Opd.rd S3 q2' gb3) (Opd.rd S3 q3 gc3) g3 Q P5
        | _ => exact P3.elim
theorem ev_chain {op op' : CmpOp} {g g' : D → D → Option (D × Nat)} (k : CmpB Γ op g) (k' : CmpR Γ op' g') (ha : EvO Γ a fa) (hb : EvO Γ b fb) (hc : EvO Γ c fc) (hm : lastMarks [op, op'] [b, c] = false := by with_unfolding_all rfl) : EvE Γ (.Compare a [op, op'] [b, c] pos) (opC g g' fa fb fc) := by
  obtain ⟨ta, a1, a2⟩ := ha
  obtain ⟨tb, b1, b2⟩ := hb
  obtain ⟨tc, c1, c2⟩ := hc
  exact ⟨_, pe_chain k.ok k'.ok a1 b1 c1 hm, Ev.chain k k' a2 b2 c2⟩
theorem et_chain {op op' : CmpOp} {g g' : D → D → Option (D × Nat)} (k : CmpB Γ op g) (k' : CmpR Γ op' g') (ha : EvO Γ a fa) (hb : EvO Γ b fb) (hc : EvO Γ c fc) (hm : lastMarks [op, op'] [b, c] = false := by with_unfolding_all rfl) : EvT Γ (.Compare a [op, op'] [b, c] pos) (tst (opC g g' fa fb fc)) := by
  obtain ⟨ta, a1, a2⟩ := ha
  obtain ⟨tb, b1, b2⟩ := hb
  obtain ⟨tc, c1, c2⟩ := hc
  exact ⟨_, pt_chain k.ok k'.ok a1 b1 c1 hm, (Ev.chain k k' a2 b2 c2).test⟩

/-! ### argument lists, displays -/
def aNil : En → R (List D) := fun env => .ok [] env
def aCons (u : En → R D) (r : En → R (List D)) : En → R (List D) := fun env => (u env).bind fun d env1 => (r env1).bind fun ds env2 => .ok (d :: ds) env2
theorem ea_nil : EvA Γ [] aNil := ⟨_, pa_nil, fun σ H Z env φ S Q P => Post.here P S .nil⟩
theorem ea_cons {es : List Expr} {r : En → R (List D)} (ha : EvV Γ e u) (hr : EvA Γ es r) (hs : starEach (e :: es) Γ.X.env = (false, eval e Γ.X.env) :: starEach es Γ.X.env := by rfl) : EvA Γ (e :: es) (aCons u r) := by
  obtain ⟨t, h1, h2⟩ := ha
  obtain ⟨w, k1, k2⟩ := hr
  refine ⟨_, pa_cons h1 k1 hs, fun σ H Z env φ S Q P => ?_⟩
  refine h2.bind S P fun d env1 x H1 Z1 φ1 A e1 S1 q1 dj1 ev1 P1 => ?_
  refine k2.bind S1 (P1.mono (Evo.refl.sub fun _ z => .inl z)) fun ds env2 xs H2 Z2 φ2 B e2 S2 q2 dj2 ev2 P2 => ?_
  exact Post.here (P2.mono (Evo.refl.sub fun _ z => .inl z)) S2 (.cons (Sh.ext (S1.ext ev2) _ _ q1) q2)
def tupE (r : En → R (List D)) : En → R D := fun env => (r env).bind fun ds env1 => if ds.length ≤ lim then .ok (.tup ds) env1 else .no
def lstE (r : En → R (List D)) : En → R (D × Nat) := fun env => (r env).bind fun ds env1 => if ds.length ≤ lim then .ok (.lst ds, 1) env1 else .no
theorem ev_tup {es : List Expr} {r : En → R (List D)} {k : Nat} (h : EvA Γ es r) : EvV Γ (.Tuple es k pos) (tupE r) := by
  obtain ⟨t, h1, h2⟩ := h
  refine ⟨_, pe_tup h1, fun σ H Z env φ S Q P => ?_⟩
  refine h2.bind S P fun ds env1 xs H1 Z1 φ1 A e1 S1 q1 dj1 ev1 P1 => ?_
  have P2 := P1.mono (Evo.refl.sub (F2 := Tot φ1) fun _ z => .inl z)
  have r : ShL Γ.C Z1 H1 xs ds := q1
  by_cases hz : ds.length ≤ lim
  · rw [if_pos hz] at P2
    refine ⟨by rw [r.length]; exact lim_le hz, fun p hp => ?_⟩
    exact Post.newT P2 S1 hp (.tup (SqT.of upd_same) (ShL.ext (Ext.new hp) _ _ r))
  · rw [if_neg hz] at P2; exact P2.elim
theorem ev_lst {es : List Expr} {r : En → R (List D)} (h : EvA Γ es r) : EvE Γ (.List es pos) (lstE r) := by
  obtain ⟨t, h1, h2⟩ := h
  refine ⟨_, pe_lst h1, fun σ H Z env φ S Q P => ?_⟩
  refine h2.bind S P fun ds env1 xs H1 Z1 φ1 A e1 S1 q1 dj1 ev1 P1 => ?_
  have P2 := P1.mono (Evo.refl.sub (F2 := Tot φ1) fun _ z => .inl z)
  have r : ShL Γ.C Z1 H1 xs ds := q1
  by_cases hz : ds.length ≤ lim
  · rw [if_pos hz] at P2
    refine ⟨by rw [r.length]; exact lim_le hz, fun p hp => ?_⟩
    exact Post.newL P2 S1 hp (Ow.lst1 upd_same (ShL.ext (Ext.new hp) _ _ r))
  · rw [if_neg hz] at P2; exact P2.elim
/-- {} (keys will be ints or texts) -/
def dicE : En → R (D × Nat) := fun env => .ok (.dic [] [], 1) env
theorem ev_dic : EvE Γ (.Dict [] [] pos) dicE :=
  ⟨_, pe_dnewK, fun σ H Z env φ S Q P p hp => Post.newL P S hp (Ow.dic1 (ks := []) (xs := []) upd_same rfl .nil)⟩
/-! ### unary minus -/
def op1 (g : D → Option (D × Nat)) (fa : En → R Opd) : En → R (D × Nat) := fun env => (fa env).bind fun oa env1 => match oa.get env1 with
  | some x => R.of (g x) env1
  | none => .no
def Does1 (Γ : Ct) (g : D → Option (D × Nat)) (r : V → Hp → VK → Prop) : Prop :=
  ∀ σ H Z env φ, SttC Γ Z σ H env φ → ∀ x d p, Rd1 Γ.C Z H x d → g d = some p → ∀ Q : VK, Post Γ σ Z H (Tot φ) (ER Γ.C σ) (.ok p env) Q → r x H Q
theorem Ev.op1 {g : D → Option (D × Nat)} {r : V → Hp → VK → Prop} {t : TE} (a2 : Ev Γ (OR Γ.C) fa t) (hr : Does1 Γ g r) : Ev Γ (ER Γ.C) (op1 g fa) (tUn r t) := by
  intro σ H Z env φ S Q P
  refine a2.bind S P fun oa env1 x H1 Z1 φ1 A e1 S1 q1 dj1 ev1 P1 => ?_
  have P3 := P1.mono (Evo.refl.sub (F2 := Tot φ1) fun _ z => .inl z)
  cases ga : oa.get env1 with
  | none => rw [ga] at P3; exact P3.elim
  | some d =>
    simp only [ga] at P3
    cases gg : g d with
    | none => rw [gg] at P3; exact P3.elim
    | some p =>
      rw [gg] at P3
      exact hr σ H1 Z1 env1 φ1 S1 x d p (Opd.rd S1 q1 ga) gg Q P3
def negD : D → Option (D × Nat)
  | .int i => some (.int (-i), 0)
  | _ => none
theorem ev_neg (ha : EvO Γ a fa) : EvE Γ (.UnaryOp .USub a pos) (op1 negD fa) := by
  obtain ⟨t, h1, h2⟩ := ha
  refine ⟨_, pe_un un_neg h1, h2.op1 fun σ H Z env φ S x d p hx hg Q P => ?_⟩
  unfold negD at hg
  split at hg
  · cases hg
    rw [hx.intI]
    exact ⟨_, rfl, Post.here P S (Ow.sh (.int _))⟩
  · cases hg

/-! ### subscripts -/
def keyV (ks : List Key) (vs : List D) (k : Key) : Option D := ((ks.zip vs).find? fun p => decide (p.1 = k)).map (·.2)
theorem keyV_val {C : RC} {Z : Fp} {H : Hp} : ∀ {ks : List Key} {xs : List V} {ds : List D} {k : Key} {d : D}, ShL C Z H xs ds → keyV ks ds k = some d → ∃ x, valV (ks.zip xs) k = some x ∧ Sh C Z H x d
  | [], _, _, _, _, _, h => by simp [keyV] at h
  | _ :: _, _, _, _, _, .nil, h => by simp [keyV] at h
  | j :: ks, _, _, k, d, .cons (v := x) (d := d') h1 r, h => by
    rw [List.zip_cons_cons]
    unfold keyV at h
    rw [List.zip_cons_cons, List.find?_cons] at h
    by_cases e : j = k
    · rw [valV_pos e]
      simp only [e, decide_true, Option.map_some, Option.some.injEq] at h
      exact ⟨x, rfl, h ▸ h1⟩
    · rw [valV_neg e]
      simp only [e, decide_false] at h
      exact keyV_val r h
def idxD : D → D → Option (D × Nat)
  | .tup xs, .int i => (atI xs i).map (·, 0)
  | .lst xs, .int i => (atI xs i).map (·, 0)
  | .scr ns, .int i => (atI ns i).map fun n => (.int n, 0)
  | .str z, .int i => if z.length ≤ lim then (atI z.cps.toList i).map fun c => (.str ⟨#[c]⟩, 0) else none
  | .dic ks vs, d => (keyD d).bind fun k => (keyV ks vs k).map (·, 0)
  | _, _ => none
theorem atI_sh {C : RC} {Z : Fp} {H : Hp} {xs : List V} {ds : List D} {i : Int} {d : D} (r : ShL C Z H xs ds) (h : atI ds i = some d) : ∃ x, atI xs i = some x ∧ Sh C Z H x d := by
  unfold atI at h ⊢
  rw [r.length]
  cases e : ixN ds.length i with
  | none => rw [e] at h; cases h
  | some j => rw [e] at h; exact r.get' h
abbrev rIxA (K : PySem.W.Frag) : R2 := fun x y H Q => rIx K x y H Q ∨ ∃ a v, x = .ref a ∧ DGet H a y (some v) ∧ Q v H
theorem ix_dict {X : Cx} (hu : X.A.units + 1 < cLine) : IxR X (fun x y H Q => ∃ a v, x = .ref a ∧ DGet H a y (some v) ∧ Q v H) := by
  intro value slice pins s σ H x y v u Q I rx ry h hs
  obtain ⟨a, z, rfl, g, q⟩ := h
  cases rx
  have hT := dict_typeIs I g
  unfold subscriptTail
  refine wpAny_bind ?_
  rw [getitemInPython_of_ne hT.not_modules]
  refine wpAny_bind (wpAny_specialOf hT PySem.F.slot_dict_getitem.lookup ?_)
  have fin : wpAny (model X.prog X.w) X.A (subscripted slice false (.ref a) u) (fun r s₃ => wpAny (model X.prog X.w) X.A (letTemporaryGo value (.ref a) r >>= fun _ => pure r) (EP X pins σ Q) X.xe s₃) X.xe s := by
    rw [hs]
    exact wpAny_operating (d_getItem hu I g ry fun w' s' I' r' => wpAny_bind (wpAny_letTemporaryGo (wpAny_pure ⟨z, H, I', r', q⟩)))
  first
    | exact wpAny_pure (wpAny_bind fin)
    | exact wpAny_bind (wpAny_pure (wpAny_bind fin))
    | exact wpAny_bind fin
end
end Pv
end

section
set_option Elab.async false
set_option linter.all false
set_option maxRecDepth 100000
set_option maxHeartbeats 4000000
/-! Pv6: subscripts, slices, calls of built-ins. -/
namespace Pv
open PySem PySem.Spec PyProof.Rows L2

theorem CallR.or {X : Cx} {f : Value} {r r' : List V → Hp → VK → Prop} (h : CallR X f r) (h' : CallR X f r') : CallR X f (fun xs H Q => r xs H Q ∨ r' xs H Q) := by
  intro pins s σ H xs us Q I rx q
  rcases q with q | q
  · exact h pins s σ H xs us Q I rx q
  · exact h' pins s σ H xs us Q I rx q
section
variable {Γ : Ct} {e a b c : Expr} {fa fb fc : En → R Opd} {pos p q : Pos} {x : Str}
theorem does_idx (G : Good Γ) : Does2 Γ idxD (rIxA Γ.X.K) := by
  intro σ H Z env φ S x y d e p hx hy hg Q P
  unfold idxD at hg
  split at hg
  · rename_i xs i
    obtain ⟨z, e1, rfl⟩ := Option.map_eq_some_iff.mp hg
    obtain ⟨a, us, rfl, ha, ra⟩ := hx.tupI
    obtain ⟨w, h1, h2⟩ := atI_sh ra e1
    rw [G.hK] at ha
    rw [hy.intI]
    exact .inl (.inr (.inl ⟨a, us, i, w, rfl, rfl, ha, h1, Post.here P S (Ow.sh h2)⟩))
  · rename_i xs i
    obtain ⟨z, e1, rfl⟩ := Option.map_eq_some_iff.mp hg
    obtain ⟨a, us, rfl, ha, ra⟩ := hx.lstI
    obtain ⟨w, h1, h2⟩ := atI_sh ra e1
    rw [hy.intI]
    exact .inl (.inl ⟨a, us, i, w, rfl, rfl, SqL.of ha, h1, Post.here P S (Ow.sh h2)⟩)
  · rename_i ns i
    obtain ⟨z, e1, rfl⟩ := Option.map_eq_some_iff.mp hg
    obtain ⟨a, rfl, ha⟩ := hx.scrI
    obtain ⟨w, h1, h2⟩ := atI_sh (C := Γ.C) (Z := Z) (H := H) (shl_ints (ns := ns)) (i := i) (d := .int z) (by
      unfold atI at e1 ⊢
      rw [List.length_map]
      cases q : ixN ns.length i with
      | none => rw [q] at e1; cases e1
      | some j =>
        rw [q] at e1
        have e1 : ns[j]? = some z := e1
        show (ns.map D.int)[j]? = _
        rw [List.getElem?_map, e1]; rfl)
    rw [G.hK] at ha
    rw [hy.intI]
    exact .inl (.inl ⟨a, _, i, w, rfl, rfl, ha, h1, Post.here P S (Ow.sh h2)⟩)
  · rename_i z i
    split at hg
    · rename_i hz
      obtain ⟨c, e1, rfl⟩ := Option.map_eq_some_iff.mp hg
      rw [hx.strI, hy.intI]
      exact .inl (.inr (.inr ⟨z, i, c, rfl, rfl, lim_le hz, e1, Post.here P S (Ow.sh (.str _))⟩))
    · cases hg
  · rename_i ks vs d
    obtain ⟨k, e1, e2⟩ := Option.bind_eq_some_iff.mp hg
    obtain ⟨z, e3, rfl⟩ := Option.map_eq_some_iff.mp e2
    obtain ⟨a, us, rfl, ha, hl, ra⟩ := hx.dicI
    obtain ⟨w, h1, h2⟩ := keyV_val ra e3
    have ey := keyD_eq e1 hy
    subst ey
    have g := DGet.k (k := k) ha
    rw [h1] at g
    exact .inr ⟨a, w, rfl, g, Post.here P S (Ow.sh h2)⟩
  · cases hg
theorem ev_idx (G : Good Γ) {k : Nat} (hr : Room k Γ.X.A) (ha : EvO Γ a fa) (hb : EvO Γ b fb) (hs : PlainIx b := by exact fun _ _ => rfl) : EvE Γ (.Subscript a b pos) (op2 idxD fa fb) :=
  ev_op2 (ta := rIsA) (mk := fun x _ => x) ha hb (fun _ _ p q => pe_ix (ix_seq.or (ix_dict (by have := hr.un; omega))) p q hs) (does_idx G)

/-! ### slices -/
def cutD {α : Type} (xs : List α) (lo hi : Option Int) : List α := (xs.drop (HT.sIx xs.length 0 lo)).take (HT.sIx xs.length xs.length hi - HT.sIx xs.length 0 lo)
theorem cut_sh {C : RC} {Z : Fp} {H : Hp} {us : List V} {ds : List D} (r : ShL C Z H us ds) (lo hi : Option Int) : ShL C Z H (cutV us lo hi) (cutD ds lo hi) := by
  unfold cutV cutD
  rw [r.length]
  exact (r.drop _).take _
def slD (d : D) (lo hi : Option Int) : Option (D × Nat) :=
  match d with
  | .tup xs => some (.tup (cutD xs lo hi), 0)
  | .lst xs => some (.lst (cutD xs lo hi), 1)
  | .scr ns => some (.lst ((cutD ns lo hi).map D.int), 1)
  | _ => none
/-- a part of a slice -/
def EvP (Γ : Ct) (e : Option Expr) (f : En → R (Option Int)) : Prop := ∃ t, PO Γ.X e t ∧ Ev Γ (fun _ _ _ _ (i : Option Int) (j : Option Int) => i = j) f t
def pNone : En → R (Option Int) := fun env => .ok none env
def pSome (f : En → R D) : En → R (Option Int) := fun env => (f env).bind fun d env1 => match d with
  | .int i => .ok (some i) env1
  | _ => .no
theorem ep_none : EvP Γ none pNone := ⟨_, po_none, fun σ H Z env φ S Q P => Post.here P S rfl⟩
theorem ep_some {f : En → R D} (h : EvV Γ e f) : EvP Γ (some e) (pSome f) := by
  obtain ⟨t, h1, h2⟩ := h
  refine ⟨_, po_some h1, fun σ H Z env φ S Q P => ?_⟩
  refine h2.bind S P fun d env1 v H1 Z1 φ1 A e1 S1 o dj ev P1 => ?_
  have P2 := P1.mono (Evo.refl.sub (F2 := Tot φ1) fun _ z => .inl z)
  cases d with
  | int i => exact ⟨i, (Rd1.sh (C := Γ.C) o).intI, Post.here P2 S1 rfl⟩
  | _ => exact P2.elim
def opS (fa : En → R Opd) (fl fu : En → R (Option Int)) : En → R (D × Nat) := fun env => (fa env).bind fun oa env1 => (fl env1).bind fun l env2 => (fu env2).bind fun u env3 =>
  match oa.get env3 with
  | some d => R.of (slD d l u) env3
  | none => .no
abbrev rSlAll (K : PySem.W.Frag) : V → Option Int → Option Int → Hp → VK → Prop := fun x lo hi H Q => rSlL K x lo hi H Q ∨ rSlA K x lo hi H Q
theorem ev_slice (G : Good Γ) {lo hi : Option Expr} {fl fu : En → R (Option Int)} (ha : EvO Γ a fa) (hl : EvP Γ lo fl) (hu : EvP Γ hi fu) : EvE Γ (.Subscript a (.Slice lo hi none q) pos) (opS fa fl fu) := by
  obtain ⟨ta, a1, a2⟩ := ha
  obtain ⟨tl, l1, l2⟩ := hl
  obtain ⟨tu, u1, u2⟩ := hu
  refine ⟨_, pe_slice (sl_list.or sl_tupA) a1 l1 u1, fun σ H Z env φ S Q P => ?_⟩
  refine a2.bind S P fun oa env1 x H1 Z1 φ1 A e1 S1 q1 dj1 ev1 P1 => ?_
  refine l2.bind S1 (P1.mono (Evo.refl.sub fun _ z => .inl z)) fun l env2 l' H2 Z2 φ2 B e2 S2 q2 dj2 ev2 P2 => ?_
  cases (show l = l' from q2)
  refine u2.bind S2 (P2.mono (Evo.refl.sub fun _ z => .inl z)) fun u env3 u' H3 Z3 φ3 B3 e3 S3 q3 dj3 ev3 P3 => ?_
  cases (show u = u' from q3)
  have P4 := P3.mono (Evo.refl.sub (F2 := Tot φ3) fun _ z => .inl z)
  have q1' : OR Γ.C σ B3 Z3 H3 oa x := OR.go (S2.ext ev3) (OR.go (B := B) (S1.ext ev2) q1)
  cases ga : oa.get env3 with
  | none => rw [ga] at P4; exact P4.elim
  | some d =>
    simp only [ga] at P4
    have rd := Opd.rd S3 q1' ga
    unfold slD at P4
    split at P4
    · rename_i xs
      obtain ⟨z, us, rfl, hz, r⟩ := rd.tupI
      have hz' := hz
      rw [G.hK] at hz'
      refine .inr ⟨z, us, rfl, hz', fun hw => ?_, fun hw p hp => ?_⟩
      · have e : cutD xs l u = xs := by
          unfold cutD
          rw [← r.length, hw.1, hw.2, List.drop_zero, Nat.sub_zero, r.length, List.take_length]
        rw [e] at P4
        exact Post.here P4 S3 (Ow.sh (.tup hz r))
      · exact Post.newT P4 S3 hp (Ow.sh (.tup (SqT.of upd_same) ((cut_sh r l u).ext (Ext.new hp))))
    · rename_i xs
      obtain ⟨z, us, rfl, hz, r⟩ := rd.lstI
      exact .inl ⟨z, us, rfl, SqL.of hz, fun p hp => Post.newL P4 S3 hp (Ow.lst1 upd_same ((cut_sh r l u).ext (Ext.new hp)))⟩
    · rename_i ns
      obtain ⟨z, rfl, hz⟩ := rd.scrI
      rw [G.hK] at hz
      refine .inl ⟨z, _, rfl, hz, fun p hp => ?_⟩
      have r : ShL Γ.C Z3 H3 (cutV (ns.map V.int) l u) ((cutD ns l u).map D.int) := by
        have e : cutV (ns.map V.int) l u = (cutD ns l u).map V.int := by
          unfold cutV cutD
          rw [List.length_map, List.map_take, List.map_drop]
        rw [e]
        exact shl_ints
      exact Post.newL P4 S3 hp (Ow.lst1 upd_same (r.ext (Ext.new hp)))
    · exact P4.elim

/-! ### calls of built-ins -/
theorem ev_b1 {id : String} {r : List V → Hp → VK → Prop} {g : D → Option (D × Nat)} (hc : CallR Γ.X (.builtin id) r) (hr : Does1 Γ g (fun v H Q => r [v] H Q)) (hg : Gl Γ.X x) (hm : Γ.X.mg x = none) (hv : bootBuiltins x = some (.builtin id)) (ha : EvO Γ a fa)
    (hn : x ≠ "__name__" := by decide) (hdb : (x == ("__debug__" : Str)) = false := by decide) (hs : starEach [a] Γ.X.env = [(false, eval a Γ.X.env)] := by rfl) : EvE Γ (.Call (.Name x p) [a] [] pos) (op1 g fa) := by
  obtain ⟨t, h1, h2⟩ := ha
  have pa : PA Γ.X [a] (tCons t tNil) := pa_cons h1 pa_nil hs
  exact ⟨_, pe_callB hc hg hm hv pa hn hdb hs rfl, h2.op1 hr⟩
theorem ev_t1 {T : String} {r : List V → Hp → VK → Prop} {g : D → Option (D × Nat)} (hc : CallR Γ.X (.type T) r) (hr : Does1 Γ g (fun v H Q => r [v] H Q)) (hg : Gl Γ.X x) (hm : Γ.X.mg x = none) (hv : bootBuiltins x = some (.type T)) (ha : EvO Γ a fa)
    (hn : x ≠ "__name__" := by decide) (hdb : (x == ("__debug__" : Str)) = false := by decide) (hs : starEach [a] Γ.X.env = [(false, eval a Γ.X.env)] := by rfl) : EvE Γ (.Call (.Name x p) [a] [] pos) (op1 g fa) := by
  obtain ⟨t, h1, h2⟩ := ha
  have pa : PA Γ.X [a] (tCons t tNil) := pa_cons h1 pa_nil hs
  exact ⟨_, pe_callTy hc hg hm hv pa hn hdb hs rfl, h2.op1 hr⟩
theorem ev_b2 {id : String} {r : List V → Hp → VK → Prop} {g : D → D → Option (D × Nat)} (hc : CallR Γ.X (.builtin id) r) (hr : Does2 Γ g (fun v w H Q => r [v, w] H Q)) (hg : Gl Γ.X x) (hm : Γ.X.mg x = none) (hv : bootBuiltins x = some (.builtin id)) (ha : EvO Γ a fa) (hb : EvO Γ b fb)
    (hn : x ≠ "__name__" := by decide) (hdb : (x == ("__debug__" : Str)) = false := by decide) (hs : starEach [a, b] Γ.X.env = [(false, eval a Γ.X.env), (false, eval b Γ.X.env)] := by rfl) (hs2 : starEach [b] Γ.X.env = [(false, eval b Γ.X.env)] := by rfl) : EvE Γ (.Call (.Name x p) [a, b] [] pos) (op2 g fa fb) := by
  refine ev_op2 (ta := rIsA) (mk := fun x _ => x) ha hb (fun ta tb h1 h2 => ?_) hr
  have pb : PA Γ.X [b] (tCons tb tNil) := pa_cons h2 pa_nil hs2
  have pa : PA Γ.X [a, b] (tCons ta (tCons tb tNil)) := pa_cons h1 pb (by rw [hs, hs2])
  exact pe_callB hc hg hm hv pa hn hdb (by rw [hs, hs2]) (by rw [hs2]; rfl)
theorem does1_here {g : D → Option (D × Nat)} {r : V → Hp → VK → Prop} (k : ∀ (Z : Fp) (H : Hp) (x : V) (d e : D), Rd1 Γ.C Z H x d → g d = some (e, 0) → ∀ Q : VK, (∀ v, Sh Γ.C Z H v e → Q v H) → r x H Q) (h0 : ∀ d p, g d = some p → p.2 = 0) : Does1 Γ g r := by
  intro σ H Z env φ S x d p hx hg Q P
  obtain ⟨e, n⟩ := p
  have en := h0 d _ hg
  simp only at en
  subst en
  exact k Z H x d e hx hg Q fun v hv => Post.here P S (Ow.sh hv)

def lenD : D → Option (D × Nat)
  | .tup xs => some (.int xs.length, 0)
  | .lst xs => some (.int xs.length, 0)
  | .scr ns => some (.int ns.length, 0)
  | .str z => if z.length ≤ lim then some (.int z.length, 0) else none
  | .dic ks _ => some (.int ks.length, 0)
  | _ => none
abbrev rLenA (K : PySem.W.Frag) : List V → Hp → VK → Prop := fun xs H Q => (∃ p ys, xs = [.ref p] ∧ (SqL K H p ys ∨ SqT K H p ys) ∧ Q (.int ys.length) H) ∨ (∃ z, xs = [.str z] ∧ z.length ≤ sizeLine ∧ Q (.int z.length) H) ∨ (∃ a kvs, xs = [V.ref a] ∧ H a = some (.dK kvs) ∧ Q (.int kvs.length) H)
theorem does_len (G : Good Γ) : Does1 Γ lenD (fun v H Q => rLenA Γ.X.K [v] H Q) := by
  intro σ H Z env φ S x d p hx hg Q P
  unfold lenD at hg
  split at hg
  · cases hg
    obtain ⟨a, us, rfl, ha, r⟩ := hx.tupI
    rw [G.hK] at ha
    exact .inl ⟨a, us, rfl, .inr ha, by rw [r.length]; exact Post.here P S (Ow.sh (.int _))⟩
  · cases hg
    obtain ⟨a, us, rfl, ha, r⟩ := hx.lstI
    exact .inl ⟨a, us, rfl, .inl (SqL.of ha), by rw [r.length]; exact Post.here P S (Ow.sh (.int _))⟩
  · cases hg
    obtain ⟨a, rfl, ha⟩ := hx.scrI
    rw [G.hK] at ha
    exact .inl ⟨a, _, rfl, .inl ha, by rw [List.length_map]; exact Post.here P S (Ow.sh (.int _))⟩
  · split at hg
    · rename_i hz
      cases hg
      rw [hx.strI]
      exact .inr (.inl ⟨_, rfl, lim_le hz, Post.here P S (Ow.sh (.int _))⟩)
    · cases hg
  · cases hg
    obtain ⟨a, us, rfl, ha, hl, r⟩ := hx.dicI
    refine .inr (.inr ⟨a, _, rfl, ha, ?_⟩)
    rw [List.length_zip, hl, Nat.min_self, ← hl]
    exact Post.here P S (Ow.sh (.int _))
  · cases hg
theorem ev_len (G : Good Γ) (hg : Gl Γ.X "len") (hm : Γ.X.mg "len" = none) (ha : EvO Γ a fa) (hs : starEach [a] Γ.X.env = [(false, eval a Γ.X.env)] := by rfl) : EvE Γ (.Call (.Name "len" p) [a] [] pos) (op1 lenD fa) :=
  ev_b1 (CallR.or call_len_seq (CallR.or call_len_str call_lenD)) (does_len G) hg hm PySem.boot_len ha (hs := hs)

def intD : D → Option (D × Nat)
  | .int i => some (.int i, 0)
  | .bl b => some (.int (if b then 1 else 0), 0)
  | _ => none
theorem ev_int1 (hg : Gl Γ.X "int") (hm : Γ.X.mg "int" = none) (ha : EvO Γ a fa) (hs : starEach [a] Γ.X.env = [(false, eval a Γ.X.env)] := by rfl) : EvE Γ (.Call (.Name "int" p) [a] [] pos) (op1 intD fa) :=
  ev_t1 call_int1 (fun σ H Z env φ S x d p hx hg Q P => by
    unfold intD at hg
    split at hg
    · cases hg
      rw [hx.intI]
      exact .inl ⟨_, rfl, Post.here P S (Ow.sh (.int _))⟩
    · cases hg
      rw [hx.blI]
      exact .inr ⟨_, rfl, Post.here P S (Ow.sh (.int _))⟩
    · cases hg) hg hm (by decide +kernel) ha (hs := hs)
def tupD : D → Option (D × Nat)
  | .tup xs => some (.tup xs, 0)
  | .lst xs => some (.tup xs, 0)
  | _ => none
theorem ev_tuple (G : Good Γ) (hg : Gl Γ.X "tuple") (hm : Γ.X.mg "tuple" = none) (ha : EvO Γ a fa) (hs : starEach [a] Γ.X.env = [(false, eval a Γ.X.env)] := by rfl) : EvE Γ (.Call (.Name "tuple" p) [a] [] pos) (op1 tupD fa) :=
  ev_t1 call_tuple_of (fun σ H Z env φ S x d p hx hg Q P => by
    unfold tupD at hg
    split at hg
    · cases hg
      obtain ⟨a, us, rfl, ha, r⟩ := hx.tupI
      have ha' := ha
      rw [G.hK] at ha'
      exact ⟨a, us, rfl, .inr ⟨ha', Post.here P S (Ow.sh (.tup ha r))⟩⟩
    · cases hg
      obtain ⟨a, us, rfl, ha, r⟩ := hx.lstI
      exact ⟨a, us, rfl, .inl ⟨SqL.of ha, fun l hl => Post.newT P S hl (Ow.sh (.tup (SqT.of upd_same) (r.ext (Ext.new hl))))⟩⟩
    · cases hg) hg hm (by decide +kernel) ha (hs := hs)
def lisD : D → Option (D × Nat)
  | .tup xs => some (.lst xs, 1)
  | .lst xs => some (.lst xs, 1)
  | .scr ns => some (.lst (ns.map D.int), 1)
  | _ => none
theorem ev_list (G : Good Γ) (hg : Gl Γ.X "list") (hm : Γ.X.mg "list" = none) (ha : EvO Γ a fa) (hs : starEach [a] Γ.X.env = [(false, eval a Γ.X.env)] := by rfl) : EvE Γ (.Call (.Name "list" p) [a] [] pos) (op1 lisD fa) :=
  ev_t1 call_list_of (fun σ H Z env φ S x d p hx hg Q P => by
    unfold lisD at hg
    split at hg
    · cases hg
      obtain ⟨a, us, rfl, ha, r⟩ := hx.tupI
      rw [G.hK] at ha
      exact ⟨a, us, rfl, .inr ha, fun l hl => Post.newL P S hl (Ow.lst1 upd_same (r.ext (Ext.new hl)))⟩
    · cases hg
      obtain ⟨a, us, rfl, ha, r⟩ := hx.lstI
      exact ⟨a, us, rfl, .inl (SqL.of ha), fun l hl => Post.newL P S hl (Ow.lst1 upd_same (r.ext (Ext.new hl)))⟩
    · cases hg
      obtain ⟨a, rfl, ha⟩ := hx.scrI
      rw [G.hK] at ha
      exact ⟨a, _, rfl, .inl ha, fun l hl => Post.newL P S hl (Ow.lst1 upd_same (shl_ints.ext (Ext.new hl)))⟩
    · cases hg) hg hm (by decide +kernel) ha (hs := hs)
def absD : D → Option (D × Nat)
  | .int i => some (.int (if i < 0 then -i else i), 0)
  | _ => none
theorem ev_abs (hg : Gl Γ.X "abs") (hm : Γ.X.mg "abs" = none) (ha : EvO Γ a fa) (hs : starEach [a] Γ.X.env = [(false, eval a Γ.X.env)] := by rfl) : EvE Γ (.Call (.Name "abs" p) [a] [] pos) (op1 absD fa) :=
  ev_b1 call_abs (fun σ H Z env φ S x d p hx hg Q P => by
    unfold absD at hg
    split at hg
    · cases hg
      rw [hx.intI]
      exact ⟨_, rfl, Post.here P S (Ow.sh (.int _))⟩
    · cases hg) hg hm (by decide +kernel) ha (hs := hs)
def sumD : D → Option (D × Nat)
  | .lst xs => (D.ints xs).map fun ns => (.int ns.sum, 0)
  | _ => none
theorem ev_sum (G : Good Γ) (hg : Gl Γ.X "sum") (hm : Γ.X.mg "sum" = none) (ha : EvO Γ a fa) (hs : starEach [a] Γ.X.env = [(false, eval a Γ.X.env)] := by rfl) : EvE Γ (.Call (.Name "sum" p) [a] [] pos) (op1 sumD fa) :=
  ev_b1 (cr_sum G.calm) (fun σ H Z env φ S x d p hx hg Q P => by
    unfold sumD at hg
    split at hg
    · obtain ⟨ns, e1, rfl⟩ := Option.map_eq_some_iff.mp hg
      obtain ⟨a, us, rfl, ha, r⟩ := hx.lstI
      rw [D.ints_eq e1] at r
      rw [r.ints] at ha
      exact ⟨a, ns, rfl, SqL.of ha, Post.here P S (Ow.sh (.int _))⟩
    · cases hg) hg hm (by decide +kernel) ha (hs := hs)
def D.bls : List D → Option (List Bool)
  | [] => some []
  | .bl i :: r => (D.bls r).map (i :: ·)
  | _ :: _ => none
theorem D.bls_eq : ∀ {ds : List D} {ns : List Bool}, D.bls ds = some ns → ds = ns.map D.bl
  | [], ns, h => by cases h; rfl
  | .bl i :: r, ns, h => by
    unfold D.bls at h
    obtain ⟨ms, e, rfl⟩ := Option.map_eq_some_iff.mp h
    rw [List.map_cons, ← D.bls_eq e]
  | .non :: _, _, h => by cases h
  | .int _ :: _, _, h => by cases h
  | .str _ :: _, _, h => by cases h
  | .fn _ :: _, _, h => by cases h
  | .tup _ :: _, _, h => by cases h
  | .lst _ :: _, _, h => by cases h
  | .dic _ _ :: _, _, h => by cases h
  | .scr _ :: _, _, h => by cases h
@[simp] theorem D.bls_map : ∀ ns : List Bool, D.bls (ns.map D.bl) = some ns
  | [] => rfl
  | n :: ns => by rw [List.map_cons, D.bls, D.bls_map ns]; rfl
def anyD : D → Option (D × Nat)
  | .lst xs => (D.bls xs).map fun ns => (.bl (ns.any id), 0)
  | _ => none
def allD : D → Option (D × Nat)
  | .lst xs => (D.bls xs).map fun ns => (.bl (ns.all id), 0)
  | _ => none
theorem ev_any (G : Good Γ) (hg : Gl Γ.X "any") (hm : Γ.X.mg "any" = none) (ha : EvO Γ a fa) (hs : starEach [a] Γ.X.env = [(false, eval a Γ.X.env)] := by rfl) : EvE Γ (.Call (.Name "any" p) [a] [] pos) (op1 anyD fa) :=
  ev_b1 (cr_any G.calm) (fun σ H Z env φ S x d p hx hg Q P => by
    unfold anyD at hg
    split at hg
    · obtain ⟨ns, e1, rfl⟩ := Option.map_eq_some_iff.mp hg
      obtain ⟨a, us, rfl, ha, r⟩ := hx.lstI
      rw [D.bls_eq e1] at r
      rw [r.bools] at ha
      exact ⟨a, ns, rfl, SqL.of ha, Post.here P S (Ow.sh (.bl _))⟩
    · cases hg) hg hm (by decide +kernel) ha (hs := hs)
theorem ev_all (G : Good Γ) (hg : Gl Γ.X "all") (hm : Γ.X.mg "all" = none) (ha : EvO Γ a fa) (hs : starEach [a] Γ.X.env = [(false, eval a Γ.X.env)] := by rfl) : EvE Γ (.Call (.Name "all" p) [a] [] pos) (op1 allD fa) :=
  ev_b1 (cr_all G.calm) (fun σ H Z env φ S x d p hx hg Q P => by
    unfold allD at hg
    split at hg
    · obtain ⟨ns, e1, rfl⟩ := Option.map_eq_some_iff.mp hg
      obtain ⟨a, us, rfl, ha, r⟩ := hx.lstI
      rw [D.bls_eq e1] at r
      rw [r.bools] at ha
      exact ⟨a, ns, rfl, SqL.of ha, Post.here P S (Ow.sh (.bl _))⟩
    · cases hg) hg hm (by decide +kernel) ha (hs := hs)

/-! max, min of two ints, of a list or tuple of ints -/
def max2D : D → D → Option (D × Nat)
  | .int i, .int j => some (.int (max i j), 0)
  | _, _ => none
def min2D : D → D → Option (D × Nat)
  | .int i, .int j => some (.int (min i j), 0)
  | _, _ => none
theorem ev_max2 (G : Good Γ) (hg : Gl Γ.X "max") (hm : Γ.X.mg "max" = none) (ha : EvO Γ a fa) (hb : EvO Γ b fb) (hs : starEach [a, b] Γ.X.env = [(false, eval a Γ.X.env), (false, eval b Γ.X.env)] := by rfl) (hs2 : starEach [b] Γ.X.env = [(false, eval b Γ.X.env)] := by rfl) : EvE Γ (.Call (.Name "max" p) [a, b] [] pos) (op2 max2D fa fb) :=
  ev_b2 (call_max2 G.calm) (fun σ H Z env φ S x y d e p hx hy hg Q P => by
    unfold max2D at hg
    split at hg
    · rename_i i j
      cases hg
      rw [hx.intI, hy.intI]
      refine ⟨_, _, rfl, ?_⟩
      have e : (if j > i then j else i) = max i j := by rw [Int.max_def]; split <;> split <;> omega
      rw [e]
      exact Post.here P S (Ow.sh (.int _))
    · cases hg) hg hm (by decide +kernel) ha hb (hs := hs) (hs2 := hs2)
theorem ev_min2 (G : Good Γ) (hg : Gl Γ.X "min") (hm : Γ.X.mg "min" = none) (ha : EvO Γ a fa) (hb : EvO Γ b fb) (hs : starEach [a, b] Γ.X.env = [(false, eval a Γ.X.env), (false, eval b Γ.X.env)] := by rfl) (hs2 : starEach [b] Γ.X.env = [(false, eval b Γ.X.env)] := by rfl) : EvE Γ (.Call (.Name "min" p) [a, b] [] pos) (op2 min2D fa fb) :=
  ev_b2 (call_min2 G.calm) (fun σ H Z env φ S x y d e p hx hy hg Q P => by
    unfold min2D at hg
    split at hg
    · rename_i i j
      cases hg
      rw [hx.intI, hy.intI]
      refine ⟨_, _, rfl, ?_⟩
      have e : (if j < i then j else i) = min i j := by rw [Int.min_def]; split <;> split <;> omega
      rw [e]
      exact Post.here P S (Ow.sh (.int _))
    · cases hg) hg hm (by decide +kernel) ha hb (hs := hs) (hs2 := hs2)
theorem foldl_max_le (ns : List Int) : ∀ n : Int, n ≤ ns.foldl max n ∧ ∀ y ∈ ns, y ≤ ns.foldl max n := by
  induction ns with
  | nil => intro n; exact ⟨Int.le_refl _, fun _ h => by cases h⟩
  | cons m ns ih =>
    intro n
    obtain ⟨h1, h2⟩ := ih (max n m)
    rw [List.foldl_cons]
    exact ⟨by omega, fun y hy => (List.mem_cons.mp hy).elim (fun e => by subst e; omega) (h2 y)⟩
theorem foldl_max_mem (ns : List Int) : ∀ n : Int, ns.foldl max n = n ∨ ns.foldl max n ∈ ns := by
  induction ns with
  | nil => intro n; exact .inl rfl
  | cons m ns ih =>
    intro n
    rw [List.foldl_cons]
    rcases ih (max n m) with h | h
    · rw [h]
      rcases Int.le_total n m with q | q
      · rw [Int.max_eq_right q]; exact .inr List.mem_cons_self
      · rw [Int.max_eq_left q]; exact .inl rfl
    · exact .inr (List.mem_cons_of_mem _ h)
theorem foldl_min_le (ns : List Int) : ∀ n : Int, ns.foldl min n ≤ n ∧ ∀ y ∈ ns, ns.foldl min n ≤ y := by
  induction ns with
  | nil => intro n; exact ⟨Int.le_refl _, fun _ h => by cases h⟩
  | cons m ns ih =>
    intro n
    obtain ⟨h1, h2⟩ := ih (min n m)
    rw [List.foldl_cons]
    exact ⟨by omega, fun y hy => (List.mem_cons.mp hy).elim (fun e => by subst e; omega) (h2 y)⟩
theorem foldl_min_mem (ns : List Int) : ∀ n : Int, ns.foldl min n = n ∨ ns.foldl min n ∈ ns := by
  induction ns with
  | nil => intro n; exact .inl rfl
  | cons m ns ih =>
    intro n
    rw [List.foldl_cons]
    rcases ih (min n m) with h | h
    · rw [h]
      rcases Int.le_total n m with q | q
      · rw [Int.min_eq_left q]; exact .inl rfl
      · rw [Int.min_eq_right q]; exact .inr List.mem_cons_self
    · exact .inr (List.mem_cons_of_mem _ h)
def maxI : List Int → Option Int
  | [] => none
  | n :: ns => some (ns.foldl max n)
def minI : List Int → Option Int
  | [] => none
  | n :: ns => some (ns.foldl min n)
def seqI : D → Option (List Int)
  | .lst xs => D.ints xs
  | .tup xs => D.ints xs
  | _ => none
def maxD1 (d : D) : Option (D × Nat) := (seqI d).bind fun ns => (maxI ns).map fun m => (.int m, 0)
def minD1 (d : D) : Option (D × Nat) := (seqI d).bind fun ns => (minI ns).map fun m => (.int m, 0)
def rMaxT (K : PySem.W.Frag) : List V → Hp → VK → Prop := fun vs H Q => ∃ (a : Addr) (n : Int) (ns : List Int), vs = [V.ref a] ∧ SqT K H a ((n :: ns).map V.int) ∧ Q (.int (ns.foldl max n)) H
def rMinT (K : PySem.W.Frag) : List V → Hp → VK → Prop := fun vs H Q => ∃ (a : Addr) (n : Int) (ns : List Int), vs = [V.ref a] ∧ SqT K H a ((n :: ns).map V.int) ∧ Q (.int (ns.foldl min n)) H
theorem readsAll_ints {h : Heap} : ∀ {ns : List Int} {us : List Value}, Vals (ns.map V.int) us → ∃ as, ReadsAll h us (ns.map PyData.int) as
  | [], _, r => by cases r; exact ⟨_, .nil⟩
  | n :: ns, _, r => by
    cases r with
    | cons r rr =>
      obtain ⟨t, rfl⟩ := r
      obtain ⟨as, q⟩ := readsAll_ints rr
      exact ⟨_, .cons (Reads.int n t) q⟩
theorem alikeAll_ints (ns : List Int) : PySem.W.AlikeAll (ns.map PyData.int) := by
  refine ⟨fun x hx y hy => ?_, fun x hx e => ?_⟩
  · obtain ⟨i, _, rfl⟩ := List.mem_map.mp hx
    obtain ⟨j, _, rfl⟩ := List.mem_map.mp hy
    rfl
  · obtain ⟨i, _, rfl⟩ := List.mem_map.mp hx
    cases e
theorem depthAll_ints (ns : List Int) : PyData.depthAll (ns.map PyData.int) = 0 := by
  induction ns with
  | nil => simp [PyData.depthAll]
  | cons n ns ih =>
    rw [List.map_cons, PyData.depthAll, ih]
    simp [PyData.depth]
theorem cr_maxT {X : Cx} {k : Nat} (hc : X.calm = true) (hr : Room k X.A) : CallR X (.builtin "max") (rMaxT X.K) := by
  intro pins s σ H vs us Q I r h
  obtain ⟨a, n, ns, rfl, hs, q⟩ := h
  obtain ⟨its, rv, hl, _⟩ := I.tuple hs
  rw [Vals.ref1 r]
  obtain ⟨as, ra⟩ := readsAll_ints (h := s.heap) rv
  refine PySem.W.max_tuple_data (I.ok.hd hc) (show s.heap.IsTuple a its.toArray from hl) (x := .int n) (xs := ns.map .int) (as := as) (by simpa using ra) (by simpa using alikeAll_ints (n :: ns)) (by
    have := hr.un
    have e := depthAll_ints (n :: ns)
    rw [List.map_cons] at e
    rw [e]; omega) fun i v h' tk bs hi hv hk => ?_
  rw [PySem.W.maxD_ints] at hv
  cases hv with
  | int _ t => exact ⟨.int _, H, I.kept hk, ⟨t, rfl⟩, q⟩
theorem cr_minT {X : Cx} {k : Nat} (hc : X.calm = true) (hr : Room k X.A) : CallR X (.builtin "min") (rMinT X.K) := by
  intro pins s σ H vs us Q I r h
  obtain ⟨a, n, ns, rfl, hs, q⟩ := h
  obtain ⟨its, rv, hl, _⟩ := I.tuple hs
  rw [Vals.ref1 r]
  obtain ⟨as, ra⟩ := readsAll_ints (h := s.heap) rv
  refine PySem.W.min_tuple_data (I.ok.hd hc) (show s.heap.IsTuple a its.toArray from hl) (x := .int n) (xs := ns.map .int) (as := as) (by simpa using ra) (by simpa using alikeAll_ints (n :: ns)) (by
    have := hr.un
    have e := depthAll_ints (n :: ns)
    rw [List.map_cons] at e
    rw [e]; omega) fun i v h' tk bs hi hv hk => ?_
  rw [PySem.W.minD_ints] at hv
  cases hv with
  | int _ t => exact ⟨.int _, H, I.kept hk, ⟨t, rfl⟩, q⟩
theorem ev_max1 (G : Good Γ) {k : Nat} (hr : Room k Γ.X.A) (hg : Gl Γ.X "max") (hm : Γ.X.mg "max" = none) (ha : EvO Γ a fa) (hs : starEach [a] Γ.X.env = [(false, eval a Γ.X.env)] := by rfl) : EvE Γ (.Call (.Name "max" p) [a] [] pos) (op1 maxD1 fa) :=
  ev_b1 (CallR.or (cr_max G.calm) (cr_maxT G.calm hr)) (fun σ H Z env φ S x d p hx hg Q P => by
    unfold maxD1 at hg
    obtain ⟨ns, e1, e2⟩ := Option.bind_eq_some_iff.mp hg
    obtain ⟨m, e3, rfl⟩ := Option.map_eq_some_iff.mp e2
    cases ns with
    | nil => cases e3
    | cons n ns =>
      cases e3
      unfold seqI at e1
      split at e1
      · obtain ⟨a, us, rfl, ha, r⟩ := hx.lstI
        rw [D.ints_eq e1] at r
        rw [r.ints] at ha
        refine .inl ⟨a, n :: ns, rfl, SqL.of ha, Nat.zero_lt_succ _, fun m hm h => ?_⟩
        have e : m = ns.foldl max n := by
          obtain ⟨h1, h2⟩ := foldl_max_le ns n
          have h3 : m ≤ ns.foldl max n := (List.mem_cons.mp hm).elim (fun e => by rw [e]; exact h1) (h2 m)
          have h4 : ns.foldl max n ≤ m := by
            rcases foldl_max_mem ns n with e | e
            · rw [e]; exact h n List.mem_cons_self
            · exact h _ (List.mem_cons_of_mem _ e)
          omega
        rw [e]
        exact Post.here P S (Ow.sh (.int _))
      · obtain ⟨a, us, rfl, ha, r⟩ := hx.tupI
        rw [D.ints_eq e1] at r
        rw [r.ints, G.hK] at ha
        exact .inr ⟨a, n, ns, rfl, ha, Post.here P S (Ow.sh (.int _))⟩
      · cases e1) hg hm (by decide +kernel) ha (hs := hs)
theorem ev_min1 (G : Good Γ) {k : Nat} (hr : Room k Γ.X.A) (hg : Gl Γ.X "min") (hm : Γ.X.mg "min" = none) (ha : EvO Γ a fa) (hs : starEach [a] Γ.X.env = [(false, eval a Γ.X.env)] := by rfl) : EvE Γ (.Call (.Name "min" p) [a] [] pos) (op1 minD1 fa) :=
  ev_b1 (CallR.or (cr_min G.calm) (cr_minT G.calm hr)) (fun σ H Z env φ S x d p hx hg Q P => by
    unfold minD1 at hg
    obtain ⟨ns, e1, e2⟩ := Option.bind_eq_some_iff.mp hg
    obtain ⟨m, e3, rfl⟩ := Option.map_eq_some_iff.mp e2
    cases ns with
    | nil => cases e3
    | cons n ns =>
      cases e3
      unfold seqI at e1
      split at e1
      · obtain ⟨a, us, rfl, ha, r⟩ := hx.lstI
        rw [D.ints_eq e1] at r
        rw [r.ints] at ha
        refine .inl ⟨a, n :: ns, rfl, SqL.of ha, Nat.zero_lt_succ _, fun m hm h => ?_⟩
        have e : m = ns.foldl min n := by
          obtain ⟨h1, h2⟩ := foldl_min_le ns n
          have h3 : ns.foldl min n ≤ m := (List.mem_cons.mp hm).elim (fun e => by rw [e]; exact h1) (h2 m)
          have h4 : m ≤ ns.foldl min n := by
            rcases foldl_min_mem ns n with e | e
            · rw [e]; exact h n List.mem_cons_self
            · exact h _ (List.mem_cons_of_mem _ e)
          omega
        rw [e]
        exact Post.here P S (Ow.sh (.int _))
      · obtain ⟨a, us, rfl, ha, r⟩ := hx.tupI
        rw [D.ints_eq e1] at r
        rw [r.ints, G.hK] at ha
        exact .inr ⟨a, n, ns, rfl, ha, Post.here P S (Ow.sh (.int _))⟩
      · cases e1) hg hm (by decide +kernel) ha (hs := hs)

/-! ### isinstance(e, T), T a built-in type -/
/-- the type's name of what data tells it -/
def tyD : D → Option String
  | .non => some "NoneType"
  | .bl _ => some "bool"
  | .int _ => some "int"
  | .str _ => some "str"
  | .tup _ => some "tuple"
  | .lst _ => some "list"
  | .dic _ _ => some "dict"
  | .scr _ => some "list"
  | .fn _ => none
def isiD (T : String) (d : D) : Option (D × Nat) := (tyD d).bind fun s => if s = T then some (.bl true, 0) else if s = "bool" ∧ T = "int" then some (.bl true, 0) else some (.bl false, 0)
end
theorem SqT.tyx {K : PySem.W.Frag} {H : Hp} {a : Addr} {xs : List V} (h : SqT K H a xs) : TyX K H (.ref a) (.type "tuple") := by
  rcases h with (h | ⟨o, h⟩) | ⟨o, its, n, h1, h2, _⟩
  · exact .base (.tup h)
  · exact .fTuple h
  · exact .kTuple h1 h2
theorem SqL.tyx {K : PySem.W.Frag} {H : Hp} {a : Addr} {xs : List V} (h : SqL K H a xs) : TyX K H (.ref a) (.type "list") := by
  rcases h with (h | ⟨o, h⟩) | ⟨o, its, n, h1, h2, _⟩
  · exact .base (.lst h)
  · exact .base (.frz h)
  · exact .kList h1 h2
theorem tyD_x {C : RC} {Z : Fp} {H : Hp} {v : V} {d : D} {T : String} (h : Rd1 C Z H v d) (e : tyD d = some T) : TyX C.K H v (.type T) := by
  cases h with
  | sh h =>
    cases h with
    | non => cases e; exact .base .non
    | bl b => cases e; exact .base (.bl b)
    | int i => cases e; exact .base (.int i)
    | str x => cases e; exact .base (.str x)
    | fn _ => cases e
    | tup s r => cases e; exact SqT.tyx s
    | lst s z r => cases e; exact .base (.lst s)
    | dic s z l r => cases e; exact .base (.dK s)
    | scr s => cases e; exact SqL.tyx s.sqL
  | lst s r => cases e; exact .base (.lst s)
  | dic s l r => cases e; exact .base (.dK s)
/-- the types that the programs ask for -/
def isiTs : List String := ["int", "bool", "str", "tuple", "list", "dict"]
theorem kit_all : ∀ s ∈ ["NoneType", "bool", "int", "str", "tuple", "list", "dict"], ∀ T ∈ isiTs, kitB s T = some (decide (s = T) || (decide (s = "bool") && decide (T = "int"))) := by decide +kernel
theorem tyD_mem {d : D} {s : String} (h : tyD d = some s) : s ∈ ["NoneType", "bool", "int", "str", "tuple", "list", "dict"] := by
  cases d <;> first | (cases h; decide) | cases h
section
variable {Γ : Ct} {e a b c : Expr} {fa fb fc : En → R Opd} {pos p q : Pos} {x : Str}
theorem ev_isi (G : Good Γ) {T : String} (hT : T ∈ isiTs) (hx : bootBuiltins x = some (.type T)) (hg : Gl Γ.X "isinstance") (hm : Γ.X.mg "isinstance" = none) (hg2 : Gl Γ.X x) (hm2 : Γ.X.mg x = none) (ha : EvO Γ a fa)
    (hn : x ≠ "__name__" := by decide) (hdb : (x == ("__debug__" : Str)) = false := by decide) (hs : starEach [a, .Name x q] Γ.X.env = [(false, eval a Γ.X.env), (false, eval (.Name x q) Γ.X.env)] := by rfl) : EvE Γ (.Call (.Name "isinstance" p) [a, .Name x q] [] pos) (op1 (isiD T) fa) := by
  obtain ⟨t, h1, h2⟩ := ha
  have pb : PA Γ.X [.Name x q] (tCons (tC (.ty T)) tNil) := pa_cons (pe_bltn hg2 hm2 hx rfl hn hdb) pa_nil
  have pa : PA Γ.X [a, .Name x q] (tCons t (tCons (tC (.ty T)) tNil)) := pa_cons h1 pb (by rw [hs]; rfl)
  refine ⟨_, pe_callB call_isi hg hm (by decide +kernel) pa (by decide) (by decide) (by rw [hs]; rfl) rfl, ?_⟩
  have h3 := Ev.op1 (g := isiD T) (r := fun v H Q => rIsi Γ.X.K [v, .ty T] H Q) h2 (fun σ H Z env φ S x d p hx hg Q P => by
    unfold isiD at hg
    obtain ⟨s, e1, e2⟩ := Option.bind_eq_some_iff.mp hg
    have k := kit_all s (tyD_mem e1) T hT
    have ty := tyD_x hx e1
    rw [G.hK] at ty
    refine ⟨x, .ty T, _, _, _, rfl, .ty T, ty, kit_ty k, ?_⟩
    have e3 : p = (.bl (decide (s = T) || (decide (s = "bool") && decide (T = "int"))), 0) := by
      by_cases h : s = T
      · rw [if_pos h] at e2
        cases e2
        simp [h]
      · rw [if_neg h] at e2
        by_cases h' : s = "bool" ∧ T = "int"
        · rw [if_pos h'] at e2
          cases e2
          simp [h'.1, h'.2]
        · rw [if_neg h'] at e2
          cases e2
          have : (decide (s = T) || (decide (s = "bool") && decide (T = "int"))) = false := by
            rw [Bool.or_eq_false_iff, Bool.and_eq_false_iff]
            refine ⟨decide_eq_false h, ?_⟩
            by_cases q : s = "bool"
            · exact .inr (decide_eq_false fun z => h' ⟨q, z⟩)
            · exact .inl (decide_eq_false q)
          rw [this]
    rw [e3] at P
    exact Post.here P S (Ow.sh (.bl _)))
  exact h3
end
end Pv
end

section
set_option Elab.async false
set_option linter.all false
set_option maxRecDepth 100000
set_option maxHeartbeats 4000000
/-! Pv7: statements, blocks, defs and their calls. -/
namespace Pv
open PySem PySem.Spec PyProof.Rows L2

/-! ### statements -/
inductive SR where
  | nx (e : En) | ret (p : D × Nat) (e : En) | bk (e : En) | ct (e : En) | ex (x : Xn) | no
def PostS (Γ : Ct) (Z : Fp) (H : Hp) (F : Fp) (r : SR) (Dn : Ends) : Prop :=
  match r with
  | .nx env' => ∀ σ' H' Z' φ', SttC Γ Z' σ' H' env' φ' → Evo Z H F Z' H' (Tot φ') → Dn.nx σ' H'
  | .bk env' => ∀ σ' H' Z' φ', SttC Γ Z' σ' H' env' φ' → Evo Z H F Z' H' (Tot φ') → Dn.bk σ' H'
  | .ct env' => ∀ σ' H' Z' φ', SttC Γ Z' σ' H' env' φ' → Evo Z H F Z' H' (Tot φ') → Dn.ct σ' H'
  | .ret p env' => ∀ v σ' H' Z' φ' A, SttC Γ Z' σ' H' env' φ' → Ow Γ.C Z' H' p.2 v p.1 A → (∀ x, A x → ¬ Tot φ' x ∧ ¬ Z' x) → Evo Z H F Z' H' (fun x => Tot φ' x ∨ A x) → Dn.rt v H'
  | .ex x => ∀ σ', (∀ i ∈ Γ.io, σ'[i]? = Γ.σ₀[i]?) → (Γ.io ≠ [] → σ'.length = Γ.σ₀.length) → PostX Γ σ' Z H F x
  | .no => False
def EvsT (Γ : Ct) (f : En → SR) (t : TS) : Prop := ∀ σ H Z env φ, SttC Γ Z σ H env φ → ∀ Dn : Ends, PostS Γ Z H (Tot φ) (f env) Dn → t Dn σ H
def EvS (Γ : Ct) (st : Stmt) (f : En → SR) : Prop := ∃ t, PS Γ.X st t ∧ EvsT Γ f t
def EvB (Γ : Ct) (st : List Stmt) (f : En → SR) : Prop := ∃ t, PSs Γ.X st t ∧ EvsT Γ f t
section
variable {Γ : Ct} {α β γ δ : Type} {σ : L2.St} {Z Z1 : Fp} {H H1 : Hp} {F F1 : Fp}
theorem PostS.mono {r : SR} {Dn : Ends} (h : PostS Γ Z H F r Dn) (e : Evo Z H F Z1 H1 F1) : PostS Γ Z1 H1 F1 r Dn := by
  cases r with
  | nx env => exact fun σ' H' Z' φ' S e2 => h σ' H' Z' φ' S (e.trans e2)
  | bk env => exact fun σ' H' Z' φ' S e2 => h σ' H' Z' φ' S (e.trans e2)
  | ct env => exact fun σ' H' Z' φ' S e2 => h σ' H' Z' φ' S (e.trans e2)
  | ret p env => exact fun v σ' H' Z' φ' A S o d e2 => h v σ' H' Z' φ' A S o d (e.trans e2)
  | ex x => exact fun σ' hσ hl => (h σ' hσ hl).mono e
  | no => exact h
/-- an expression's result, then a statement's -/
def R.then {α : Type} (r : R α) (g : α → En → SR) : SR :=
  match r with
  | .ok a e => g a e
  | .ex x => .ex x
  | .no => .no
@[simp] theorem R.then_ok (a : α) (e : En) (g : α → En → SR) : (R.ok a e).then g = g a e := rfl
@[simp] theorem R.then_ex (x : Xn) (g : α → En → SR) : (R.ex x : R α).then g = .ex x := rfl
@[simp] theorem R.then_no (g : α → En → SR) : (R.no : R α).then g = .no := rfl
theorem Ev.then {rel1 : L2.St → Rel α β} {f : En → R α} {t : L2.St → Hp → (β → Hp → Prop) → Prop} (h : Ev Γ rel1 f t) {env : En} {φ : Nat → Fp} (S : SttC Γ Z σ H env φ) {g : α → En → SR} {Dn : Ends} {Q1 : β → Hp → Prop}
    (P : PostS Γ Z H (Tot φ) ((f env).then g) Dn)
    (k : ∀ a env1 b H1 Z1 φ1 A, f env = .ok a env1 → SttC Γ Z1 σ H1 env1 φ1 → rel1 σ A Z1 H1 a b → (∀ x, A x → ¬ Tot φ1 x ∧ ¬ Z1 x) → Evo Z H (Tot φ) Z1 H1 (fun x => Tot φ1 x ∨ A x) →
      PostS Γ Z1 H1 (fun x => Tot φ1 x ∨ A x) (g a env1) Dn → Q1 b H1) : t σ H Q1 := by
  refine h σ H Z env φ S Q1 ?_
  cases e : f env with
  | ok a env1 =>
    rw [e] at P
    exact fun b H1 Z1 φ1 A S1 q d ev => k a env1 b H1 Z1 φ1 A e S1 q d ev (PostS.mono P ev)
  | ex x => rw [e] at P; exact P σ S.io S.l0
  | no => rw [e] at P; exact P
theorem Evo.dropA {φ : Nat → Fp} {A : Fp} : Evo Z H (fun x => Tot φ x ∨ A x) Z H (Tot φ) := Evo.refl.sub fun _ z => .inl z
theorem PostS.here {env : En} {φ : Nat → Fp} {Dn : Ends} (h : PostS Γ Z H (Tot φ) (.nx env) Dn) (S : SttC Γ Z σ H env φ) : Dn.nx σ H := h σ H Z φ S Evo.refl

/-! ### blocks -/
def passS : En → SR := fun env => .nx env
def seqS (f g : En → SR) : En → SR := fun env => match f env with
  | .nx e => g e
  | r => r
variable {st : Stmt} {rest body : List Stmt} {f g : En → SR} {e : Expr} {pos : Pos}
theorem eb_nil : EvB Γ [] passS := ⟨_, pss_nil, fun σ H Z env φ S Dn P => PostS.here P S⟩
theorem eb_one (h : EvS Γ st f) : EvB Γ [st] f := by
  obtain ⟨t, h1, h2⟩ := h
  exact ⟨t, pss_one h1, h2⟩
theorem eb_cons (h : EvS Γ st f) (k : EvB Γ rest g) : EvB Γ (st :: rest) (seqS f g) := by
  obtain ⟨t, h1, h2⟩ := h
  obtain ⟨u, k1, k2⟩ := k
  refine ⟨_, pss_cons h1 k1, fun σ H Z env φ S Dn P => ?_⟩
  refine h2 σ H Z env φ S _ ?_
  unfold seqS at P
  cases e : f env with
  | nx env1 =>
    rw [e] at P
    exact fun σ' H' Z' φ' S' ev => k2 σ' H' Z' env1 φ' S' Dn (PostS.mono P ev)
  | bk env1 => rw [e] at P; exact P
  | ct env1 => rw [e] at P; exact P
  | ret p env1 => rw [e] at P; exact P
  | ex x => rw [e] at P; exact P
  | no => rw [e] at P; exact P
theorem es_pass : EvS Γ (.Pass pos) passS := ⟨_, ps_pass, fun σ H Z env φ S Dn P => PostS.here P S⟩
theorem es_break : EvS Γ (.Break pos) (fun env => .bk env) := ⟨_, ps_break, fun σ H Z env φ S Dn P => P σ H Z φ S Evo.refl⟩
theorem es_continue : EvS Γ (.Continue pos) (fun env => .ct env) := ⟨_, ps_continue, fun σ H Z env φ S Dn P => P σ H Z φ S Evo.refl⟩
theorem es_doc {x j pos'} : EvS Γ (.Expr (.Constant (.str x) j pos) pos') passS := ⟨_, ps_doc, fun σ H Z env φ S Dn P => PostS.here P S⟩
/-- nothing is told of a statement -/
def noS : En → SR := fun _ => .no
theorem es_no : EvS Γ st noS := ⟨_, ps_never, fun _ _ _ _ _ _ _ P => P.elim⟩
theorem eb_no : EvB Γ rest noS := ⟨_, pss_never, fun _ _ _ _ _ _ _ P => P.elim⟩
def exprS (fe : En → R (D × Nat)) : En → SR := fun env => (fe env).then fun _ env1 => .nx env1
theorem es_expr {fe : En → R (D × Nat)} (h : EvE Γ e fe) (hs : swapsWith e none pos.line Γ.X.env = pure false := by rfl) : EvS Γ (.Expr e pos) (exprS fe) := by
  obtain ⟨t, h1, h2⟩ := h
  refine ⟨_, ps_expr h1 hs, fun σ H Z env φ S Dn P => ?_⟩
  refine h2.then S P fun p env1 v H1 Z1 φ1 A e1 S1 o dj ev P1 => ?_
  exact PostS.here (P1.mono Evo.dropA) S1
def retS (fe : En → R (D × Nat)) : En → SR := fun env => (fe env).then fun p env1 => .ret p env1
theorem es_ret {fe : En → R (D × Nat)} (h : EvE Γ e fe) : EvS Γ (.Return (some e) pos) (retS fe) := by
  obtain ⟨t, h1, h2⟩ := h
  refine ⟨_, ps_ret h1, fun σ H Z env φ S Dn P => ?_⟩
  refine h2.then S P fun p env1 v H1 Z1 φ1 A e1 S1 o dj ev P1 => ?_
  exact P1 v σ H1 Z1 φ1 A S1 o dj Evo.refl
def retN : En → SR := fun env => .ret (.non, 0) env
theorem es_retN : EvS Γ (.Return none pos) retN :=
  ⟨_, ps_retN, fun σ H Z env φ S Dn P => P .non σ H Z φ (fun _ => False) S (Ow.sh .non) (fun _ z => z.elim) (Evo.refl.sub fun _ z => z.elim id fun z => z.elim)⟩
/-- return x, x a local that dies: its lists go along -/
def retM (i : Nat) : En → SR := fun env => match env[i]? with
  | some (some p) => .ret p (env.set i none)
  | _ => .no
theorem es_retM {i : Nat} {x : Str} {pos' : Pos} (hN : Γ.X.N[i]? = some x) (hv : Vis Γ.X.env.scope x) (hd : (x == ("__debug__" : Str)) = false := by decide) (hcd : (x == ("__classdict__" : Str)) = false := by decide) : EvS Γ (.Return (some (.Name x pos')) pos) (retM i) := by
  refine ⟨_, ps_ret (pe_var hN hv hd hcd), fun σ H Z env φ S Dn P => ?_⟩
  unfold retM at P
  split at P
  · rename_i p h
    obtain ⟨d, k⟩ := p
    obtain ⟨v, h1, o⟩ := S.slot i d k h
    refine ⟨v, h1, P v σ H Z _ (φ i) (S.drop i) o (fun x z => ⟨fun ⟨j, q, y⟩ => q (S.dj j i x y z), S.nz i x z⟩) ⟨fun _ _ q _ => q, fun _ z => z, fun _ z => .inl z, fun x z => .inl (z.elim (fun ⟨j, _, y⟩ => ⟨j, y⟩) fun z => ⟨i, z⟩)⟩⟩
  · exact P.elim
/-- x = e -/
def putE (env : En) (i : Nat) (p : D × Nat) : SR := if i < env.length then .nx (env.set i (some p)) else .no
def setS (i : Nat) (fe : En → R (D × Nat)) : En → SR := fun env => (fe env).then fun p env1 => putE env1 i p
theorem put_ok {i : Nat} {env : En} {φ : Nat → Fp} (hio : i ∉ Γ.io) (S : SttC Γ Z σ H env φ) {p : D × Nat} {v : V} {A : Fp} (o : Ow Γ.C Z H p.2 v p.1 A) (dj : ∀ x, A x → ¬ Tot φ x ∧ ¬ Z x) {Dn : Ends} (P : PostS Γ Z H (fun x => Tot φ x ∨ A x) (putE env i p) Dn) : Dn.nx (σ.set i (some v)) H := by
  unfold putE at P
  split at P
  · rename_i hi
    refine P _ H Z _ (S.put hi hio o (fun j a _ h z => (dj a z).1 ⟨j, h⟩) fun a z => (dj a z).2) ⟨fun _ _ q _ => q, fun _ z => z, fun _ z => .inl z, fun x ⟨j, z⟩ => .inl ?_⟩
    by_cases q : j = i
    · simp only [if_pos q] at z; exact .inr z
    · simp only [if_neg q] at z; exact .inl ⟨j, z⟩
  · exact P.elim
theorem es_set {i : Nat} {x : Str} {pos' : Pos} {fe : En → R (D × Nat)} (G : Good Γ) (hi : Γ.X.N[i]? = some x) (hx : Loc Γ.X.env.scope x) (hio : i ∉ Γ.io) (h : EvE Γ e fe) (hs : swapsWith e (some (.Name x pos')) pos.line Γ.X.env = pure false := by rfl)
    (hf : Γ.X.fn x = true ∨ Γ.X.env.scope.names.lookup x = some .local := by first | exact .inl rfl | exact .inr rfl | assumption) : EvS Γ (.Assign [.Name x pos'] e pos) (setS i fe) := by
  obtain ⟨t, h1, h2⟩ := h
  refine ⟨_, ps_set G.nd hi hx h1 hs hf, fun σ H Z env φ S Dn P => ?_⟩
  refine h2.then S P fun p env1 v H1 Z1 φ1 A e1 S1 o dj ev P1 => ?_
  exact put_ok hio S1 o dj P1
def iteS (c : En → R Bool) (f g : En → SR) : En → SR := fun env => (c env).then fun b env1 => if b = true then f env1 else g env1
theorem es_if {c : Expr} {fc : En → R Bool} {els : List Stmt} (hc : EvT Γ c fc) (ha : EvB Γ body f) (hb : EvB Γ els g) : EvS Γ (.If c body els pos) (iteS fc f g) := by
  obtain ⟨t, h1, h2⟩ := hc
  obtain ⟨u, k1, k2⟩ := ha
  obtain ⟨w, l1, l2⟩ := hb
  refine ⟨_, ps_if h1 k1 l1, fun σ H Z env φ S Dn P => ?_⟩
  refine h2.then S P fun b env1 b' H1 Z1 φ1 A e1 S1 q dj ev P1 => ?_
  cases (show b = b' from q)
  have P2 := P1.mono Evo.dropA
  cases b with
  | true => exact k2 σ H1 Z1 env1 φ1 S1 Dn P2
  | false => exact l2 σ H1 Z1 env1 φ1 S1 Dn P2

/-! ### several values, each with its own lists -/
inductive OwL (C : RC) (Z : Fp) (H : Hp) : List V → List (D × Nat) → Fp → Prop
  | nil {A : Fp} : (∀ a, ¬ A a) → OwL C Z H [] [] A
  | cons {v : V} {vs : List V} {p : D × Nat} {ps : List (D × Nat)} {A B U : Fp} : Ow C Z H p.2 v p.1 A → OwL C Z H vs ps B → (∀ a, A a → ¬ B a) → (∀ a, U a ↔ A a ∨ B a) → OwL C Z H (v :: vs) (p :: ps) U
abbrev LR (C : RC) : L2.St → Rel (List (D × Nat)) (List V) := fun _ A Z H ps vs => OwL C Z H vs ps A
def EvL (Γ : Ct) (es : List Expr) (f : En → R (List (D × Nat))) : Prop := ∃ t, PA Γ.X es t ∧ Ev Γ (LR Γ.C) f t
def lNil : En → R (List (D × Nat)) := fun env => .ok [] env
def lCons (u : En → R (D × Nat)) (r : En → R (List (D × Nat))) : En → R (List (D × Nat)) := fun env => (u env).bind fun d env1 => (r env1).bind fun ds env2 => .ok (d :: ds) env2
theorem el_nil : EvL Γ [] lNil := ⟨_, pa_nil, fun σ H Z env φ S Q P => Post.here P S (.nil fun _ z => z)⟩
theorem el_cons {es : List Expr} {u : En → R (D × Nat)} {r : En → R (List (D × Nat))} (ha : EvE Γ e u) (hr : EvL Γ es r) (hs : starEach (e :: es) Γ.X.env = (false, eval e Γ.X.env) :: starEach es Γ.X.env := by rfl) : EvL Γ (e :: es) (lCons u r) := by
  obtain ⟨t, h1, h2⟩ := ha
  obtain ⟨w, k1, k2⟩ := hr
  refine ⟨_, pa_cons h1 k1 hs, fun σ H Z env φ S Q P => ?_⟩
  refine h2.bind S P fun d env1 x H1 Z1 φ1 A e1 S1 q1 dj1 ev1 P1 => ?_
  -- the values in hand are kept apart: they are shared by no slot
  have P1' : Post Γ σ Z1 H1 (fun x => Tot φ1 x ∨ A x) (LR Γ.C σ) ((r env1).bind fun ds env2 => .ok (d :: ds) env2) Q := P1
  refine k2 σ H1 Z1 env1 φ1 S1 _ ?_
  cases e2 : r env1 with
  | ok ds env2 =>
    rw [e2] at P1'
    intro xs H2 Z2 φ2 B S2 q2 dj2 ev2
    have am := Ow.mut q1
    have aF : ∀ a, A a → ¬ Tot φ1 a := fun a z => (dj1 a z).1
    have aZ : ∀ a, A a → ¬ Z2 a := fun a z y => by
      rcases ev2.zn a y with y | y | y
      · exact (dj1 a z).2 y
      · exact aF a z y
      · have := am a z; rw [y] at this; exact this
    have aT : ∀ a, A a → ¬ (Tot φ2 a ∨ B a) := fun a z y => by
      rcases ev2.fn a y with y | y
      · exact aF a z y
      · have := am a z; rw [y] at this; exact this
    refine P1' (x :: xs) H2 Z2 φ2 (fun a => A a ∨ B a) S2 (.cons (Ow.ext (S1.ext ev2) q1 fun a o z h => ev2.keep a o h (aF a z)) q2 (fun a z y => aT a z (.inr y)) fun _ => Iff.rfl) (fun a z => z.elim (fun z => ⟨fun y => aT a z (.inl y), aZ a z⟩) (dj2 a)) ?_
    refine ⟨fun a o h n => ev2.keep a o h fun z => n (.inl z), ev2.zm, fun a z => (ev2.zn a z).imp id fun q => q.imp .inl id, fun a z => ?_⟩
    rcases z with z | z | z
    · exact (ev2.fn a (.inl z)).imp .inl id
    · exact .inl (.inr z)
    · exact (ev2.fn a (.inr z)).imp .inl id
  | ex x => rw [e2] at P1'; exact PostX.mono P1' (Evo.refl.sub fun _ z => .inl z)
  | no => rw [e2] at P1'; exact P1'
/-- a, b = x, y -/
def parS (i j : Nat) (fa : En → R (List (D × Nat))) : En → SR := fun env => (fa env).then fun ps env1 => match ps with
  | [p, q] => if i < env1.length ∧ j < env1.length then .nx ((env1.set i (some p)).set j (some q)) else .no
  | _ => .no
theorem es_par {i j : Nat} {x y : Str} {a b : Expr} {fa : En → R (List (D × Nat))} {px py pt : Pos} {kt k2 : Nat} {pt2 : Pos} (G : Good Γ) (hi : Γ.X.N[i]? = some x) (hj : Γ.X.N[j]? = some y) (hij : i ≠ j) (hio : i ∉ Γ.io) (hjo : j ∉ Γ.io)
    (hx : Γ.X.env.scope.names.lookup x = some .local) (hy : Γ.X.env.scope.names.lookup y = some .local) (ha : EvL Γ [a, b] fa)
    (hw : swappedStores [.Tuple [.Name x px, .Name y py] kt pt] (.Tuple [a, b] k2 pt2) Γ.X.env = pure (some [x, y]) := by rfl)
    (hs : swapsWithSole [.Tuple [.Name x px, .Name y py] kt pt] (.Tuple [a, b] k2 pt2) pos.line Γ.X.env = pure false := by rfl) :
    EvS Γ (.Assign [.Tuple [.Name x px, .Name y py] kt pt] (.Tuple [a, b] k2 pt2) pos) (parS i j fa) := by
  obtain ⟨t, h1, h2⟩ := ha
  refine ⟨_, ps_par G.calm G.nd hi hj hij hx hy h1 hw hs, fun σ H Z env φ S Dn P => ?_⟩
  refine h2.then S P fun ps env1 vs H1 Z1 φ1 A e1 S1 q1 dj1 ev1 P1 => ?_
  have q1 : OwL Γ.C Z1 H1 vs ps A := q1
  cases q1 with
  | nil _ => exact P1.elim
  | @cons v vs p ps A1 B U o r d1 u1 =>
    cases r with
    | nil _ => exact P1.elim
    | @cons w ws q qs A2 B2 U2 o2 r2 d2 u2 =>
      cases r2 with
      | cons _ _ _ _ => exact P1.elim
      | nil n2 =>
        refine ⟨v, w, rfl, ?_⟩
        simp only at P1
        split at P1
        · rename_i hl
          have S2 := S1.put hl.1 hio o (fun j a _ h z => (dj1 a ((u1 a).mpr (.inl z))).1 ⟨j, h⟩) fun a z => (dj1 a ((u1 a).mpr (.inl z))).2
          have S3 := S2.put (i := j) (by simpa using hl.2) hjo o2 (fun l a hlj h z => by
            by_cases q : l = i
            · simp only [if_pos q] at h
              exact d1 a h ((u2 a).mpr (.inl z))
            · simp only [if_neg q] at h
              exact (dj1 a ((u1 a).mpr (.inr ((u2 a).mpr (.inl z))))).1 ⟨l, h⟩) fun a z => (dj1 a ((u1 a).mpr (.inr ((u2 a).mpr (.inl z))))).2
          refine P1 _ H1 Z1 _ S3 ⟨fun _ _ q _ => q, fun _ z => z, fun _ z => .inl z, fun x ⟨l, z⟩ => .inl ?_⟩
          by_cases q : l = j
          · simp only [if_pos q] at z; exact .inr ((u1 x).mpr (.inr ((u2 x).mpr (.inl z))))
          · simp only [if_neg q] at z
            by_cases q2 : l = i
            · simp only [if_pos q2] at z; exact .inr ((u1 x).mpr (.inl z))
            · simp only [if_neg q2] at z; exact .inl ⟨l, z⟩
        · exact P1.elim
end

/-! ### defs -/
/-- what a call hands back -/
inductive FR where
  | ok (p : D × Nat) (fin : Sl) | ex (x : Xn) | no
/-- what the first argument's lists are behind the call -/
def FinOk (C : RC) (Z : Fp) (H : Hp) (v₀ : V) (s : Sl) (φ : Fp) : Prop :=
  match s with
  | some q => Ow C Z H q.2 v₀ q.1 φ
  | none => ∀ a, ¬ φ a
/-- a def's promise: F of the arguments' data. io: the first argument's lists may be changed, then what they are stands in fin -/
def spF (C : RC) (n : Nat) (io : Bool) (F : Sl → List D → FR) : Sp := fun vs H Q E => vs.length = n ∧
  match io, vs with
  | false, vs => ∃ ds Z, ShL C Z H vs ds ∧ (∀ a, Z a → H a ≠ none) ∧ (match F none ds with
    | .ok p _ => ∀ v H' Z' A, Ow C Z' H' p.2 v p.1 A → (∀ a, A a → ¬ Z' a) → (∀ a, Z' a → H' a ≠ none) → Evo Z H (fun _ => False) Z' H' A → Q v H'
    | .ex x => ∀ cls dx H' Z', Evo Z H (fun _ => False) Z' H' (fun _ => False) → (∀ a, Z' a → H' a ≠ none) → ExR C Z' H' x cls dx → E cls dx H'
    | .no => False)
  | true, [] => False
  | true, v₀ :: vs => ∃ p₀ ds Z A₀, Ow C Z H p₀.2 v₀ p₀.1 A₀ ∧ ShL C Z H vs ds ∧ (∀ a, A₀ a → ¬ Z a) ∧ (∀ a, Z a → H a ≠ none) ∧ (match F (some p₀) ds with
    | .ok p fin => ∀ v H' Z' A φ, Ow C Z' H' p.2 v p.1 A → FinOk C Z' H' v₀ fin φ → (∀ a, A a → ¬ φ a ∧ ¬ Z' a) → (∀ a, φ a → ¬ Z' a) → (∀ a, Z' a → H' a ≠ none) → Evo Z H A₀ Z' H' (fun a => φ a ∨ A a) → Q v H'
    | .ex x => ∀ cls dx H' Z', Evo Z H A₀ Z' H' (fun _ => False) → (∀ a, Z' a → H' a ≠ none) → ExR C Z' H' x cls dx → E cls dx H'
    | .no => False)
abbrev FnV (P : Program) (w : World) (K : PySem.W.Frag) (mg : Str → Option Value) (base : Heap) (C : RC) (k : Nat) (f : Addr) (fd : FuncData) (ps : List Str) (io : Bool) (F : Sl → List D → FR) : Prop :=
  FnOk P w K mg base (L2.CX P w) k f fd ps (spF C ps.length io F)
/-- the slots at the entry -/
def en0 (n : Nat) (a₀ : Sl) (ds : List D) : En := (match a₀ with
  | some p => [some p]
  | none => []) ++ ds.map (fun d => some (d, 0)) ++ List.replicate (n - ((match a₀ with
  | some _ => 1
  | none => 0) + ds.length)) none
/-- what a body makes of the entry -/
def fnF (n : Nat) (io : Bool) (f : En → SR) : Sl → List D → FR := fun a₀ ds =>
  match f (en0 n a₀ ds) with
  | .nx e => .ok (.non, 0) (if io then (e[0]?).getD none else none)
  | .ret p e => .ok p (if io then (e[0]?).getD none else none)
  | .ex x => .ex x
  | _ => .no
end Pv
end

section
set_option Elab.async false
set_option linter.all false
set_option maxRecDepth 100000
set_option maxHeartbeats 4000000
/-! Pv8: a def by its body; calls of defs. -/
namespace Pv
open PySem PySem.Spec PyProof.Rows L2

/-- the place where a body's proof stands -/
def bodyCt (P : Program) (w : World) (K : PySem.W.Frag) (mg : Str → Option Value) (base : Heap) (C : RC) (N : List Str) (qual : Str) (sc : Scope) (f : Addr) (fx : List Nat) (cdv : Value) (A : Around) (outer : List Env) (s : Shared) (H : Hp) (E : XK) (σ₀ : L2.St) : Ct :=
  ⟨cxOf (L2.CX P w) P w K mg base N qual sc f cdv A outer s H E, C, fun cls d _ H' => E cls d H', fx, σ₀⟩
theorem en0_none {n : Nat} {ds : List D} {i : Nat} {d : D} {k : Nat} (h : (en0 n none ds)[i]? = some (some (d, k))) : ds[i]? = some d ∧ k = 0 := by
  unfold en0 at h
  rw [List.nil_append] at h
  by_cases hi : i < ds.length
  · rw [List.getElem?_append_left (by simpa using hi), List.getElem?_map] at h
    cases e : ds[i]? with
    | none => rw [e] at h; cases h
    | some d' => rw [e] at h; cases h; exact ⟨rfl, rfl⟩
  · rw [List.getElem?_append_right (by simpa using Nat.le_of_not_lt hi), List.getElem?_replicate] at h
    exact absurd h (by split <;> simp)
theorem start_get {N : List Str} {vs : List V} {i : Nat} {v : V} (h : vs[i]? = some v) : (start N vs)[i]? = some (some v) := by
  unfold L2.start
  have hi := (List.getElem?_eq_some_iff.mp h).1
  rw [List.getElem?_append_left (by simpa using hi), List.getElem?_map, h]
  rfl
theorem en0_len {N : List Str} {vs : List V} {a₀ : Sl} {ds : List D} {m : Nat} (hv : vs.length = m) (hm : m ≤ N.length) (hd : (match a₀ with
    | some _ => 1
    | none => 0) + ds.length = m) : (start N vs).length = (en0 N.length a₀ ds).length := by
  unfold L2.start en0
  cases a₀ with
  | none => simp at hd ⊢; omega
  | some p => simp at hd ⊢; omega
section
variable {P : Program} {w : World} {K : PySem.W.Frag} {mg : Str → Option Value} {base : Heap} {C : RC}
theorem fnV_of {x qual : Str} {st : Stmt} {f : Addr} {fd : FuncData} {N ps : List Str} {k : Nat} {g : En → SR} (F : Fun K x qual st f fd) (S : FnScope N ps (defScope st)) (io : Bool) (fx : List Nat) (hC : C.K = K)
    (hio : io = true → 0 < ps.length ∧ 0 ∈ fx)
    (hb : ∀ cdv A outer s H E σ₀, Room k (A.deeper (envOfC qual (defScope st) s.heap.objs.size f cdv)) → Good (bodyCt P w K mg base C N qual (defScope st) f fx cdv A outer s H E σ₀) → EvB (bodyCt P w K mg base C N qual (defScope st) f fx cdv A outer s H E σ₀) (defBody st) g) :
    FnV P w K mg base C (k + 1) f fd ps io (fnF N.length io g) := by
  have hpn : ps.length ≤ N.length := by
    have := congrArg List.length S.pre
    rw [List.length_take] at this
    omega
  refine F.okX S (fun vs H Q E h => h.1) fun cdv A outer s H vs Q E hr h => ?_
  have G : Good (bodyCt P w K mg base C N qual (defScope st) f fx cdv A outer s H E (start N vs)) := ⟨hC, S.nd, rfl, takes_of rfl rfl rfl rfl⟩
  obtain ⟨t, h1, h2⟩ := hb cdv A outer s H E (start N vs) hr G
  refine ⟨t, h1, ?_⟩
  obtain ⟨hl, h⟩ := h
  cases io with
  | false =>
    obtain ⟨ds, Z, r, zh, q⟩ := h
    have St0 : SttC (bodyCt P w K mg base C N qual (defScope st) f fx cdv A outer s H E (start N vs)) Z (start N vs) H (en0 N.length none ds) (fun _ _ => False) :=
      { len := en0_len hl hpn (by simp only [Nat.zero_add]; rw [← r.length]; exact hl)
        slot := fun i d k hi => by
          obtain ⟨e1, rfl⟩ := en0_none hi
          obtain ⟨v, e2, e3⟩ := r.get' e1
          exact ⟨v, start_get e2, e3, fun _ z => z⟩
        off := fun _ _ _ z => z
        dj := fun _ _ _ z => z.elim
        nz := fun _ _ z => z.elim
        zh := zh
        io := fun _ _ => rfl
        l0 := fun _ => rfl }
    have T0 : ∀ a, ¬ Tot (fun (_ : Nat) (_ : Addr) => False) a := fun a ⟨_, z⟩ => z
    have ev0 : ∀ {Z' H' F'}, Evo Z H (Tot (fun (_ : Nat) (_ : Addr) => False)) Z' H' F' → ∀ {F2 : Fp}, (∀ a, F2 a → F' a) → Evo Z H (fun _ => False) Z' H' F2 := fun {Z' H' F'} e {F2} hs => (e.sub hs).mono0 T0
    refine h2 _ H Z _ _ St0 _ ?_
    unfold fnF at q
    cases e : g (en0 N.length none ds) with
    | nx env =>
      rw [e] at q
      exact fun σ' H' Z' φ' S' ev => q .non H' Z' (fun _ => False) (Ow.sh .non) (fun _ z => z.elim) S'.zh (ev0 ev fun _ z => z.elim)
    | ret p env =>
      rw [e] at q
      exact fun v σ' H' Z' φ' B S' o d ev => q v H' Z' B o (fun a z => (d a z).2) S'.zh (ev0 ev fun _ z => .inr z)
    | ex x =>
      rw [e] at q
      exact fun σ' _ _ cls dx H' Z' ev zh' xr => q cls dx H' Z' (ev0 ev fun _ z => z.elim) zh' xr
    | bk env => rw [e] at q; exact q.elim
    | ct env => rw [e] at q; exact q.elim
    | no => rw [e] at q; exact q.elim
  | true =>
    cases vs with
    | nil => exact h.elim
    | cons v₀ vs =>
      obtain ⟨p₀, ds, Z, A₀, o₀, r, nz₀, zh, q⟩ := h
      obtain ⟨hp0, hfx⟩ := hio rfl
      have get1 : ∀ i d k, (en0 N.length (some p₀) ds)[i + 1]? = some (some (d, k)) → ds[i]? = some d ∧ k = 0 := fun i d k hi => by
        have : (en0 N.length (some p₀) ds)[i + 1]? = (ds.map (fun d => some (d, 0)) ++ List.replicate (N.length - (1 + ds.length)) (none : Sl))[i]? := by
          unfold en0
          simp only [List.cons_append, List.nil_append, List.getElem?_cons_succ]
        rw [this] at hi
        by_cases hi2 : i < ds.length
        · rw [List.getElem?_append_left (by simpa using hi2), List.getElem?_map] at hi
          cases e : ds[i]? with
          | none => rw [e] at hi; cases hi
          | some d' => rw [e] at hi; cases hi; exact ⟨rfl, rfl⟩
        · rw [List.getElem?_append_right (by simpa using Nat.le_of_not_lt hi2), List.getElem?_replicate] at hi
          exact absurd hi (by split <;> simp)
      have St0 : SttC (bodyCt P w K mg base C N qual (defScope st) f fx cdv A outer s H E (start N (v₀ :: vs))) Z (start N (v₀ :: vs)) H (en0 N.length (some p₀) ds) (fun i a => i = 0 ∧ A₀ a) :=
        { len := en0_len hl hpn (by have := r.length; simp at hl ⊢; omega)
          slot := fun i d k hi => by
            cases i with
            | zero =>
              have e : p₀ = (d, k) := by
                have : (en0 N.length (some p₀) ds)[0]? = some (some p₀) := by unfold en0; simp
                rw [this] at hi
                exact Option.some.inj (Option.some.inj hi)
              subst e
              exact ⟨v₀, start_get rfl, o₀.congr fun a => ⟨fun z => ⟨rfl, z⟩, fun z => z.2⟩⟩
            | succ i =>
              obtain ⟨e1, rfl⟩ := get1 i d k hi
              obtain ⟨v, e2, e3⟩ := r.get' e1
              exact ⟨v, start_get (by simpa using e2), e3, fun _ z => nomatch z.1⟩
          off := fun i h a z => by
            obtain ⟨rfl, z⟩ := z
            exact h p₀ (by unfold en0; simp)
          dj := fun _ _ _ z y => z.1.trans y.1.symm
          nz := fun _ a z => nz₀ a z.2
          zh := zh
          io := fun _ _ => rfl
          l0 := fun _ => rfl }
      have T0 : ∀ a, Tot (fun (i : Nat) (a : Addr) => i = 0 ∧ A₀ a) a ↔ A₀ a := fun a => ⟨fun ⟨_, z⟩ => z.2, fun z => ⟨0, rfl, z⟩⟩
      have ev0 : ∀ {Z' H' F'}, Evo Z H (Tot (fun (i : Nat) (a : Addr) => i = 0 ∧ A₀ a)) Z' H' F' → ∀ {F2 : Fp}, (∀ a, F2 a → F' a) → Evo Z H A₀ Z' H' F2 := fun {Z' H' F'} e {F2} hs => (e.sub hs).more fun a z => (T0 a).mp z
      have fin : ∀ {σ' : L2.St} {H' : Hp} {Z' : Fp} {φ' : Nat → Fp} {env : En}, SttC (bodyCt P w K mg base C N qual (defScope st) f fx cdv A outer s H E (start N (v₀ :: vs))) Z' σ' H' env φ' →
          FinOk C Z' H' v₀ ((env[0]?).getD none) (φ' 0) := fun {σ' H' Z' φ' env} S' => by
        cases e : (env[0]?).getD none with
        | none =>
          refine S'.off 0 fun p hp => ?_
          rw [hp] at e; cases e
        | some q =>
          obtain ⟨d, k⟩ := q
          have e2 : env[0]? = some (some (d, k)) := by
            cases e3 : env[0]? with
            | none => rw [e3] at e; cases e
            | some y => rw [e3] at e; exact congrArg some e
          obtain ⟨v, hv, o⟩ := S'.slot 0 d k e2
          have hs : σ'[0]? = (start N (v₀ :: vs))[0]? := S'.io 0 hfx
          rw [hs, start_get (v := v₀) rfl] at hv
          cases hv
          exact o
      refine h2 _ H Z _ _ St0 _ ?_
      unfold fnF at q
      cases e : g (en0 N.length (some p₀) ds) with
      | nx env =>
        rw [e] at q
        exact fun σ' H' Z' φ' S' ev => q .non H' Z' (fun _ => False) (φ' 0) (Ow.sh .non) (fin S') (fun _ z => z.elim) (fun a z => S'.nz 0 a z) S'.zh (ev0 ev fun a z => z.elim (fun z => ⟨0, z⟩) fun z => z.elim)
      | ret p env =>
        rw [e] at q
        exact fun v σ' H' Z' φ' B S' o d ev => q v H' Z' B (φ' 0) o (fin S') (fun a z => ⟨fun y => (d a z).1 ⟨0, y⟩, (d a z).2⟩) (fun a z => S'.nz 0 a z) S'.zh (ev0 ev fun a z => z.imp (fun z => ⟨0, z⟩) id)
      | ex x =>
        rw [e] at q
        exact fun σ' _ _ cls dx H' Z' ev zh' xr => q cls dx H' Z' (ev0 ev fun _ z => z.elim) zh' xr
      | bk env => rw [e] at q; exact q.elim
      | ct env => rw [e] at q; exact q.elim
      | no => rw [e] at q; exact q.elim
end

/-! ### calls -/
section
variable {Γ : Ct} {k : Nat} {f : Addr} {fd : FuncData} {ps : List Str} {F : Sl → List D → FR} {x : Str} {p pos : Pos} {e : Expr} {es : List Expr}
abbrev FnC (Γ : Ct) (k : Nat) (f : Addr) (fd : FuncData) (ps : List Str) (io : Bool) (F : Sl → List D → FR) : Prop := FnV Γ.X.prog Γ.X.w Γ.X.K Γ.X.mg Γ.X.base Γ.C k f fd ps io F
def frR (r : FR) (env : En) : R (D × Nat) :=
  match r with
  | .ok p _ => .ok p env
  | .ex x => .ex x
  | .no => .no
def callF (n : Nat) (F : Sl → List D → FR) (r : En → R (List D)) : En → R (D × Nat) := fun env => (r env).bind fun ds env1 => if ds.length = n then frR (F none ds) env1 else .no
theorem call_core {σ : L2.St} {Z : Fp} {H : Hp} {env : En} {φ : Nat → Fp} (S : SttC Γ Z σ H env φ) {vs : List V} {ds : List D} {n : Nat} (hn : ∀ H Q E, spF Γ.C n false F vs H Q E → vs.length = n) (hl : vs.length = n) (r : ShL Γ.C Z H vs ds) {Q : VK}
    (P : Post Γ σ Z H (Tot φ) (ER Γ.C σ) (frR (F none ds) env) Q) : spF Γ.C n false F vs H Q (WE Γ.W σ) := by
  refine ⟨hl, ds, Z, r, S.zh, ?_⟩
  have go : ∀ {Z' H' A}, Evo Z H (fun _ => False) Z' H' A → (∀ a, Z' a → H' a ≠ none) → SttC Γ Z' σ H' env φ := fun {Z' H' A} ev zh => S.go (ev.ext (fun _ z => z.elim) fun _ z => z.elim) (fun a o _ h => ev.keep a o h fun z => z) (fun a z y => by
    rcases ev.zn a y with y | y | y
    · exact S.tnz a z y
    · exact y
    · have := S.mu a z; rw [y] at this; exact this) zh
  cases e : F none ds with
  | ok q fin =>
    rw [e] at P
    intro v H' Z' A o nz zh ev
    refine P v H' Z' φ A (go ev zh) o (fun a z => ⟨fun y => ?_, nz a z⟩) ⟨fun a u h _ => ev.keep a u h fun z => z, ev.zm, fun a z => (ev.zn a z).imp id fun q => q.imp (fun z => z.elim) id, fun a z => z.elim .inl fun z => .inr ((ev.fn a z).elim (fun z => z.elim) id)⟩
    rcases ev.fn a z with z | z
    · exact z
    · have := S.mu a y; rw [z] at this; exact this
  | ex x =>
    rw [e] at P
    exact fun cls dx H' Z' ev zh xr => P cls dx H' Z' (ev.more fun _ z => z.elim) zh xr
  | no => rw [e] at P; exact P
theorem ev_call (G : Good Γ) (hF : FnC Γ k f fd ps false F) (hr : Room k Γ.X.A) (hg : Gl Γ.X x) (hm : Γ.X.mg x = some (.ref f)) (hk : PySem.W.keepIn Γ.X.K (.ref f) = true) (hb : Binds Γ.X.K fd ps []) {r : En → R (List D)} (ha : EvA Γ (e :: es) r) 
    (hdb : (x == ("__debug__" : Str)) = false := by decide) (he : starEach (e :: es) Γ.X.env = (false, eval e Γ.X.env) :: starEach es Γ.X.env := by rfl) (hpl : (backTo pos (starEach es Γ.X.env)).any (·.1) = false := by rfl) :
    EvE Γ (.Call (.Name x p) (e :: es) [] pos) (callF ps.length F r) := by
  obtain ⟨t, h1, h2⟩ := ha
  refine ⟨_, pe_callS hF hr hg hm hk hb (passAt G.tk) h1 hdb he hpl, fun σ H Z env φ S Q P => ?_⟩
  refine h2.bind S P fun ds env1 vs H1 Z1 φ1 A e1 S1 q1 dj1 ev1 P1 => ?_
  have q1 : ShL Γ.C Z1 H1 vs ds := q1
  have P2 := P1.mono Evo.dropA
  by_cases hl : ds.length = ps.length
  · rw [if_pos hl] at P2
    exact call_core S1 (fun _ _ _ h => h.1) (by rw [q1.length]; exact hl) q1 P2
  · rw [if_neg hl] at P2; exact P2.elim

/-! a def that a slot holds -/
/-- which def stands for the number, at which place -/
structure FnT (Γ : Ct) (k : Nat) (T : Nat → Option (Nat × (Sl → List D → FR))) : Prop where
  at' : ∀ i n F, T i = some (n, F) → ∀ a, Γ.C.fa i = some a → ∃ fd ps, FnC Γ k a fd ps false F ∧ PySem.W.keepIn Γ.X.K (.ref a) = true ∧ Binds Γ.X.K fd ps [] ∧ ps.length = n
def callL (T : Nat → Option (Nat × (Sl → List D → FR))) (i : Nat) (r : En → R (List D)) : En → R (D × Nat) := fun env => match env[i]? with
  | some (some (.fn m, _)) => (match T m with
    | some (n, F) => callF n F r env
    | none => .no)
  | _ => .no
def tCallX (W : WX) (i : Nat) (S : Addr → Sp → Prop) (t : TA) : TE := fun σ H Q => ∃ f sp, σ[i]? = some (some (.ref f)) ∧ S f sp ∧ t σ H fun vs H1 => sp vs H1 Q (WE W σ)
theorem pe_callX {X : Cx} {W : WX} {i : Nat} {S : Addr → Sp → Prop} {t : TA} (tk : Takes X W) (hS : ∀ f sp, S f sp → ∃ fd ps, FnOk X.prog X.w X.K X.mg X.base (L2.CX X.prog X.w) k f fd ps sp ∧ PySem.W.keepIn X.K (.ref f) = true ∧ Binds X.K fd ps []) (hr : Room k X.A) (hN : X.N[i]? = some x) (hv : Vis X.env.scope x) (ha : PA X (e :: es) t)
    (hdb : (x == ("__debug__" : Str)) = false := by decide) (hcd : (x == ("__classdict__" : Str)) = false := by decide)
    (he : starEach (e :: es) X.env = (false, eval e X.env) :: starEach es X.env := by rfl) (hpl : (backTo pos (starEach es X.env)).any (·.1) = false := by rfl) : PE X (.Call (.Name x p) (e :: es) [] pos) (tCallX W i S t) := by
  refine ⟨fun pins s σ H Q I h => ?_⟩
  obtain ⟨f, sp, hs, hSf, ht⟩ := h
  obtain ⟨fd, ps, F, hk, hb⟩ := hS f sp hSf
  refine wpAny_Call_Name_kw (thn ((pe_var (pos := p) hN hv hdb hcd).run pins s σ H (fun v H1 => v = .ref f ∧ H1 = H) I ⟨.ref f, hs, rfl, rfl⟩) fun u s1 ⟨v, H1, I1, r1, q1⟩ => ?_)
  obtain ⟨rfl, rfl⟩ := q1
  cases r1
  refine PySem.W.callWith_K (h₀ := X.base) I.ok.mod.kin hk (thn (ha.run pos pins s1 σ _ _ I1 ht) fun us s2 ⟨vs, H2, I2, r, q⟩ => ⟨I2.kIn, ?_⟩) he hpl
  exact run_fnS (E := WE W) F hr hb (passAt tk σ) I2 r q
theorem ev_callL (G : Good Γ) {T : Nat → Option (Nat × (Sl → List D → FR))} {i : Nat} (hT : FnT Γ k T) (hr : Room k Γ.X.A) (hN : Γ.X.N[i]? = some x) (hv : Vis Γ.X.env.scope x) {r : En → R (List D)} (ha : EvA Γ (e :: es) r)
    (hdb : (x == ("__debug__" : Str)) = false := by decide) (hcd : (x == ("__classdict__" : Str)) = false := by decide) (he : starEach (e :: es) Γ.X.env = (false, eval e Γ.X.env) :: starEach es Γ.X.env := by rfl) (hpl : (backTo pos (starEach es Γ.X.env)).any (·.1) = false := by rfl) :
    EvE Γ (.Call (.Name x p) (e :: es) [] pos) (callL T i r) := by
  obtain ⟨t, h1, h2⟩ := ha
  refine ⟨_, pe_callX (k := k) (W := Γ.W) (i := i) (S := fun f sp => ∃ m n F, Γ.C.fa m = some f ∧ T m = some (n, F) ∧ sp = spF Γ.C n false F) G.tk (fun f sp ⟨m, n, F, e1, e2, e3⟩ => ?_) hr hN hv h1 hdb hcd he hpl, fun σ H Z env φ S Q P => ?_⟩
  · obtain ⟨fd, ps, q1, q2, q3, q4⟩ := hT.at' m n F e2 f e1
    subst e3 q4
    exact ⟨fd, ps, q1, q2, q3⟩
  · unfold callL at P
    split at P
    · rename_i m d0 hm
      obtain ⟨v, hv1, o⟩ := S.slot i _ _ hm
      have sh := o.im_inv rfl
      cases sh with
      | @fn _ f0 hf =>
        cases eT : T m with
        | none => rw [eT] at P; exact P.elim
        | some nF =>
          obtain ⟨n, F⟩ := nF
          rw [eT] at P
          refine ⟨f0, spF Γ.C n false F, hv1, ⟨m, n, F, hf, eT, rfl⟩, ?_⟩
          refine h2.bind S P fun ds env1 vs H1 Z1 φ1 A e1 S1 q1 dj1 ev1 P1 => ?_
          have q1 : ShL Γ.C Z1 H1 vs ds := q1
          have P2 := P1.mono Evo.dropA
          by_cases hl : ds.length = n
          · rw [if_pos hl] at P2
            exact call_core S1 (fun _ _ _ h => h.1) (by rw [q1.length]; exact hl) q1 P2
          · rw [if_neg hl] at P2; exact P2.elim
    · exact P.elim

/-! a def that changes its first argument's lists -/
def callI (n : Nat) (F : Sl → List D → FR) (i : Nat) (r : En → R (List D)) : En → R (D × Nat) := fun env => match env[i]? with
  | some (some _) => (r env).bind fun ds env1 => if ds.length + 1 = n then
    (match env1[i]? with
      | some (some q) => (match F (some q) ds with
        | .ok p fin => .ok p (env1.set i fin)
        | .ex x => .ex x
        | .no => .no)
      | _ => .no) else .no
  | _ => .no
theorem Stt.putSl {i : Nat} {C : RC} {io : List Nat} {σ₀ σ : L2.St} {Z : Fp} {H : Hp} {env : En} {φ : Nat → Fp} (S : Stt C io σ₀ Z σ H (env.set i none) φ) {v : V} (hi : i < env.length) (hv : σ[i]? = some (some v)) {s : Sl} {A : Fp} (o : FinOk C Z H v s A) (dj : ∀ j a, j ≠ i → φ j a → ¬ A a) (nz : ∀ a, A a → ¬ Z a) :
    Stt C io σ₀ Z σ H (env.set i s) (fun j => if j = i then A else φ j) := by
  cases s with
  | some q =>
    have S2 := S.reput (i := i) (by simpa using hi) hv o dj nz
    have e1 : (env.set i none).set i (some (q.1, q.2)) = env.set i (some q) := by rw [List.set_set]
    rw [e1] at S2
    exact S2
  | none =>
    have o : ∀ a, ¬ A a := o
    have h0 : ∀ a, ¬ φ i a := S.off i fun p h => by rw [List.getElem?_set_self hi] at h; cases h
    have e : (fun j => if j = i then A else φ j) = φ := by
      funext j
      by_cases q : j = i
      · rw [if_pos q]
        funext a
        exact propext ⟨fun z => (o a z).elim, fun z => (h0 a (q ▸ z)).elim⟩
      · rw [if_neg q]
    rw [e]
    exact S
theorem ev_callI (G : Good Γ) (hF : FnC Γ k f fd ps true F) (hr : Room k Γ.X.A) (hg : Gl Γ.X x) (hm : Γ.X.mg x = some (.ref f)) (hk : PySem.W.keepIn Γ.X.K (.ref f) = true) (hb : Binds Γ.X.K fd ps []) {i : Nat} {y : Str} {yp : Pos} (hN : Γ.X.N[i]? = some y) (hv : Vis Γ.X.env.scope y) {r : En → R (List D)} (ha : EvA Γ es r)
    (hdb : (x == ("__debug__" : Str)) = false := by decide) (hdy : (y == ("__debug__" : Str)) = false := by decide) (hcy : (y == ("__classdict__" : Str)) = false := by decide) (he : starEach (.Name y yp :: es) Γ.X.env = (false, eval (.Name y yp) Γ.X.env) :: starEach es Γ.X.env := by rfl) (hpl : (backTo pos (starEach es Γ.X.env)).any (·.1) = false := by rfl) :
    EvE Γ (.Call (.Name x p) (.Name y yp :: es) [] pos) (callI ps.length F i r) := by
  obtain ⟨t, h1, h2⟩ := ha
  refine ⟨_, pe_callS hF hr hg hm hk hb (passAt G.tk) (pa_cons (pe_var hN hv hdy hcy) h1 he) hdb he hpl, fun σ H Z env φ S Q P => ?_⟩
  show ∃ v, σ[i]? = some (some v) ∧ t σ H fun vs H1 => spF Γ.C ps.length true F (v :: vs) H1 Q (WE Γ.W σ)
  unfold callI at P
  split at P
  case h_2 => exact P.elim
  rename_i q₀ hq₀
  obtain ⟨v₀, hv₀, _⟩ := S.slot i q₀.1 q₀.2 hq₀
  refine ⟨v₀, hv₀, ?_⟩
  suffices key : ∀ v, σ[i]? = some (some v) → t σ H fun vs H1 => spF Γ.C ps.length true F (v :: vs) H1 Q (WE Γ.W σ) from key v₀ hv₀
  intro v hv0
  · refine h2.bind S P fun ds env1 vs H1 Z1 φ1 A e1 S1 q1 dj1 ev1 P1 => ?_
    have q1 : ShL Γ.C Z1 H1 vs ds := q1
    have P2 := P1.mono Evo.dropA
    by_cases hl : ds.length + 1 = ps.length
    · rw [if_pos hl] at P2
      split at P2
      · rename_i q hq
        obtain ⟨d0, k0⟩ := q
        obtain ⟨v', hv', o⟩ := S1.slot i d0 k0 hq
        rw [hv0] at hv'; cases hv'
        have hi : i < env1.length := (List.getElem?_eq_some_iff.mp hq).1
        refine ⟨by rw [List.length_cons, q1.length]; exact hl, (d0, k0), ds, Z1, φ1 i, o, q1, fun a z => S1.nz i a z, S1.zh, ?_⟩
        have Sd := S1.drop i
        have go : ∀ {Z' H' B}, Evo Z1 H1 (φ1 i) Z' H' B → (∀ a, Z' a → H' a ≠ none) → SttC Γ Z' σ H' (env1.set i none) (fun j a => j ≠ i ∧ φ1 j a) := fun {Z' H' B} ev zh =>
          Sd.go (ev.ext (fun a z => S1.mu a ⟨i, z⟩) fun a z => S1.nz i a z) (fun a u ⟨j, hj, z⟩ h => ev.keep a u h fun y => hj (S1.dj j i a z y)) (fun a ⟨j, hj, z⟩ y => by
            rcases ev.zn a y with y | y | y
            · exact S1.nz j a z y
            · exact hj (S1.dj j i a z y)
            · have := S1.mu a ⟨j, z⟩; rw [y] at this; exact this) zh
        cases eF : F (some (d0, k0)) ds with
        | ok p' fin =>
          rw [eF] at P2
          intro w H' Z' B φ₀ o' fo d1 d2 zh ev
          have S3 := go ev zh
          have fr : ∀ a, (φ₀ a ∨ B a) → ∀ j, j ≠ i → ¬ φ1 j a := fun a z j hj y => by
            rcases ev.fn a z with z | z
            · exact hj (S1.dj j i a y z)
            · have := S1.mu a ⟨j, y⟩; rw [z] at this; exact this
          have S4 := S3.putSl hi hv0 fo (fun j a hj z y => fr a (.inl y) j hj z.2) d2
          refine P2 w H' Z' _ B S4 o' (fun a z => ⟨fun ⟨j, y⟩ => ?_, (d1 a z).2⟩) ⟨fun a u h n => ev.keep a u h fun z => n ⟨i, z⟩, ev.zm, fun a z => (ev.zn a z).imp id fun q => q.imp (fun z => ⟨i, z⟩) id, fun a z => ?_⟩
          · by_cases q : j = i
            · simp only [if_pos q] at y; exact (d1 a z).1 y
            · simp only [if_neg q] at y; exact fr a (.inr z) j q y.2
          · rcases z with ⟨j, z⟩ | z
            · by_cases q : j = i
              · simp only [if_pos q] at z; exact (ev.fn a (.inl z)).imp (fun z => ⟨i, z⟩) id
              · simp only [if_neg q] at z; exact .inl ⟨j, z.2⟩
            · exact (ev.fn a (.inr z)).imp (fun z => ⟨i, z⟩) id
        | ex x =>
          rw [eF] at P2
          exact fun cls dx H' Z' ev zh xr => P2 cls dx H' Z' (ev.more fun a z => ⟨i, z⟩) zh xr
        | no => rw [eF] at P2; exact P2
      · exact P2.elim
    · rw [if_neg hl] at P2; exact P2.elim
end
end Pv
end

section
set_option Elab.async false
set_option linter.all false
set_option maxRecDepth 100000
set_option maxHeartbeats 4000000
/-! Pv9: targets, what is walked, for, while, list comprehensions. -/
namespace Pv
open PySem PySem.Spec PyProof.Rows L2

/-! ### targets -/
section
variable {Γ : Ct} {x : Str} {p pos : Pos} {e a b : Expr} {es : List Expr}
def EvG (Γ : Ct) (tg : Expr) (ws : List Nat) (g : D → En → Option En) : Prop := ∃ t, PG Γ.X tg t ∧ ∀ σ H Z env φ, SttC Γ Z σ H env φ → ∀ v d env', Sh Γ.C Z H v d → g d env = some env' → ∀ Q : L2.St → Hp → Prop,
  (∀ σ' φ', SttC Γ Z σ' H env' φ' → (∀ a, Tot φ' a → Tot φ a) → (σ'.length = σ.length ∧ ∀ i, i ∉ ws → σ'[i]? = σ[i]?) → Q σ' H) → t v σ H Q
def EvGs (Γ : Ct) (tgs : List Expr) (ws : List Nat) (g : List D → En → Option En) : Prop := ∃ t, PGs Γ.X tgs t ∧ ∀ σ H Z env φ, SttC Γ Z σ H env φ → ∀ vs ds env', ShL Γ.C Z H vs ds → g ds env = some env' → ∀ Q : L2.St → Hp → Prop,
  (∀ σ' φ', SttC Γ Z σ' H env' φ' → (∀ a, Tot φ' a → Tot φ a) → (σ'.length = σ.length ∧ ∀ i, i ∉ ws → σ'[i]? = σ[i]?) → Q σ' H) → t vs σ H Q
def nameG (i : Nat) : D → En → Option En := fun d env => if i < env.length then some (env.set i (some (d, 0))) else none
theorem eg_name {i : Nat} (G : Good Γ) (hi : Γ.X.N[i]? = some x) (hx : Loc Γ.X.env.scope x) (hio : i ∉ Γ.io) (hf : Γ.X.fn x = true ∨ Γ.X.env.scope.names.lookup x = some .local := by first | exact .inl rfl | exact .inr rfl | assumption) : EvG Γ (.Name x pos) [i] (nameG i) := by
  refine ⟨_, pg_name G.nd hi hx hf, fun σ H Z env φ S v d env' sh hg Q q => ?_⟩
  unfold nameG at hg
  split at hg
  · rename_i hl
    cases hg
    refine q _ _ (S.put hl hio (Ow.sh sh) (fun _ _ _ _ z => z) fun _ z => z.elim) (fun a ⟨j, z⟩ => ?_) ⟨List.length_set, fun j hj => ?_⟩
    · by_cases q : j = i
      · simp only [if_pos q] at z
      · simp only [if_neg q] at z; exact ⟨j, z⟩
    · rw [List.getElem?_set_ne (by simpa [eq_comm] using hj)]
  · cases hg
def nilG : List D → En → Option En := fun ds env => if ds.isEmpty then some env else none
def consG (g : D → En → Option En) (r : List D → En → Option En) : List D → En → Option En := fun ds env => match ds with
  | d :: ds => (g d env).bind fun env1 => r ds env1
  | [] => none
theorem egs_nil : EvGs Γ [] [] nilG := by
  refine ⟨_, pgs_nil, fun σ H Z env φ S vs ds env' sh hg Q q => ?_⟩
  unfold nilG at hg
  split at hg
  · rename_i h
    cases hg
    cases sh with
    | nil => exact ⟨rfl, q σ φ S (fun _ z => z) ⟨rfl, fun _ _ => rfl⟩⟩
    | cons _ _ => cases h
  · cases hg
theorem egs_cons {ws us : List Nat} {g : D → En → Option En} {r : List D → En → Option En} (h1 : EvG Γ e ws g) (h2 : EvGs Γ es us r) (hs : (assignEach (e :: es) Γ.X.env).map (·.2) = assign e Γ.X.env :: (assignEach es Γ.X.env).map (·.2) := by rfl) : EvGs Γ (e :: es) (ws ++ us) (consG g r) := by
  obtain ⟨t, a1, a2⟩ := h1
  obtain ⟨u, b1, b2⟩ := h2
  refine ⟨_, pgs_cons a1 b1 hs, fun σ H Z env φ S vs ds env' sh hg Q q => ?_⟩
  unfold consG at hg
  cases sh with
  | nil => cases hg
  | @cons v vs d ds h r0 =>
    obtain ⟨env1, e1, e2⟩ := Option.bind_eq_some_iff.mp hg
    refine ⟨v, vs, rfl, a2 σ H Z env φ S v d env1 h e1 _ fun σ1 φ1 S1 t1 k1 => ?_⟩
    refine b2 σ1 H Z env1 φ1 S1 vs ds env' r0 e2 _ fun σ2 φ2 S2 t2 k2 => ?_
    exact q σ2 φ2 S2 (fun a z => t1 a (t2 a z)) ⟨k2.1.trans k1.1, fun i hi => (k2.2 i fun z => hi (List.mem_append_right _ z)).trans (k1.2 i fun z => hi (List.mem_append_left _ z))⟩
def tupG (n : Nat) (r : List D → En → Option En) : D → En → Option En := fun d env => match d with
  | .tup ds => if ds.length = n then r ds env else none
  | _ => none
theorem eg_tup {k : Nat} {ws : List Nat} {n : Nat} {r : List D → En → Option En} (G : Good Γ) (h : EvGs Γ es ws r) (hn : (assignEach es Γ.X.env).length = n := by rfl) (hst : (assignEach es Γ.X.env).findIdx? (·.1) = none := by rfl) : EvG Γ (.Tuple es k pos) ws (tupG n r) := by
  obtain ⟨t, h1, h2⟩ := h
  refine ⟨_, pg_tup G.calm h1 hn hst, fun σ H Z env φ S v d env' sh hg Q q => ?_⟩
  unfold tupG at hg
  split at hg
  · split at hg
    · rename_i hl
      cases sh with
      | tup s r0 =>
        have s' := s
        rw [G.hK] at s'
        exact ⟨_, _, rfl, s', by rw [r0.length]; exact hl, h2 σ H Z env φ S _ _ env' r0 hg Q q⟩
    · cases hg
  · cases hg
/-- target = value, the target of any form -/
def asgS (g : D → En → Option En) (f : En → R D) : En → SR := fun env => (f env).then fun d env1 => match g d env1 with
  | some e => .nx e
  | none => .no
theorem es_asg {ws : List Nat} {g : D → En → Option En} {f : En → R D} (he : EvV Γ e f) (hg : EvG Γ a ws g) (hs : swapsWithSole [a] e pos.line Γ.X.env = pure false := by rfl) (hw : swappedStores [a] e Γ.X.env = pure none := by rfl)
    (h1 : (assignEach [a] Γ.X.env).map (·.2) = [assign a Γ.X.env] := by rfl) : EvS Γ (.Assign [a] e pos) (asgS g f) := by
  obtain ⟨t, a1, a2⟩ := he
  obtain ⟨u, b1, b2⟩ := hg
  refine ⟨_, ps_asg a1 b1 hs hw h1, fun σ H Z env φ S Dn P => ?_⟩
  refine a2.then S P fun d env1 v H1 Z1 φ1 A e1 S1 q dj ev P1 => ?_
  have P2 := P1.mono Evo.dropA
  cases hg : g d env1 with
  | none => rw [hg] at P2; exact P2.elim
  | some env2 =>
    rw [hg] at P2
    exact b2 σ H1 Z1 env1 φ1 S1 v d env2 q hg _ fun σ' φ' S' t' _ => P2 σ' H1 Z1 φ' S' (Evo.refl.sub t')

/-! ### what is walked -/
def Grow (H H' : Hp) : Prop := H' = H ∨ ∃ T o, H T = none ∧ H' = upd H T o
def ItD (C : RC) (J : It) (ds : List D) (Z₀ : Fp) (H₀ : Hp) : Prop := ∀ Z H, Ext Z₀ H₀ Z H → J.stop ds.length H ∧ ∀ i d, ds[i]? = some d → J.go i H ∧ ∀ x H', J.yld i H x H' → Sh C Z H' x d ∧ Grow H H'
def EvI (Γ : Ct) (tg iter : Expr) (f : En → R (List D)) : Prop := ∃ wi, PI Γ.X tg iter wi ∧ ∀ σ H Z env φ, SttC Γ Z σ H env φ → ∀ R : It → Hp → Prop, (match f env with
  | .ok ds env1 => ∀ J H1 Z1 φ1, SttC Γ Z1 σ H1 env1 φ1 → ItD Γ.C J ds Z1 H1 → Evo Z H (Tot φ) Z1 H1 (Tot φ1) → R J H1
  | .ex x => PostX Γ σ Z H (Tot φ) x
  | .no => False) → wi σ H R
def iSeq (K : PySem.W.Frag) (tl : TE) : TI := fun σ H R => tl σ H fun v H1 => (∃ a xs, v = .ref a ∧ SqL K H1 a xs ∧ R (Itl K a) H1) ∨ (∃ a xs, v = .ref a ∧ SqT K H1 a xs ∧ R (Itt K a) H1) ∨ ∃ x, v = .str x ∧ R (Its x) H1
theorem pi_seq {X : Cx} {tg l : Expr} {tl : TE} (hl : PE X l tl) : PI X tg l (iSeq X.K tl) := by
  refine ⟨fun pins s σ H R I h => ?_⟩
  refine thn (hl.run pins s σ H _ I h) fun v s1 ⟨x, H1, I1, r1, q1⟩ => ?_
  rcases q1 with ⟨a, xs, rfl, hq, q⟩ | ⟨a, xs, rfl, hq, q⟩ | ⟨y, rfl, q⟩
  · have hk : PI X tg l (iList X.K tl) := pi_list hl
    cases r1
    obtain ⟨its, rv, p, hz⟩ := I1.list hq
    refine wpAny_pyIter_list p.isList ?_
    refine ⟨s1.heap.objs.size, [s1.heap.objs.size], _, _, H1, rfl, I1.kept (t' := s1.toks) fun b o e => Heap.get?_push_of_some _ e, turn_list a _, ⟨_, Heap.get?_push_size _ rfl, rfl, rfl⟩, fun b hb => ?_, q⟩
    have e : b = s1.heap.objs.size := by simpa using hb
    subst e
    exact I1.fpOk (Nat.le_refl _) (I1.hok.fresh (Nat.le_refl _))
  · cases r1
    obtain ⟨its, rv, p, hz⟩ := I1.tuple hq
    refine wpAny_pyIter_tuple (show s1.heap.IsTuple a its.toArray from p) ?_
    refine ⟨s1.heap.objs.size, [s1.heap.objs.size], _, _, H1, rfl, I1.kept (t' := s1.toks) fun b o e => Heap.get?_push_of_some _ e, turn_tuple a _, ⟨_, Heap.get?_push_size _ rfl, rfl, rfl⟩, fun b hb => ?_, q⟩
    have e : b = s1.heap.objs.size := by simpa using hb
    subst e
    exact I1.fpOk (Nat.le_refl _) (I1.hok.fresh (Nat.le_refl _))
  · obtain ⟨t, rfl⟩ := r1
    cases ha : y.cps.all (· < 128)
    · exact wpAny_pyIter_wide ha (pi_one (tk := s1.toks) I1 _ (turn_str _ y t "str_iterator" (.inr rfl)) ⟨_, Heap.get?_push_size _ rfl, rfl, rfl⟩ q)
    · exact wpAny_pyIter_ascii ha (pi_one (tk := s1.toks) I1 _ (turn_str _ y t "str_ascii_iterator" (.inl rfl)) ⟨_, Heap.get?_push_size _ rfl, rfl, rfl⟩ q)
/-- the items of a value that is walked -/
def itsD : D → Option (List D)
  | .lst ds => some ds
  | .tup ds => some ds
  | .scr ns => some (ns.map .int)
  | .str x => some (x.cps.toList.map fun c => .str ⟨#[c]⟩)
  | _ => none
def seqI' (f : En → R D) : En → R (List D) := fun env => (f env).bind fun d env1 => R.of (itsD d) env1
theorem ei_seq {tg l : Expr} {f : En → R D} (G : Good Γ) (h : EvV Γ l f) : EvI Γ tg l (seqI' f) := by
  obtain ⟨t, h1, h2⟩ := h
  refine ⟨_, pi_seq h1, fun σ H Z env φ S R P => ?_⟩
  refine h2 σ H Z env φ S _ ?_
  unfold seqI' at P
  cases e : f env with
  | ex x => rw [e] at P; exact P
  | no => rw [e] at P; exact P
  | ok d env1 =>
    rw [e] at P
    intro v H1 Z1 φ1 A S1 sh dj ev
    have ev' := ev.sub (F2 := Tot φ1) fun _ z => .inl z
    have sh : Sh Γ.C Z1 H1 v d := sh
    cases sh with
    | @lst a xs ds hs z r =>
      refine .inl ⟨a, xs, rfl, SqL.of hs, P (Itl Γ.X.K a) H1 Z1 φ1 S1 (fun Z2 H2 x => ?_) ev'⟩
      have h2' := x.zk a _ z hs
      have r2 := r.ext x
      refine ⟨⟨xs, SqL.of h2', by rw [r.length]; exact Nat.le_refl _⟩, fun i d hd => ?_⟩
      obtain ⟨w, hw, hwd⟩ := r2.get' hd
      refine ⟨⟨xs, w, SqL.of h2', hw⟩, fun y H' hy => ?_⟩
      obtain ⟨rfl, hy⟩ := hy
      have := hy xs (SqL.of h2')
      rw [hw] at this; cases this
      exact ⟨hwd, .inl rfl⟩
    | @tup a xs ds hs r =>
      have hs' := hs
      rw [G.hK] at hs'
      refine .inr (.inl ⟨a, xs, rfl, hs', P (Itt Γ.X.K a) H1 Z1 φ1 S1 (fun Z2 H2 x => ?_) ev'⟩)
      have h2' : SqT Γ.X.K H2 a xs := by rw [← G.hK]; exact x.sqT hs
      have r2 := r.ext x
      refine ⟨⟨xs, h2', by rw [r.length]; exact Nat.le_refl _⟩, fun i d hd => ?_⟩
      obtain ⟨w, hw, hwd⟩ := r2.get' hd
      refine ⟨⟨xs, w, h2', hw⟩, fun y H' hy => ?_⟩
      obtain ⟨rfl, hy⟩ := hy
      have := hy xs h2'
      rw [hw] at this; cases this
      exact ⟨hwd, .inl rfl⟩
    | @scr a ns hs =>
      have hq := hs.sqL
      rw [G.hK] at hq
      refine .inl ⟨a, _, rfl, hq, P (Itl Γ.X.K a) H1 Z1 φ1 S1 (fun Z2 H2 x => ?_) ev'⟩
      have h2' : SqL Γ.X.K H2 a (ns.map V.int) := by rw [← G.hK]; exact (x.scr hs).sqL
      have r2 : ShL Γ.C Z2 H2 (ns.map V.int) (ns.map D.int) := shl_ints
      refine ⟨⟨_, h2', by rw [List.length_map, List.length_map]; exact Nat.le_refl _⟩, fun i d hd => ?_⟩
      obtain ⟨w, hw, hwd⟩ := r2.get' hd
      refine ⟨⟨_, w, h2', hw⟩, fun y H' hy => ?_⟩
      obtain ⟨rfl, hy⟩ := hy
      have := hy _ h2'
      rw [hw] at this; cases this
      exact ⟨hwd, .inl rfl⟩
    | str y =>
      refine .inr (.inr ⟨y, rfl, P (Its y) H1 Z1 φ1 S1 (fun Z2 H2 x => ?_) ev'⟩)
      have hl : ∀ i : Nat, (y.cps.toList)[i]? = y.cps[i]? := fun i => Array.getElem?_toList
      refine ⟨(show y.cps.size ≤ (y.cps.toList.map fun c => D.str ⟨#[c]⟩).length by rw [List.length_map, Array.length_toList]; exact Nat.le_refl _), fun i d hd => ?_⟩
      rw [List.getElem?_map, hl] at hd
      obtain ⟨c, hc, rfl⟩ := Option.map_eq_some_iff.mp hd
      refine ⟨(Array.getElem?_eq_some_iff.mp hc).1, fun z H' hz => ?_⟩
      obtain ⟨rfl, c', hc', rfl⟩ := hz
      rw [hc] at hc'; cases hc'
      exact ⟨.str _, .inl rfl⟩
    | non => exact P.elim
    | bl _ => exact P.elim
    | int _ => exact P.elim
    | fn _ => exact P.elim
    | dic _ _ _ _ => exact P.elim
def rgB (lo hi : Int) : Bool := Nat.ble lo.natAbs 4611686018427387903 && Nat.ble hi.natAbs 4611686018427387903
theorem rgB_ok {lo hi : Int} (h : rgB lo hi = true) : -(2 ^ 62) ≤ lo ∧ lo < 2 ^ 62 ∧ -(2 ^ 62) ≤ hi ∧ hi < 2 ^ 62 := by
  unfold rgB at h
  rw [Bool.and_eq_true] at h
  have h1 := Nat.le_of_ble_eq_true h.1
  have h2 := Nat.le_of_ble_eq_true h.2
  omega
def rgD (lo hi : Int) : Option (List D) := if rgB lo hi = true then some ((List.range (hi - lo).toNat).map fun k : Nat => .int (lo + k)) else none
theorem itr_d {C : RC} {lo : Int} {n : Nat} {Z : Fp} {H : Hp} : ItD C (Itr lo n) ((List.range n).map fun k : Nat => .int (lo + k)) Z H := fun Z2 H2 x => by
  refine ⟨(show n ≤ ((List.range n).map fun k : Nat => D.int (lo + k)).length by simp), fun i d hd => ?_⟩
  rw [List.getElem?_map] at hd
  obtain ⟨j, hj, rfl⟩ := Option.map_eq_some_iff.mp hd
  obtain ⟨h1, h2⟩ := List.getElem?_eq_some_iff.mp hj
  rw [List.length_range] at h1
  rw [List.getElem_range] at h2
  subst h2
  exact ⟨h1, fun y H' ⟨e1, e2⟩ => by subst e1 e2; exact ⟨.int _, .inl rfl⟩⟩
def rg1D : List D → Option (List D)
  | [.int j] => rgD 0 j
  | _ => none
def rg2D : List D → Option (List D)
  | [.int i, .int j] => rgD i j
  | _ => none
def rg1 (f : En → R (List D)) : En → R (List D) := fun env => (f env).bind fun ds env1 => R.of (rg1D ds) env1
def rg2 (f : En → R (List D)) : En → R (List D) := fun env => (f env).bind fun ds env1 => R.of (rg2D ds) env1
theorem ei_rg1 {tg : Expr} {f : En → R (List D)} (hg : Gl Γ.X "range") (hm : Γ.X.mg "range" = none) (ha : EvA Γ [a] f) (hs : starEach [a] Γ.X.env = [(false, eval a Γ.X.env)] := by rfl) : EvI Γ tg (.Call (.Name "range" p) [a] [] pos) (rg1 f) := by
  obtain ⟨t, h1, h2⟩ := ha
  refine ⟨_, pi_range1 hg hm h1 hs, fun σ H Z env φ S R P => ?_⟩
  refine h2 σ H Z env φ S _ ?_
  unfold rg1 at P
  cases e : f env with
  | ex x => rw [e] at P; exact P
  | no => rw [e] at P; exact P
  | ok ds env1 =>
    rw [e] at P
    simp only [Pv.R.bind_ok] at P
    intro vs H1 Z1 φ1 A S1 sh0 dj ev
    have ev' := ev.sub (F2 := Tot φ1) fun _ z => .inl z
    have sh : ShL Γ.C Z1 H1 vs ds := sh0
    cases eD : rg1D ds with
    | none => rw [eD] at P; exact P.elim
    | some items =>
      rw [eD] at P
      unfold rg1D at eD
      split at eD
      · rename_i j
        cases sh with
        | cons h r =>
          cases r
          cases h
          unfold rgD at eD
          split at eD
          · rename_i hb
            have hb := rgB_ok hb
            cases eD
            have e0 : (j - 0).toNat = j.toNat := by rw [Int.sub_zero]
            refine ⟨j, rfl, hb.2.2.1, hb.2.2.2, P _ H1 Z1 φ1 S1 ?_ ev'⟩
            rw [e0]
            exact itr_d
          · cases eD
      · cases eD
theorem ei_rg2 {tg : Expr} {f : En → R (List D)} (hg : Gl Γ.X "range") (hm : Γ.X.mg "range" = none) (ha : EvA Γ [a, b] f) (hs : starEach [a, b] Γ.X.env = [(false, eval a Γ.X.env), (false, eval b Γ.X.env)] := by rfl) (hs2 : starEach [b] Γ.X.env = [(false, eval b Γ.X.env)] := by rfl) : EvI Γ tg (.Call (.Name "range" p) [a, b] [] pos) (rg2 f) := by
  obtain ⟨t, h1, h2⟩ := ha
  refine ⟨_, pi_range2 hg hm h1 hs hs2, fun σ H Z env φ S R P => ?_⟩
  refine h2 σ H Z env φ S _ ?_
  unfold rg2 at P
  cases e : f env with
  | ex x => rw [e] at P; exact P
  | no => rw [e] at P; exact P
  | ok ds env1 =>
    rw [e] at P
    simp only [Pv.R.bind_ok] at P
    intro vs H1 Z1 φ1 A S1 sh0 dj ev
    have ev' := ev.sub (F2 := Tot φ1) fun _ z => .inl z
    have sh : ShL Γ.C Z1 H1 vs ds := sh0
    cases eD : rg2D ds with
    | none => rw [eD] at P; exact P.elim
    | some items =>
      rw [eD] at P
      unfold rg2D at eD
      split at eD
      · rename_i i j
        cases sh with
        | cons h r =>
          cases r with
          | cons h' r =>
            cases r
            cases h
            cases h'
            unfold rgD at eD
            split at eD
            · rename_i hb
              have hb := rgB_ok hb
              cases eD
              exact ⟨i, j, rfl, hb, P _ H1 Z1 φ1 S1 itr_d ev'⟩
            · cases eD
      · cases eD
/-- zip of two lists or two tuples -/
def zipD : D → D → Option (List D)
  | .lst xs, .lst ys => some ((xs.zip ys).map fun q => .tup [q.1, q.2])
  | .tup xs, .tup ys => some ((xs.zip ys).map fun q => .tup [q.1, q.2])
  | _, _ => none
def zipD2 : List D → Option (List D)
  | [d, e] => zipD d e
  | _ => none
def zipI (f : En → R (List D)) : En → R (List D) := fun env => (f env).bind fun ds env1 => R.of (zipD2 ds) env1
theorem zip_get {α β : Type} {xs : List α} {ys : List β} {i : Nat} {q : α × β} (h : (xs.zip ys)[i]? = some q) : xs[i]? = some q.1 ∧ ys[i]? = some q.2 := by
  rw [List.zip, List.getElem?_zipWith] at h
  cases e1 : xs[i]? with
  | none => rw [e1] at h; simp at h
  | some x =>
    cases e2 : ys[i]? with
    | none => rw [e1, e2] at h; simp at h
    | some y => rw [e1, e2] at h; simp at h; subst h; exact ⟨rfl, rfl⟩
theorem ei_zip {ts : List Expr} {kk : Nat} {tpos : Pos} {f : En → R (List D)} (G : Good Γ) (hg : Gl Γ.X "zip") (hm : Γ.X.mg "zip" = none) (ha : EvA Γ [a, b] f)
    (hs : starEach [a, b] Γ.X.env = (false, eval a Γ.X.env) :: starEach [b] Γ.X.env := by rfl) (hpl : (backTo pos (starEach [b] Γ.X.env)).any (·.1) = false := by rfl) : EvI Γ (.Tuple ts kk tpos) (.Call (.Name "zip" p) [a, b] [] pos) (zipI f) := by
  obtain ⟨t, h1, h2⟩ := ha
  refine ⟨_, RZ.pi_zipA hg hm h1 hs hpl, fun σ H Z env φ S R P => ?_⟩
  refine h2 σ H Z env φ S _ ?_
  unfold zipI at P
  cases e : f env with
  | ex x => rw [e] at P; exact P
  | no => rw [e] at P; exact P
  | ok ds env1 =>
    rw [e] at P
    simp only [Pv.R.bind_ok] at P
    intro vs H1 Z1 φ1 A S1 sh0 dj ev
    have ev' := ev.sub (F2 := Tot φ1) fun _ z => .inl z
    have sh : ShL Γ.C Z1 H1 vs ds := sh0
    cases eD : zipD2 ds with
    | none => rw [eD] at P; exact P.elim
    | some items =>
     rw [eD] at P
     unfold zipD2 at eD
     split at eD
     · rename_i d e
       cases sh with
       | cons h r =>
         cases r with
         | cons h' r =>
           cases r
           unfold zipD at eD
           split at eD
           · rename_i xs ys
             cases eD
             cases h with
             | @lst a us _ ha za ra =>
               cases h' with
               | @lst b ws _ hb zb rb =>
                 refine ⟨a, b, us, ws, rfl, .inl ⟨SqL.of ha, SqL.of hb, P _ H1 Z1 φ1 S1 (fun Z2 H2 x => ?_) ev'⟩⟩
                 have ha2 := x.zk a _ za ha
                 have hb2 := x.zk b _ zb hb
                 have ra2 := ra.ext x
                 have rb2 := rb.ext x
                 refine ⟨⟨us, ws, SqL.of ha2, SqL.of hb2, by rw [List.length_map, List.length_zip, ra.length, rb.length]; omega⟩, fun i d hd => ?_⟩
                 rw [List.getElem?_map] at hd
                 obtain ⟨q, hq, rfl⟩ := Option.map_eq_some_iff.mp hd
                 obtain ⟨q1, q2⟩ := zip_get hq
                 obtain ⟨w1, e1, s1⟩ := ra2.get' q1
                 obtain ⟨w2, e2, s2⟩ := rb2.get' q2
                 refine ⟨⟨us, ws, w1, w2, SqL.of ha2, SqL.of hb2, e1, e2⟩, fun y H' hy => ?_⟩
                 obtain ⟨T, y1, y2, rfl, hT, rfl, k1, k2⟩ := hy
                 have f1 := k1 us (SqL.of ha2)
                 have f2 := k2 ws (SqL.of hb2)
                 rw [e1] at f1; cases f1
                 rw [e2] at f2; cases f2
                 have xn : Ext Z2 H2 Z2 (upd H2 T (.tup [w1, w2])) := Ext.new hT
                 exact ⟨.tup (SqT.of upd_same) (.cons (s1.ext xn) (.cons (s2.ext xn) .nil)), .inr ⟨T, _, hT, rfl⟩⟩
           · rename_i xs ys
             cases eD
             cases h with
             | @tup a us _ ha ra =>
               cases h' with
               | @tup b ws _ hb rb =>
                 have ha' := ha
                 have hb' := hb
                 rw [G.hK] at ha' hb'
                 refine ⟨a, b, us, ws, rfl, .inr ⟨ha', hb', P _ H1 Z1 φ1 S1 (fun Z2 H2 x => ?_) ev'⟩⟩
                 have ha2 : SqT Γ.X.K H2 a us := by rw [← G.hK]; exact x.sqT ha
                 have hb2 : SqT Γ.X.K H2 b ws := by rw [← G.hK]; exact x.sqT hb
                 have ra2 := ra.ext x
                 have rb2 := rb.ext x
                 refine ⟨⟨us, ws, ha2, hb2, by rw [List.length_map, List.length_zip, ra.length, rb.length]; omega⟩, fun i d hd => ?_⟩
                 rw [List.getElem?_map] at hd
                 obtain ⟨q, hq, rfl⟩ := Option.map_eq_some_iff.mp hd
                 obtain ⟨q1, q2⟩ := zip_get hq
                 obtain ⟨w1, e1, s1⟩ := ra2.get' q1
                 obtain ⟨w2, e2, s2⟩ := rb2.get' q2
                 refine ⟨⟨us, ws, w1, w2, ha2, hb2, e1, e2⟩, fun y H' hy => ?_⟩
                 obtain ⟨T, y1, y2, rfl, hT, rfl, k1, k2⟩ := hy
                 have f1 := k1 us ha2
                 have f2 := k2 ws hb2
                 rw [e1] at f1; cases f1
                 rw [e2] at f2; cases f2
                 have xn : Ext Z2 H2 Z2 (upd H2 T (.tup [w1, w2])) := Ext.new hT
                 exact ⟨.tup (SqT.of upd_same) (.cons (s1.ext xn) (.cons (s2.ext xn) .nil)), .inr ⟨T, _, hT, rfl⟩⟩
           · cases eD
     · cases eD

/-! ### for -/
def loopS (g : D → En → Option En) (body : En → SR) : List D → En → SR
  | [], env => .nx env
  | d :: ds, env => match g d env with
    | none => .no
    | some env1 => match body env1 with
      | .nx e => loopS g body ds e
      | .ct e => loopS g body ds e
      | .bk e => .nx e
      | .ret p e => .ret p e
      | .ex x => .ex x
      | .no => .no
def forS (fi : En → R (List D)) (g : D → En → Option En) (body : En → SR) : En → SR := fun env => (fi env).then fun ds env1 => loopS g body ds env1
theorem Grow.stt {σ : L2.St} {H H' : Hp} {Z : Fp} {env : En} {φ : Nat → Fp} (h : Grow H H') (S : SttC Γ Z σ H env φ) : SttC Γ Z σ H' env φ ∧ Ext Z H Z H' ∧ Evo Z H (Tot φ) Z H' (Tot φ) := by
  rcases h with rfl | ⟨T, o, hT, rfl⟩
  · exact ⟨S, Ext.refl, Evo.refl⟩
  · exact ⟨S.new hT, Ext.new hT, Evo.new hT fun _ z => .inl z⟩
theorem es_for {tg iter : Expr} {ws : List Nat} {body : List Stmt} {fi : En → R (List D)} {g : D → En → Option En} {fb : En → SR} (G : Good Γ) (hp : PassesOwn (model Γ.X.prog Γ.X.w) Γ.X.A Γ.X.env Γ.X.xe) (hi : EvI Γ tg iter fi) (hg : EvG Γ tg ws g) (hb : EvB Γ body fb)
    (hs : ∀ x, foldedSetIterable iter Γ.X.env x = pure x := by intro _; rfl) : EvS Γ (.For tg iter body [] pos) (forS fi g fb) := by
  obtain ⟨wi, i1, i2⟩ := hi
  obtain ⟨t, g1, g2⟩ := hg
  obtain ⟨u, b1, b2⟩ := hb
  refine ⟨_, ps_for hp G.calm i1 g1 b1 hs, fun σ H Z env φ S Dn P => ?_⟩
  refine i2 σ H Z env φ S _ ?_
  unfold forS at P
  cases e : fi env with
  | ex x => rw [e] at P; exact P σ S.io S.l0
  | no => rw [e] at P; exact P
  | ok ds env1 =>
    rw [e] at P
    simp only [Pv.R.then_ok] at P
    intro J H1 Z1 φ1 S1 it ev
    have P1 := PostS.mono P ev
    refine ⟨fun i m σ' H' => m = ds.length - i ∧ i ≤ ds.length ∧ ∃ env' Z' φ', SttC Γ Z' σ' H' env' φ' ∧ Ext Z1 H1 Z' H' ∧ PostS Γ Z' H' (Tot φ') (loopS g fb (ds.drop i) env') Dn, ⟨ds.length, by simp, Nat.zero_le _, env1, Z1, φ1, S1, Ext.refl, by rw [List.drop_zero]; exact P1⟩, ?_⟩
    rintro i m σ' H' ⟨rfl, hi, env', Z', φ', S', x', P'⟩
    obtain ⟨stop, go⟩ := it Z' H' x'
    by_cases hlt : i < ds.length
    · obtain ⟨hgo, hy⟩ := go i ds[i] (List.getElem?_eq_getElem hlt)
      refine .inr ⟨hgo, fun σ2 H2 => ∃ env2 Z2 φ2, SttC Γ Z2 σ2 H2 env2 φ2 ∧ Ext Z1 H1 Z2 H2 ∧ PostS Γ Z2 H2 (Tot φ2) (loopS g fb (ds.drop (i + 1)) env2) Dn, fun σ2 H2 ⟨env2, Z2, φ2, S2, x2, P2⟩ => ⟨ds.length - (i + 1), by omega, rfl, hlt, env2, Z2, φ2, S2, x2, P2⟩, fun v H2 hv => ?_⟩
      obtain ⟨sh, gr⟩ := hy v H2 hv
      obtain ⟨S2, x2, ev2⟩ := gr.stt S'
      have P2 := PostS.mono P' ev2
      rw [List.drop_eq_getElem_cons hlt] at P2
      unfold loopS at P2
      cases eg : g ds[i] env' with
      | none => rw [eg] at P2; exact P2.elim
      | some env2 =>
        rw [eg] at P2
        simp only at P2
        refine g2 σ' H2 Z' env' φ' S2 v ds[i] env2 sh eg _ fun σ3 φ3 S3 t3 _ => ?_
        have P3 := PostS.mono P2 (Evo.refl.sub t3)
        refine b2 σ3 H2 Z' env2 φ3 S3 _ ?_
        cases eb : fb env2 with
        | nx e =>
          rw [eb] at P3
          exact fun σ4 H4 Z4 φ4 S4 ev4 => ⟨e, Z4, φ4, S4, (x'.trans x2).trans (S3.ext ev4), PostS.mono P3 ev4⟩
        | ct e =>
          rw [eb] at P3
          exact fun σ4 H4 Z4 φ4 S4 ev4 => ⟨e, Z4, φ4, S4, (x'.trans x2).trans (S3.ext ev4), PostS.mono P3 ev4⟩
        | bk e => rw [eb] at P3; exact P3
        | ret p e => rw [eb] at P3; exact P3
        | ex x => rw [eb] at P3; exact P3
        | no => rw [eb] at P3; exact P3
    · have e1 : i = ds.length := by omega
      subst e1
      rw [List.drop_length] at P'
      exact .inl ⟨stop, PostS.here P' S'⟩

/-! ### while -/
def whileS (c : En → R Bool) (body : En → SR) : Nat → En → SR
  | 0, _ => .no
  | n + 1, env => (c env).then fun b env1 => if b = true then (match body env1 with
      | .nx e => whileS c body n e
      | .ct e => whileS c body n e
      | .bk e => .nx e
      | .ret p e => .ret p e
      | .ex x => .ex x
      | .no => .no) else .nx env1
theorem es_while {c : Expr} {body : List Stmt} {fc : En → R Bool} {fb : En → SR} (n : Nat) (hp : PassesOwn (model Γ.X.prog Γ.X.w) Γ.X.A Γ.X.env Γ.X.xe) (hc : EvT Γ c fc) (hb : EvB Γ body fb) : EvS Γ (.While c body [] pos) (whileS fc fb n) := by
  obtain ⟨t, c1, c2⟩ := hc
  obtain ⟨u, b1, b2⟩ := hb
  refine ⟨_, ps_while hp c1 b1, fun σ H Z env φ S Dn P => ?_⟩
  refine ⟨fun m σ' H' => ∃ env' Z' φ', SttC Γ Z' σ' H' env' φ' ∧ PostS Γ Z' H' (Tot φ') (whileS fc fb m env') Dn, ⟨n, env, Z, φ, S, P⟩, ?_⟩
  rintro m σ' H' ⟨env', Z', φ', S', P'⟩
  cases m with
  | zero => exact P'.elim
  | succ m =>
    unfold whileS at P'
    refine c2.then S' P' fun b env1 b' H1 Z1 φ1 A e1 S1 q dj ev P1 => ?_
    cases (show b = b' from q)
    have P2 := P1.mono Evo.dropA
    cases b with
    | false =>
      rw [if_neg Bool.false_ne_true] at P2 ⊢
      exact PostS.here P2 S1
    | true =>
      rw [if_pos rfl] at P2 ⊢
      refine ⟨fun σ2 H2 => ∃ env2 Z2 φ2, SttC Γ Z2 σ2 H2 env2 φ2 ∧ PostS Γ Z2 H2 (Tot φ2) (whileS fc fb m env2) Dn, fun σ2 H2 h => ⟨m, Nat.lt_succ_self m, h⟩, ?_⟩
      refine b2 σ' H1 Z1 env1 φ1 S1 _ ?_
      cases eb : fb env1 with
      | nx e =>
        rw [eb] at P2
        exact fun σ4 H4 Z4 φ4 S4 ev4 => ⟨e, Z4, φ4, S4, PostS.mono P2 ev4⟩
      | ct e =>
        rw [eb] at P2
        exact fun σ4 H4 Z4 φ4 S4 ev4 => ⟨e, Z4, φ4, S4, PostS.mono P2 ev4⟩
      | bk e => rw [eb] at P2; exact P2
      | ret p e => rw [eb] at P2; exact P2
      | ex x => rw [eb] at P2; exact P2
      | no => rw [eb] at P2; exact P2
end
end Pv
end

section
set_option Elab.async false
set_option linter.all false
set_option maxRecDepth 100000
set_option maxHeartbeats 4000000
/-! Pv10: list comprehensions. -/
namespace Pv
open PySem PySem.Spec PyProof.Rows L2

def wipeE (env : En) : List Nat → En
  | [] => env
  | v :: vs => (wipeE env vs).set v none
theorem wipeE_length (env : En) : ∀ vs : List Nat, (wipeE env vs).length = env.length
  | [] => rfl
  | v :: vs => by unfold wipeE; rw [List.length_set, wipeE_length env vs]
theorem wipeE_out {env : En} {i : Nat} : ∀ {vs : List Nat}, i ∉ vs → (wipeE env vs)[i]? = env[i]?
  | [], _ => rfl
  | v :: vs, h => by
    unfold wipeE
    rw [List.getElem?_set_ne (fun e => h (by rw [e]; exact List.mem_cons_self)), wipeE_out fun z => h (List.mem_cons_of_mem _ z)]
theorem wipeE_in {env : En} {i : Nat} {p : D × Nat} : ∀ {vs : List Nat}, i ∈ vs → (wipeE env vs)[i]? ≠ some (some p)
  | v :: vs, h, e => by
    unfold wipeE at e
    by_cases hv : v = i
    · subst hv
      by_cases hl : v < (wipeE env vs).length
      · rw [List.getElem?_set_self hl] at e; cases e
      · rw [List.getElem?_eq_none (by simpa using hl)] at e; cases e
    · rw [List.getElem?_set_ne hv] at e
      exact wipeE_in ((List.mem_cons.mp h).resolve_left fun z => hv z.symm) e
theorem wipe_of {σ σ2 : L2.St} {vs ws : List Nat} (hs : ∀ i ∈ ws, i ∈ vs) (hl : σ2.length = (wipe σ vs).length) (h : ∀ i, i ∉ ws → σ2[i]? = (wipe σ vs)[i]?) : wipe σ2 vs = wipe σ vs := by
  apply List.ext_getElem?
  intro i
  by_cases hi : i ∈ vs
  · have lk : ∀ (τ : L2.St) (us : List Nat), i ∈ us → (wipe τ us)[i]? = if i < τ.length then some none else none := fun τ us => by
      induction us with
      | nil => intro h; cases h
      | cons v us ih =>
        intro hm
        unfold wipe
        by_cases hv : v = i
        · subst hv
          by_cases hl2 : v < (wipe τ us).length
          · rw [List.getElem?_set_self hl2, if_pos (by rwa [wipe_length] at hl2)]
          · rw [List.getElem?_eq_none (by simpa using hl2), if_neg (by rwa [wipe_length] at hl2)]
        · rw [List.getElem?_set_ne hv]
          exact ih ((List.mem_cons.mp hm).resolve_left fun z => hv z.symm)
    rw [lk _ _ hi, lk _ _ hi, hl, wipe_length]
  · rw [wipe_out hi, h i fun z => hi (hs i z)]
section
variable {C : RC} {σ : L2.St} {Z : Fp} {H : Hp} {env : En} {φ : Nat → Fp}
theorem Stt.wipe {io : List Nat} {σ₀ : L2.St} (S : Stt C io σ₀ Z σ H env φ) (vs : List Nat) : Stt C [] [] Z (L2.wipe σ vs) H (wipeE env vs) (fun i a => i ∉ vs ∧ φ i a) where
  len := by rw [wipe_length, wipeE_length, S.len]
  slot := fun i d k h => by
    by_cases hi : i ∈ vs
    · exact (wipeE_in hi h).elim
    · rw [wipeE_out hi] at h
      obtain ⟨v, h1, h2⟩ := S.slot i d k h
      exact ⟨v, by rw [wipe_out hi]; exact h1, h2.congr fun a => ⟨fun z => ⟨hi, z⟩, fun z => z.2⟩⟩
  off := fun i h a ⟨hi, z⟩ => S.off i (fun p => by have := h p; rwa [wipeE_out hi] at this) a z
  dj := fun i j a h1 h2 => S.dj i j a h1.2 h2.2
  nz := fun i a h => S.nz i a h.2
  zh := S.zh
  io := fun _ h => by cases h
  l0 := fun h => (h rfl).elim
end
/-- behind the comprehension: its own slots are as they were (what was shared) -/
def backE (env1 env2 : En) : List Nat → En
  | [] => env2
  | v :: vs => (backE env1 env2 vs).set v (match env1[v]? with
    | some (some (d, 0)) => some (d, 0)
    | _ => none)
theorem backE_length (env1 env2 : En) : ∀ vs : List Nat, (backE env1 env2 vs).length = env2.length
  | [] => rfl
  | v :: vs => by unfold backE; rw [List.length_set, backE_length env1 env2 vs]
theorem backE_out {env1 env2 : En} {i : Nat} : ∀ {vs : List Nat}, i ∉ vs → (backE env1 env2 vs)[i]? = env2[i]?
  | [], _ => rfl
  | v :: vs, h => by
    unfold backE
    rw [List.getElem?_set_ne (fun e => h (by rw [e]; exact List.mem_cons_self)), backE_out fun z => h (List.mem_cons_of_mem _ z)]
theorem backE_in {env1 env2 : En} {i : Nat} {p : D × Nat} : ∀ {vs : List Nat}, i ∈ vs → (backE env1 env2 vs)[i]? = some (some p) → env1[i]? = some (some p) ∧ p.2 = 0
  | v :: vs, h, e => by
    unfold backE at e
    by_cases hv : v = i
    · subst hv
      by_cases hl : v < (backE env1 env2 vs).length
      · rw [List.getElem?_set_self hl] at e
        split at e
        · rename_i d h1
          cases e
          exact ⟨h1, rfl⟩
        · cases e
      · rw [List.getElem?_eq_none (by simpa using hl)] at e; cases e
    · rw [List.getElem?_set_ne hv] at e
      exact backE_in ((List.mem_cons.mp h).resolve_left fun z => hv z.symm) e
def R.noX {α : Type} (r : R α) : R α :=
  match r with
  | .ok a e => .ok a e
  | _ => .no
@[simp] theorem R.noX_ok {α : Type} (a : α) (e : En) : (R.ok a e).noX = .ok a e := rfl
/-- the turns: m is the depth that the items own -/
def compL (g : D → En → Option En) (tt : En → R Bool) (te : En → R (D × Nat)) (m : Nat) (vs : List Nat) : List D → En → List D → R (List D)
  | [], env, acc => .ok acc env
  | d :: ds, env, acc => match g d env with
    | none => .no
    | some env1 => (tt env1).noX.bind fun b env2 => if b = true then
        (te env2).noX.bind fun y env3 => if y.2 = m ∧ acc.length < lim then compL g tt te m vs ds (wipeE env3 vs) (acc ++ [y.1]) else .no
      else compL g tt te m vs ds (wipeE env2 vs) acc
def comp (fi : En → R (List D)) (g : D → En → Option En) (tt : En → R Bool) (te : En → R (D × Nat)) (m : Nat) (vs : List Nat) : En → R (D × Nat) := fun env =>
  (fi env).bind fun ds env1 => (compL g tt te m vs ds (wipeE env1 vs) []).bind fun acc env2 => .ok (.lst acc, m + 1) (backE env1 env2 vs)

/-- the place of a comprehension's block -/
abbrev blkCt (Γ : Ct) (scope : Scope) (s : Shared) (H : Hp) (c : Addr) (cl : List (Str × Addr)) (fp : List Addr) : Ct :=
  ⟨Γ.X.blk s H scope (compEnvC scope cl c Γ.X.env) fp, Γ.C, fun _ _ _ _ => False, [], []⟩
theorem Good.blk {Γ : Ct} (G : Good Γ) {scope : Scope} {s : Shared} {H : Hp} {c : Addr} {cl : List (Str × Addr)} {fp : List Addr} : Good (blkCt Γ scope s H c cl fp) :=
  ⟨G.hK, G.nd, G.calm, fun _ _ ⟨_, _, _, _, _, _, _, _, _, _, _, _, _, _, _, _, w⟩ => w.elim⟩
/-- the data's side of a block's place -/
abbrev blk0 (Γ : Ct) : Ct := ⟨Γ.X, Γ.C, fun _ _ _ _ => False, [], []⟩
section
variable {Γ : Ct} {scope : Scope} {elt tg iter : Expr} {ifs : List Expr}
theorem pe_weak {X : Cx} {e : Expr} {t t' : TE} (h : PE X e t) (k : ∀ σ H Q, t' σ H Q → t σ H Q) : PE X e t' := ⟨fun pins s σ H Q I q => h.run pins s σ H Q I (k _ _ _ q)⟩
theorem blk_e {f : En → R (D × Nat)} (h : ∀ s H c cl fp, EvE (blkCt Γ scope s H c cl fp) elt f) :
    ∃ te, (∀ (s : Shared) (H : Hp) (c : Addr) (cl : List (Str × Addr)) (fp : List Addr), PE (Γ.X.blk s H scope (compEnvC scope cl c Γ.X.env) fp) elt te) ∧ Ev (blk0 Γ) (ER Γ.C) f te := by
  refine ⟨fun σ H Q => ∀ s H0 c cl fp, Classical.choose (h s H0 c cl fp) σ H Q, fun s H c cl fp => pe_weak (Classical.choose_spec (h s H c cl fp)).1 fun σ H' Q q => q s H c cl fp, fun σ H Z env φ S Q P s H0 c cl fp => ?_⟩
  exact (Classical.choose_spec (h s H0 c cl fp)).2 σ H Z env φ S Q P
theorem blk_g {ws : List Nat} {g : D → En → Option En} (h : ∀ s H c cl fp, EvG (blkCt Γ scope s H c cl fp) tg ws g) :
    ∃ t, (∀ (s : Shared) (H : Hp) (c : Addr) (cl : List (Str × Addr)) (fp : List Addr), PG (Γ.X.blk s H scope (compEnvC scope cl c Γ.X.env) fp) tg t) ∧
      ∀ σ H Z env φ, SttC (blk0 Γ) Z σ H env φ → ∀ v d env', Sh Γ.C Z H v d → g d env = some env' → ∀ Q : L2.St → Hp → Prop, (∀ σ' φ', SttC (blk0 Γ) Z σ' H env' φ' → (∀ a, Tot φ' a → Tot φ a) → (σ'.length = σ.length ∧ ∀ i, i ∉ ws → σ'[i]? = σ[i]?) → Q σ' H) → t v σ H Q := by
  refine ⟨fun v σ H Q => ∀ s H0 c cl fp, Classical.choose (h s H0 c cl fp) v σ H Q, fun s H c cl fp => ⟨fun pins s' σ H' v u Q I r q => (Classical.choose_spec (h s H c cl fp)).1.run pins s' σ H' v u Q I r (q s H c cl fp)⟩, fun σ H Z env φ S v d env' sh hg Q q s H0 c cl fp => ?_⟩
  exact (Classical.choose_spec (h s H0 c cl fp)).2 σ H Z env φ S v d env' sh hg Q q
/-- a clause's tests -/
def EvPT (Γ : Ct) (ifs : List Expr) (f : En → R Bool) : Prop := ∃ t, PTs Γ.X ifs t ∧ Ev Γ TR f t
def yesT : En → R Bool := fun env => .ok true env
theorem ept_nil : EvPT Γ [] yesT := ⟨_, pts_nil, fun σ H Z env φ S Q P => Post.here P S rfl⟩
theorem ept_one {c : Expr} {f : En → R Bool} (h : EvT Γ c f) : EvPT Γ [c] f := by
  obtain ⟨t, h1, h2⟩ := h
  exact ⟨t, pts_one h1, h2⟩
theorem blk_t {f : En → R Bool} (h : ∀ s H c cl fp, EvPT (blkCt Γ scope s H c cl fp) ifs f) :
    ∃ t, (∀ (s : Shared) (H : Hp) (c : Addr) (cl : List (Str × Addr)) (fp : List Addr), PTs (Γ.X.blk s H scope (compEnvC scope cl c Γ.X.env) fp) ifs t) ∧ Ev (blk0 Γ) TR f t := by
  refine ⟨fun σ H Q => ∀ s H0 c cl fp, Classical.choose (h s H0 c cl fp) σ H Q, fun s H c cl fp => ⟨fun pins s' σ H' Q I q => (Classical.choose_spec (h s H c cl fp)).1.run pins s' σ H' Q I (q s H c cl fp)⟩, fun σ H Z env φ S Q P s H0 c cl fp => ?_⟩
  exact (Classical.choose_spec (h s H0 c cl fp)).2 σ H Z env φ S Q P

/-- the list that is made: its items own what stands at B -/
structure Acc (C : RC) (Z : Fp) (H : Hp) (m : Nat) (D₀ : Addr) (vs : List V) (ds : List D) (B : Nat → Fp) : Prop where
  at' : H D₀ = some (.lst vs)
  len : vs.length = ds.length
  ow : ∀ (i : Nat) (x : V) (e : D), vs[i]? = some x → ds[i]? = some e → Ow C Z H m x e (B i)
  dj : ∀ i j b, B i b → B j b → i = j
  nd : ∀ i, ¬ B i D₀
  off : ∀ i b, B i b → i < vs.length
theorem Acc.fin {C : RC} {Z : Fp} {H : Hp} {m : Nat} {D₀ : Addr} {vs : List V} {ds : List D} {B : Nat → Fp} (a : Acc C Z H m D₀ vs ds B) : Ow C Z H (m + 1) (.ref D₀) (.lst ds) (fun b => b = D₀ ∨ ∃ i, B i b) :=
  .inr (.inl ⟨D₀, vs, ds, B, rfl, rfl, a.at', a.len, a.ow, a.dj, a.nd, a.off, fun _ => Iff.rfl⟩)
theorem Acc.mut {C : RC} {Z : Fp} {H : Hp} {m : Nat} {D₀ : Addr} {vs : List V} {ds : List D} {B : Nat → Fp} (a : Acc C Z H m D₀ vs ds B) {b : Addr} {i : Nat} (h : B i b) : isM (H b) := by
  have hi := a.off i b h
  exact (a.ow i vs[i] (ds[i]'(a.len ▸ hi)) (List.getElem?_eq_getElem hi) (List.getElem?_eq_getElem _)).mut b h
theorem Acc.ext {C : RC} {Z Z' : Fp} {H H' : Hp} {m : Nat} {D₀ : Addr} {vs : List V} {ds : List D} {B : Nat → Fp} (a : Acc C Z H m D₀ vs ds B) (x : Ext Z H Z' H') (k : ∀ b o, (b = D₀ ∨ ∃ i, B i b) → H b = some o → H' b = some o) : Acc C Z' H' m D₀ vs ds B :=
  ⟨k _ _ (.inl rfl) a.at', a.len, fun i y e h1 h2 => (a.ow i y e h1 h2).ext x fun b o q => k b o (.inr ⟨i, q⟩), a.dj, a.nd, a.off⟩
abbrev AT (D₀ : Addr) (B : Nat → Fp) : Fp := fun b => b = D₀ ∨ ∃ i, B i b
theorem Acc.snoc {C : RC} {Z : Fp} {H : Hp} {m : Nat} {D₀ : Addr} {vs : List V} {ds : List D} {B : Nat → Fp} (a : Acc C Z H m D₀ vs ds B) (nz : ¬ Z D₀) {v : V} {d : D} {A : Fp} (o : Ow C Z H m v d A) (hA : ∀ b, A b → ¬ AT D₀ B b) :
    Acc C Z (upd H D₀ (.lst (vs ++ [v]))) m D₀ (vs ++ [v]) (ds ++ [d]) (fun i => if i = vs.length then A else B i) ∧ Ext Z H Z (upd H D₀ (.lst (vs ++ [v]))) := by
  have x : Ext Z H Z (upd H D₀ (.lst (vs ++ [v]))) := ⟨fun b u z h => by rw [upd_ne fun e : b = D₀ => nz (by rw [← e]; exact z)]; exact h, fun _ z => z, fun b u h => by rw [upd_ne (ne_of h a.at' fun e => by cases e)]; exact h, fun b u w h => by rw [upd_ne (ne_of h a.at' fun e => by cases e)]; exact h⟩
  have hB : ∀ b, B vs.length b → False := fun b z => Nat.lt_irrefl _ (a.off _ b z)
  refine ⟨⟨upd_same, by rw [List.length_append, List.length_append, a.len]; rfl, fun i y e h1 h2 => ?_, fun i j b h1 h2 => ?_, fun i h => ?_, fun i b h => ?_⟩, x⟩
  · by_cases hi : i = vs.length
    · subst hi
      have e1 : y = v := by simpa using h1.symm
      have e2 : e = d := by rw [a.len] at h2; simpa using h2.symm
      subst e1 e2
      rw [if_pos rfl]
      exact o.ext x fun b u q h => by rw [upd_ne fun z => hA b q (.inl z)]; exact h
    · rw [if_neg hi]
      have hl : i < vs.length := by
        have := (List.getElem?_eq_some_iff.mp h1).1
        rw [List.length_append] at this
        simp at this
        omega
      rw [List.getElem?_append_left hl] at h1
      rw [List.getElem?_append_left (a.len ▸ hl)] at h2
      exact (a.ow i y e h1 h2).ext x fun b u q h => by rw [upd_ne fun z : b = D₀ => a.nd i (by rw [← z]; exact q)]; exact h
  · by_cases hi : i = vs.length
    · rw [if_pos hi] at h1
      by_cases hj : j = vs.length
      · omega
      · rw [if_neg hj] at h2
        exact (hA b h1 (.inr ⟨j, h2⟩)).elim
    · rw [if_neg hi] at h1
      by_cases hj : j = vs.length
      · rw [if_pos hj] at h2
        exact (hA b h2 (.inr ⟨i, h1⟩)).elim
      · rw [if_neg hj] at h2
        exact a.dj i j b h1 h2
  · by_cases hi : i = vs.length
    · rw [if_pos hi] at h; exact hA _ h (.inl rfl)
    · rw [if_neg hi] at h; exact a.nd i h
  · rw [List.length_append]
    by_cases hi : i = vs.length
    · rw [hi]; simp
    · rw [if_neg hi] at h
      have := a.off i b h
      simp; omega
theorem lc_ev {vs ws : List Nat} {wi : TI} {tG : TG} {tT : TT} {tE : TE} {fi : En → R (List D)} {g : D → En → Option En} {tt : En → R Bool} {te : En → R (D × Nat)} (m : Nat)
    (i2 : ∀ σ H Z env φ, SttC Γ Z σ H env φ → ∀ R : It → Hp → Prop, (match fi env with
      | .ok ds env1 => ∀ J H1 Z1 φ1, SttC Γ Z1 σ H1 env1 φ1 → ItD Γ.C J ds Z1 H1 → Evo Z H (Tot φ) Z1 H1 (Tot φ1) → R J H1
      | .ex x => PostX Γ σ Z H (Tot φ) x
      | .no => False) → wi σ H R)
    (g2 : ∀ σ H Z env φ, SttC (blk0 Γ) Z σ H env φ → ∀ v d env', Sh Γ.C Z H v d → g d env = some env' → ∀ Q : L2.St → Hp → Prop, (∀ σ' φ', SttC (blk0 Γ) Z σ' H env' φ' → (∀ a, Tot φ' a → Tot φ a) → (σ'.length = σ.length ∧ ∀ i, i ∉ ws → σ'[i]? = σ[i]?) → Q σ' H) → tG v σ H Q)
    (t2 : Ev (blk0 Γ) TR tt tT) (e2 : Ev (blk0 Γ) (ER Γ.C) te tE) (hws : ∀ i ∈ ws, i ∈ vs) : Ev Γ (ER Γ.C) (comp fi g tt te m vs) (tLc wi tG tT tE vs) := by
  intro σ H Z env φ S Q P
  refine i2 σ H Z env φ S _ ?_
  unfold comp at P
  cases e : fi env with
  | ex x => rw [e] at P; exact P
  | no => rw [e] at P; exact P
  | ok ds env1 =>
    rw [e] at P
    simp only [Pv.R.bind_ok] at P
    intro J H1 Z1 φ1 S1 it ev D₀ hD
    have P1 := Post.mono P ev
    have Sw := S1.wipe vs
    have nD : ¬ Z1 D₀ ∧ ¬ Tot φ1 D₀ := S1.fresh hD
    -- the place at a turn
    let Inv' : Nat → Hp → Prop := fun i H' => ∃ env' Z' φ' accV accD B, SttC (blk0 Γ) Z' (L2.wipe σ vs) H' env' φ' ∧ Ext Z1 H1 Z' H' ∧ Acc Γ.C Z' H' m D₀ accV accD B ∧
      (∀ b, AT D₀ B b → ¬ Tot φ' b ∧ ¬ Z' b) ∧ (∀ v ∈ vs, ∀ p, env'[v]? ≠ some (some p)) ∧ Post Γ σ Z' H' (fun a => Tot φ' a ∨ AT D₀ B a) (ER Γ.C σ) ((compL g tt te m vs (ds.drop i) env' accD).bind fun acc env2 => .ok (.lst acc, m + 1) (backE env1 env2 vs)) Q
    have ev0 : Evo Z1 H1 (Tot φ1) Z1 (upd H1 D₀ (.lst [])) (fun a => Tot (fun i a => i ∉ vs ∧ φ1 i a) a ∨ AT D₀ (fun _ _ => False) a) := Evo.new hD fun a z => z.elim (fun ⟨j, z⟩ => .inl ⟨j, z.2⟩) fun z => z.elim .inr fun ⟨_, z⟩ => z.elim
    refine ⟨fun i k H' => k = ds.length - i ∧ i ≤ ds.length ∧ Inv' i H', ⟨ds.length, by simp, Nat.zero_le _, wipeE env1 vs, Z1, _, [], [], fun _ _ => False, Sw.new hD, Ext.new hD, ⟨upd_same, rfl, fun i x e h => by simp at h, fun _ _ _ z => z.elim, fun _ z => z, fun _ _ z => z.elim⟩, fun b z => ?_, fun v hv p => wipeE_in hv, ?_⟩, ?_⟩
    · rcases z with rfl | ⟨_, z⟩
      · exact ⟨fun ⟨j, z⟩ => nD.2 ⟨j, z.2⟩, nD.1⟩
      · exact z.elim
    · rw [List.drop_zero]
      exact Post.mono P1 ev0
    rintro i k H' ⟨rfl, hi, env', Z', φ', accV, accD, B, S', x', a, hA, hw, P'⟩
    obtain ⟨stop, go⟩ := it Z' H' x'
    by_cases hlt : i < ds.length
    · obtain ⟨hgo, hy⟩ := go i ds[i] (List.getElem?_eq_getElem hlt)
      refine .inr ⟨hgo, fun H2 => Inv' (i + 1) H2, fun H2 h2 => ⟨ds.length - (i + 1), by omega, rfl, hlt, h2⟩, fun v H2 hv => ?_⟩
      obtain ⟨sh, gr⟩ := hy v H2 hv
      obtain ⟨S2, x2, ev2⟩ := gr.stt (Γ := blk0 Γ) S'
      -- what is made stands through a step
      have kept : ∀ {Za Zb : Fp} {Ha Hb : Hp} {Fb : Fp} {φa : Nat → Fp}, Evo Za Ha (Tot φa) Zb Hb Fb → Ext Za Ha Zb Hb → Acc Γ.C Za Ha m D₀ accV accD B → (∀ b, AT D₀ B b → ¬ Tot φa b ∧ ¬ Za b) →
          Acc Γ.C Zb Hb m D₀ accV accD B ∧ (∀ b, AT D₀ B b → ¬ Fb b ∧ ¬ Zb b) := fun {Za Zb Ha Hb Fb φa} e x a0 h0 => by
        have hn : ∀ b, AT D₀ B b → Ha b ≠ none := fun b hb z => by
          rcases hb with rfl | ⟨j, hb⟩
          · rw [a0.at'] at z; cases z
          · have := a0.mut hb; rw [z] at this; exact this
        refine ⟨a0.ext x fun b o hb h => e.keep b o h (h0 b hb).1, fun b hb => ⟨fun z => ?_, fun z => ?_⟩⟩
        · rcases e.fn b z with z | z
          · exact (h0 b hb).1 z
          · exact hn b hb z
        · rcases e.zn b z with z | z | z
          · exact (h0 b hb).2 z
          · exact (h0 b hb).1 z
          · exact hn b hb z
      have lift : ∀ {Za Zb : Fp} {Ha Hb : Hp} {φa : Nat → Fp} {Fb : Fp}, Evo Za Ha (Tot φa) Zb Hb Fb → Evo Za Ha (fun b => Tot φa b ∨ AT D₀ B b) Zb Hb (fun b => Fb b ∨ AT D₀ B b) := fun {Za Zb Ha Hb φa Fb} e =>
        ⟨fun b o h n => e.keep b o h fun z => n (.inl z), e.zm, fun b z => (e.zn b z).imp id fun q => q.imp .inl id, fun b z => z.elim (fun z => (e.fn b z).imp .inl id) fun z => .inl (.inr z)⟩
      obtain ⟨a2, hA2⟩ := kept ev2 x2 a hA
      have P2 := Post.mono P' (lift ev2)
      rw [List.drop_eq_getElem_cons hlt] at P2
      unfold compL at P2
      cases eg : g ds[i] env' with
      | none => rw [eg] at P2; exact P2.elim
      | some env2 =>
        rw [eg] at P2
        simp only at P2
        refine g2 (L2.wipe σ vs) H2 Z' env' φ' S2 v ds[i] env2 sh eg _ fun σ3 φ3 S3 t3 k3 => ?_
        have hwσ : L2.wipe σ3 vs = L2.wipe σ vs := by
          have := wipe_of (σ := σ) (σ2 := σ3) hws k3.1 k3.2
          exact this
        refine ⟨hwσ, ?_⟩
        have hA3 : ∀ b, AT D₀ B b → ¬ Tot φ3 b ∧ ¬ Z' b := fun b hb => ⟨fun z => (hA2 b hb).1 (t3 b z), (hA2 b hb).2⟩
        have P3 := Post.mono P2 (show Evo Z' H2 (fun b => Tot φ' b ∨ AT D₀ B b) Z' H2 (fun b => Tot φ3 b ∨ AT D₀ B b) from Evo.refl.sub fun b z => z.imp (t3 b) id)
        -- the tests
        refine t2 σ3 H2 Z' env2 φ3 S3 _ ?_
        cases et : tt env2 with
        | ex x => rw [et] at P3; exact P3.elim
        | no => rw [et] at P3; exact P3.elim
        | ok b env3 =>
          rw [et] at P3
          intro b' H3 Z3 φ4 A3 S4 eb dj3 ev3
          cases (show b = b' from eb)
          have ev3' := ev3.sub (F2 := Tot φ4) fun _ z => .inl z
          have x3 := S3.ext ev3'
          obtain ⟨a4, hA4⟩ := kept ev3' x3 a2 hA3
          have P4 := Post.mono P3 (lift ev3')
          cases b with
          | false =>
            rw [if_neg Bool.false_ne_true]
            simp only [R.noX_ok, Pv.R.bind_ok, if_neg Bool.false_ne_true] at P4
            have S5 := S4.wipe vs
            rw [hwσ] at S5
            exact ⟨_, Z3, _, accV, accD, B, S5, (x'.trans x2).trans x3, a4, fun c hc => ⟨fun ⟨j, z⟩ => (hA4 c hc).1 ⟨j, z.2⟩, (hA4 c hc).2⟩, fun u hu p => wipeE_in hu, P4.mono (Evo.refl.sub fun c z => z.imp (fun ⟨j, z⟩ => ⟨j, z.2⟩) id)⟩
          | true =>
            rw [if_pos rfl]
            simp only [R.noX_ok, Pv.R.bind_ok, if_true] at P4
            refine e2 σ3 H3 Z3 env3 φ4 S4 _ ?_
            cases ee : te env3 with
            | ex x => rw [ee] at P4; exact P4.elim
            | no => rw [ee] at P4; exact P4.elim
            | ok y env4 =>
              rw [ee] at P4
              simp only [R.noX_ok, Pv.R.bind_ok] at P4
              intro yv H5 Z5 φ5 A5 S5 o5 dj5 ev5
              have x5 := S4.ext ev5
              obtain ⟨a5, hA5⟩ := kept ev5 x5 a4 hA4
              have P5 := Post.mono P4 (lift ev5)
              by_cases hy2 : y.2 = m ∧ accD.length < lim
              · rw [if_pos hy2] at P5
                obtain ⟨yd, yk⟩ := y
                obtain ⟨rfl, hz⟩ := hy2
                refine ⟨accV, a5.at', by rw [a5.len]; exact Nat.lt_of_lt_of_le hz (lim_le (Nat.le_refl _)), ?_⟩
                obtain ⟨a6, x6⟩ := a5.snoc (hA5 D₀ (.inl rfl)).2 o5 (fun b hb z => (hA5 b z).1 (.inr hb))
                have S6 := S5.go (Z' := Z5) x6 (fun b u hb h => by
                  rw [upd_ne fun z : b = D₀ => (hA5 D₀ (.inl rfl)).1 (.inl (by rw [← z]; exact hb))]
                  exact h) S5.tnz fun b z => by
                    by_cases q : b = D₀
                    · rw [q, upd_same]; exact Option.some_ne_none _
                    · rw [upd_ne q]; exact S5.zh b z
                have S7 := S6.wipe vs
                rw [hwσ] at S7
                have hAT : ∀ c, AT D₀ (fun i => if i = accV.length then A5 else B i) c → AT D₀ B c ∨ A5 c := fun c hc => by
                  rcases hc with rfl | ⟨j, hc⟩
                  · exact .inl (.inl rfl)
                  · by_cases q : j = accV.length
                    · simp only [if_pos q] at hc; exact .inr hc
                    · simp only [if_neg q] at hc; exact .inl (.inr ⟨j, hc⟩)
                refine ⟨_, Z5, _, _, _, _, S7, ((x'.trans x2).trans x3).trans (x5.trans x6), a6, fun c hc => ?_, fun u hu p => wipeE_in hu, P5.mono ?_⟩
                · rcases hAT c hc with h | h
                  · exact ⟨fun ⟨j, z⟩ => (hA5 c h).1 (.inl ⟨j, z.2⟩), (hA5 c h).2⟩
                  · exact ⟨fun ⟨j, z⟩ => (dj5 c h).1 ⟨j, z.2⟩, (dj5 c h).2⟩
                · refine ⟨fun b u h n => ?_, fun _ z => z, fun _ z => .inl z, fun b z => .inl ?_⟩
                  · rw [upd_ne fun z : b = D₀ => n (.inr (.inl z))]; exact h
                  · rcases z with ⟨j, z⟩ | z
                    · exact .inl (.inl ⟨j, z.2⟩)
                    · rcases hAT b z with h | h
                      · exact .inr h
                      · exact .inl (.inr h)
              · rw [if_neg hy2] at P5; exact P5.elim
    · have e1 : i = ds.length := by omega
      subst e1
      refine .inl ⟨stop, ?_⟩
      rw [List.drop_length] at P'
      simp only [compL, Pv.R.bind_ok] at P'
      -- the slots behind
      refine P' (.ref D₀) H' Z' (fun i c => i ∉ vs ∧ φ' i c) (AT D₀ B) ?_ a.fin (fun c hc => ⟨fun ⟨j, z⟩ => (hA c hc).1 ⟨j, z.2⟩, (hA c hc).2⟩) (Evo.refl.sub fun c z => z.imp (fun ⟨j, z⟩ => ⟨j, z.2⟩) id)
      refine ⟨?_, fun i d k h => ?_, fun i h c ⟨hi, z⟩ => ?_, fun i j c h1 h2 => S'.dj i j c h1.2 h2.2, fun i c h => S'.nz i c h.2, S'.zh, S1.l0, S1.io⟩
      · rw [backE_length, ← S'.len, wipe_length]
      · by_cases hi : i ∈ vs
        · obtain ⟨h1, h2⟩ := backE_in hi h
          simp only at h2
          subst h2
          obtain ⟨w, q1, q2⟩ := S1.slot i d 0 h1
          exact ⟨w, q1, q2.1.ext x', fun c z => z.1 hi⟩
        · rw [backE_out hi] at h
          obtain ⟨w, q1, q2⟩ := S'.slot i d k h
          rw [wipe_out hi] at q1
          exact ⟨w, q1, q2.congr fun c => ⟨fun z => ⟨hi, z⟩, fun z => z.2⟩⟩
      · exact S'.off i (fun p => by have := h p; rwa [backE_out hi] at this) c z
theorem ev_lc {own : List (Str × Nat)} {vs ws : List Nat} {pos : Pos} {fi : En → R (List D)} {g : D → En → Option En} {tt : En → R Bool} {te : En → R (D × Nat)} (m : Nat) (G : Good Γ) (hi : EvI Γ tg iter fi) (ok : BlkOk Γ.X.N Γ.X.env.scope scope own) (hvs : own.map (·.2) = vs) (hws : ∀ i ∈ ws, i ∈ vs)
    (hg : ∀ s H c cl fp, EvG (blkCt Γ scope s H c cl fp) tg ws g) (ht : ∀ s H c cl fp, EvPT (blkCt Γ scope s H c cl fp) ifs tt) (he : ∀ s H c cl fp, EvE (blkCt Γ scope s H c cl fp) elt te) (hs : ∀ x, foldedSetIterable iter Γ.X.env x = pure x := by intro _; rfl) :
    EvE Γ (.ListComp elt [⟨tg, iter, ifs, 0⟩] scope pos) (comp fi g tt te m vs) := by
  obtain ⟨wi, i1, i2⟩ := hi
  obtain ⟨tG, g1, g2⟩ := blk_g hg
  obtain ⟨tT, t1, t2⟩ := blk_t ht
  obtain ⟨tE, e1, e2⟩ := blk_e he
  have p0 := pe_lc (pos := pos) G.calm G.nd i1 ok g1 t1 e1 hs
  rw [hvs] at p0
  exact ⟨_, p0, lc_ev m i2 g2 t2 e2 hws⟩
end
end Pv
end

section
set_option Elab.async false
set_option linter.all false
set_option maxRecDepth 100000
set_option maxHeartbeats 4000000
/-! Pv11: what is changed in place; y = [..]; x op= e; raise; try. -/
namespace Pv
open PySem PySem.Spec PyProof.Rows L2

section
variable {C : RC} {io : List Nat} {σ₀ σ : L2.St} {Z : Fp} {H : Hp} {env : En} {φ : Nat → Fp}
/-- a list or dict that nobody shares is written -/
theorem Ext.upd {a : Addr} {o u : HO} (h : H a = some u) (nz : ¬ Z a) (mu : isM (some u)) : Ext Z H Z (upd H a o) :=
  ⟨fun b w z e => by rw [upd_ne fun q : b = a => nz (by rw [← q]; exact z)]; exact e, fun _ z => z, fun b w e => by rw [upd_ne (ne_of e h fun q => by subst q; exact mu)]; exact e, fun b w v e => by rw [upd_ne (ne_of e h fun q => by subst q; exact mu)]; exact e⟩
theorem Stt.upd (S : Stt C io σ₀ Z σ H env φ) {i : Nat} {a : Addr} {o u : HO} {d : D} {k : Nat} (hv : σ[i]? = some (some (.ref a))) (hi : i < env.length) (h : H a = some u) (mu : isM (some u)) (hφ : φ i a) {A : Fp} (hA : ∀ b, A b → φ i b) (ow : Ow C Z (upd H a o) k (.ref a) d A) :
    Stt C io σ₀ Z σ (upd H a o) (env.set i (some (d, k))) (fun j => if j = i then A else φ j) ∧ Evo Z H (Tot φ) Z (upd H a o) (Tot fun j => if j = i then A else φ j) := by
  have nz := S.nz i a hφ
  have x : Ext Z H Z (L2.upd H a o) := Ext.upd h nz mu
  have Sd := S.drop i
  have S1 := Sd.go x (fun b w ⟨j, hj, z⟩ e => by
    rw [upd_ne fun q : b = a => hj (S.dj j i b z (by rw [q]; exact hφ))]; exact e) (fun b ⟨j, _, z⟩ => S.nz j b z) fun b z => by
      by_cases q : b = a
      · rw [q, upd_same]; exact Option.some_ne_none _
      · rw [upd_ne q]; exact S.zh b z
  have S2 := S1.reput (i := i) (by simpa using hi) hv ow (fun j b hj z y => hj (S.dj j i b z.2 (hA b y))) (fun b z => S.nz i b (hA b z))
  rw [List.set_set] at S2
  have e2 : (fun j => if j = i then A else fun b => j ≠ i ∧ φ j b) = fun j => if j = i then A else φ j := by
    funext j
    by_cases q : j = i
    · rw [if_pos q, if_pos q]
    · rw [if_neg q, if_neg q]
      funext b
      exact propext ⟨fun z => z.2, fun z => ⟨q, z⟩⟩
  rw [e2] at S2
  refine ⟨S2, ⟨fun b w e n => by rw [upd_ne fun q : b = a => n ⟨i, by rw [q]; exact hφ⟩]; exact e, fun _ z => z, fun _ z => .inl z, fun b ⟨j, z⟩ => .inl ?_⟩⟩
  by_cases q : j = i
  · simp only [if_pos q] at z; exact ⟨i, hA b z⟩
  · simp only [if_neg q] at z; exact ⟨j, z⟩
theorem Ow.lst_at {k : Nat} {v : V} {ds : List D} {A : Fp} (h : Ow C Z H k v (.lst ds) A) : ∃ a xs, v = .ref a ∧ H a = some (.lst xs) ∧ xs.length = ds.length := by
  cases k with
  | zero => cases h.1 with | lst s z r => exact ⟨_, _, rfl, s, r.length⟩
  | succ k =>
    rcases h with ⟨m, _⟩ | ⟨b, xs, ds', B, rfl, e0, hb, hl, _⟩ | ⟨_, _, _, _, _, e, _⟩
    · cases m
    · cases e0; exact ⟨b, xs, rfl, hb, hl⟩
    · cases e
end

section
variable {Γ : Ct} {x : Str} {p pos apos cpos : Pos} {e a b : Expr} {es : List Expr}
/-- y = [..] on one line -/
theorem es_setLc {elt tg iter : Expr} {ifs : List Expr} {scope : Scope} {i : Nat} {y : Str} {py spos : Pos} {own : List (Str × Nat)} {vs ws : List Nat} {fi : En → R (List D)} {g : D → En → Option En} {tt : En → R Bool} {te : En → R (D × Nat)} (m : Nat) (G : Good Γ) (hy : Γ.X.N[i]? = some y) (hyl : Γ.X.env.scope.names.lookup y = some .local) (hio : i ∉ Γ.io)
    (hsw : swapsWith (.ListComp elt [⟨tg, iter, ifs, 0⟩] scope pos) (some (.Name y py)) spos.line Γ.X.env = pure true)
    (hi : EvI Γ tg iter fi) (ok : BlkOk Γ.X.N Γ.X.env.scope scope own) (hvs : own.map (·.2) = vs) (hws : ∀ i ∈ ws, i ∈ vs)
    (hg : ∀ s H c cl fp, EvG (blkCt Γ scope s H c cl fp) tg ws g) (ht : ∀ s H c cl fp, EvPT (blkCt Γ scope s H c cl fp) ifs tt) (he : ∀ s H c cl fp, EvE (blkCt Γ scope s H c cl fp) elt te) (hs : ∀ x, foldedSetIterable iter Γ.X.env x = pure x := by intro _; rfl) :
    EvS Γ (.Assign [.Name y py] (.ListComp elt [⟨tg, iter, ifs, 0⟩] scope pos) spos) (setS i (comp fi g tt te m vs)) := by
  obtain ⟨wi, i1, i2⟩ := hi
  obtain ⟨tG, g1, g2⟩ := blk_g hg
  obtain ⟨tT, t1, t2⟩ := blk_t ht
  obtain ⟨tE, e1, e2⟩ := blk_e he
  have p0 := ps_setLc (i := i) (py := py) (spos := spos) (pos := pos) G.calm G.nd hy hyl hsw i1 ok g1 t1 e1 hs
  rw [hvs] at p0
  refine ⟨_, p0, fun σ H Z env φ S Dn P => ?_⟩
  refine (lc_ev m i2 g2 t2 e2 hws).then S P fun p env1 v H1 Z1 φ1 A e1 S1 o dj ev P1 => ?_
  exact put_ok hio S1 o dj P1
/-! ### xs.append(e), xs.extend(e), xs.pop() -/
def isLst (s : Option Sl) : Bool := match s with
  | some (some (.lst _, _)) => true
  | _ => false
def appS (i : Nat) (fe : En → R D) : En → SR := fun env => if isLst env[i]? = true then (fe env).then fun d env1 => match env1[i]? with
    | some (some (.lst ds, 1)) => if ds.length < lim then .nx (env1.set i (some (.lst (ds ++ [d]), 1))) else .no
    | _ => .no
  else .no
theorem isLst_at {σ : L2.St} {Z : Fp} {H : Hp} {env : En} {φ : Nat → Fp} (S : SttC Γ Z σ H env φ) {i : Nat} (h : isLst env[i]? = true) : ∃ a xs, σ[i]? = some (some (.ref a)) ∧ H a = some (.lst xs) := by
  unfold isLst at h
  split at h
  · rename_i ds k hi
    obtain ⟨v, hv, o⟩ := S.slot i _ _ hi
    obtain ⟨a, xs, rfl, ha, _⟩ := o.lst_at
    exact ⟨a, xs, hv, ha⟩
  · cases h
theorem es_app {i : Nat} {fe : En → R D} (G : Good Γ) (hN : Γ.X.N[i]? = some x) (hv : Vis Γ.X.env.scope x) (he : EvV Γ e fe) (hd : (x == ("__debug__" : Str)) = false := by decide) (hcd : (x == ("__classdict__" : Str)) = false := by decide)
    (hfew : ((backTo cpos (starEach [e] Γ.X.env)).all (fun x => !x.1) && (backToKw cpos (keywordEach [] Γ.X.env)).all (fun x => x.1.isSome) && decide ([e].length + ([] : List Keyword).length + (if ([] : List Keyword).isEmpty then 0 else 1) < 30)) = true := by rfl)
    (hline : (apos.endLine == cpos.line) = true := by rfl) (hs : starEach [e] Γ.X.env = (false, eval e Γ.X.env) :: starEach [] Γ.X.env := by rfl) (hsw : swapsWith (.Call (.Attribute (.Name x p) "append" apos) [e] [] cpos) none pos.line Γ.X.env = pure false := by rfl) :
    EvS Γ (.Expr (.Call (.Attribute (.Name x p) "append" apos) [e] [] cpos) pos) (appS i fe) := by
  obtain ⟨t, h1, h2⟩ := he
  refine ⟨_, ps_expr (pe_bm PySem.F.plainAttrs_list PySem.F.slot_list_append PySem.F.type_list_append mt_append (pe_var hN hv hd hcd) (pa_cons h1 pa_nil hs) rfl hfew hline hs rfl) hsw, fun σ H Z env φ S Dn P => ?_⟩
  unfold appS at P
  split at P
  · rename_i hl
    obtain ⟨a, xs, hv0, ha0⟩ := isLst_at S hl
    refine ⟨.ref a, hv0, .inl ⟨rfl, xs, SqL.of ha0⟩, ?_⟩
    refine h2.then S P fun d env1 w H1 Z1 φ1 A e1 S1 q1 dj1 ev1 P1 => ?_
    have P2 := P1.mono Evo.dropA
    split at P2
    · rename_i ds hds
      split at P2
      · rename_i hz
        obtain ⟨v, hv1, o⟩ := S1.slot i _ _ hds
        rw [hv0] at hv1; cases hv1
        obtain ⟨a', ys, e0, ha, r, hφ⟩ := o.lst_inv
        cases e0
        refine ⟨a, ys, w, rfl, rfl, ha, by rw [r.length]; exact Nat.lt_of_lt_of_le hz (lim_le (Nat.le_refl _)), ?_⟩
        have x : Ext Z1 H1 Z1 (upd H1 a (.lst (ys ++ [w]))) := Ext.upd ha (S1.nz i a ((hφ a).mpr rfl)) trivial
        obtain ⟨S2, ev2⟩ := S1.upd (o := .lst (ys ++ [w])) (A := fun b => b = a) hv0 (List.getElem?_eq_some_iff.mp hds).1 ha trivial ((hφ a).mpr rfl) (fun b hb => (hφ b).mpr hb) (Ow.lst1 upd_same ((r.snoc q1).ext x))
        exact PostS.here (P2.mono ev2) S2
      · exact P2.elim
    · exact P2.elim
  · exact P.elim
def extS (i : Nat) (fe : En → R D) : En → SR := fun env => if isLst env[i]? = true then (fe env).then fun d env1 => match env1[i]?, d with
    | some (some (.lst ds, 1)), .lst fs => if ds.length + fs.length ≤ lim then .nx (env1.set i (some (.lst (ds ++ fs), 1))) else .no
    | _, _ => .no
  else .no
theorem es_ext {i : Nat} {fe : En → R D} (G : Good Γ) (hN : Γ.X.N[i]? = some x) (hv : Vis Γ.X.env.scope x) (he : EvV Γ e fe) (hd : (x == ("__debug__" : Str)) = false := by decide) (hcd : (x == ("__classdict__" : Str)) = false := by decide)
    (hfew : ((backTo cpos (starEach [e] Γ.X.env)).all (fun x => !x.1) && (backToKw cpos (keywordEach [] Γ.X.env)).all (fun x => x.1.isSome) && decide ([e].length + ([] : List Keyword).length + (if ([] : List Keyword).isEmpty then 0 else 1) < 30)) = true := by rfl)
    (hline : (apos.endLine == cpos.line) = true := by rfl) (hs : starEach [e] Γ.X.env = (false, eval e Γ.X.env) :: starEach [] Γ.X.env := by rfl) (hsw : swapsWith (.Call (.Attribute (.Name x p) "extend" apos) [e] [] cpos) none pos.line Γ.X.env = pure false := by rfl) :
    EvS Γ (.Expr (.Call (.Attribute (.Name x p) "extend" apos) [e] [] cpos) pos) (extS i fe) := by
  obtain ⟨t, h1, h2⟩ := he
  refine ⟨_, ps_expr (pe_bm PySem.F.plainAttrs_list PySem.F.slot_list_extend PySem.F.type_list_extend mt_extend (pe_var hN hv hd hcd) (pa_cons h1 pa_nil hs) rfl hfew hline hs rfl) hsw, fun σ H Z env φ S Dn P => ?_⟩
  unfold extS at P
  split at P
  · rename_i hl
    obtain ⟨a, xs, hv0, ha0⟩ := isLst_at S hl
    refine ⟨.ref a, hv0, .inl ⟨rfl, xs, SqL.of ha0⟩, ?_⟩
    refine h2.then S P fun d env1 w H1 Z1 φ1 A e1 S1 q1 dj1 ev1 P1 => ?_
    have P2 := P1.mono Evo.dropA
    split at P2
    · rename_i ds fs hds
      split at P2
      · rename_i hz
        obtain ⟨v, hv1, o⟩ := S1.slot i _ _ hds
        rw [hv0] at hv1; cases hv1
        obtain ⟨a', ys, e0, ha, r, hφ⟩ := o.lst_inv
        cases e0
        have q1 : Sh Γ.C Z1 H1 w (.lst fs) := q1
        cases q1 with
        | @lst b us _ hb zb rb =>
          refine ⟨a, b, ys, us, rfl, rfl, ha, hb, by rw [r.length, rb.length]; exact lim_le hz, ?_⟩
          have x : Ext Z1 H1 Z1 (upd H1 a (.lst (ys ++ us))) := Ext.upd ha (S1.nz i a ((hφ a).mpr rfl)) trivial
          obtain ⟨S2, ev2⟩ := S1.upd (o := .lst (ys ++ us)) (A := fun b => b = a) hv0 (List.getElem?_eq_some_iff.mp hds).1 ha trivial ((hφ a).mpr rfl) (fun b hb => (hφ b).mpr hb) (Ow.lst1 upd_same ((r.append rb).ext x))
          exact PostS.here (P2.mono ev2) S2
      · exact P2.elim
    · exact P2.elim
  · exact P.elim

/-! ### found[x].append(y), x and y names or constants -/
/-- a value that is there without a step -/
def EvK (Γ : Ct) (e : Expr) (f : En → Option D) : Prop := ∃ t, PE Γ.X e t ∧ ∀ σ H Z env φ, SttC Γ Z σ H env φ → ∀ d, f env = some d → ∀ Q : VK, (∀ v, Sh Γ.C Z H v d → Q v H) → t σ H Q
def nmK (i : Nat) : En → Option D := fun env => match env[i]? with
  | some (some (d, k)) => if k = 0 ∨ d.isMut = false then some d else none
  | _ => none
theorem ek_name {i : Nat} (hN : Γ.X.N[i]? = some x) (hv : Vis Γ.X.env.scope x) (hd : (x == ("__debug__" : Str)) = false := by decide) (hcd : (x == ("__classdict__" : Str)) = false := by decide) : EvK Γ (.Name x pos) (nmK i) := by
  refine ⟨_, pe_var hN hv hd hcd, fun σ H Z env φ S d h Q q => ?_⟩
  unfold nmK at h
  split at h
  · rename_i d' k hi
    split at h
    · rename_i hk
      cases h
      obtain ⟨v, hv1, o⟩ := S.slot i d k hi
      refine ⟨v, hv1, q v ?_⟩
      rcases hk with rfl | hm
      · exact o.1
      · exact o.im_inv hm
    · cases h
  · cases h
theorem ek_int {i : Int} {j} : EvK Γ (.Constant (.int i) j pos) (fun _ => some (.int i)) := ⟨_, pe_int, fun σ H Z env φ S d h Q q => by cases h; exact q _ (.int i)⟩
def app2S (i : Nat) (fi fe : En → Option D) : En → SR := fun env => match env[i]?, fi env, fe env with
  | some (some (.lst dss, 2)), some (.int j), some d => (match ixN dss.length j with
    | some m => (match dss[m]? with
      | some (.lst ds) => if ds.length < lim then .nx (env.set i (some (.lst (dss.set m (.lst (ds ++ [d]))), 2))) else .no
      | _ => .no)
    | none => .no)
  | _, _, _ => .no
theorem es_app2 {i : Nat} {sp : Pos} {fi fe : En → Option D} {ie : Expr} (G : Good Γ) (hN : Γ.X.N[i]? = some x) (hv : Vis Γ.X.env.scope x) (hi : EvK Γ ie fi) (he : EvK Γ e fe) (hd : (x == ("__debug__" : Str)) = false := by decide) (hcd : (x == ("__classdict__" : Str)) = false := by decide) (hpi : PlainIx ie := by exact fun _ _ => rfl)
    (hfew : ((backTo cpos (starEach [e] Γ.X.env)).all (fun x => !x.1) && (backToKw cpos (keywordEach [] Γ.X.env)).all (fun x => x.1.isSome) && decide ([e].length + ([] : List Keyword).length + (if ([] : List Keyword).isEmpty then 0 else 1) < 30)) = true := by rfl)
    (hbase : attributeBase (.Subscript (.Name x p) ie sp) "append" Γ.X.env (eval (.Subscript (.Name x p) ie sp) Γ.X.env) = eval (.Subscript (.Name x p) ie sp) Γ.X.env := by rfl)
    (hline : (apos.endLine == cpos.line) = true := by rfl) (hs : starEach [e] Γ.X.env = (false, eval e Γ.X.env) :: starEach [] Γ.X.env := by rfl) (hsw : swapsWith (.Call (.Attribute (.Subscript (.Name x p) ie sp) "append" apos) [e] [] cpos) none pos.line Γ.X.env = pure false := by rfl) :
    EvS Γ (.Expr (.Call (.Attribute (.Subscript (.Name x p) ie sp) "append" apos) [e] [] cpos) pos) (app2S i fi fe) := by
  obtain ⟨ti, i1, i2⟩ := hi
  obtain ⟨t, h1, h2⟩ := he
  refine ⟨_, ps_expr (pe_bm PySem.F.plainAttrs_list PySem.F.slot_list_append PySem.F.type_list_append mt_append (pe_ix ix_list (pe_var hN hv hd hcd) i1 hpi) (pa_cons h1 pa_nil hs) hbase hfew hline hs rfl) hsw, fun σ H Z env φ S Dn P => ?_⟩
  unfold app2S at P
  split at P
  · rename_i dss j d hd1 hi1 he1
    split at P
    · rename_i m hm
      split at P
      · rename_i ds hds
        split at P
        · rename_i hz
          obtain ⟨v, hv1, o⟩ := S.slot i _ _ hd1
          have o0 := o
          rcases o with ⟨mm, _⟩ | ⟨A, xs, ds', B, rfl, e0, hA, hl, hc, hdj, hna, hoff, hφ⟩ | ⟨_, _, _, _, _, e, _⟩
          · cases mm
          · cases e0
            have hmx : m < xs.length := by rw [hl]; exact (List.getElem?_eq_some_iff.mp hds).1
            have hcm := hc m xs[m] (.lst ds) (List.getElem?_eq_getElem hmx) hds
            obtain ⟨q, us, eq, hq, r, hB⟩ := hcm.lst_inv
            refine ⟨.ref A, hv1, i2 σ H Z env φ S _ hi1 _ fun w hw => ?_⟩
            cases hw with
            | int _ =>
              refine ⟨A, xs, j, xs[m], rfl, rfl, SqL.of hA, ?_, ?_⟩
              · unfold atI
                rw [hl, hm]
                exact List.getElem?_eq_getElem hmx
              rw [eq]
              refine ⟨.inl ⟨rfl, us, SqL.of hq⟩, ?_⟩
              refine h2 σ H Z env φ S d he1 _ fun y hy => ?_
              have Bq : B m q := (hB q).mpr rfl
              have φq : φ i q := (hφ q).mpr (.inr ⟨m, Bq⟩)
              have nq : q ≠ A := fun z => hna m (by rw [← z]; exact Bq)
              refine ⟨q, us, y, rfl, rfl, hq, by rw [r.length]; exact Nat.lt_of_lt_of_le hz (lim_le (Nat.le_refl _)), ?_⟩
              have x : Ext Z H Z (upd H q (.lst (us ++ [y]))) := Ext.upd hq (S.nz i q φq) trivial
              have ow : Ow Γ.C Z (upd H q (.lst (us ++ [y]))) 2 (.ref A) (.lst (dss.set m (.lst (ds ++ [d])))) (φ i) := by
                refine .inr (.inl ⟨A, xs, _, B, rfl, rfl, by rw [upd_ne (Ne.symm nq)]; exact hA, by rw [List.length_set]; exact hl, fun l u f h1 h2 => ?_, hdj, hna, hoff, hφ⟩)
                by_cases hlm : l = m
                · subst hlm
                  rw [List.getElem?_set_self (by rw [← hl]; exact hmx)] at h2
                  cases h2
                  rw [List.getElem?_eq_getElem hmx] at h1
                  cases h1
                  rw [eq]
                  exact (Ow.lst1 upd_same ((r.snoc hy).ext x)).congr fun c => (hB c).symm
                · rw [List.getElem?_set_ne (Ne.symm hlm)] at h2
                  exact (hc l u f h1 h2).ext x fun c w z h => by
                    rw [upd_ne fun z2 : c = q => hlm (hdj l m c z (by rw [z2]; exact Bq))]; exact h
              -- the list of lists stands, its item was changed
              have Sd := S.drop i
              have S1 := Sd.go x (fun c w ⟨l, hl2, z⟩ h => by
                rw [upd_ne fun z2 : c = q => hl2 (S.dj l i c z (by rw [z2]; exact φq))]; exact h) (fun c ⟨l, _, z⟩ => S.nz l c z) fun c z => by
                  by_cases z2 : c = q
                  · rw [z2, upd_same]; exact Option.some_ne_none _
                  · rw [upd_ne z2]; exact S.zh c z
              have S2 := S1.reput (i := i) (by simpa using (List.getElem?_eq_some_iff.mp hd1).1) hv1 ow (fun l c hl2 z y => hl2 (S.dj l i c z.2 y)) (fun c z => S.nz i c z)
              rw [List.set_set] at S2
              refine P σ _ Z _ S2 ⟨fun c w h n => by rw [upd_ne fun z : c = q => n ⟨i, by rw [z]; exact φq⟩]; exact h, fun _ z => z, fun _ z => .inl z, fun c ⟨l, z⟩ => .inl ?_⟩
              by_cases z2 : l = i
              · simp only [if_pos z2] at z; exact ⟨i, z⟩
              · simp only [if_neg z2] at z; exact ⟨l, z.2⟩
          · cases e
        · exact P.elim
      · exact P.elim
    · exact P.elim
  · exact P.elim

/-! ### o[i] = e -/
def putVs (ks : List Key) (vs : List D) (k : Key) (d : D) : List D := (ks.zip vs).map fun q => if q.1 = k then d else q.2
def putD (d : D) (di v : D) : Option D :=
  match d with
  | .lst ds => match di with
    | .int j => (ixN ds.length j).map fun m => .lst (ds.set m v)
    | _ => none
  | .dic ks vs => (keyD di).bind fun k => if ks.length < lim then some (if hasK ks k then .dic ks (putVs ks vs k v) else .dic (ks ++ [k]) (vs ++ [v])) else none
  | _ => none
abbrev rSetA : TSet := fun o i v H Q => rSetL o i v H Q ∨ rSetD o i v H Q
theorem pset_or {X : Cx} {r r' : TSet} (h : PSet X r) (h' : PSet X r') : PSet X (fun o i v H Q => r o i v H Q ∨ r' o i v H Q) := by
  intro pins s σ H o i v ov iv u Q I ro ri rv q
  rcases q with q | q
  · exact h pins s σ H o i v ov iv u Q I ro ri rv q
  · exact h' pins s σ H o i v ov iv u Q I ro ri rv q
def sItS (i : Nat) (fe fi : En → R D) : En → SR := fun env => (fe env).then fun v env1 => match env1[i]? with
  | some (some _) => (fi env1).then fun di env2 => match env2[i]? with
    | some (some (d, 1)) => (match putD d di v with
      | some d' => .nx (env2.set i (some (d', 1)))
      | none => .no)
    | _ => .no
  | _ => .no
theorem put_zip {ks : List Key} {xs : List V} {k : Key} {y : V} (hl : ks.length = xs.length) : putK (ks.zip xs) k y = if hasK ks k = true then ks.zip ((ks.zip xs).map fun q => if q.1 = k then y else q.2) else (ks ++ [k]).zip (xs ++ [y]) := by
  unfold putK
  have e : ((ks.zip xs).any fun kv => decide (kv.1 = k)) = hasK ks k := by
    have := cval ks xs k hl
    rw [← this]
    exact valV_any k (ks.zip xs)
  rw [e]
  by_cases h : hasK ks k = true
  · rw [if_pos h, if_pos h]
    clear e h
    induction ks generalizing xs with
    | nil => rfl
    | cons j ks ih =>
      cases xs with
      | nil => rfl
      | cons x xs =>
        rw [List.zip_cons_cons, List.map_cons, List.map_cons, List.zip_cons_cons]
        rw [ih (by simpa using hl)]
        by_cases q : j = k
        · simp [q]
        · simp [q]
  · rw [if_neg h, if_neg h]
    rw [List.zip_append hl]
    rfl
theorem putVs_sh {C : RC} {Z : Fp} {H : Hp} {ks : List Key} {xs : List V} {ds : List D} {k : Key} {y : V} {d : D} (r : ShL C Z H xs ds) (h : Sh C Z H y d) (hl : ks.length = xs.length) : ShL C Z H ((ks.zip xs).map fun q => if q.1 = k then y else q.2) (putVs ks ds k d) := by
  unfold putVs
  induction ks generalizing xs ds with
  | nil => exact .nil
  | cons j ks ih =>
    cases r with
    | nil => exact .nil
    | cons h1 r =>
      rw [List.zip_cons_cons, List.zip_cons_cons, List.map_cons, List.map_cons]
      refine .cons ?_ (ih r (by simpa using hl))
      by_cases q : j = k
      · simp only [q, if_true]; exact h
      · simp only [q, if_false]; exact h1
theorem es_sub {i : Nat} {ie : Expr} {fe fi : En → R D} {k : Nat} (G : Good Γ) (hr : Room k Γ.X.A) (hN : Γ.X.N[i]? = some x) (hv : Vis Γ.X.env.scope x) (he : EvV Γ e fe) (hi : EvV Γ ie fi) (hd : (x == ("__debug__" : Str)) = false := by decide) (hcd : (x == ("__classdict__" : Str)) = false := by decide)
    (ha : ∀ v, assign (.Subscript (.Name x p) ie apos) Γ.X.env v = (do
      let ov ← holding [v] (eval (.Name x p) Γ.X.env)
      let iv ← holding [v, ov] (eval ie Γ.X.env)
      standAt apos
      holding [v, ov, iv] (setItem ov iv v)
      release [v, ov, iv] []) := by intro _; rfl)
    (hs : swapsWithSole [.Subscript (.Name x p) ie apos] e pos.line Γ.X.env = pure false := by rfl) (hw : swappedStores [.Subscript (.Name x p) ie apos] e Γ.X.env = pure none := by rfl)
    (h1 : (assignEach [.Subscript (.Name x p) ie apos] Γ.X.env).map (·.2) = [assign (.Subscript (.Name x p) ie apos) Γ.X.env] := by rfl) :
    EvS Γ (.Assign [.Subscript (.Name x p) ie apos] e pos) (sItS i fe fi) := by
  obtain ⟨t, a1, a2⟩ := he
  obtain ⟨u, b1, b2⟩ := hi
  refine ⟨_, ps_asg a1 (pg_sub (pe_var hN hv hd hcd) b1 (pset_or set_list (set_dict (hu_of hr))) ha) hs hw h1, fun σ H Z env φ S Dn P => ?_⟩
  refine a2.then S P fun v env1 vv H1 Z1 φ1 A e1 S1 q1 dj1 ev1 P1 => ?_
  have P1' := P1.mono Evo.dropA
  split at P1'
  · rename_i p0 hp0
    obtain ⟨ov, hov, _⟩ := S1.slot i p0.1 p0.2 hp0
    refine ⟨ov, hov, ?_⟩
    refine b2.then S1 P1' fun di env2 iv H2 Z2 φ2 B e2 S2 q2 dj2 ev2 P2 => ?_
    have P2' := P2.mono Evo.dropA
    have q1' : Sh Γ.C Z2 H2 vv v := Sh.ext (S1.ext ev2) v vv q1
    split at P2'
    · rename_i d hd2
      obtain ⟨ov', hov', o⟩ := S2.slot i _ _ hd2
      rw [hov] at hov'; cases hov'
      have hi2 := (List.getElem?_eq_some_iff.mp hd2).1
      cases ep : putD d di v with
      | none => rw [ep] at P2'; exact P2'.elim
      | some d' =>
        rw [ep] at P2'
        simp only at P2'
        unfold putD at ep
        split at ep
        · rename_i ds
          split at ep
          · rename_i j
            obtain ⟨m, hm, rfl⟩ := Option.map_eq_some_iff.mp ep
            obtain ⟨a, ys, rfl, ha2, r, hφ⟩ := o.lst_inv
            have q2 : Sh Γ.C Z2 H2 iv (.int j) := q2
            cases q2
            refine .inl ⟨a, ys, j, m, rfl, rfl, ha2, by rw [r.length]; exact hm, ?_⟩
            have x : Ext Z2 H2 Z2 (upd H2 a (.lst (ys.set m vv))) := Ext.upd ha2 (S2.nz i a ((hφ a).mpr rfl)) trivial
            obtain ⟨S3, ev3⟩ := S2.upd (o := .lst (ys.set m vv)) (A := fun b => b = a) hov hi2 ha2 trivial ((hφ a).mpr rfl) (fun b hb => (hφ b).mpr hb) (Ow.lst1 upd_same ((ShL.set q1' m r).ext x))
            exact PostS.here (P2'.mono ev3) S3
          · cases ep
        · rename_i ks vs
          obtain ⟨key, hk, ep⟩ := Option.bind_eq_some_iff.mp ep
          split at ep
          · rename_i hz
            obtain ⟨a, ys, rfl, ha2, hl, r, hφ⟩ := o.dic_inv
            have ei := keyD_eq hk (Rd1.sh (C := Γ.C) q2)
            subst ei
            have hlen : (ks.zip ys).length < sizeLine := by rw [List.length_zip, hl, Nat.min_self, ← hl]; exact Nat.lt_of_lt_of_le hz (lim_le (Nat.le_refl _))
            refine .inr ⟨a, _, rfl, DPut.k ha2 hlen, ?_⟩
            have pz := put_zip (k := key) (y := vv) hl
            by_cases hh : hasK ks key = true
            · rw [if_pos hh] at ep pz
              cases ep
              rw [pz]
              have x : Ext Z2 H2 Z2 (upd H2 a (.dK (ks.zip ((ks.zip ys).map fun q => if q.1 = key then vv else q.2)))) := Ext.upd ha2 (S2.nz i a ((hφ a).mpr rfl)) trivial
              have r2 := putVs_sh (k := key) r q1' hl
              obtain ⟨S3, ev3⟩ := S2.upd (o := .dK (ks.zip ((ks.zip ys).map fun q => if q.1 = key then vv else q.2))) (A := fun b => b = a) hov hi2 ha2 trivial ((hφ a).mpr rfl) (fun b hb => (hφ b).mpr hb)
                (Ow.dic1 upd_same (by rw [List.length_map, List.length_zip, hl, Nat.min_self]) (r2.ext x))
              exact PostS.here (P2'.mono ev3) S3
            · rw [if_neg hh] at ep pz
              cases ep
              rw [pz]
              have x : Ext Z2 H2 Z2 (upd H2 a (.dK ((ks ++ [key]).zip (ys ++ [vv])))) := Ext.upd ha2 (S2.nz i a ((hφ a).mpr rfl)) trivial
              obtain ⟨S3, ev3⟩ := S2.upd (o := .dK ((ks ++ [key]).zip (ys ++ [vv]))) (A := fun b => b = a) hov hi2 ha2 trivial ((hφ a).mpr rfl) (fun b hb => (hφ b).mpr hb)
                (Ow.dic1 upd_same (by rw [List.length_append, List.length_append, hl]; rfl) ((r.snoc q1').ext x))
              exact PostS.here (P2'.mono ev3) S3
          · cases ep
        · cases ep
    · exact P2'.elim
  · exact P1'.elim

/-! ### x op= e -/
def augS (g : D → D → Option (D × Nat)) (i : Nat) (fe : En → R D) : En → SR := fun env => match env[i]? with
  | some (some (d, _)) => if d.isMut = false then (fe env).then fun e env1 => (match g d e with
    | some q => putE env1 i q
    | none => .no) else .no
  | _ => .no
theorem es_aug {i : Nat} {fe : En → R D} {op : Operator} {g : D → D → Option (D × Nat)} {r : R2} (G : Good Γ) (ho : OpR Γ.X (inplaceOp op) r) (hD : Does2 Γ g r) (hi : Γ.X.N[i]? = some x) (hx : Loc Γ.X.env.scope x) (hio : i ∉ Γ.io) (he : EvV Γ e fe)
    (hf : Γ.X.fn x = true ∨ Γ.X.env.scope.names.lookup x = some .local := by first | exact .inl rfl | exact .inr rfl | assumption) : EvS Γ (.AugAssign (.Name x p) op e pos) (augS g i fe) := by
  obtain ⟨t, a1, a2⟩ := he
  refine ⟨_, ps_aug G.nd hi hx a1 (op := op) (ti := r) (fun pins s σ H x y v u Q I rx ry h => ho pins s σ H x y v u Q I rx ry h) hf, fun σ H Z env φ S Dn P => ?_⟩
  unfold augS at P
  split at P
  · rename_i d k hd
    split at P
    · rename_i hm
      obtain ⟨v, hv, o⟩ := S.slot i d k hd
      have sh := o.im_inv hm
      refine ⟨v, hv, ?_⟩
      refine a2.then S P fun e env1 w H1 Z1 φ1 A e1 S1 q1 dj1 ev1 P1 => ?_
      have P2 := P1.mono Evo.dropA
      cases eg : g d e with
      | none => rw [eg] at P2; exact P2.elim
      | some q =>
        rw [eg] at P2
        refine hD σ H1 Z1 env1 φ1 S1 v w d e q (.sh (Sh.ext (S.ext (ev1.sub (F2 := Tot φ1) fun _ z => .inl z)) d v sh)) (.sh q1) eg _ ?_
        exact fun b H' Z' φ' B S' ob dj ev => put_ok hio S' ob dj (PostS.mono P2 ev)
    · exact P.elim
  · exact P.elim
abbrev rAddI : R2 := fun x y H Q => rI0 (fun i j => .int (i + j)) x y H Q
def iaddD : D → D → Option (D × Nat)
  | .int i, .int j => some (.int (i + j), 0)
  | _, _ => none
def imulD : D → D → Option (D × Nat)
  | .int i, .int j => if mulOk i j then some (.int (i * j), 0) else none
  | _, _ => none
theorem iop_mulZ {X : Cx} : OpR X (inplaceOp .Mult) rMulZ := by
  intro pins s σ H x y v u Q I rx ry h
  obtain ⟨i, j, rfl, rfl, hc, q⟩ := h
  obtain ⟨t, rfl⟩ := rx
  obtain ⟨t', rfl⟩ := ry
  exact imul_int ⟨.int _, H, I.tok _, ⟨_, rfl⟩, q⟩ hc
theorem does_iadd : Does2 Γ iaddD (rI0 fun i j => .int (i + j)) := by
  intro σ H Z env φ S x y d e p hx hy hg Q P
  unfold iaddD at hg
  split at hg
  · cases hg
    rw [hx.intI, hy.intI]
    exact ⟨_, _, rfl, rfl, Post.here P S (Ow.sh (.int _))⟩
  · cases hg
theorem does_imul : Does2 Γ imulD rMulZ := by
  intro σ H Z env φ S x y d e p hx hy hg Q P
  unfold imulD at hg
  split at hg
  · split at hg
    · rename_i hz
      cases hg
      rw [hx.intI, hy.intI]
      exact ⟨_, _, rfl, rfl, mulOk.ok hz, Post.here P S (Ow.sh (.int _))⟩
    · cases hg
  · cases hg
theorem es_iadd {i : Nat} {fe : En → R D} (G : Good Γ) (hi : Γ.X.N[i]? = some x) (hx : Loc Γ.X.env.scope x) (hio : i ∉ Γ.io) (he : EvV Γ e fe) (hf : Γ.X.fn x = true ∨ Γ.X.env.scope.names.lookup x = some .local := by first | exact .inl rfl | exact .inr rfl | assumption) : EvS Γ (.AugAssign (.Name x p) .Add e pos) (augS iaddD i fe) := es_aug G iop_add does_iadd hi hx hio he hf
theorem es_isub {i : Nat} {fe : En → R D} (G : Good Γ) (hi : Γ.X.N[i]? = some x) (hx : Loc Γ.X.env.scope x) (hio : i ∉ Γ.io) (he : EvV Γ e fe) (hf : Γ.X.fn x = true ∨ Γ.X.env.scope.names.lookup x = some .local := by first | exact .inl rfl | exact .inr rfl | assumption) : EvS Γ (.AugAssign (.Name x p) .Sub e pos) (augS subD i fe) := es_aug G iop_sub does_sub hi hx hio he hf
theorem es_imul {i : Nat} {fe : En → R D} (G : Good Γ) (hi : Γ.X.N[i]? = some x) (hx : Loc Γ.X.env.scope x) (hio : i ∉ Γ.io) (he : EvV Γ e fe) (hf : Γ.X.fn x = true ∨ Γ.X.env.scope.names.lookup x = some .local := by first | exact .inl rfl | exact .inr rfl | assumption) : EvS Γ (.AugAssign (.Name x p) .Mult e pos) (augS imulD i fe) := es_aug G iop_mulZ does_imul hi hx hio he hf
theorem es_idiv {i : Nat} {fe : En → R D} (G : Good Γ) (hi : Γ.X.N[i]? = some x) (hx : Loc Γ.X.env.scope x) (hio : i ∉ Γ.io) (he : EvV Γ e fe) (hf : Γ.X.fn x = true ∨ Γ.X.env.scope.names.lookup x = some .local := by first | exact .inl rfl | exact .inr rfl | assumption) : EvS Γ (.AugAssign (.Name x p) .FloorDiv e pos) (augS fdivD i fe) := es_aug G iop_divZ does_fdiv hi hx hio he hf

/-! ### raise -/
/-- an error class without an __init__ of its own: its number, its facts -/
structure ExcC (Γ : Ct) (x : Str) (c : Nat) (a : Addr) : Prop where
  g : Γ.X.mg x = some (.ref a)
  k : PySem.W.keepIn Γ.X.K (.ref a) = true
  q : PySem.W.excIn Γ.X.K a [.type "ValueError", .type "Exception", .type "BaseException", .type "object"] "ValueError.__new__" = true
  r : Raises Γ.X (.ref a)
  n : Γ.C.ca c = some a
def raiseS (c : Nat) : En → SR := fun _ => .ex (.mk c [])
theorem es_raise {c : Nat} {a0 : Addr} {m : Str} {j : Nat} {p2 : Pos} (G : Good Γ) (E : ExcC Γ x c a0) (hg : Gl Γ.X x) (hdb : (x == ("__debug__" : Str)) = false := by decide) : EvS Γ (.Raise (some (.Call (.Name x p) [.Constant (.str m) j p2] [] cpos)) none pos) (raiseS c) := by
  refine ⟨_, ps_raise G.calm G.tk (pmk_own PySem.F.excBase_ValueError E.q E.g E.k E.r hg hdb), fun σ H Z env φ S Dn P => ?_⟩
  exact P σ S.io S.l0 (.ref a0) none H Z (Evo.refl.sub fun _ z => z.elim) S.zh ⟨a0, E.n, rfl, .inl rfl⟩
end
end Pv
end

section
set_option Elab.async false
set_option linter.all false
set_option maxRecDepth 100000
set_option maxHeartbeats 4000000
/-! Pv12: try .. except X: suite (the first clause takes what comes); the end of a law. -/
namespace Pv
open PySem PySem.Spec PyProof.Rows L2

/-- what the first clause wishes of an exception of the body -/
def wFst (K : PySem.W.Frag) (c : Value) (ts : Addr → Value → Option Addr → TS) (D : Ends) : WX := fun cls d σ H => PySem.W.exmOne K cls c = some true ∧ ∀ a, H a = none → ts a cls d D σ H
section
variable {X : Cx} {body : List Stmt} {pos : Pos} {tb : WX → TS}
theorem ps_try_fst {x : Str} {c : Value} {ts : Addr → Value → Option Addr → TS} {b₀ : Stmt} {suite : List Stmt} {np pos' : Pos} {hds : List ExceptHandler} (hs : X.stack = X.env :: X.outer) (hf : X.env.frame = some X.env.locals)
    (hb : ∀ (W : WX) (pn : List (Addr × Obj)) (xe : Value → Shared → Prop), Takes (X.tr pn xe) W → PassesOwn (model X.prog X.w) X.A X.env xe → PSs (X.tr pn xe) body (tb W))
    (hc : Names X x c) (hsu : ∀ (a : Addr) (oe : Obj) (cls : Value) (d : Option Addr) (pn : List (Addr × Obj)), Zc cls d oe → (∃ vs, oe.data = .fields vs) → PSs (X.suite a ((a, oe) :: pn)) (b₀ :: suite) (ts a cls d)) :
    PS X (.Try body (.ExceptHandler (some (.Name x np)) none (b₀ :: suite) pos' :: hds) [] [] pos) (fun D σ H => tb (wFst X.K c ts D) D σ H) := by
  refine ⟨fun pins s σ H D I h => ?_⟩
  have ok := I.ok
  have hfr : X.A.frames = some (X.env :: X.outer) := by rw [ok.frames, hs]
  refine wpAny_Try_except ?_
  refine wpAny_mono ((hb (wFst X.K c ts D) (X.pn ++ pins) (fun e s₁ => wpAny (model X.prog X.w) X.A (noteFrame e X.env) (fun _ s₂ => wpAny (model X.prog X.w) X.A (setFlight e none) (fun _ s₃ =>
    wpAny (model X.prog X.w) X.A (handleBy e X.env (.ExceptHandler (some (.Name x np)) none (b₀ :: suite) pos' :: hds)) (SP X pins D) X.xe s₃) X.xe s₂) X.xe s₁) (fun u s' xx => ?_) PassesOwn.looking).run [] s σ H D (I.toTry _) h) (fun f s1 hsp => ?_) (fun e s1 he => he)
  · obtain ⟨a, B, sI, pins', σ', H', cls, d, rfl, J', nb, up, sky, na, os, ag, w⟩ := xx
    have J : Inv X pins σ' H' sI := J'.ofTry ok
    have sky' : Sky B (X.env :: X.outer) a (Zc cls d) X.env.locals s'.heap := by rw [← hs]; exact sky
    show wpAny (model X.prog X.w) X.A (noteFrame (.ref a) X.env) _ _ _
    refine Sky.land Zc.steady hfr hf sky' fun h3 fl3 up3 => ?_
    have J3 : Inv X pins σ' H' { s' with heap := h3 } := J.landed nb fl3.1 (up.trans up3) os ag
    obtain ⟨oe3, vs3, he3, hz3, hd3⟩ := fl3.there
    have notFr : ∀ {h : Heap} {o : Obj} {vs : Array Value}, h.FunFrames B (X.env :: X.outer) → h.get? a = some o → o.data = .fields vs → a ∉ frs (X.env :: X.outer) := fun {h o vs} ff e dd hm => by
      obtain ⟨_, o', e', hnf⟩ := ff.mem hm
      rw [e] at e'; cases e'
      exact hnf _ dd
    have nfr := notFr fl3.2.2.1 he3 hd3
    have nL : a ≠ X.env.locals := fun z => nfr (List.mem_filterMap.mpr ⟨X.env, List.mem_cons_self, by rw [hf, z]⟩)
    have nF : a ∉ X.fs := fun hm => by
      obtain ⟨e, he, q⟩ := List.mem_filterMap.mp hm
      exact nfr (List.mem_filterMap.mpr ⟨e, List.mem_cons_of_mem _ he, q⟩)
    have S3 := J3.suite he3 hd3 na nL nF
    obtain ⟨hb1, hyes⟩ := w
    refine wpAny_handleBy_cons (codeAny_handlers_test ?_) (by intro q; cases q)
    have LT : PySem.W.Looks (model X.prog X.w) h3 (typeOf (.ref a)) cls := fun A Q E s k q => wpAny_typeOf_ref (k _ _ he3) (by rw [hz3.1]; exact q)
    have LM := PySem.W.exm_one (M := model X.prog X.w) (J3.kIn) LT hb1
    have test : ∀ {Q : Value → Shared → Prop} {E : Value → Shared → Prop}, Q c { s' with heap := h3 } → wpAny (model X.prog X.w) (X.A.mark (some (.ref a))) (eval (.Name x np) X.env) Q E { s' with heap := h3 } := fun {Q E} q => by
      obtain ⟨hg, hdbg, hm | ⟨hm, hv, hnn⟩⟩ := hc
      · exact ld_glob (X := X.suite a ((a, oe3) :: (X.pn ++ pins))) S3 hg hm q hdbg
      · exact ld_blt (X := X.suite a ((a, oe3) :: (X.pn ++ pins))) S3 hg hm hv q hnn hdbg
    refine test (LM.here ?_)
    refine codeAny_handlers_suite ?_
    refine HandSPX.lands_againZ fl3 fun h4 fl4 up4 => ?_
    have J4 : Inv X pins σ' H' { s' with heap := h4 } := J.landed nb fl4.1 ((up.trans up3).trans up4) os ag
    obtain ⟨oe4, vs4, he4, hz4, hd4⟩ := fl4.there
    have S4 := J4.suite he4 hd4 na nL nF
    refine wpAny_mono ((hsu a oe4 cls d (X.pn ++ pins) hz4 ⟨_, hd4⟩).run [] _ _ H' _ S4 (hyes a na)) (fun f s6 hsp => ?_) (fun _ _ z => False.elim z)
    cases f with
    | next =>
      obtain ⟨σ6, H6, S6, q6⟩ := hsp
      exact ⟨_, _, S6.unsuite ok, q6⟩
    | brk =>
      obtain ⟨σ6, H6, S6, q6⟩ := hsp
      exact ⟨_, _, S6.unsuite ok, q6⟩
    | cont =>
      obtain ⟨σ6, H6, S6, q6⟩ := hsp
      exact ⟨_, _, S6.unsuite ok, q6⟩
    | ret u =>
      obtain ⟨v6, σ6, H6, S6, r6, q6⟩ := hsp
      exact ⟨_, _, _, S6.unsuite ok, r6, q6⟩
  · cases f with
    | next =>
      obtain ⟨σ', H', J', q⟩ := hsp
      exact wpAny_execs_nil ⟨σ', H', J'.ofTry ok, q⟩
    | brk =>
      obtain ⟨σ', H', J', q⟩ := hsp
      exact ⟨σ', H', J'.ofTry ok, q⟩
    | cont =>
      obtain ⟨σ', H', J', q⟩ := hsp
      exact ⟨σ', H', J'.ofTry ok, q⟩
    | ret u =>
      obtain ⟨v, σ', H', J', r, q⟩ := hsp
      exact ⟨v, σ', H', J'.ofTry ok, r, q⟩
end

/-- the slots that a clause may read: those never stored, and of them what is shared -/
def keepE (io : List Nat) (env : En) : En := env.mapIdx fun i s => if i ∈ io then (match s with
  | some (d, 0) => some (d, 0)
  | _ => none) else none
theorem keepE_at {io : List Nat} {env : En} {i : Nat} {d : D} {k : Nat} (h : (keepE io env)[i]? = some (some (d, k))) : i ∈ io ∧ env[i]? = some (some (d, 0)) ∧ k = 0 := by
  unfold keepE at h
  rw [List.getElem?_mapIdx] at h
  cases e : env[i]? with
  | none => rw [e] at h; cases h
  | some s =>
    rw [e] at h
    have h := Option.some.inj h
    split at h
    · rename_i hi
      simp only at h
      split at h
      · cases h; exact ⟨hi, rfl, rfl⟩
      · cases h
    · cases h
abbrev tryCt (Γ : Ct) (pn : List (Addr × Obj)) (xe : Value → Shared → Prop) (W : WX) : Ct := ⟨Γ.X.tr pn xe, Γ.C, W, Γ.io, Γ.σ₀⟩
abbrev suiCt (Γ : Ct) (a : Addr) (oe : Obj) (pn : List (Addr × Obj)) : Ct := ⟨Γ.X.suite a ((a, oe) :: pn), Γ.C, fun _ _ _ _ => False, Γ.io, Γ.σ₀⟩
theorem Good.tryG {Γ : Ct} (G : Good Γ) {pn : List (Addr × Obj)} {xe : Value → Shared → Prop} {W : WX} (tk : Takes (Γ.X.tr pn xe) W) : Good (tryCt Γ pn xe W) := ⟨G.hK, G.nd, G.calm, tk⟩
def SR.noX (r : SR) : SR := match r with
  | .ex _ => .no
  | r => r
def tryS (io : List Nat) (c : Nat) (f h : En → SR) : En → SR := fun env => match f env with
  | .ex (.mk c' _) => if c' = c then (h (keepE io env)).noX else .no
  | r => r
section
variable {Γ : Ct} {body : List Stmt} {pos : Pos} {f g : En → SR}
theorem es_try {x : Str} {c : Nat} {a₀ : Addr} {b₀ : Stmt} {suite : List Stmt} {np pos' : Pos} {hds : List ExceptHandler} (G : Good Γ) (hs : Γ.X.stack = Γ.X.env :: Γ.X.outer) (hf : Γ.X.env.frame = some Γ.X.env.locals) (hio : Γ.io ≠ [])
    (hb : ∀ W pn xe, Takes (Γ.X.tr pn xe) W → PassesOwn (model Γ.X.prog Γ.X.w) Γ.X.A Γ.X.env xe → EvB (tryCt Γ pn xe W) body f)
    (hg : Gl Γ.X x) (hm : Γ.X.mg x = some (.ref a₀)) (hn : Γ.C.ca c = some a₀) (hx : PySem.W.exmOne Γ.X.K (.ref a₀) (.ref a₀) = some true) (hsu : ∀ a oe pn, EvB (suiCt Γ a oe pn) (b₀ :: suite) g) (hdb : (x == ("__debug__" : Str)) = false := by decide) :
    EvS Γ (.Try body (.ExceptHandler (some (.Name x np)) none (b₀ :: suite) pos' :: hds) [] [] pos) (tryS Γ.io c f g) := by
  have nm : Names Γ.X x (.ref a₀) := ⟨hg, hdb, .inl hm⟩
  refine ⟨_, ps_try_fst (tb := fun W D σ H => ∀ pn xe tk po, Classical.choose (hb W pn xe tk po) D σ H) (ts := fun a _ _ D σ H => ∀ oe pn, Classical.choose (hsu a oe pn) D σ H) hs hf (fun W pn xe tk po => ⟨fun pins s σ H D I h => (Classical.choose_spec (hb W pn xe tk po)).1.run pins s σ H D I (h pn xe tk po)⟩) nm
    (fun a oe cls d pn _ _ => ⟨fun pins s σ H D I h => (Classical.choose_spec (hsu a oe pn)).1.run pins s σ H D I (h oe pn)⟩), fun σ H Z env φ S Dn P pn xe tk po => ?_⟩
  refine (Classical.choose_spec (hb _ pn xe tk po)).2 σ H Z env φ S Dn ?_
  unfold tryS at P
  cases e : f env with
  | nx env1 => rw [e] at P; exact P
  | bk env1 => rw [e] at P; exact P
  | ct env1 => rw [e] at P; exact P
  | ret p env1 => rw [e] at P; exact P
  | no => rw [e] at P; exact P
  | ex x =>
    obtain ⟨c', fs⟩ := x
    rw [e] at P
    simp only at P
    by_cases hcc : c' = c
    · rw [if_pos hcc] at P
      subst hcc
      intro σ' k1 k2 cls dx H' Z' ev zh xr
      obtain ⟨a1, h1, rfl, _⟩ := xr
      have h1 : Γ.C.ca c' = some a1 := h1
      rw [hn] at h1; cases h1
      refine ⟨hx, fun a ha oe pn2 => ?_⟩
      have S' : SttC (suiCt Γ a oe pn2) Z' σ' H' (keepE Γ.io env) (fun _ _ => False) :=
        { len := by
            have l1 := S.l0 hio
            have l2 : σ'.length = Γ.σ₀.length := k2 hio
            have l3 := S.len
            show σ'.length = (keepE Γ.io env).length
            unfold keepE
            rw [List.length_mapIdx]
            omega
          slot := fun i d k h => by
            obtain ⟨hi, h0, rfl⟩ := keepE_at h
            obtain ⟨v, hv, o⟩ := S.slot i d 0 h0
            refine ⟨v, by rw [k1 i hi, ← S.io i hi]; exact hv, o.1.ext (S.ext ev), fun _ z => z⟩
          off := fun _ _ _ z => z
          dj := fun _ _ _ z => z.elim
          nz := fun _ _ z => z.elim
          zh := zh
          l0 := k2
          io := k1 }
      refine (Classical.choose_spec (hsu a oe pn2)).2 σ' H' Z' _ _ S' Dn ?_
      have P2 := PostS.mono P (ev.sub (F2 := Tot fun (_ : Nat) (_ : Addr) => False) fun a ⟨_, z⟩ => z.elim)
      cases eg : g (keepE Γ.io env) with
      | nx env1 => rw [eg] at P2; exact P2
      | bk env1 => rw [eg] at P2; exact P2
      | ct env1 => rw [eg] at P2; exact P2
      | ret p env1 => rw [eg] at P2; exact P2
      | no => rw [eg] at P2; exact P2
      | ex y => rw [eg] at P2; exact P2.elim
    · rw [if_neg hcc] at P; exact P.elim
end
end Pv
end

section
set_option Elab.async false
set_option linter.all false
set_option maxRecDepth 100000
set_option maxHeartbeats 4000000
/-! Pv13: sorted, ranges with a step, three stores at once, <= of tuples. -/
namespace Pv
open PySem PySem.Spec PyProof.Rows L2
open PySem.Calls (call_function_entry)

/-! ### sorted -/
def encD (d : D) : PyData := d.py.getD .none
structure SortOk (ds : List D) : Prop where
  py : ∀ d ∈ ds, d.py ≠ none
  al : PySem.W.AllAlike (ds.map encD)
  so : PySem.W.Sortable (ds.map encD)
  dp : ∀ d ∈ ds, (encD d).depth ≤ 16
/-- merging and sorting that can be reckoned out -/
def mrg {α : Type} (le : α → α → Bool) : Nat → List α → List α → List α
  | 0, xs, ys => xs ++ ys
  | k + 1, xs, ys => match xs, ys with
    | [], ys => ys
    | x :: xs, [] => x :: xs
    | x :: xs, y :: ys => if le x y then x :: mrg le k xs (y :: ys) else y :: mrg le k (x :: xs) ys
theorem mrg_eq {α : Type} (le : α → α → Bool) : ∀ (k : Nat) (xs ys : List α), xs.length + ys.length ≤ k → mrg le k xs ys = List.merge xs ys le
  | 0, xs, ys, h => by
    have h1 : xs = [] := List.length_eq_zero_iff.mp (by omega)
    have h2 : ys = [] := List.length_eq_zero_iff.mp (by omega)
    subst h1 h2
    simp [mrg]
  | k + 1, [], ys, h => by simp [mrg]
  | k + 1, x :: xs, [], h => by simp [mrg]
  | k + 1, x :: xs, y :: ys, h => by
    simp only [List.length_cons] at h
    show (if le x y then x :: mrg le k xs (y :: ys) else y :: mrg le k (x :: xs) ys) = _
    rw [List.merge, mrg_eq le k xs (y :: ys) (by simp; omega), mrg_eq le k (x :: xs) ys (by simp; omega)]
def msr {α : Type} (le : α → α → Bool) : Nat → List α → List α
  | 0, xs => xs
  | k + 1, xs => match xs with
    | [] => []
    | [a] => [a]
    | a :: b :: r => mrg le ((a :: b :: r).length) (msr le k ((a :: b :: r).take (((a :: b :: r).length + 1) / 2))) (msr le k ((a :: b :: r).drop (((a :: b :: r).length + 1) / 2)))
theorem msr_eq {α : Type} (le : α → α → Bool) : ∀ (k : Nat) (xs : List α), xs.length ≤ k + 1 → msr le k xs = xs.mergeSort le
  | 0, [], _ => by simp [msr]
  | 0, [a], _ => by simp [msr]
  | 0, _ :: _ :: _, h => by simp at h
  | k + 1, [], _ => by simp [msr]
  | k + 1, [a], _ => by simp [msr]
  | k + 1, a :: b :: r, h => by
    simp only [List.length_cons] at h
    unfold msr
    rw [List.mergeSort]
    simp only [List.MergeSort.Internal.splitInTwo_fst, List.MergeSort.Internal.splitInTwo_snd]
    have l1 : ((a :: b :: r).take (((a :: b :: r).length + 1) / 2)).length ≤ k + 1 := by simp; omega
    have l2 : ((a :: b :: r).drop (((a :: b :: r).length + 1) / 2)).length ≤ k + 1 := by simp; omega
    rw [msr_eq le k _ l1, msr_eq le k _ l2]
    exact mrg_eq le _ _ _ (by simp [List.length_mergeSort]; omega)
def lexLe : List Int → List Int → Bool
  | [], _ => true
  | _ :: _, [] => false
  | x :: xs, y :: ys => if x = y then lexLe xs ys else decide (x < y)
def leK : D → D → Bool
  | .tup xs, .tup ys => match D.ints xs, D.ints ys with
    | some ns, some ms => lexLe ns ms
    | _, _ => PySem.W.dataLe false encD (.tup xs) (.tup ys)
  | d, e => PySem.W.dataLe false encD d e
theorem pyL_ints : ∀ ns : List Int, D.pyL (ns.map D.int) = some (ns.map PyData.int)
  | [] => rfl
  | n :: ns => by
    show D.pyL (.int n :: ns.map D.int) = _
    rw [D.pyL, pyL_ints ns]
    rfl
theorem encD_ints (ns : List Int) : encD (.tup (ns.map D.int)) = .tuple (ns.map PyData.int) := by
  unfold encD
  rw [D.py, pyL_ints]
  rfl
theorem lexLe_eq : ∀ xs ys : List Int, lexLe xs ys = !decide (ys < xs)
  | [], ys => by
    have : ¬ ys < [] := List.not_lt_nil ys
    simp [lexLe, this]
  | x :: xs, [] => by simp [lexLe]
  | x :: xs, y :: ys => by
    unfold lexLe
    rw [lexLe_eq xs ys]
    simp only [List.cons_lt_cons_iff]
    by_cases h : x = y
    · subst h
      simp
    · have h' : ¬ y = x := fun e => h e.symm
      simp only [if_neg h, h', false_and, or_false]
      by_cases h2 : x < y
      · have : ¬ y < x := by omega
        simp [h2, this]
      · have : y < x := by omega
        simp [h2, this]
theorem leK_eq : leK = PySem.W.dataLe false encD := by
  funext d e
  unfold leK
  split
  · split
    · rename_i xs ys ns ms e1 e2
      rw [D.ints_eq e1, D.ints_eq e2, lexLe_eq]
      show _ = (!PySem.W.dataLt (encD (.tup (ms.map D.int))) (encD (.tup (ns.map D.int))))
      rw [encD_ints, encD_ints, PySem.W.dataLt_tuple]
      exact congrArg (!·) (PySem.W.dataLt_ints ms ns).symm
    · rfl
  · rfl
def srt (ds : List D) : List D := msr leK ds.length ds
theorem srt_eq (ds : List D) : srt ds = ds.mergeSort (PySem.W.dataLe false encD) := by
  unfold srt
  rw [msr_eq leK _ _ (Nat.le_succ _), leK_eq]
def intTup : D → Bool
  | .tup (x :: xs) => (D.ints (x :: xs)).isSome
  | _ => false
def isInt : D → Bool
  | .int _ => true
  | _ => false
def isStr : D → Bool
  | .str _ => true
  | _ => false
def neTup : PyData → Bool
  | .tuple (_ :: _) => true
  | _ => false
def noTup : PyData → Bool
  | .tuple _ => false
  | .none => false
  | _ => true
def sortOkG (ds : List D) : Bool := ds.all (fun d => d.py.isSome && decide ((encD d).depth ≤ 16)) && (ds.all (fun d => ds.all fun e => PySem.W.alike (encD d) (encD e)) && (ds.all (fun d => neTup (encD d)) || ds.all (fun d => noTup (encD d))))
def sortOkB (ds : List D) : Bool := ds.all intTup || ds.all isInt || ds.all isStr || sortOkG ds
theorem intTup_eq {d : D} (h : intTup d = true) : ∃ n ns, d = .tup ((n :: ns).map D.int) := by
  unfold intTup at h
  split at h
  · rename_i x xs
    cases e : D.ints (x :: xs) with
    | none => rw [e] at h; cases h
    | some ns =>
      have := D.ints_eq e
      cases ns with
      | nil => cases this
      | cons n ns => exact ⟨n, ns, by rw [this]⟩
  · cases h
theorem sortOk_of {ds : List D} (h : sortOkB ds = true) : SortOk ds := by
  unfold sortOkB at h
  simp only [Bool.or_eq_true, List.all_eq_true] at h
  rcases h with ((h | h) | h) | h
  · have q : ∀ d ∈ ds, ∃ n ns, d = .tup ((n :: ns).map D.int) := fun d hd => intTup_eq (h d hd)
    have pe : ∀ d ∈ ds, ∃ n ns, encD d = .tuple ((n :: ns).map PyData.int) := fun d hd => by
      obtain ⟨n, ns, rfl⟩ := q d hd
      exact ⟨n, ns, encD_ints _⟩
    refine ⟨fun d hd e => ?_, fun a ha b hb => ?_, .inl fun a ha => ?_, fun d hd => ?_⟩
    · obtain ⟨n, ns, rfl⟩ := q d hd
      rw [D.py, pyL_ints] at e; cases e
    · obtain ⟨d, hd, rfl⟩ := List.mem_map.mp ha
      obtain ⟨e, he, rfl⟩ := List.mem_map.mp hb
      obtain ⟨n, ns, e1⟩ := pe d hd
      obtain ⟨m, ms, e2⟩ := pe e he
      rw [e1, e2]
      show PySem.W.alikeAll _ _ = true
      exact PySem.W.alike_ints _ _
    · obtain ⟨d, hd, rfl⟩ := List.mem_map.mp ha
      obtain ⟨n, ns, e1⟩ := pe d hd
      exact ⟨_, _, e1⟩
    · obtain ⟨n, ns, e1⟩ := pe d hd
      rw [e1]
      simp only [PyData.depth]
      rw [PySem.W.depth_ints]
      omega
  · have q : ∀ d ∈ ds, ∃ n, d = .int n := fun d hd => by
      have := h d hd
      unfold isInt at this
      split at this
      · exact ⟨_, rfl⟩
      · cases this
    refine ⟨fun d hd e => ?_, fun a ha b hb => ?_, .inr fun a ha => ?_, fun d hd => ?_⟩
    · obtain ⟨n, rfl⟩ := q d hd
      cases e
    · obtain ⟨d, hd, rfl⟩ := List.mem_map.mp ha
      obtain ⟨e, he, rfl⟩ := List.mem_map.mp hb
      obtain ⟨n, rfl⟩ := q d hd
      obtain ⟨m, rfl⟩ := q e he
      rfl
    · obtain ⟨d, hd, rfl⟩ := List.mem_map.mp ha
      obtain ⟨n, rfl⟩ := q d hd
      exact ⟨nofun, fun xs => nofun⟩
    · obtain ⟨n, rfl⟩ := q d hd
      show PyData.depth (.int n) ≤ 16
      simp [PyData.depth]
  · have q : ∀ d ∈ ds, ∃ n, d = .str n := fun d hd => by
      have := h d hd
      unfold isStr at this
      split at this
      · exact ⟨_, rfl⟩
      · cases this
    refine ⟨fun d hd e => ?_, fun a ha b hb => ?_, .inr fun a ha => ?_, fun d hd => ?_⟩
    · obtain ⟨n, rfl⟩ := q d hd
      cases e
    · obtain ⟨d, hd, rfl⟩ := List.mem_map.mp ha
      obtain ⟨e, he, rfl⟩ := List.mem_map.mp hb
      obtain ⟨n, rfl⟩ := q d hd
      obtain ⟨m, rfl⟩ := q e he
      rfl
    · obtain ⟨d, hd, rfl⟩ := List.mem_map.mp ha
      obtain ⟨n, rfl⟩ := q d hd
      exact ⟨nofun, fun xs => nofun⟩
    · obtain ⟨n, rfl⟩ := q d hd
      show PyData.depth (.str n) ≤ 16
      simp [PyData.depth]
  · unfold sortOkG at h
    simp only [Bool.and_eq_true, Bool.or_eq_true, List.all_eq_true, decide_eq_true_eq] at h
    obtain ⟨h1, h2, h3⟩ := h
    refine ⟨fun d hd e => ?_, fun a ha b hb => ?_, ?_, fun d hd => (h1 d hd).2⟩
    · have := (h1 d hd).1
      rw [e] at this; cases this
    · obtain ⟨d, hd, rfl⟩ := List.mem_map.mp ha
      obtain ⟨e, he, rfl⟩ := List.mem_map.mp hb
      exact h2 d hd e he
    · rcases h3 with h3 | h3
      · refine .inl fun a ha => ?_
        obtain ⟨d, hd, rfl⟩ := List.mem_map.mp ha
        have := h3 d hd
        unfold neTup at this
        split at this
        · rename_i x r e; exact ⟨x, r, e⟩
        · cases this
      · refine .inr fun a ha => ?_
        obtain ⟨d, hd, rfl⟩ := List.mem_map.mp ha
        have := h3 d hd
        refine ⟨fun e => ?_, fun xs e => ?_⟩
        · rw [e] at this; cases this
        · rw [e] at this; cases this
def sortL (ds : List D) : Option (D × Nat) := if sortOkB ds = true then some (.lst (srt ds), 1) else none
theorem sortL_ok {ds : List D} {p : D × Nat} (h : sortL ds = some p) : SortOk ds ∧ p = (.lst (srt ds), 1) := by
  unfold sortL at h
  split at h
  · rename_i e
    cases h
    exact ⟨sortOk_of e, rfl⟩
  · cases h
def sortD : D → Option (D × Nat)
  | .lst ds => sortL ds
  | .tup ds => sortL ds
  | _ => none
section
variable {C : RC} {Z : Fp} {H : Hp}
theorem each_of : ∀ {xs : List V} {us : List Value} {ds : List D}, Vals xs us → ShL C Z H xs ds → PySem.W.EachIs (fun u d => ∃ v, RelV v u ∧ Sh C Z H v d) us ds
  | [], _, _, r, h => by cases r; cases h; exact .nil
  | x :: xs, u :: us, ds, r, h => by
    cases r with
    | cons r rr =>
      cases h with
      | cons h hh => exact PySem.W.EachIs.cons ⟨x, r, h⟩ (each_of rr hh)
theorem of_each : ∀ {us : List Value} {ds : List D}, PySem.W.EachIs (fun u d => ∃ v, RelV v u ∧ Sh C Z H v d) us ds → ∃ ys, Vals ys us ∧ ShL C Z H ys ds
  | _, _, .nil => ⟨[], .nil, .nil⟩
  | _, _, .cons ⟨v, r, h⟩ t => by
    obtain ⟨ys, a, b⟩ := of_each t
    exact ⟨v :: ys, .cons r a, .cons h b⟩
theorem each_reads {X : Cx} {pins : List (Addr × Obj)} {σ : L2.St} {s : Shared} (I : Inv X pins σ H s) (hK : C.K = X.K) : ∀ {us : List Value} {ds : List D}, (∀ d ∈ ds, d.py ≠ none) → PySem.W.EachIs (fun u d => ∃ v, RelV v u ∧ Sh C Z H v d) us ds → PySem.W.EachIs (fun u d => ∃ as, Reads s.heap u (encD d) as) us ds
  | _, _, _, .nil => .nil
  | _, d :: _, hp, .cons ⟨v, r, h⟩ t => by
    refine .cons ?_ (each_reads I hK (fun d hd => hp d (List.mem_cons_of_mem _ hd)) t)
    cases e : d.py with
    | none => exact absurd e (hp d List.mem_cons_self)
    | some p =>
      have q := Sh.dp d v p h e
      rw [hK] at q
      have e2 : encD d = p := by unfold encD; rw [e]; rfl
      rw [e2]
      exact Dp.reads I p v _ q r
end
/-- sorted(xs) over a sequence's object -/
theorem sorted_seq {prog : Program} {w : World} {A : Around} {E : Value → Shared → Prop} {s : Shared} {β : Type} {vs : List Value} {bs : List β} {enc : β → PyData} {R : Value → β → Prop} {l : Addr} {T : String} {o : Obj} {n : Nat} {Q : Value → Shared → Prop}
    (hT : T = "list" ∨ T = "tuple") (ho : s.heap.get? l = some o) (hc : o.cls = .type T) (hd : o.data = .seq vs.toArray n) (e : PySem.W.EachIs R vs bs) (er : PySem.W.EachIs (fun v b => ∃ as, Reads s.heap v (enc b) as) vs bs) (hal : PySem.W.AllAlike (bs.map enc)) (hk : PySem.W.Sortable (bs.map enc)) (hL : vs.length ≤ sizeLine)
    (hu : ∀ b, b ∈ bs → A.units + 2 + (enc b).depth < cLine) (h : ∀ (h1 : Heap) (out : List Value) (h' : Heap) (a e' : Nat), (∀ b u, s.heap.get? b = some u → h1.get? b = some u) → (∀ b u, h1.get? b = some u → h'.get? b = some u) → h1.objs.size ≤ a → h'.get? a = some (seqObj "list" (List.toArray out) e') → out.length = bs.length → PySem.W.EachIs R out (bs.mergeSort (PySem.W.dataLe false enc)) → Q (.ref a) { s with heap := h' }) :
    wpAny (model prog w) A (call (.builtin "sorted") [.ref l]) Q E s := by
  refine PySem.Calls.call_function_entry kind_sorted plain_sorted entry_sorted (args_sorted1 _) ?_
  unfold Builtin.«sorted»
  refine wpAny_bind (m := checkCount "sorted" 1 1 _) (wpAny_pure ?_)
  refine wpAny_bind (wpAny_collect_seq l hT ho hc hd (fun h1 k1 => ?_) (by simpa using hL))
  refine wpAny_bind (wpAny_newList ?_ hL)
  have ha : (h1.push (seqObj "list" vs.toArray 0)).get? h1.objs.size = some (seqObj "list" vs.toArray 0) := Heap.get?_push_size _ rfl
  have k2 : ∀ b u, s.heap.get? b = some u → (h1.push (seqObj "list" vs.toArray 0)).get? b = some u := fun b u q => by
    rw [Heap.get?_push_ne _ _ _ (Nat.ne_of_lt (Heap.lt_size (k1 b u q)))]; exact k1 b u q
  have nb : ∀ b u, s.heap.get? b = some u → b ≠ h1.objs.size := fun b u q => Nat.ne_of_lt (Heap.lt_size (k1 b u q))
  have er' : PySem.W.EachIs (fun v b => ∃ as, Reads (PySem.W.sortingHeap (h1.push (seqObj "list" vs.toArray 0)) h1.objs.size vs) v (enc b) as) vs bs := er.mono fun _ _ ⟨as, r⟩ => ⟨as, PyProof.Rows.Reads.keeps (fun b u q => PySem.W.sortingHeap_old (nb b u q) (k2 b u q)) r⟩
  refine wpAny_bind (wpAny_holding (wpAny_call_entry_kw slot_list_sort ⟨_, ha, rfl⟩ entry_list_sort ?body (args_list_sort _)))
  case body =>
    show wpAny (model prog w) A.in1.in1 (Builtin.«list.sort» ⟨[.ref h1.objs.size], []⟩) _ _ _
    refine PySem.W.list_sort_vals (κ := PySem.W.dataKind _ (bs.map enc)) ha (PySem.W.SortsAt.data (PySem.W.each_map (R := fun v d => ∃ as, Reads _ v d as) enc er') hal hk (PySem.W.bound_map hu)) hL ⟨_, rfl, wpAny_pure ⟨_, rfl, ?_⟩⟩
    obtain ⟨e9, he9⟩ := PyProof.Rows.sortedHeap_at (h := h1.push (seqObj "list" vs.toArray 0)) (out := (PySem.W.sortVals (PySem.W.dataKind (PySem.W.sortingHeap (h1.push (seqObj "list" vs.toArray 0)) h1.objs.size vs) (bs.map enc)) false vs vs).toArray) ha
    refine h h1 _ _ _ _ k1 (fun b u q => ?_) (Nat.le_refl _) he9 (by rw [PySem.W.sortVals_length false rfl]; exact e.length) (PySem.W.sortVals_data false e er' hal)
    have hb : (h1.push (seqObj "list" vs.toArray 0)).get? b = some u := by
      rw [Heap.get?_push_ne _ _ _ (Nat.ne_of_lt (Heap.lt_size q))]; exact q
    rw [PyProof.Rows.sortedHeap_old (Nat.ne_of_lt (Heap.lt_size q)) (Heap.lt_size hb)]
    exact hb

def rSortA (C : RC) (K : PySem.W.Frag) : List V → Hp → VK → Prop := fun vs H Q => ∃ a xs ds Z, vs = [V.ref a] ∧ (SqL K H a xs ∨ SqT K H a xs) ∧ ShL C Z H xs ds ∧ SortOk ds ∧ C.K = K ∧
  ∀ ys p, H p = none → ShL C Z H ys (srt ds) → Q (.ref p) (upd H p (.lst ys))
theorem cr_sortA {X : Cx} {C : RC} {k : Nat} (hr : Room k X.A) : CallR X (.builtin "sorted") (rSortA C X.K) := by
  intro pins s σ H vs us Q I r h
  obtain ⟨a, xs, ds, Z, rfl, hs, sh, ok, hK, q⟩ := h
  rw [Vals.ref1 r]
  obtain ⟨its, T, o, n, hT, rv, ho, hc, hd, hz⟩ : ∃ its T o n, (T = "list" ∨ T = "tuple") ∧ Vals xs its ∧ s.heap.get? a = some o ∧ o.cls = .type T ∧ o.data = .seq its.toArray n ∧ its.length ≤ sizeLine := by
    rcases hs with hs | hs
    · obtain ⟨its, rv, ⟨o, n, ho, hc, _, hd⟩, hz⟩ := I.list hs
      exact ⟨its, "list", o, n, .inl rfl, rv, ho, hc, hd, by rw [← rv.length]; exact hz⟩
    · obtain ⟨its, rv, ⟨o, ho, hc, n, hd⟩, hz⟩ := I.tuple hs
      exact ⟨its, "tuple", o, n, .inr rfl, rv, ho, hc, hd, by rw [← rv.length]; exact hz⟩
  have e := each_of rv sh
  refine sorted_seq hT ho hc hd e (each_reads I hK ok.py e) ok.al ok.so hz (fun d hd => by have := ok.dp d hd; have := hr.un; omega) fun h1 out h' p e9 k1 k2 hp hat hlen ee => ?_
  obtain ⟨ys, ry, sy⟩ := of_each ee
  rw [← srt_eq] at sy
  have I1 := I.kept (t' := s.toks) k1
  have hlen2 : ys.length ≤ sizeLine := by rw [ry.length, hlen, ← e.length]; exact hz
  exact ⟨.ref p, upd H p (.lst ys), I1.laid (t' := s.toks) k2 hp ⟨hlen2, out, e9, ry, hat⟩, rfl, q ys p (I1.hok.fresh hp) sy⟩
section
variable {Γ : Ct} {e a b c : Expr} {fa fb fc : En → R Opd} {pos p q : Pos} {x : Str}
theorem ev_sorted (G : Good Γ) {k : Nat} (hr : Room k Γ.X.A) (hg : Gl Γ.X "sorted") (hm : Γ.X.mg "sorted" = none) (ha : EvO Γ a fa) (hs : starEach [a] Γ.X.env = [(false, eval a Γ.X.env)] := by rfl) : EvE Γ (.Call (.Name "sorted" p) [a] [] pos) (op1 sortD fa) :=
  ev_b1 (cr_sortA (C := Γ.C) hr) (fun σ H Z env φ S x d p hx hg Q P => by
    unfold sortD at hg
    split at hg
    · obtain ⟨ok, rfl⟩ := sortL_ok hg
      obtain ⟨a, us, rfl, ha, r⟩ := hx.lstI
      exact ⟨a, us, _, Z, rfl, .inl (SqL.of ha), r, ok, G.hK, fun ys l hl sy => Post.newL P S hl (Ow.lst1 upd_same (sy.ext (Ext.new hl)))⟩
    · obtain ⟨ok, rfl⟩ := sortL_ok hg
      obtain ⟨a, us, rfl, ha, r⟩ := hx.tupI
      rw [G.hK] at ha
      exact ⟨a, us, _, Z, rfl, .inr ha, r, ok, G.hK, fun ys l hl sy => Post.newL P S hl (Ow.lst1 upd_same (sy.ext (Ext.new hl)))⟩
    · cases hg) hg hm (by decide +kernel) ha (hs := hs)

/-! ### range(i, j, c) -/
def rg3D : List D → Option (List D)
  | [.int i, .int j, .int c] => if c ≠ 0 ∧ c.natAbs < 1073741824 ∧ Builtin.Range.small i j c = true ∧ 0 ≤ Builtin.Range.rangeSize i j c then some ((List.range (Builtin.Range.rangeSize i j c).toNat).map fun k : Nat => .int (i + k * c)) else none
  | _ => none
theorem itc_d {C : RC} {lo c : Int} {n : Nat} {Z : Fp} {H : Hp} : ItD C (Itc lo c n) ((List.range n).map fun k : Nat => .int (lo + k * c)) Z H := fun Z2 H2 x => by
  refine ⟨(show n ≤ ((List.range n).map fun k : Nat => D.int (lo + k * c)).length by simp), fun i d hd => ?_⟩
  rw [List.getElem?_map] at hd
  obtain ⟨j, hj, rfl⟩ := Option.map_eq_some_iff.mp hd
  obtain ⟨h1, h2⟩ := List.getElem?_eq_some_iff.mp hj
  rw [List.length_range] at h1
  rw [List.getElem_range] at h2
  subst h2
  exact ⟨h1, fun y H' ⟨e1, e2⟩ => by subst e1 e2; exact ⟨.int _, .inl rfl⟩⟩
def rg3 (f : En → R (List D)) : En → R (List D) := fun env => (f env).bind fun ds env1 => R.of (rg3D ds) env1
theorem ei_rg3 {tg : Expr} {f : En → R (List D)} (hg : Gl Γ.X "range") (hm : Γ.X.mg "range" = none) (ha : EvA Γ [a, b, c] f) (hs : starEach [a, b, c] Γ.X.env = (false, eval a Γ.X.env) :: starEach [b, c] Γ.X.env := by rfl) (hpl : (backTo pos (starEach [b, c] Γ.X.env)).any (·.1) = false := by rfl) : EvI Γ tg (.Call (.Name "range" p) [a, b, c] [] pos) (rg3 f) := by
  obtain ⟨t, h1, h2⟩ := ha
  refine ⟨_, pi_range3 hg hm h1 hs hpl, fun σ H Z env φ S R P => ?_⟩
  refine h2 σ H Z env φ S _ ?_
  unfold rg3 at P
  cases e : f env with
  | ex x => rw [e] at P; exact P
  | no => rw [e] at P; exact P
  | ok ds env1 =>
    rw [e] at P
    simp only [Pv.R.bind_ok] at P
    intro vs H1 Z1 φ1 A S1 sh0 dj ev
    have ev' := ev.sub (F2 := Tot φ1) fun _ z => .inl z
    have sh : ShL Γ.C Z1 H1 vs ds := sh0
    cases eD : rg3D ds with
    | none => rw [eD] at P; exact P.elim
    | some items =>
      rw [eD] at P
      unfold rg3D at eD
      split at eD
      · rename_i i j c
        cases sh with
        | cons h r =>
          cases r with
          | cons h' r =>
            cases r with
            | cons h'' r =>
              cases r
              cases h
              cases h'
              cases h''
              split at eD
              · rename_i hb
                cases eD
                exact ⟨i, j, c, _, rfl, ⟨hb.1, hb.2.1, hb.2.2.1, by rw [Int.toNat_of_nonneg hb.2.2.2]⟩, P _ H1 Z1 φ1 S1 itc_d ev'⟩
              · cases eD
      · cases eD

/-! ### <= of tuples of ints -/
def leTD : D → D → Option (D × Nat)
  | .int i, .int j => some (.bl (decide (i ≤ j)), 0)
  | .tup xs, .tup ys => match D.ints xs, D.ints ys with
    | some ns, some ms => some (.bl (Ob.lexAt (fun j => decide (ns.getD j 0 = ms.getD j 0)) (fun j => decide (ns.getD j 0 ≤ ms.getD j 0)) (decide (ns.length ≤ ms.length)) 0 (min ns.length ms.length)), 0)
    | _, _ => none
  | _, _ => none
theorem does_leT (G : Good Γ) : Does2 Γ leTD (fun x y H Q => rI0 (fun i j => .bl (decide (i ≤ j))) x y H Q ∨ rLeT Γ.X.K x y H Q) := by
  intro σ H Z env φ S x y d e p hx hy hg Q P
  unfold leTD at hg
  split at hg
  · cases hg
    exact .inl ⟨_, _, hx.intI, hy.intI, Post.here P S (Ow.sh (.bl _))⟩
  · split at hg
    · rename_i ns ms e1 e2
      cases hg
      obtain ⟨a, us, rfl, ha, r⟩ := hx.tupI
      obtain ⟨b, ws, rfl, hb, r'⟩ := hy.tupI
      rw [D.ints_eq e1] at r
      rw [D.ints_eq e2] at r'
      rw [r.ints] at ha
      rw [r'.ints] at hb
      rw [G.hK] at ha hb
      exact .inr ⟨a, b, ns, ms, rfl, rfl, ha, hb, Post.here P S (Ow.sh (.bl _))⟩
    · cases hg
  · cases hg
def cLeT (G : Good Γ) {k : Nat} (hr : Room k Γ.X.A) : CmpR Γ .LtE leTD := ⟨_, op_le.or (op_leT hr.units0), does_leT G⟩

/-! ### a, b, c = x, y, z -/
def par3S (i j l : Nat) (fa : En → R (List (D × Nat))) : En → SR := fun env => (fa env).then fun ps env1 => match ps with
  | [p, q, r] => if i < env1.length ∧ j < env1.length ∧ l < env1.length then .nx (((env1.set i (some p)).set j (some q)).set l (some r)) else .no
  | _ => .no
theorem es_par3 {i j l : Nat} {x y z : Str} {a b c : Expr} {fa : En → R (List (D × Nat))} {px py pz pt : Pos} {kt k2 : Nat} {pt2 : Pos} (G : Good Γ) (hi : Γ.X.N[i]? = some x) (hj : Γ.X.N[j]? = some y) (hl : Γ.X.N[l]? = some z) (hij : i ≠ j) (hil : i ≠ l) (hjl : j ≠ l) (hio : i ∉ Γ.io) (hjo : j ∉ Γ.io) (hlo : l ∉ Γ.io)
    (hx : Γ.X.env.scope.names.lookup x = some .local) (hy : Γ.X.env.scope.names.lookup y = some .local) (hz : Γ.X.env.scope.names.lookup z = some .local) (ha : EvL Γ [a, b, c] fa)
    (hw : swappedStores [.Tuple [.Name x px, .Name y py, .Name z pz] kt pt] (.Tuple [a, b, c] k2 pt2) Γ.X.env = pure (some [x, y, z]) := by rfl)
    (hs : swapsWithSole [.Tuple [.Name x px, .Name y py, .Name z pz] kt pt] (.Tuple [a, b, c] k2 pt2) pos.line Γ.X.env = pure false := by rfl) :
    EvS Γ (.Assign [.Tuple [.Name x px, .Name y py, .Name z pz] kt pt] (.Tuple [a, b, c] k2 pt2) pos) (par3S i j l fa) := by
  obtain ⟨t, h1, h2⟩ := ha
  refine ⟨_, ps_par3 G.calm G.nd hi hj hl hij hil hjl hx hy hz h1 hw hs, fun σ H Z env φ S Dn P => ?_⟩
  refine h2.then S P fun ps env1 vs H1 Z1 φ1 A e1 S1 q1 dj1 ev1 P1 => ?_
  have q1 : OwL Γ.C Z1 H1 vs ps A := q1
  cases q1 with
  | nil _ => exact P1.elim
  | @cons v vs p ps A1 B U o r d1 u1 =>
    cases r with
    | nil _ => exact P1.elim
    | @cons w ws q qs A2 B2 U2 o2 r2 d2 u2 =>
      cases r2 with
      | nil _ => exact P1.elim
      | @cons w3 ws3 q3 qs3 A3 B3 U3 o3 r3 d3 u3 =>
        cases r3 with
        | cons _ _ _ _ => exact P1.elim
        | nil n3 =>
          refine ⟨v, w, w3, rfl, ?_⟩
          simp only at P1
          have a1 : ∀ a, A1 a → A a := fun a z => (u1 a).mpr (.inl z)
          have a2 : ∀ a, A2 a → A a := fun a z => (u1 a).mpr (.inr ((u2 a).mpr (.inl z)))
          have a3 : ∀ a, A3 a → A a := fun a z => (u1 a).mpr (.inr ((u2 a).mpr (.inr ((u3 a).mpr (.inl z)))))
          have n12 : ∀ a, A1 a → ¬ A2 a := fun a z y => d1 a z ((u2 a).mpr (.inl y))
          have n13 : ∀ a, A1 a → ¬ A3 a := fun a z y => d1 a z ((u2 a).mpr (.inr ((u3 a).mpr (.inl y))))
          have n23 : ∀ a, A2 a → ¬ A3 a := fun a z y => d2 a z ((u3 a).mpr (.inl y))
          split at P1
          · rename_i hl
            have S2 := S1.put hl.1 hio o (fun j a _ h z => (dj1 a (a1 a z)).1 ⟨j, h⟩) fun a z => (dj1 a (a1 a z)).2
            have S3 := S2.put (i := j) (by simpa using hl.2.1) hjo o2 (fun m a hm h z => by
              by_cases q : m = i
              · simp only [if_pos q] at h
                exact n12 a h z
              · simp only [if_neg q] at h
                exact (dj1 a (a2 a z)).1 ⟨m, h⟩) fun a z => (dj1 a (a2 a z)).2
            have S4 := S3.put (i := l) (by simpa using hl.2.2) hlo o3 (fun m a hm h z => by
              by_cases q : m = j
              · simp only [if_pos q] at h
                exact n23 a h z
              · simp only [if_neg q] at h
                by_cases q2 : m = i
                · simp only [if_pos q2] at h
                  exact n13 a h z
                · simp only [if_neg q2] at h
                  exact (dj1 a (a3 a z)).1 ⟨m, h⟩) fun a z => (dj1 a (a3 a z)).2
            refine P1 _ H1 Z1 _ S4 ⟨fun _ _ q _ => q, fun _ z => z, fun _ z => .inl z, fun x ⟨m, z⟩ => .inl ?_⟩
            by_cases q : m = l
            · simp only [if_pos q] at z; exact .inr (a3 x z)
            · simp only [if_neg q] at z
              by_cases q2 : m = j
              · simp only [if_pos q2] at z; exact .inr (a2 x z)
              · simp only [if_neg q2] at z
                by_cases q3 : m = i
                · simp only [if_pos q3] at z; exact .inr (a1 x z)
                · simp only [if_neg q3] at z; exact .inl ⟨m, z⟩
          · exact P1.elim
end
end Pv
end

section
set_option Elab.async false
set_option linter.all false
set_option maxRecDepth 100000
set_option maxHeartbeats 4000000
/-! Pv14: a law's facts, its end. -/
namespace Pv
open PySem PySem.Spec PyProof.Rows L2

/-- a def of the program: where it stands -/
structure DA (K : PySem.W.Frag) (mg : Str → Option Value) (x : Str) (st : Stmt) (ps : List Str) where
  f : Addr
  fd : FuncData
  F : Fun K x x st f fd
  m : mg x = some (.ref f)
  b : Binds K fd ps []
def DA.of {K : PySem.W.Frag} {h : Heap} {mg : Str → Option Value} (X : K.In h) (G : h.Ns mainGlobals mg) {x : Str} {st : Stmt} {ps : List Str} {f : Addr} {oc : Value} {od an : Option Addr} {sl : Array (Option Value)} {kV dc pm cd ct : Value}
    (a : PySem.W.nsIn K mainGlobals x = some (some (.ref f))) (l : K.lookup f = some ⟨oc, od, .func (PySem.W.fnOf x x (defArgs st) (defBody st) (defScope st) .none kV dc pm an cd ct), sl⟩) (c : PySem.W.codeIn K cd x = true) (k : PySem.W.keepIn K (.ref f) = true)
    (hb : ∀ (kV doc pm : Value) (an : Option Addr) (cdv ct : Value) (us : List Value), us.length = ps.length → bindArgs (PySem.W.fnOf x x (defArgs st) (defBody st) (defScope st) .none kV doc pm an cdv ct) ⟨us, []⟩ = pure (ps.zip us)) : DA K mg x st ps :=
  ⟨f, _, fun_mk l c k, PySem.W.mg_of X G a, (fun_mk l c k).binds hb⟩
/-- an error class of the program without an __init__ -/
structure XA (K : PySem.W.Frag) (mg : Str → Option Value) (x : Str) where
  a : Addr
  m : mg x = some (.ref a)
  k : PySem.W.keepIn K (.ref a) = true
  q : PySem.W.excIn K a [.type "ValueError", .type "Exception", .type "BaseException", .type "object"] "ValueError.__new__" = true
  s : PySem.W.subIn K (.ref a) (.type "BaseException") = some true
  t : PySem.W.typeIn K (.ref a) = some (.type "type")
  i : PySem.W.isClsIn K a = true
  f : PySem.W.subIn K (.ref a) (.ref a) = some true
theorem XA.e {K : PySem.W.Frag} {mg : Str → Option Value} {x : Str} (A : XA K mg x) : PySem.W.exmOne K (.ref A.a) (.ref A.a) = some true := by
  have h1 := A.s
  have h2 := A.i
  have h3 := A.t
  have h4 := A.f
  have e1 : (PySem.W.subIn K (.ref A.a) (.type "BaseException") == some true) = true := by rw [h1]; rfl
  have e2 : ((PySem.W.clsIn K A.a).isSome && PySem.W.typeIn K (.ref A.a) == some (.type "type")) = true := by
    have h2' : (PySem.W.clsIn K A.a).isSome = true := h2
    rw [h2', h3]; rfl
  show (if (PySem.W.subIn K (.ref A.a) (.type "BaseException") == some true) = true then (if ((PySem.W.clsIn K A.a).isSome && PySem.W.typeIn K (.ref A.a) == some (.type "type")) = true then PySem.W.subIn K (.ref A.a) (.ref A.a) else none) else none) = some true
  rw [if_pos e1, if_pos e2]
  exact h4
theorem XA.excC {K : PySem.W.Frag} {mg : Str → Option Value} {x : Str} (A : XA K mg x) {Γ : Ct} {c : Nat} (hn : Γ.C.ca c = some A.a) (hm : Γ.X.mg = mg := by rfl) (hK : Γ.X.K = K := by rfl) : ExcC Γ x c A.a := by
  subst hm hK
  exact ⟨A.m, A.k, A.q, raises_own A.s A.t, hn⟩
theorem fnV_no {P : Program} {w : World} {K : PySem.W.Frag} {mg : Str → Option Value} {base : Heap} {C : RC} {k : Nat} {f : Addr} {fd : FuncData} {ps : List Str} {io : Bool} : FnV P w K mg base C k f fd ps io (fun _ _ => .no) :=
  ⟨fun _ _ _ _ h => h.1, fun A outer s H args us vs Q E _ _ _ _ h => by
    obtain ⟨_, h⟩ := h
    cases io with
    | false =>
      obtain ⟨_, _, _, _, q⟩ := h
      exact q.elim
    | true =>
      cases vs with
      | nil => exact h.elim
      | cons v vs =>
        obtain ⟨_, _, _, _, _, _, _, _, q⟩ := h
        exact q.elim⟩
def lawSp (K : PySem.W.Frag) (F : Sl → List D → FR) : Sp := fun vs H Q E => vs.length = 1 ∧ ∀ C : RC, C.K = K → spF C 1 false F vs H Q E
theorem lawSp_of {P : Program} {w : World} {K : PySem.W.Frag} {mg : Str → Option Value} {base : Heap} {C : RC} {k : Nat} {f : Addr} {fd : FuncData} {x : Str} {F : Sl → List D → FR} (hC : C.K = K) (h : FnV P w K mg base C k f fd [x] false F) : FnOk P w K mg base (L2.CX P w) k f fd [x] (lawSp K F) :=
  FnOk.imp h fun vs H Q E q => q.2 C hC
theorem lawSp_in {K : PySem.W.Frag} {F : Sl → List D → FR} {H : Hp} {a : Addr} {ns : List Int} (hO : L2.Only H) (hS : SqL K H a (ns.map V.int)) (hF : ∃ fin, F none [.scr ns] = .ok (.bl true, 0) fin) : lawSp K F [.ref a] H (fun v _ => v = .bl true) fun _ _ _ => False := by
  refine ⟨rfl, fun C hC => ⟨rfl, [.scr ns], fun _ => False, .cons (.scr ?_) .nil, fun _ z => z.elim, ?_⟩⟩
  · rw [← hC] at hS
    rcases hS with (hS | ⟨o, hS⟩) | hS
    · rcases hO a with e | ⟨o, xs, e⟩
      · rw [hS] at e; cases e
      · rw [hS] at e; cases e
    · exact .inl ⟨o, hS⟩
    · exact .inr (.inr hS)
  · obtain ⟨fin, e⟩ := hF
    rw [e]
    intro v H' Z' A o _ _ _
    have := o.1
    cases this
    rfl
theorem cx_no {P : Program} {w : World} {H : Hp} {s s' : Shared} {e : Value} (h : L2.CX P w [] H s (fun _ _ _ => False) e s') : False := by
  obtain ⟨_, _, _, _, _, _, _, _, _, _, _, _, h⟩ := h
  exact h
section
variable {Γ : Ct} {scope : Scope} {s : Shared} {H : Hp} {c : Addr} {cl : List (Str × Addr)} {fp : List Addr}
theorem blkG {tg : Expr} {ws : List Nat} {g : D → En → Option En} (G : Good Γ) (h : Good (blkCt Γ scope s H c cl fp) → EvG (blkCt Γ scope s H c cl fp) tg ws g) : EvG (blkCt Γ scope s H c cl fp) tg ws g := h G.blk
theorem blkT {ifs : List Expr} {f : En → R Bool} (G : Good Γ) (h : Good (blkCt Γ scope s H c cl fp) → EvPT (blkCt Γ scope s H c cl fp) ifs f) : EvPT (blkCt Γ scope s H c cl fp) ifs f := h G.blk
theorem blkE {e : Expr} {f : En → R (D × Nat)} (G : Good Γ) (h : Good (blkCt Γ scope s H c cl fp) → EvE (blkCt Γ scope s H c cl fp) e f) : EvE (blkCt Γ scope s H c cl fp) e f := h G.blk
end
end Pv
end

section
set_option Elab.async false
set_option linter.all false
set_option maxRecDepth 100000
set_option maxHeartbeats 4000000
/-! Pv15: reckoning with the combinators. -/
namespace Pv
open PySem PySem.Spec PyProof.Rows L2

theorem at_0 {α : Type} {x : α} {xs : List α} : atI (x :: xs) 0 = some x := by simp [atI, ixN]
theorem at_1 {α : Type} {x y : α} {xs : List α} : atI (x :: y :: xs) 1 = some y := by
  have h : (1 : Int) < (xs.length : Int) + 1 + 1 := by omega
  simp [atI, ixN, h]
theorem at_nat {α : Type} {xs : List α} {k : Nat} (h : k < xs.length) : atI xs (k : Int) = some xs[k] := by
  have h1 : (0 : Int) ≤ (k : Int) := by omega
  have h2 : (k : Int) < (xs.length : Int) := by omega
  simp [atI, ixN, h1, h2, h]
@[simp] theorem le_lim {n : Nat} (h : n ≤ 100000) : n ≤ lim := Nat.le_trans h (by decide)
@[simp] theorem lt_lim {n : Nat} (h : n < 100000) : n < lim := Nat.lt_of_lt_of_le h (by decide)
theorem seqS_nx {f g : En → SR} {env e : En} (h : f env = .nx e) : seqS f g env = g e := by
  unfold seqS; rw [h]
theorem seqS_ret {f g : En → SR} {env e : En} {p : D × Nat} (h : f env = .ret p e) : seqS f g env = .ret p e := by
  unfold seqS; rw [h]
theorem seqS_ex {f g : En → SR} {env : En} {x : Xn} (h : f env = .ex x) : seqS f g env = .ex x := by
  unfold seqS; rw [h]
theorem fnF_ret {n : Nat} {g : En → SR} {ds : List D} {p : D × Nat} {e : En} (h : g (en0 n none ds) = .ret p e) : fnF n false g none ds = .ok p none := by
  unfold fnF; rw [h]; rfl
theorem fnF_nx {n : Nat} {g : En → SR} {ds : List D} {e : En} (h : g (en0 n none ds) = .nx e) : fnF n false g none ds = .ok (.non, 0) none := by
  unfold fnF; rw [h]; rfl
theorem fnF_ex {n : Nat} {g : En → SR} {ds : List D} {x : Xn} (h : g (en0 n none ds) = .ex x) : fnF n false g none ds = .ex x := by
  unfold fnF; rw [h]
theorem iteS_t {c : En → R Bool} {f g : En → SR} {env e : En} (h : c env = .ok true e) : iteS c f g env = f e := by
  unfold iteS; rw [h]; rfl
theorem iteS_f {c : En → R Bool} {f g : En → SR} {env e : En} (h : c env = .ok false e) : iteS c f g env = g e := by
  unfold iteS; rw [h]; rfl
/-- a comprehension's turns: what each item gives -/
theorem compL_map {g : D → En → Option En} {tt : En → R Bool} {te : En → R (D × Nat)} {m : Nat} {vs : List Nat} (I : En → Prop) (f : D → D) : ∀ (ds : List D) (env : En) (acc : List D), I env → acc.length + ds.length ≤ lim →
    (∀ d ∈ ds, ∀ env, I env → ∃ e1 e2 e3, g d env = some e1 ∧ tt e1 = .ok true e2 ∧ te e2 = .ok (f d, m) e3 ∧ I (wipeE e3 vs)) → ∃ e, compL g tt te m vs ds env acc = .ok (acc ++ ds.map f) e ∧ I e
  | [], env, acc, hI, _, _ => ⟨env, by simp [compL], hI⟩
  | d :: ds, env, acc, hI, hl, h => by
    obtain ⟨e1, e2, e3, h1, h2, h3, h4⟩ := h d List.mem_cons_self env hI
    have hl' : acc.length < lim := by simp only [List.length_cons] at hl; omega
    obtain ⟨e, q1, q2⟩ := compL_map I f ds (wipeE e3 vs) (acc ++ [f d]) h4 (by simp only [List.length_append, List.length_cons, List.length_nil] at hl ⊢; omega) fun d' hd => h d' (List.mem_cons_of_mem _ hd)
    refine ⟨e, ?_, q2⟩
    unfold compL
    rw [h1]
    simp only [h2, h3, R.noX_ok, R.bind_ok, if_true, hl', and_self, q1, List.append_assoc, List.singleton_append, List.map_cons]
theorem comp_fix {fi : En → R (List D)} {g : D → En → Option En} {tt : En → R Bool} {te : En → R (D × Nat)} {m : Nat} {vs : List Nat} (f : D → D) {env env1 env0 env2 : En} {ds : List D} (hfi : fi env = .ok ds env1) (h0 : wipeE env1 vs = env0) (hb : backE env1 env0 vs = env2) (hl : ds.length ≤ lim)
    (h : ∀ d ∈ ds, ∃ e1 e2 e3, g d env0 = some e1 ∧ tt e1 = .ok true e2 ∧ te e2 = .ok (f d, m) e3 ∧ wipeE e3 vs = env0) : comp fi g tt te m vs env = .ok (.lst (ds.map f), m + 1) env2 := by
  obtain ⟨e, q1, q2⟩ := compL_map (g := g) (tt := tt) (te := te) (m := m) (vs := vs) (fun e => e = env0) f ds (wipeE env1 vs) [] h0 (by simpa using hl) (fun d hd e he => by subst he; exact h d hd)
  subst q2
  unfold comp
  rw [hfi]
  simp only [R.bind_ok, q1, List.nil_append, hb]
/-- with a test that each item answers -/
theorem compL_filter {g : D → En → Option En} {tt : En → R Bool} {te : En → R (D × Nat)} {m : Nat} {vs : List Nat} (env0 : En) (q : D → Bool) (f : D → D) : ∀ (ds : List D) (acc : List D), acc.length + ds.length ≤ lim →
    (∀ d ∈ ds, ∃ e1 e2, g d env0 = some e1 ∧ tt e1 = .ok (q d) e2 ∧ (q d = false → wipeE e2 vs = env0) ∧ (q d = true → ∃ e3, te e2 = .ok (f d, m) e3 ∧ wipeE e3 vs = env0)) → compL g tt te m vs ds env0 acc = .ok (acc ++ (ds.filter q).map f) env0
  | [], acc, _, _ => by simp [compL]
  | d :: ds, acc, hl, h => by
    obtain ⟨e1, e2, h1, h2, h3, h4⟩ := h d List.mem_cons_self
    have hl' : acc.length < lim := by simp only [List.length_cons] at hl; omega
    unfold compL
    rw [h1]
    simp only [h2, R.noX_ok, R.bind_ok]
    cases hq : q d with
    | false =>
      have ih := compL_filter env0 q f ds acc (by simp only [List.length_cons] at hl; omega) fun d' hd => h d' (List.mem_cons_of_mem _ hd)
      simp only [Bool.false_eq_true, if_false, h3 hq, ih, List.filter_cons, hq]
    | true =>
      obtain ⟨e3, h5, h6⟩ := h4 hq
      have ih := compL_filter env0 q f ds (acc ++ [f d]) (by simp only [List.length_append, List.length_cons, List.length_nil] at hl ⊢; omega) fun d' hd => h d' (List.mem_cons_of_mem _ hd)
      simp only [if_true, h5, R.noX_ok, R.bind_ok, hl', and_self, h6, ih, List.filter_cons, hq, List.map_cons, List.append_assoc, List.singleton_append]
theorem comp_filter {fi : En → R (List D)} {g : D → En → Option En} {tt : En → R Bool} {te : En → R (D × Nat)} {m : Nat} {vs : List Nat} (q : D → Bool) (f : D → D) {env env1 env0 env2 : En} {ds : List D} (hfi : fi env = .ok ds env1) (h0 : wipeE env1 vs = env0) (hb : backE env1 env0 vs = env2) (hl : ds.length ≤ lim)
    (h : ∀ d ∈ ds, ∃ e1 e2, g d env0 = some e1 ∧ tt e1 = .ok (q d) e2 ∧ (q d = false → wipeE e2 vs = env0) ∧ (q d = true → ∃ e3, te e2 = .ok (f d, m) e3 ∧ wipeE e3 vs = env0)) : comp fi g tt te m vs env = .ok (.lst ((ds.filter q).map f), m + 1) env2 := by
  have h1 := compL_filter (g := g) (tt := tt) (te := te) (m := m) (vs := vs) env0 q f ds [] (by simpa using hl) h
  subst h0
  unfold comp
  rw [hfi]
  simp only [R.bind_ok, h1, List.nil_append, hb]
/-- a loop that keeps what P tells -/
theorem loopS_inv {g : D → En → Option En} {body : En → SR} (P : En → Prop) : ∀ (ds : List D) (env : En), P env → (∀ d ∈ ds, ∀ env, P env → ∃ e1 e2, g d env = some e1 ∧ body e1 = .nx e2 ∧ P e2) → ∃ e, loopS g body ds env = .nx e ∧ P e
  | [], env, hP, _ => ⟨env, rfl, hP⟩
  | d :: ds, env, hP, h => by
    obtain ⟨e1, e2, h1, h2, h3⟩ := h d List.mem_cons_self env hP
    obtain ⟨e, q1, q2⟩ := loopS_inv P ds e2 h3 fun d' hd => h d' (List.mem_cons_of_mem _ hd)
    refine ⟨e, ?_, q2⟩
    unfold loopS
    rw [h1]
    simp only [h2]
    exact q1
theorem rgD_ok {l n : Nat} (hl : l ≤ 16000000) (hn : n ≤ 16000000) : rgD l n = some ((List.range (n - l)).map fun k : Nat => .int (l + k : Nat)) := by
  have h1 : (n : Int) < 4611686018427387904 := by omega
  have h2 : -4611686018427387904 ≤ (n : Int) := by omega
  have h3 : (l : Int) < 4611686018427387904 := by omega
  have h4 : -4611686018427387904 ≤ (l : Int) := by omega
  have e : ((n : Int) - (l : Int)).toNat = n - l := by omega
  unfold rgD
  have hb : rgB l n = true := by
    unfold rgB
    rw [Bool.and_eq_true]
    exact ⟨Nat.ble_eq_true_of_le (by omega), Nat.ble_eq_true_of_le (by omega)⟩
  rw [if_pos hb, e]
  simp
theorem rg2D_ok {l n : Nat} (hl : l ≤ 16000000) (hn : n ≤ 16000000) : rg2D [.int l, .int n] = some ((List.range (n - l)).map fun k : Nat => .int (l + k : Nat)) := by
  unfold rg2D
  exact rgD_ok hl hn
theorem rg1D_ok {n : Nat} (hn : n ≤ 16000000) : rg1D [.int n] = some ((List.range n).map fun k : Nat => .int k) := by
  have h := rgD_ok (l := 0) (Nat.zero_le _) hn
  simp only [Nat.zero_add, Nat.sub_zero] at h
  exact h
theorem rg1_ok {f : En → R (List D)} {env env1 : En} {n : Nat} (h : f env = .ok [.int n] env1) (hn : n ≤ 16000000) : rg1 f env = .ok ((List.range n).map fun k : Nat => .int k) env1 := by
  unfold rg1
  rw [h, R.bind_ok, rg1D_ok hn, R.of_some]
theorem rg2_ok {f : En → R (List D)} {env env1 : En} {l n : Nat} (h : f env = .ok [.int l, .int n] env1) (hl : l ≤ 16000000) (hn : n ≤ 16000000) : rg2 f env = .ok ((List.range (n - l)).map fun k : Nat => .int (l + k : Nat)) env1 := by
  unfold rg2
  rw [h, R.bind_ok, rg2D_ok hl hn, R.of_some]
/-- a for loop's turns -/
theorem loopS_map {α β : Type} {g : D → En → Option En} {body : En → SR} (f : β → D) (T : α → β → α) (J : α → En) (P : α → Prop) : ∀ (bs : List β) (a : α), P a →
    (∀ b ∈ bs, ∀ a, P a → ∃ e1, g (f b) (J a) = some e1 ∧ body e1 = .nx (J (T a b)) ∧ P (T a b)) → loopS g body (bs.map f) (J a) = .nx (J (bs.foldl T a)) ∧ P (bs.foldl T a)
  | [], a, hP, _ => ⟨rfl, hP⟩
  | b :: bs, a, hP, h => by
    obtain ⟨e1, h1, h2, h3⟩ := h b List.mem_cons_self a hP
    have ih := loopS_map (g := g) (body := body) f T J P bs (T a b) h3 fun b' hb => h b' (List.mem_cons_of_mem _ hb)
    rw [List.map_cons, List.foldl_cons]
    refine ⟨?_, ih.2⟩
    unfold loopS
    rw [h1]
    simp only [h2]
    exact ih.1
/-- a for loop, turn by turn -/
theorem loopS_idx {β : Type} {g : D → En → Option En} {body : En → SR} (f : β → D) : ∀ (bs : List β) (J : Nat → En),
    (∀ i (h : i < bs.length), ∃ e1, g (f bs[i]) (J i) = some e1 ∧ body e1 = .nx (J (i + 1))) → loopS g body (bs.map f) (J 0) = .nx (J bs.length)
  | [], J, _ => rfl
  | b :: bs, J, h => by
    obtain ⟨e1, h1, h2⟩ := h 0 (by simp)
    have ih := loopS_idx (g := g) (body := body) f bs (fun i => J (i + 1)) fun i hi => by
      obtain ⟨e2, q1, q2⟩ := h (i + 1) (by simpa using hi)
      exact ⟨e2, by simpa using q1, q2⟩
    rw [List.map_cons]
    unfold loopS
    rw [show g (f b) (J 0) = some e1 from h1]
    simp only [h2]
    exact ih
theorem loopS_ex {β : Type} {g : D → En → Option En} {body : En → SR} (f : β → D) : ∀ (bs : List β) (P : Nat → En → Prop) (env : En), P 0 env →
    (∀ i (h : i < bs.length) env, P i env → ∃ e1 e2, g (f bs[i]) env = some e1 ∧ body e1 = .nx e2 ∧ P (i + 1) e2) → ∃ e, loopS g body (bs.map f) env = .nx e ∧ P bs.length e
  | [], P, env, h0, _ => ⟨env, rfl, h0⟩
  | b :: bs, P, env, h0, h => by
    obtain ⟨e1, e2, h1, h2, h3⟩ := h 0 (by simp) env h0
    obtain ⟨e, q1, q2⟩ := loopS_ex (g := g) (body := body) f bs (fun i => P (i + 1)) e2 h3 fun i hi env hP => by
      obtain ⟨a, b, r1, r2, r3⟩ := h (i + 1) (by simpa using hi) env hP
      exact ⟨a, b, by simpa using r1, r2, r3⟩
    refine ⟨e, ?_, q2⟩
    rw [List.map_cons]
    unfold loopS
    rw [show g (f b) env = some e1 from h1]
    simp only [h2]
    exact q1
theorem loopS_range {g : D → En → Option En} {body : En → SR} (f : Nat → D) (n : Nat) (J : Nat → En)
    (h : ∀ i, i < n → ∃ e1, g (f i) (J i) = some e1 ∧ body e1 = .nx (J (i + 1))) : loopS g body ((List.range n).map f) (J 0) = .nx (J n) := by
  have := loopS_idx (g := g) (body := body) f (List.range n) J fun i hi => by
    simp only [List.length_range] at hi
    simpa using h i hi
  simpa using this
theorem forS_ok {fi : En → R (List D)} {g : D → En → Option En} {body : En → SR} {env env1 : En} {ds : List D} (h : fi env = .ok ds env1) : forS fi g body env = loopS g body ds env1 := by
  unfold forS
  rw [h]
  rfl
@[simp] theorem eqB_int (i j : Int) : eqB (.int i) (.int j) = some (decide (i = j)) := by
  simp [eqB, D.py, SeqAt.shaped, PyData.eqv, PyData.canLay0, PyData.depth]
  first | rfl | (cases i <;> cases j <;> rfl)
@[simp] theorem eqB_bl (i j : Bool) : eqB (.bl i) (.bl j) = some (decide (i = j)) := by
  simp [eqB, D.py, SeqAt.shaped, PyData.eqv, PyData.canLay0, PyData.depth]
  first | rfl | (cases i <;> cases j <;> rfl)
theorem eqB_str {i j : Str} (h : PyData.strOk i = true) (h' : PyData.strOk j = true) : eqB (.str i) (.str j) = some (decide (i = j)) := by
  simp [eqB, D.py, SeqAt.shaped, PyData.eqv, PyData.canLay0, PyData.depth, h, h']
  by_cases e : i = j
  · simp [e]
  · simp [e]
@[simp] theorem eqD_int (i j : Int) : eqD (.int i) (.int j) = some (.bl (decide (i = j)), 0) := by simp [eqD]
@[simp] theorem eqD_bl (i j : Bool) : eqD (.bl i) (.bl j) = some (.bl (decide (i = j)), 0) := by simp [eqD]
theorem eqD_str {i j : Str} (h : PyData.strOk i = true) (h' : PyData.strOk j = true) : eqD (.str i) (.str j) = some (.bl (decide (i = j)), 0) := by simp [eqD, eqB_str h h']
@[simp] theorem neD_int (i j : Int) : neD (.int i) (.int j) = some (.bl (!decide (i = j)), 0) := by simp [neD]
theorem neD_str {i j : Str} (h : PyData.strOk i = true) (h' : PyData.strOk j = true) : neD (.str i) (.str j) = some (.bl (!decide (i = j)), 0) := by simp [neD, eqB_str h h']
/-- sorting goes through a map -/
theorem mrg_map {α β : Type} {le : α → α → Bool} {le' : β → β → Bool} {f : β → α} (h : ∀ a b, le (f a) (f b) = le' a b) : ∀ (k : Nat) (xs ys : List β), mrg le k (xs.map f) (ys.map f) = (mrg le' k xs ys).map f
  | 0, xs, ys => by simp [mrg]
  | k + 1, [], ys => by simp [mrg]
  | k + 1, x :: xs, [] => by simp [mrg]
  | k + 1, x :: xs, y :: ys => by
    show (if le (f x) (f y) then f x :: mrg le k (xs.map f) ((y :: ys).map f) else f y :: mrg le k ((x :: xs).map f) (ys.map f)) = (if le' x y then x :: mrg le' k xs (y :: ys) else y :: mrg le' k (x :: xs) ys).map f
    rw [h, mrg_map h k xs (y :: ys), mrg_map h k (x :: xs) ys]
    split <;> rfl
theorem msr_map {α β : Type} {le : α → α → Bool} {le' : β → β → Bool} {f : β → α} (h : ∀ a b, le (f a) (f b) = le' a b) : ∀ (k : Nat) (xs : List β), msr le k (xs.map f) = (msr le' k xs).map f
  | 0, xs => by simp [msr]
  | k + 1, [] => by simp [msr]
  | k + 1, [a] => by simp [msr]
  | k + 1, a :: b :: r => by
    show mrg le (((a :: b :: r).map f).length) (msr le k (((a :: b :: r).map f).take ((((a :: b :: r).map f).length + 1) / 2))) (msr le k (((a :: b :: r).map f).drop ((((a :: b :: r).map f).length + 1) / 2))) = (mrg le' ((a :: b :: r).length) (msr le' k ((a :: b :: r).take (((a :: b :: r).length + 1) / 2))) (msr le' k ((a :: b :: r).drop (((a :: b :: r).length + 1) / 2)))).map f
    rw [List.length_map, ← List.map_take, ← List.map_drop, msr_map h k, msr_map h k, mrg_map h]
theorem msr_perm {α : Type} (le : α → α → Bool) (xs : List α) : (msr le xs.length xs).Perm xs := by
  rw [msr_eq le _ _ (Nat.le_succ _)]
  exact List.mergeSort_perm _ _
end Pv
end

section
set_option Elab.async false
set_option linter.all false
set_option maxRecDepth 100000
set_option maxHeartbeats 4000000
/-! Pv16: how each law draws its numbers. -/
namespace Pv
open PySem PySem.Spec PyProof.Rows L2

def stB : En → SR := (seqS
  (setS 1 ((op2 addD (oOfV ((vOfE (op2 mulD (nmO 1) (oOfV (kI 1000003)))))) (oOfV ((vOfE (op1 absD (nmO 3)))))))) (setS 2 ((op2 modD (oOfV ((vOfE (op1 intD (oOfV ((vOfE (op2 addD (oOfV ((vOfE (op2 mulD (nmO 2) (oOfV (kI 48271)))))) (nmO 3))))))))) (oOfV (kI 2147483647))))))
def lawState : Sl → List D → FR := fnF 4 false (seqS (setS 1 ((eOfV (kI 0)))) (seqS (setS 2 ((eOfV (kI 1)))) (seqS (forS (seqI' ((vOfE (opS (nmO 0) pNone (pSome (kI 63)))))) (nameG 3) stB) (retS ((lstE (aCons ((nmV 1)) (aCons ((nmV 2)) aNil))))))))
def lawTake : Sl → List D → FR := fnF 3 true (seqS
  (iteS (tst (op2 (cmpD fun i j => decide (j < i)) (oOfV ((vOfE (op2 idxD (nmO 0) (oOfV (kI 0)))))) (oOfV (kI 0)))) (seqS
  (setS 2 ((op2 modD (oOfV ((vOfE (op1 intD (oOfV ((vOfE (op2 idxD (nmO 0) (oOfV (kI 0)))))))))) (nmO 1)))) (seqS
  (sItS 0 ((vOfE (op2 fdivD (oOfV ((vOfE (op2 idxD (nmO 0) (oOfV (kI 0)))))) (nmO 1)))) (kI 0)) (retM 2))) passS) (seqS
  (sItS 0 ((vOfE (op2 modD (oOfV ((vOfE (op1 intD (oOfV ((vOfE (op2 addD (oOfV ((vOfE (op2 mulD (oOfV ((vOfE (op2 idxD (nmO 0) (oOfV (kI 1)))))) (oOfV (kI 48271)))))) (oOfV (kI 11)))))))))) (oOfV (kI 2147483647))))) (kI 1)) (retS ((op2 modD (oOfV ((vOfE (op1 intD (oOfV ((vOfE (op2 fdivD (oOfV ((vOfE (op2 idxD (nmO 0) (oOfV (kI 1)))))) (oOfV (kI 7)))))))))) (nmO 1))))))
theorem sml1 : sml 1000003 = true := by decide
theorem sml2 : sml 48271 = true := by decide
theorem mul1 (a : Int) : mulD (.int a) (.int 1000003) = some (.int (a * 1000003), 0) := by simp [mulD, mulOk, sml1]
theorem mul2 (a : Int) : mulD (.int a) (.int 48271) = some (.int (a * 48271), 0) := by simp [mulD, mulOk, sml2]
theorem state_step (s z : Sl) (a b c : Int) : stB [s, some (.int a, 0), some (.int b, 0), some (.int c, 0)] = .nx [s, some (.int (a * 1000003 + if c < 0 then -c else c), 0), some (.int ((b * 48271 + c).fmod 2147483647), 0), some (.int c, 0)] := by
  unfold stB
  refine (seqS_nx (show setS 1 _ _ = .nx [s, some (.int (a * 1000003 + if c < 0 then -c else c), 0), some (.int b, 0), some (.int c, 0)] by simp [-List.map_map, fnF, en0, seqS, passS, noS, exprS, retS, retN, retM, putE, setS, iteS, vOfE, eOfV, oOfV, kI, kB, kS, kN, nmV, nmO, op1, op2, opC, tst, tru, truD, notT, andT, orT, blV, vbl, andV, orV, notV, iteE, aNil, aCons, lNil, lCons, tupE, lstE, dicE, Opd.get, callF, frR, callI, callL, own1, addD, subD, negD, cmpD, lenD, intD, tupD, lisD, absD, isiD, tyD, min2D, max2D, Pv.R.of, raiseS, asgS, nameG, nilG, consG, tupG, isD, nisD, isNB, opS, pNone, pSome, seqI', itsD, sItS, putD, wipeE, backE, mul1])).trans ?_
  simp [-List.map_map, fnF, en0, seqS, passS, noS, exprS, retS, retN, retM, putE, setS, iteS, vOfE, eOfV, oOfV, kI, kB, kS, kN, nmV, nmO, op1, op2, opC, tst, tru, truD, notT, andT, orT, blV, vbl, andV, orV, notV, iteE, aNil, aCons, lNil, lCons, tupE, lstE, dicE, Opd.get, callF, frR, callI, callL, own1, addD, subD, negD, cmpD, lenD, intD, tupD, lisD, absD, isiD, tyD, min2D, max2D, Pv.R.of, raiseS, asgS, nameG, nilG, consG, tupG, isD, nisD, isNB, opS, pNone, pSome, seqI', itsD, sItS, putD, wipeE, backE, mul2, modD]
theorem lawState_ok (ns : List Int) : ∃ a b : Int, lawState none [.scr ns] = .ok (.lst [.int a, .int b], 1) none := by
  have hl := loopS_map (g := nameG 3) (body := stB) D.int (fun (q : (Int × Int) × Sl) (c : Int) => ((q.1.1 * 1000003 + (if c < 0 then -c else c), (q.1.2 * 48271 + c).fmod 2147483647), some (.int c, 0)))
    (fun q => [some (.scr ns, 0), some (.int q.1.1, 0), some (.int q.1.2, 0), q.2]) (fun _ => True) (cutD ns none (some 63)) ((0, 1), none) trivial (fun c _ q _ => ⟨[some (.scr ns, 0), some (.int q.1.1, 0), some (.int q.1.2, 0), some (.int c, 0)], by simp [-List.map_map, fnF, en0, seqS, passS, noS, exprS, retS, retN, retM, putE, setS, iteS, vOfE, eOfV, oOfV, kI, kB, kS, kN, nmV, nmO, op1, op2, opC, tst, tru, truD, notT, andT, orT, blV, vbl, andV, orV, notV, iteE, aNil, aCons, lNil, lCons, tupE, lstE, dicE, Opd.get, callF, frR, callI, callL, own1, addD, subD, negD, cmpD, lenD, intD, tupD, lisD, absD, isiD, tyD, min2D, max2D, Pv.R.of, raiseS, asgS, nameG, nilG, consG, tupG, isD, nisD, isNB, opS, pNone, pSome, seqI', itsD, sItS, putD, wipeE, backE], state_step _ none _ _ _, trivial⟩)
  have hf : forS (seqI' ((vOfE (opS (nmO 0) pNone (pSome (kI 63)))))) (nameG 3) stB [some (.scr ns, 0), some (.int 0, 0), some (.int 1, 0), none] = loopS (nameG 3) stB ((cutD ns none (some 63)).map D.int) [some (.scr ns, 0), some (.int 0, 0), some (.int 1, 0), none] := forS_ok (by simp [-List.map_map, fnF, en0, seqS, passS, noS, exprS, retS, retN, retM, putE, setS, iteS, vOfE, eOfV, oOfV, kI, kB, kS, kN, nmV, nmO, op1, op2, opC, tst, tru, truD, notT, andT, orT, blV, vbl, andV, orV, notV, iteE, aNil, aCons, lNil, lCons, tupE, lstE, dicE, Opd.get, callF, frR, callI, callL, own1, addD, subD, negD, cmpD, lenD, intD, tupD, lisD, absD, isiD, tyD, min2D, max2D, Pv.R.of, raiseS, asgS, nameG, nilG, consG, tupG, isD, nisD, isNB, opS, pNone, pSome, seqI', itsD, sItS, putD, wipeE, backE, slD])
  have h2 := hf.trans hl.1
  generalize hq : List.foldl (fun (q : (Int × Int) × Sl) (c : Int) => ((q.1.1 * 1000003 + (if c < 0 then -c else c), (q.1.2 * 48271 + c).fmod 2147483647), some (D.int c, 0))) ((0, 1), none) (cutD ns none (some 63)) = q at h2
  refine ⟨q.1.1, q.1.2, fnF_ret (e := [some (.scr ns, 0), some (.int q.1.1, 0), some (.int q.1.2, 0), q.2]) ((seqS_nx (show setS 1 _ (en0 4 none [.scr ns]) = .nx [some (.scr ns, 0), some (.int 0, 0), none, none] by simp [-List.map_map, fnF, en0, seqS, passS, noS, exprS, retS, retN, retM, putE, setS, iteS, vOfE, eOfV, oOfV, kI, kB, kS, kN, nmV, nmO, op1, op2, opC, tst, tru, truD, notT, andT, orT, blV, vbl, andV, orV, notV, iteE, aNil, aCons, lNil, lCons, tupE, lstE, dicE, Opd.get, callF, frR, callI, callL, own1, addD, subD, negD, cmpD, lenD, intD, tupD, lisD, absD, isiD, tyD, min2D, max2D, Pv.R.of, raiseS, asgS, nameG, nilG, consG, tupG, isD, nisD, isNB, opS, pNone, pSome, seqI', itsD, sItS, putD, wipeE, backE])).trans ((seqS_nx (show setS 2 _ _ = .nx [some (.scr ns, 0), some (.int 0, 0), some (.int 1, 0), none] by simp [-List.map_map, fnF, en0, seqS, passS, noS, exprS, retS, retN, retM, putE, setS, iteS, vOfE, eOfV, oOfV, kI, kB, kS, kN, nmV, nmO, op1, op2, opC, tst, tru, truD, notT, andT, orT, blV, vbl, andV, orV, notV, iteE, aNil, aCons, lNil, lCons, tupE, lstE, dicE, Opd.get, callF, frR, callI, callL, own1, addD, subD, negD, cmpD, lenD, intD, tupD, lisD, absD, isiD, tyD, min2D, max2D, Pv.R.of, raiseS, asgS, nameG, nilG, consG, tupG, isD, nisD, isNB, opS, pNone, pSome, seqI', itsD, sItS, putD, wipeE, backE])).trans ((seqS_nx h2).trans (by simp [-List.map_map, fnF, en0, seqS, passS, noS, exprS, retS, retN, retM, putE, setS, iteS, vOfE, eOfV, oOfV, kI, kB, kS, kN, nmV, nmO, op1, op2, opC, tst, tru, truD, notT, andT, orT, blV, vbl, andV, orV, notV, iteE, aNil, aCons, lNil, lCons, tupE, lstE, dicE, Opd.get, callF, frR, callI, callL, own1, addD, subD, negD, cmpD, lenD, intD, tupD, lisD, absD, isiD, tyD, min2D, max2D, Pv.R.of, raiseS, asgS, nameG, nilG, consG, tupG, isD, nisD, isNB, opS, pNone, pSome, seqI', itsD, sItS, putD, wipeE, backE]))))⟩
theorem log7 : Nat.log2 7 < 9000 := by decide
theorem lawTake_ok (a b : Int) (m : Int) (hm : 0 < m) (hl : m.natAbs.log2 < 9000) : ∃ v a' b' : Int, lawTake (some (.lst [.int a, .int b], 1)) [.int m] = .ok (.int v, 0) (some (.lst [.int a', .int b'], 1)) ∧ 0 ≤ v ∧ v < m := by
  have hm0 : m ≠ 0 := by omega
  by_cases h : 0 < a
  · refine ⟨a.fmod m, a.fdiv m, b, ?_, Int.fmod_nonneg_of_pos _ hm, Int.fmod_lt_of_pos _ hm⟩
    unfold lawTake
    simp [-List.map_map, fnF, en0, seqS, passS, noS, exprS, retS, retN, retM, putE, setS, iteS, vOfE, eOfV, oOfV, kI, kB, kS, kN, nmV, nmO, op1, op2, opC, tst, tru, truD, notT, andT, orT, blV, vbl, andV, orV, notV, iteE, aNil, aCons, lNil, lCons, tupE, lstE, dicE, Opd.get, callF, frR, callI, callL, own1, addD, subD, negD, cmpD, lenD, intD, tupD, lisD, absD, isiD, tyD, min2D, max2D, Pv.R.of, raiseS, asgS, nameG, nilG, consG, tupG, isD, nisD, isNB, opS, pNone, pSome, seqI', itsD, sItS, putD, wipeE, backE, at_0, at_1, idxD, h, modD, fdivD, hm0, hl, ixN]
  · refine ⟨(((b * 48271 + 11).fmod 2147483647).fdiv 7).fmod m, a, (b * 48271 + 11).fmod 2147483647, ?_, Int.fmod_nonneg_of_pos _ hm, Int.fmod_lt_of_pos _ hm⟩
    unfold lawTake
    simp [-List.map_map, fnF, en0, seqS, passS, noS, exprS, retS, retN, retM, putE, setS, iteS, vOfE, eOfV, oOfV, kI, kB, kS, kN, nmV, nmO, op1, op2, opC, tst, tru, truD, notT, andT, orT, blV, vbl, andV, orV, notV, iteE, aNil, aCons, lNil, lCons, tupE, lstE, dicE, Opd.get, callF, frR, callI, callL, own1, addD, subD, negD, cmpD, lenD, intD, tupD, lisD, absD, isiD, tyD, min2D, max2D, Pv.R.of, raiseS, asgS, nameG, nilG, consG, tupG, isD, nisD, isNB, opS, pNone, pSome, seqI', itsD, sItS, putD, wipeE, backE, at_0, at_1, idxD, h, modD, fdivD, hm0, hl, mul2, ixN, log7]
end Pv
end

section
set_option Elab.async false
set_option linter.all false
set_option maxRecDepth 100000
set_option maxHeartbeats 4000000
/-! Pv17: lists of lists: x[i][j] read and written. -/
namespace Pv
open PySem PySem.Spec PyProof.Rows L2
section
variable {Γ : Ct} {x : Str} {p pos apos cpos sp : Pos} {e a b : Expr} {es : List Expr}
def kOp (g : Int → Int → Int) (fa fb : En → Option D) : En → Option D := fun env => match fa env, fb env with
  | some (.int i), some (.int j) => some (.int (g i j))
  | _, _ => none
theorem ek_op {op : Operator} {g : Int → Int → Int} {fa fb : En → Option D} (ho : OpR Γ.X (binaryOp op) (rI0 fun i j => .int (g i j))) (ha : EvK Γ a fa) (hb : EvK Γ b fb) : EvK Γ (.BinOp a op b pos) (kOp g fa fb) := by
  obtain ⟨ta, a1, a2⟩ := ha
  obtain ⟨tb, b1, b2⟩ := hb
  refine ⟨_, pe_op ho a1 b1, fun σ H Z env φ S d hd Q q => ?_⟩
  unfold kOp at hd
  split at hd
  · rename_i i j e1 e2
    cases hd
    refine a2 σ H Z env φ S _ e1 _ fun v hv => ?_
    cases hv
    refine b2 σ H Z env φ S _ e2 _ fun w hw => ?_
    cases hw
    exact ⟨i, j, rfl, rfl, q _ (.int _)⟩
  · cases hd
theorem ek_add {fa fb : En → Option D} (ha : EvK Γ a fa) (hb : EvK Γ b fb) : EvK Γ (.BinOp a .Add b pos) (kOp (· + ·) fa fb) := ek_op op_add ha hb
theorem ek_sub {fa fb : En → Option D} (ha : EvK Γ a fa) (hb : EvK Γ b fb) : EvK Γ (.BinOp a .Sub b pos) (kOp (· - ·) fa fb) := ek_op op_sub ha hb
/-- x[i][j] of a list of lists: nothing is shared by the reading -/
def get2 (dss : List D) (i j : Int) : Option D := (ixN dss.length i).bind fun m => match dss[m]? with
  | some (.lst ds) => atI ds j
  | _ => none
def ix2 (i : Nat) (fi fj : En → Option D) : En → R D := fun env => match env[i]?, fi env, fj env with
  | some (some (.lst dss, 2)), some (.int a), some (.int b) => R.of (get2 dss a b) env
  | _, _, _ => .no
theorem ev_ix2 {i : Nat} {fi fj : En → Option D} {ie je : Expr} {sp2 : Pos} (hN : Γ.X.N[i]? = some x) (hv : Vis Γ.X.env.scope x) (hi : EvK Γ ie fi) (hj : EvK Γ je fj) (hd : (x == ("__debug__" : Str)) = false := by decide) (hcd : (x == ("__classdict__" : Str)) = false := by decide) (hpi : PlainIx ie := by exact fun _ _ => rfl) (hpj : PlainIx je := by exact fun _ _ => rfl) :
    EvV Γ (.Subscript (.Subscript (.Name x p) ie sp) je sp2) (ix2 i fi fj) := by
  obtain ⟨ti, i1, i2⟩ := hi
  obtain ⟨tj, j1, j2⟩ := hj
  refine ⟨_, pe_ix ix_list (pe_ix ix_list (pe_var hN hv hd hcd) i1 hpi) j1 hpj, fun σ H Z env φ S Q P => ?_⟩
  unfold ix2 at P
  split at P
  · rename_i dss a b hd1 hi1 hj1
    cases eg : get2 dss a b with
    | none => rw [eg] at P; exact P.elim
    | some d =>
      rw [eg] at P
      unfold get2 at eg
      obtain ⟨m, hm, eg⟩ := Option.bind_eq_some_iff.mp eg
      split at eg
      · rename_i ds hds
        obtain ⟨v, hv1, o⟩ := S.slot i _ _ hd1
        rcases o with ⟨mm, _⟩ | ⟨A, xs, ds', B, rfl, e0, hA, hl, hc, hdj, hna, hoff, hφ⟩ | ⟨_, _, _, _, _, e, _⟩
        · cases mm
        · cases e0
          have hmx : m < xs.length := by rw [hl]; exact (List.getElem?_eq_some_iff.mp hds).1
          have hcm := hc m xs[m] (.lst ds) (List.getElem?_eq_getElem hmx) hds
          obtain ⟨q, us, eq, hq, r, hB⟩ := hcm.lst_inv
          refine ⟨.ref A, hv1, i2 σ H Z env φ S _ hi1 _ fun w hw => ?_⟩
          cases hw with
          | int _ =>
            refine ⟨A, xs, a, xs[m], rfl, rfl, SqL.of hA, ?_, ?_⟩
            · unfold atI
              rw [hl, hm]
              exact List.getElem?_eq_getElem hmx
            rw [eq]
            refine j2 σ H Z env φ S _ hj1 _ fun w hw => ?_
            cases hw with
            | int _ =>
              obtain ⟨y, hy1, hy2⟩ := atI_sh r eg
              exact ⟨q, us, b, y, rfl, rfl, SqL.of hq, hy1, Post.here P S hy2⟩
        · cases e
      · cases eg
  · exact P.elim
/-- x[i][j] = e -/
def sIt2 (i : Nat) (fe : En → R D) (fi fj : En → Option D) : En → SR := fun env => (fe env).then fun d env1 => match env1[i]?, fi env1, fj env1 with
  | some (some (.lst dss, 2)), some (.int a), some (.int b) => (match ixN dss.length a with
    | some m => (match dss[m]? with
      | some (.lst ds) => (match ixN ds.length b with
        | some l => .nx (env1.set i (some (.lst (dss.set m (.lst (ds.set l d))), 2)))
        | none => .no)
      | _ => .no)
    | none => .no)
  | _, _, _ => .no
theorem es_sub2 {i : Nat} {fe : En → R D} {fi fj : En → Option D} {ie je : Expr} (hN : Γ.X.N[i]? = some x) (hv : Vis Γ.X.env.scope x) (he : EvV Γ e fe) (hi : EvK Γ ie fi) (hj : EvK Γ je fj) (hd : (x == ("__debug__" : Str)) = false := by decide) (hcd : (x == ("__classdict__" : Str)) = false := by decide) (hpi : PlainIx ie := by exact fun _ _ => rfl)
    (ha : ∀ v, assign (.Subscript (.Subscript (.Name x p) ie sp) je apos) Γ.X.env v = (do
      let ov ← holding [v] (eval (.Subscript (.Name x p) ie sp) Γ.X.env)
      let iv ← holding [v, ov] (eval je Γ.X.env)
      standAt apos
      holding [v, ov, iv] (setItem ov iv v)
      release [v, ov, iv] []) := by intro _; rfl)
    (hs : swapsWithSole [.Subscript (.Subscript (.Name x p) ie sp) je apos] e pos.line Γ.X.env = pure false := by rfl) (hw : swappedStores [.Subscript (.Subscript (.Name x p) ie sp) je apos] e Γ.X.env = pure none := by rfl)
    (h1 : (assignEach [.Subscript (.Subscript (.Name x p) ie sp) je apos] Γ.X.env).map (·.2) = [assign (.Subscript (.Subscript (.Name x p) ie sp) je apos) Γ.X.env] := by rfl) :
    EvS Γ (.Assign [.Subscript (.Subscript (.Name x p) ie sp) je apos] e pos) (sIt2 i fe fi fj) := by
  obtain ⟨t, a1, a2⟩ := he
  obtain ⟨ti, i1, i2⟩ := hi
  obtain ⟨tj, j1, j2⟩ := hj
  refine ⟨_, ps_asg a1 (pg_sub (pe_ix ix_list (pe_var hN hv hd hcd) i1 hpi) j1 set_list ha) hs hw h1, fun σ H Z env φ S Dn P => ?_⟩
  refine a2.then S P fun d env1 vv H1 Z1 φ1 A0 e1 S1 q1 dj1 ev1 P1 => ?_
  have P := P1.mono Evo.dropA
  have hy : Sh Γ.C Z1 H1 vv d := q1
  split at P
  · rename_i dss a b hd1 hi1 hj1
    split at P
    · rename_i m hm
      split at P
      · rename_i ds hds
        split at P
        · rename_i l hl0
          obtain ⟨v, hv1, o⟩ := S1.slot i _ _ hd1
          rcases o with ⟨mm, _⟩ | ⟨A, xs, ds', B, rfl, e0, hA, hl, hc, hdj, hna, hoff, hφ⟩ | ⟨_, _, _, _, _, e, _⟩
          · cases mm
          · cases e0
            have hmx : m < xs.length := by rw [hl]; exact (List.getElem?_eq_some_iff.mp hds).1
            have hcm := hc m xs[m] (.lst ds) (List.getElem?_eq_getElem hmx) hds
            obtain ⟨q, us, eq, hq, r, hB⟩ := hcm.lst_inv
            refine ⟨.ref A, hv1, i2 σ H1 Z1 env1 φ1 S1 _ hi1 _ fun w hw => ?_⟩
            cases hw with
            | int _ =>
              refine ⟨A, xs, a, xs[m], rfl, rfl, SqL.of hA, ?_, ?_⟩
              · unfold atI
                rw [hl, hm]
                exact List.getElem?_eq_getElem hmx
              rw [eq]
              refine j2 σ H1 Z1 env1 φ1 S1 _ hj1 _ fun w hw => ?_
              cases hw with
              | int _ =>
                refine ⟨q, us, b, l, rfl, rfl, hq, by rw [r.length]; exact hl0, ?_⟩
                have Bq : B m q := (hB q).mpr rfl
                have φq : φ1 i q := (hφ q).mpr (.inr ⟨m, Bq⟩)
                have nq : q ≠ A := fun z => hna m (by rw [← z]; exact Bq)
                have x : Ext Z1 H1 Z1 (upd H1 q (.lst (us.set l vv))) := Ext.upd hq (S1.nz i q φq) trivial
                have ow : Ow Γ.C Z1 (upd H1 q (.lst (us.set l vv))) 2 (.ref A) (.lst (dss.set m (.lst (ds.set l d)))) (φ1 i) := by
                  refine .inr (.inl ⟨A, xs, _, B, rfl, rfl, by rw [upd_ne (Ne.symm nq)]; exact hA, by rw [List.length_set]; exact hl, fun n u f h1 h2 => ?_, hdj, hna, hoff, hφ⟩)
                  by_cases hlm : n = m
                  · subst hlm
                    rw [List.getElem?_set_self (by rw [← hl]; exact hmx)] at h2
                    cases h2
                    rw [List.getElem?_eq_getElem hmx] at h1
                    cases h1
                    rw [eq]
                    exact (Ow.lst1 upd_same ((ShL.set hy l r).ext x)).congr fun c => (hB c).symm
                  · rw [List.getElem?_set_ne (Ne.symm hlm)] at h2
                    exact (hc n u f h1 h2).ext x fun c w z h => by
                      rw [upd_ne fun z2 : c = q => hlm (hdj n m c z (by rw [z2]; exact Bq))]; exact h
                have Sd := S1.drop i
                have S2 := Sd.go x (fun c w ⟨n, hl2, z⟩ h => by
                  rw [upd_ne fun z2 : c = q => hl2 (S1.dj n i c z (by rw [z2]; exact φq))]; exact h) (fun c ⟨n, _, z⟩ => S1.nz n c z) fun c z => by
                    by_cases z2 : c = q
                    · rw [z2, upd_same]; exact Option.some_ne_none _
                    · rw [upd_ne z2]; exact S1.zh c z
                have S3 := S2.reput (i := i) (by simpa using (List.getElem?_eq_some_iff.mp hd1).1) hv1 ow (fun n c hl2 z y => hl2 (S1.dj n i c z.2 y)) (fun c z => S1.nz i c z)
                rw [List.set_set] at S3
                refine P σ _ Z1 _ S3 ⟨fun c w h n => by rw [upd_ne fun z : c = q => n ⟨i, by rw [z]; exact φq⟩]; exact h, fun _ z => z, fun _ z => .inl z, fun c ⟨n, z⟩ => .inl ?_⟩
                by_cases z2 : n = i
                · simp only [if_pos z2] at z; exact ⟨i, z⟩
                · simp only [if_neg z2] at z; exact ⟨n, z.2⟩
          · cases e
        · exact P.elim
      · exact P.elim
    · exact P.elim
  · exact P.elim
end
end Pv
end

section
set_option Elab.async false
set_option linter.all false
set_option maxRecDepth 100000
set_option maxHeartbeats 4000000
/-! Pv18: tuple * int without a bound on the count; x[::-1]; str of ints; module tuples. -/
namespace Pv
open PySem PySem.Spec PyProof.Rows L2

theorem tuple_mul1 (l : Addr) (items : Array Value) (n : Nat) (dd : Option Addr) (sl : Array (Option Value)) (x : Int) (u : Tok) (c0 : (decide (x < -(2 ^ 63)) || decide (x ≥ 2 ^ 63)) = false) (c1 : (items.isEmpty || x == 1) = true) :
    Meets (Builtin.«tuple.__mul__» ⟨[.ref l, .int x u], []⟩) (fun _ R s => s.heap.get? l = some { cls := .type "tuple", dict := dd, data := .seq items n, slots := sl } ∧
      R (.ok (.ret (Value.ref l))) s) :=
  .of_wp fun prog w A R s h => by
    obtain ⟨hp, g, d, tk, os⟩ := s
    obtain ⟨hl, h⟩ := h
    have f1 := AutoSeq1.idx_int
    have hT : Shared.TypeIs (⟨hp, g, d, tk, os⟩ : Shared) (.ref l) "tuple" := ⟨_, hl, rfl⟩
    wp_walk using wpAny_loadPart' hl, wpAny_typeOf hT
    repeat (first
      | (refine wpAny_ite_false (decide_eq_false (by rw [c0]; exact Bool.false_ne_true)) ?_; wp_walk using wpAny_loadPart' hl, wpAny_typeOf hT)
      | (refine wpAny_ite_true (decide_eq_true c1) ?_; wp_walk using wpAny_loadPart' hl, wpAny_typeOf hT))
    exact ⟨_, rfl, h⟩
theorem tuple_mul0 (l : Addr) (items : Array Value) (n : Nat) (dd : Option Addr) (sl : Array (Option Value)) (x : Int) (u : Tok) (c0 : (decide (x < -(2 ^ 63)) || decide (x ≥ 2 ^ 63)) = false) (c1 : (items.isEmpty || x == 1) = false) (c2 : (decide (x ≤ 0) || items.isEmpty) = true) :
    Meets (Builtin.«tuple.__mul__» ⟨[.ref l, .int x u], []⟩) (fun _ R s => s.heap.get? l = some { cls := .type "tuple", dict := dd, data := .seq items n, slots := sl } ∧
      R (.ok (.ret (Value.ref s.heap.objs.size))) { s with heap := s.heap.push { cls := Value.type "tuple", data := Data.seq #[] }, toks := s.toks }) :=
  .of_wp fun prog w A R s h => by
    obtain ⟨hp, g, d, tk, os⟩ := s
    obtain ⟨hl, h⟩ := h
    have f1 := AutoSeq1.idx_int
    wp_walk using wpAny_loadPart' hl
    repeat (first
      | (refine wpAny_ite_false (decide_eq_false (by rw [c0]; exact Bool.false_ne_true)) ?_; wp_walk using wpAny_loadPart' hl)
      | (refine wpAny_ite_false (decide_eq_false (by rw [c1]; exact Bool.false_ne_true)) ?_; wp_walk using wpAny_loadPart' hl)
      | (refine wpAny_ite_true (decide_eq_true c2) ?_; wp_walk using wpAny_loadPart' hl))
    exact ⟨_, rfl, h⟩
def rRepA (K : PySem.W.Frag) : R2 := fun x y H Q => ∃ l k xs, x = .ref l ∧ y = .int k ∧ SqT K H l xs ∧ -(2 ^ 63) ≤ k ∧ k < 2 ^ 63 ∧ (((xs = [] ∨ k = 1) ∧ Q (.ref l) H) ∨ (xs ≠ [] ∧ k ≤ 0 ∧ ∀ p, H p = none → Q (.ref p) (upd H p (.tup []))) ∨ (xs ≠ [] ∧ 2 ≤ k ∧ k.toNat * xs.length ≤ lim ∧ ∀ p, H p = none → Q (.ref p) (upd H p (.tup (List.replicate k.toNat xs).flatten))))
theorem op_repA {X : Cx} : OpR X (binaryOp .Mult) (rRepA X.K) := by
  intro pins s σ H x y v u Q I rx ry h
  obtain ⟨l, k, xs, rfl, rfl, hT, hk1, hk2, q⟩ := h
  cases rx
  obtain ⟨t, rfl⟩ := ry
  obtain ⟨its, r, ⟨⟨cls, dd, data, sl⟩, ho, hc, n, hd⟩, hs⟩ := I.tuple hT
  simp only at hc hd
  subst hc hd
  have hle : its.length = xs.length := r.length.symm
  have c0 : (decide (k < -(2 ^ 63)) || decide (k ≥ 2 ^ 63)) = false := by
    rw [decide_eq_false (by omega), decide_eq_false (by omega)]; rfl
  have emp : its.toArray.isEmpty = decide (xs = []) := by
    cases xs with
    | nil =>
      cases its with
      | nil => rfl
      | cons a b => simp at hle
    | cons a b =>
      cases its with
      | nil => simp at hle
      | cons c d => rfl
  refine wpAny_binaryOp_repeat_ref (T := "tuple") (U := "int") (by decide) ⟨_, ho, rfl⟩ (fun s' => typeIs_int s' k t) noFill_tuple_mul F.fills_int_mul F.slot_int_rmul repeat_tuple F.slot_int_index.lookup
    (call_meets F.slot_int_rmul (typeIs_int s k t) F.entry_int_rmul (F.args_int_rmul_2 _ _) (int_rmul_tuple k t l its.toArray n dd sl) ⟨ho, rfl, ⟨_, ho, rfl⟩, ?_⟩)
  by_cases h1 : (its.toArray.isEmpty || k == 1) = true
  · have h1' : xs = [] ∨ k = 1 := by
      rw [Bool.or_eq_true, emp, decide_eq_true_eq, beq_iff_eq] at h1
      exact h1
    refine call_meets F.slot_tuple_mul ⟨_, ho, rfl⟩ F.entry_tuple_mul (F.args_tuple_mul_2 _ _) (tuple_mul1 l its.toArray n dd sl k t c0 h1) ⟨ho, ?_⟩
    rcases q with ⟨_, q⟩ | ⟨hn, hk, _⟩ | ⟨hn, hk, _⟩
    · exact ⟨.ref l, H, I, rfl, q⟩
    · exact absurd h1' (by rintro (h | h); exact hn h; omega)
    · exact absurd h1' (by rintro (h | h); exact hn h; omega)
  · have h1b : (its.toArray.isEmpty || k == 1) = false := by simpa using h1
    have h1' : xs ≠ [] ∧ k ≠ 1 := by
      rw [Bool.or_eq_false_iff, emp, decide_eq_false_iff_not, beq_eq_false_iff_ne] at h1b
      exact h1b
    have hi : its.toArray.isEmpty = false := by rw [emp]; exact decide_eq_false h1'.1
    rcases q with ⟨hh, _⟩ | ⟨_, hk, q⟩ | ⟨_, hk, hz, q⟩
    · exact absurd hh (by rintro (h | h); exact h1'.1 h; exact h1'.2 h)
    · refine call_meets F.slot_tuple_mul ⟨_, ho, rfl⟩ F.entry_tuple_mul (F.args_tuple_mul_2 _ _) (tuple_mul0 l its.toArray n dd sl k t c0 h1b (by rw [hi, Bool.or_false]; exact decide_eq_true hk)) ⟨ho, ?_⟩
      exact ⟨.ref s.heap.objs.size, _, I.laid (t' := s.toks) (o := .tup []) (fun b ob q => Heap.get?_push_of_some _ q) (Nat.le_refl _) ⟨by show 0 ≤ sizeLine; exact Nat.zero_le _, [], .nil, ⟨_, Heap.get?_push_size _ rfl, rfl, _, rfl⟩⟩, rfl, q _ (I.hok.fresh (Nat.le_refl _))⟩
    · have hsz0 : its.toArray.size = xs.length := by rw [List.size_toArray, hle]
      have hm2 : ((its.toArray.size : Nat) : Int) * k = ((k.toNat * xs.length : Nat) : Int) := by
        rw [hsz0, Int.natCast_mul, Int.toNat_of_nonneg (by omega), Int.mul_comm]
      have hzl : k.toNat * xs.length ≤ sizeLine := lim_le hz
      have hz16 : k.toNat * xs.length ≤ 16000000 := hz
      have flen : (List.replicate k.toNat its).flatten.length ≤ sizeLine := by
        rw [PyProof.Rows.lm_len_rep_flat, hle]; exact hzl
      have c2 : (decide (k ≤ 0) || its.toArray.isEmpty) = false := by
        rw [hi, Bool.or_false]
        exact decide_eq_false (by omega)
      have c4 : Builtin.Tuple.tupleTooMany (((its.toArray.size : Nat) : Int) * k) = false := by
        unfold Builtin.Tuple.tupleTooMany
        rw [hm2]
        exact decide_eq_false (by omega)
      have c3 : ¬ ((its.toArray.size : Nat) : Int) * k > (2 ^ 63 - 1) / 8 := by
        rw [hm2]; omega
      refine call_meets F.slot_tuple_mul ⟨_, ho, rfl⟩ F.entry_tuple_mul (F.args_tuple_mul_2 _ _) (tuple_mulW l its.toArray n dd sl k t c0 h1b c2 c3 c4 (by rw [size_rep, List.size_toArray]; exact flen)) ⟨ho, ?_⟩
      rw [size_rep]
      refine ⟨.ref s.heap.objs.size, _, I.laid (t' := s.toks) (o := .tup (List.replicate k.toNat xs).flatten) (fun b ob q => Heap.get?_push_of_some _ q) (Nat.le_refl _) ?_, rfl, q _ (I.hok.fresh (Nat.le_refl _))⟩
      exact ⟨by rw [PyProof.Rows.lm_len_rep_flat]; exact hzl, _, r.rep k.toNat, IsTup.new _ _⟩
def repB (k : Int) : Bool := Nat.ble k.natAbs 9223372036854775807
def repD : D → D → Option (D × Nat)
  | .tup xs, .int k => if repB k = true then (if xs.isEmpty = true ∨ k = 1 then some (.tup xs, 0) else if k ≤ 0 then some (.tup [], 0) else if k.toNat * xs.length ≤ lim then some (.tup (List.replicate k.toNat xs).flatten, 0) else none) else none
  | x, y => mulD x y
section
variable {Γ : Ct} {a b : Expr} {fa fb : En → R Opd} {pos : Pos}
theorem shl_rep {C : RC} {Z : Fp} {H : Hp} {us : List V} {ds : List D} (r : ShL C Z H us ds) : ∀ n : Nat, ShL C Z H (List.replicate n us).flatten (List.replicate n ds).flatten
  | 0 => .nil
  | n + 1 => by
    rw [List.replicate_succ, List.replicate_succ, List.flatten_cons, List.flatten_cons]
    exact r.append (shl_rep r n)
theorem does_rep (G : Good Γ) : Does2 Γ repD (fun x y H Q => rMulA Γ.X.K x y H Q ∨ rRepA Γ.X.K x y H Q) := by
  intro σ H Z env φ S x y d e p hx hy hg Q P
  unfold repD at hg
  split at hg
  · rename_i xs k
    split at hg
    · rename_i hb
      have hb' : -(2 ^ 63) ≤ k ∧ k < 2 ^ 63 := by
        have := Nat.le_of_ble_eq_true hb
        omega
      obtain ⟨a, us, rfl, ha, r⟩ := hx.tupI
      have ha' := ha
      rw [G.hK] at ha'
      have hl := r.length
      refine .inr ⟨a, k, us, rfl, hy.intI, ha', hb'.1, hb'.2, ?_⟩
      have e0 : us = [] ↔ xs = [] := by
        rw [← List.length_eq_zero_iff, ← List.length_eq_zero_iff, hl]
      split at hg
      · rename_i h1
        cases hg
        refine .inl ⟨h1.imp (fun h => e0.mpr (List.isEmpty_iff.mp h)) id, ?_⟩
        exact Post.here P S (Ow.sh (.tup ha r))
      · rename_i h1
        have hne : us ≠ [] := fun h => h1 (.inl (List.isEmpty_iff.mpr (e0.mp h)))
        split at hg
        · rename_i h2
          cases hg
          exact .inr (.inl ⟨hne, h2, fun l hl => Post.newT P S hl (Ow.sh (.tup (SqT.of upd_same) .nil))⟩)
        · rename_i h2
          split at hg
          · rename_i h3
            cases hg
            have hk1 : k ≠ 1 := fun h => h1 (.inr h)
            exact .inr (.inr ⟨hne, by omega, by rw [hl]; exact h3, fun l hl => Post.newT P S hl (Ow.sh (.tup (SqT.of upd_same) ((shl_rep r _).ext (Ext.new hl))))⟩)
          · cases hg
    · cases hg
  · exact .inl (does_mul G σ H Z env φ S x y _ _ p hx hy hg Q P)
theorem ev_rep (G : Good Γ) (ha : EvO Γ a fa) (hb : EvO Γ b fb) : EvE Γ (.BinOp a .Mult b pos) (op2 repD fa fb) := ev_op2 (ta := rAddA Γ.X.K) (mk := fun x _ => x) ha hb (fun _ _ p q => pe_op ((op_mulZ.or (op_rep.or op_repT)).or op_repA) p q) (does_rep G)
end
end Pv
end

section
set_option Elab.async false
set_option linter.all false
set_option maxRecDepth 100000
set_option maxHeartbeats 4000000
/-! Pv19: x[::-1]; str of ints; module tuples. -/
namespace HT
open PySem PySem.Spec PyProof.Rows L2
section
variable {prog : Program} {w : World} {A : Around} {E : Value → Shared → Prop} {s : Shared}
theorem rev_get (l : List Value) (m : Nat) (h : m < l.length) : l.reverse[m]? = l[l.length - 1 - m]? := by
  rw [List.getElem?_reverse h]
theorem fm_congr {α β : Type} {f g : α → Option β} : ∀ {l : List α}, (∀ x ∈ l, f x = g x) → l.filterMap f = l.filterMap g
  | [], _ => rfl
  | x :: l, h => by
    rw [List.filterMap_cons, List.filterMap_cons, h x List.mem_cons_self, fm_congr fun y hy => h y (List.mem_cons_of_mem _ hy)]
theorem filter_all : ∀ l : List Value, (List.range l.length).filterMap (fun m => l[m]?) = l
  | [] => rfl
  | x :: l => by
    rw [List.length_cons, List.range_succ_eq_map, List.filterMap_cons]
    simp only [List.getElem?_cons_zero, List.filterMap_map]
    have : ((fun m => (x :: l)[m]?) ∘ Nat.succ) = fun m => l[m]? := by
      funext m
      simp
    rw [this, filter_all l]
theorem pick_rev (xs : Array Value) : ((List.range xs.size).filterMap fun (m : Nat) => xs[(((xs.size : Nat) : Int) - 1 + (m : Int) * (-1)).toNat]?).toArray = xs.toList.reverse.toArray := by
  congr 1
  have h1 : (List.range xs.size).filterMap (fun (m : Nat) => xs[(((xs.size : Nat) : Int) - 1 + (m : Int) * (-1)).toNat]?) = (List.range xs.toList.reverse.length).filterMap fun m => xs.toList.reverse[m]? := by
    rw [List.length_reverse, Array.length_toList]
    apply fm_congr
    intro m hm
    have hm := List.mem_range.mp hm
    rw [rev_get _ _ (by simpa using hm), Array.length_toList]
    have e : (((xs.size : Nat) : Int) - 1 + (m : Int) * (-1)).toNat = xs.size - 1 - m := by omega
    rw [e]
    simp
  rw [h1, filter_all]
theorem sliceApplied_rev {sl : Addr} {vl vu vs : Value} {n : Nat} {Q : Int × Int × Nat → Shared → Prop} (hs : s.heap.IsSliceOf sl vl vu vs) (pl : IsPart vl none) (pu : IsPart vu none) (ps : IsPart vs (some (-1)))
    (h : Q ((n : Int) - 1, -1, n) s) : wpAny (model prog w) A (Builtin.Slice.sliceApplied (.ref sl) (pure (n : Int))) Q E s := by
  obtain ⟨os, hos, hcs, hds⟩ := id hs
  unfold Builtin.Slice.sliceApplied Builtin.Slice.sliceFields
  refine wpAny_bind (wpAny_bind (wpAny_field hos hds (x := vl) rfl (wpAny_bind (wpAny_field hos hds (x := vu) rfl (wpAny_bind (wpAny_field hos hds (x := vs) rfl (wpAny_pure ?_)))))))
  refine wpAny_bind (slicePart_ ps ?_)
  show wpAny _ _ (if ((-1 : Int) == 0) = true then _ else _) _ _ s
  rw [if_neg (by decide)]
  refine wpAny_bind (slicePart_ pl (wpAny_bind (slicePart_ pu (wpAny_bind (wpAny_pure ?_)))))
  show wpAny _ _ (match Builtin.Slice.sliceAdjust none none (-1) (n : Int) with | (lo, hi) => pure (lo, (-1 : Int), Builtin.Slice.slicePlaces lo hi (-1))) _ _ s
  have e1 : Builtin.Slice.sliceAdjust none none (-1) (n : Int) = ((n : Int) - 1, -1) := rfl
  have e2 : Builtin.Slice.slicePlaces ((n : Int) - 1) (-1) (-1) = n := by
    unfold Builtin.Slice.slicePlaces
    simp
    try omega
  rw [e1]
  show wpAny _ _ (pure ((n : Int) - 1, (-1 : Int), Builtin.Slice.slicePlaces ((n : Int) - 1) (-1) (-1))) _ _ s
  rw [e2]
  exact wpAny_pure h
theorem getItem_tuple_rev {t sl : Addr} {items : Array Value} {vl vu vs : Value} {Q : Value → Shared → Prop} (ht : IsTup s.heap t items) (hs : s.heap.IsSliceOf sl vl vu vs) (pl : IsPart vl none) (pu : IsPart vu none) (ps : IsPart vs (some (-1)))
    (h : Q (.ref s.heap.objs.size) { s with heap := s.heap.push { cls := .type "tuple", data := .seq items.toList.reverse.toArray } }) (hsz : items.size ≤ sizeLine) : wpAny (model prog w) A (getItem (.ref t) (.ref sl)) Q E s := by
  have htake : sizeOk (.seq items.toList.reverse.toArray) := by
    show items.toList.reverse.toArray.size ≤ sizeLine
    rw [List.size_toArray, List.length_reverse, Array.length_toList]
    exact hsz
  obtain ⟨os, hos, hcs, hds⟩ := id hs
  have hTs : s.TypeIs (.ref sl) "slice" := ⟨os, hos, hcs⟩
  unfold getItem
  try with_reducible refine wpAny_holding ?_
  first | refine wpAny_bind (wpAny_pure ?_) | skip
  refine wpAny_bind (wpAny_sequenceKey ht.typeIs (by decide) ?_)
  refine wpAny_bind (wpAny_callSpecial?_slot (name := Str.ofString "__getitem__") ht.typeIs PyProof.Rows.slot_tuple_getitem
    (wpAny_call_entry PyProof.Rows.slot_tuple_getitem ht.typeIs entry_tuple_getitem ?_ (args_tuple_getitem _ _)))
  show wpAny _ _ (Builtin.Tuple.tupleItemsOf (.ref t) >>= _) _ _ s
  refine wpAny_bind (tupleItemsOf_ ht ?_)
  refine wpAny_bind (wpAny_typeOf hTs ?_)
  rw [if_pos (by decide)]
  refine wpAny_bind (sliceApplied_rev hs pl pu ps ?_)
  have hno : ¬ ((((items.size : Nat) : Int) - 1 == 0 && (-1 : Int) == 1 && items.size == items.size) = true) := by
    intro q
    rw [Bool.and_eq_true, Bool.and_eq_true] at q
    exact absurd q.1.2 (by decide)
  show wpAny _ _ (if (((items.size : Nat) : Int) - 1 == 0 && (-1 : Int) == 1 && items.size == items.size) = true then _ else _) _ _ s
  rw [if_neg hno, pick_rev]
  first
    | exact wpAny_bind (m := Builtin.Tuple.tupleExact _) (wpAny_newObj_type (wpAny_pure ⟨_, rfl, wpAny_pure h⟩) htake)
    | exact wpAny_bind (m := Builtin.Tuple.tupleExact _) (wpAny_newObj_type (wpAny_bind (wpAny_pure (wpAny_pure ⟨_, rfl, wpAny_pure h⟩))) htake)
    | exact wpAny_bind (wpAny_bind (m := Builtin.Tuple.tupleExact _) (wpAny_newObj_type (wpAny_pure (wpAny_pure ⟨_, rfl, wpAny_pure h⟩)) htake))
    | exact wpAny_bind (wpAny_bind (m := Builtin.Tuple.tupleExact _) (wpAny_newObj_type (wpAny_pure ⟨_, rfl, wpAny_pure h⟩) htake))
end
end HT
namespace Pv
open PySem PySem.Spec PyProof.Rows L2
/-- x[::-1], x a list or a tuple -/
def tRevA (K : PySem.W.Frag) (te : TE) : TE := fun σ H Q => te σ H fun x H1 => (∃ a xs, x = .ref a ∧ SqL K H1 a xs ∧ ∀ p, H1 p = none → Q (.ref p) (upd H1 p (.lst xs.reverse))) ∨ (∃ a xs, x = .ref a ∧ SqT K H1 a xs ∧ ∀ p, H1 p = none → Q (.ref p) (upd H1 p (.tup xs.reverse)))
theorem pe_revA {X : Cx} {e : Expr} {te : TE} {k : Nat} {p1 p2 p3 pos : Pos} (he : PE X e te) : PE X (.Subscript e (.Slice none none (some (.UnaryOp .USub (.Constant (.int 1) k p1) p2)) p3) pos) (tRevA X.K te) := by
  refine ⟨fun pins s σ H Q I h => ?_⟩
  refine Subscript_ (thn (he.run pins s σ H _ I h) fun v s1 ⟨x, H1, I1, r1, q1⟩ => ?_)
  have hst : PO X (some (.UnaryOp .USub (.Constant (.int 1) k p1) p2)) (tPart (tUn (rU fun i => .int (-i)) (tC (.int 1)))) := po_some (pe_un un_neg pe_int)
  refine wpAny_Slice (thn (po_none.run pins s1 σ H1 (fun o H2 => o = none ∧ H2 = H1) I1 ⟨rfl, rfl⟩) fun vl s2 ⟨l, H2, I2, pl, el, e2⟩ => ?_)
  subst el e2
  refine thn (po_none.run pins s2 σ H2 (fun o H3 => o = none ∧ H3 = H2) I2 ⟨rfl, rfl⟩) fun vu s3 ⟨u, H3, I3, pu, eu, e3⟩ => ?_
  subst eu e3
  refine thn (hst.run pins s3 σ H3 (fun o H4 => o = some (-1) ∧ H4 = H3) I3 ⟨1, rfl, -1, rfl, rfl, rfl⟩) fun vs s4 ⟨o, H4, I4, ps, eo, e4⟩ => ?_
  subst eo e4
  have I5 : Inv X pins σ H4 { s4 with heap := s4.heap.push { cls := .type "slice", data := .fields #[vl, vu, vs] } } := I4.kept (t' := s4.toks) fun b ob q => Heap.get?_push_of_some _ q
  rcases q1 with ⟨a, xs, ex, hx, q⟩ | ⟨a, xs, ex, hx, q⟩
  · subst ex
    cases r1
    obtain ⟨its, r, ht, hz⟩ := I5.list hx
    have hlen := r.length
    show wpAny (model X.prog X.w) X.A (subscriptTail e (.Slice none none (some (.UnaryOp .USub (.Constant (.int 1) k p1) p2)) p3) (.ref a) (.ref s4.heap.objs.size)) (EP X pins σ Q) X.xe { s4 with heap := s4.heap.push { cls := .type "slice", data := .fields #[vl, vu, vs] } }
    refine tail_any (ops := [.ref a, .ref s4.heap.objs.size]) ht.isList.typeIs (PySem.slot_list_getitem.lookup) ?_ (by with_unfolding_all rfl)
    refine wpAny_getItem_list_slice ht.isList (Heap.IsSliceOf.new _ vl vu vs) pl pu ps (by decide) ?_ (by rw [List.size_toArray]; omega)
    rw [PySem.W.krv_pick]
    refine ⟨.ref _, _, I5.laid (t' := s4.toks) (o := .lst xs.reverse) (fun b ob q => Heap.get?_push_of_some _ q) (Nat.le_refl _) ?_, rfl, q _ (I5.hok.fresh (Nat.le_refl _))⟩
    exact ⟨by rw [List.length_reverse]; exact hz, _, 0, r.reverse, Heap.get?_push_size _ rfl⟩
  · subst ex
    cases r1
    obtain ⟨its, r, ht, hz⟩ := I5.tuple hx
    have hlen := r.length
    show wpAny (model X.prog X.w) X.A (subscriptTail e (.Slice none none (some (.UnaryOp .USub (.Constant (.int 1) k p1) p2)) p3) (.ref a) (.ref s4.heap.objs.size)) (EP X pins σ Q) X.xe { s4 with heap := s4.heap.push { cls := .type "slice", data := .fields #[vl, vu, vs] } }
    refine tail_any (ops := [.ref a, .ref s4.heap.objs.size]) ht.typeIs (PyProof.Rows.slot_tuple_getitem.lookup) ?_ (by with_unfolding_all rfl)
    refine HT.getItem_tuple_rev ht (Heap.IsSliceOf.new _ vl vu vs) pl pu ps ?_ (by rw [List.size_toArray]; omega)
    refine ⟨.ref _, _, I5.laid (t' := s4.toks) (o := .tup xs.reverse) (fun b ob q => Heap.get?_push_of_some _ q) (Nat.le_refl _) ?_, rfl, q _ (I5.hok.fresh (Nat.le_refl _))⟩
    exact ⟨by rw [List.length_reverse]; exact hz, _, r.reverse, ⟨_, Heap.get?_push_size _ rfl, rfl, _, rfl⟩⟩
section
variable {Γ : Ct} {e a : Expr} {fa : En → R Opd} {pos p q p1 p2 p3 : Pos}
def revD : D → Option (D × Nat)
  | .lst xs => some (.lst xs.reverse, 1)
  | .tup xs => some (.tup xs.reverse, 0)
  | _ => none
theorem shl_rev {C : RC} {Z : Fp} {H : Hp} : ∀ {us : List V} {ds : List D}, ShL C Z H us ds → ShL C Z H us.reverse ds.reverse
  | _, _, .nil => .nil
  | _, _, .cons h r => by
    rw [List.reverse_cons, List.reverse_cons]
    exact (shl_rev r).append (.cons h .nil)
theorem ev_rev (G : Good Γ) {k : Nat} (ha : EvO Γ a fa) : EvE Γ (.Subscript a (.Slice none none (some (.UnaryOp .USub (.Constant (.int 1) k p1) p2)) p3) pos) (op1 revD fa) := by
  obtain ⟨t, h1, h2⟩ := ha
  refine ⟨_, pe_revA h1, ?_⟩
  have := Ev.op1 (g := revD) (r := fun x H1 Q => (∃ a xs, x = .ref a ∧ SqL Γ.X.K H1 a xs ∧ ∀ p, H1 p = none → Q (.ref p) (upd H1 p (.lst xs.reverse))) ∨ (∃ a xs, x = .ref a ∧ SqT Γ.X.K H1 a xs ∧ ∀ p, H1 p = none → Q (.ref p) (upd H1 p (.tup xs.reverse)))) h2 (fun σ H Z env φ S x d p hx hg Q P => by
    unfold revD at hg
    split at hg
    · cases hg
      obtain ⟨a, us, rfl, ha, r⟩ := hx.lstI
      exact .inl ⟨a, us, rfl, SqL.of ha, fun l hl => Post.newL P S hl (Ow.lst1 upd_same ((shl_rev r).ext (Ext.new hl)))⟩
    · cases hg
      obtain ⟨a, us, rfl, ha, r⟩ := hx.tupI
      rw [G.hK] at ha
      exact .inr ⟨a, us, rfl, ha, fun l hl => Post.newT P S hl (Ow.sh (.tup (SqT.of upd_same) ((shl_rev r).ext (Ext.new hl))))⟩
    · cases hg)
  exact this
/-- str(i) -/
def strD : D → Option (D × Nat)
  | .int i => if i.natAbs.log2 < 1920 then some (.str (toString i), 0) else none
  | _ => none
theorem ev_str1 (hg : Gl Γ.X "str") (hm : Γ.X.mg "str" = none) (ha : EvO Γ a fa) (hs : starEach [a] Γ.X.env = [(false, eval a Γ.X.env)] := by rfl) : EvE Γ (.Call (.Name "str" p) [a] [] pos) (op1 strD fa) :=
  ev_t1 call_str_int (fun σ H Z env φ S x d p hx hg Q P => by
    unfold strD at hg
    split at hg
    · split at hg
      · rename_i h
        cases hg
        rw [hx.intI]
        exact ⟨_, rfl, h, Post.here P S (Ow.sh (.str _))⟩
      · cases hg
    · cases hg) hg hm (by decide +kernel) ha (hs := hs)
end
/-! ### a module's tuple -/
/-- a tuple that the program's top has made: its data -/
structure TA (K : PySem.W.Frag) (mg : Str → Option Value) (x : Str) (d : D) where
  a : Addr
  m : mg x = some (.ref a)
  s : ∀ (C : RC) (Z : Fp) (H : Hp), C.K = K → Sh C Z H (.ref a) d
theorem ev_gtup {Γ : Ct} {K : PySem.W.Frag} {mg : Str → Option Value} {x : Str} {d : D} {pos : Pos} (A : TA K mg x d) (G : Good Γ) (hg : Gl Γ.X x) (hm : Γ.X.mg = mg := by rfl) (hK : Γ.X.K = K := by rfl) (hd : (x == ("__debug__" : Str)) = false := by decide) : EvV Γ (.Name x pos) (fun env => .ok d env) := by
  subst hm hK
  exact ev_c (v := .ref A.a) (fun Z H => A.s Γ.C Z H G.hK) (pe_glob hg A.m rfl hd)
/-- what a written value bears -/
inductive RelD : Value → D → Prop
  | int (i : Int) (t : Tok) : RelD (.int i t) (.int i)
  | str (i : Str) (t : Tok) : RelD (.str i t) (.str i)
theorem TA.of {K : PySem.W.Frag} {h : Heap} {mg : Str → Option Value} (X : K.In h) (G : h.Ns mainGlobals mg) {x : Str} {a : Addr} {od : Option Addr} {its : Array Value} {n : Nat} {sl : Array (Option Value)} {vs : List V} {ds : List D}
    (e : PySem.W.nsIn K mainGlobals x = some (some (.ref a))) (l : K.lookup a = some ⟨.type "tuple", od, .seq its n, sl⟩) (hz : its.size ≤ sizeLine) (hv : Vals vs its.toList) (hs : ∀ (C : RC) (Z : Fp) (H : Hp), ShL C Z H vs ds) : Nonempty (TA K mg x (.tup ds)) :=
  ⟨⟨a, PySem.W.mg_of X G e, fun C Z H hK => .tup (.inr ⟨_, its, n, by rw [hK]; exact l, rfl, rfl, hz, hv⟩) (hs C Z H)⟩⟩
end Pv
end

section
set_option Elab.async false
set_option linter.all false
set_option maxRecDepth 100000
set_option maxHeartbeats 4000000
/-! Pv20: pop. -/
namespace Pv
open PySem PySem.Spec PyProof.Rows L2
section
variable {Γ : Ct} {x : Str} {p pos apos cpos sp : Pos} {e a b : Expr} {es : List Expr}
def popV (i : Nat) : En → R D := fun env => match env[i]? with
  | some (some (.lst ds, 1)) => (match ds[ds.length - 1]? with
    | some d => .ok d (env.set i (some (.lst ds.dropLast, 1)))
    | none => .no)
  | _ => .no
theorem ShL.dropLast {C : RC} {Z : Fp} {H : Hp} : ∀ {us : List V} {ds : List D}, ShL C Z H us ds → ShL C Z H us.dropLast ds.dropLast
  | _, _, .nil => .nil
  | _, _, .cons h .nil => .nil
  | _, _, .cons h (.cons h' r) => .cons h (ShL.dropLast (.cons h' r))
theorem ev_pop {i : Nat} (hN : Γ.X.N[i]? = some x) (hv : Vis Γ.X.env.scope x) (hd : (x == ("__debug__" : Str)) = false := by decide) (hcd : (x == ("__classdict__" : Str)) = false := by decide)
    (hline : (apos.endLine == cpos.line) = true := by rfl) :
    EvV Γ (.Call (.Attribute (.Name x p) "pop" apos) [] [] cpos) (popV i) := by
  refine ⟨_, pe_bm0 PySem.F.plainAttrs_list PySem.F.slot_list_pop PySem.F.type_list_pop mt_pop (pe_var hN hv hd hcd) rfl hline, fun σ H Z env φ S Q P => ?_⟩
  unfold popV at P
  split at P
  · rename_i ds hds
    split at P
    · rename_i d hd
      obtain ⟨v, hv1, o⟩ := S.slot i _ _ hds
      obtain ⟨a', ys, e0, ha, r, hφ⟩ := o.lst_inv
      subst e0
      obtain ⟨y, hy1, hy2⟩ := r.get' hd
      refine ⟨.ref a', hv1, .inl ⟨rfl, ys, SqL.of ha⟩, a', ys, y, rfl, rfl, ha, by rw [r.length]; exact hy1, ?_⟩
      have x : Ext Z H Z (upd H a' (.lst ys.dropLast)) := Ext.upd ha (S.nz i a' ((hφ a').mpr rfl)) trivial
      obtain ⟨S2, ev2⟩ := S.upd (o := .lst ys.dropLast) (A := fun b => b = a') hv1 (List.getElem?_eq_some_iff.mp hds).1 ha trivial ((hφ a').mpr rfl) (fun b hb => (hφ b).mpr hb) (Ow.lst1 upd_same (r.dropLast.ext x))
      exact Post.here (P.mono ev2) S2 (hy2.ext x)
    · exact P.elim
  · exact P.elim
/-- x.pop(i), i an int -/
def popAtV (i : Nat) (fe : En → R D) : En → R D := fun env => if isLst env[i]? = true then (fe env).bind fun j env1 => match env1[i]?, j with
    | some (some (.lst ds, 1)), .int k => (match ixN ds.length k with
      | some m => (match ds[m]? with
        | some d => if repB k = true then .ok d (env1.set i (some (.lst (ds.eraseIdx m), 1))) else .no
        | none => .no)
      | none => .no)
    | _, _ => .no
  else .no
theorem ShL.erase {C : RC} {Z : Fp} {H : Hp} : ∀ {us : List V} {ds : List D} (m : Nat), ShL C Z H us ds → ShL C Z H (us.eraseIdx m) (ds.eraseIdx m)
  | _, _, _, .nil => .nil
  | _, _, 0, .cons h r => r
  | _, _, m + 1, .cons h r => .cons h (ShL.erase m r)
theorem ev_popAt {i : Nat} {fe : En → R D} (hN : Γ.X.N[i]? = some x) (hv : Vis Γ.X.env.scope x) (he : EvV Γ e fe) (hd : (x == ("__debug__" : Str)) = false := by decide) (hcd : (x == ("__classdict__" : Str)) = false := by decide)
    (hfew : ((backTo cpos (starEach [e] Γ.X.env)).all (fun x => !x.1) && (backToKw cpos (keywordEach [] Γ.X.env)).all (fun x => x.1.isSome) && decide ([e].length + ([] : List Keyword).length + (if ([] : List Keyword).isEmpty then 0 else 1) < 30)) = true := by rfl)
    (hline : (apos.endLine == cpos.line) = true := by rfl) (hs : starEach [e] Γ.X.env = (false, eval e Γ.X.env) :: starEach [] Γ.X.env := by rfl) :
    EvV Γ (.Call (.Attribute (.Name x p) "pop" apos) [e] [] cpos) (popAtV i fe) := by
  obtain ⟨t, h1, h2⟩ := he
  refine ⟨_, pe_bm PySem.F.plainAttrs_list PySem.F.slot_list_pop PySem.F.type_list_pop mt_popAt (pe_var hN hv hd hcd) (pa_cons h1 pa_nil hs) rfl hfew hline hs rfl, fun σ H Z env φ S Q P => ?_⟩
  unfold popAtV at P
  split at P
  · rename_i hl
    obtain ⟨a, xs, hv0, ha0⟩ := isLst_at S hl
    refine ⟨.ref a, hv0, .inl ⟨rfl, xs, SqL.of ha0⟩, ?_⟩
    refine h2.bind S P fun d env1 w H1 Z1 φ1 A e1 S1 q1 dj1 ev1 P1 => ?_
    have P2 := P1.mono (Evo.refl.sub (F2 := Tot φ1) fun _ z => .inl z)
    split at P2
    · rename_i ds k hds
      split at P2
      · rename_i m hm
        split at P2
        · rename_i d hd1
          split at P2
          · rename_i hk
            have hk' : -(2 ^ 63) ≤ k ∧ k < 2 ^ 63 := by
              have := Nat.le_of_ble_eq_true hk
              omega
            obtain ⟨v, hv1, o⟩ := S1.slot i _ _ hds
            rw [hv0] at hv1; cases hv1
            obtain ⟨a', ys, e0, ha, r, hφ⟩ := o.lst_inv
            cases e0
            have q1 : Sh Γ.C Z1 H1 w (.int k) := q1
            cases q1
            obtain ⟨y, hy1, hy2⟩ := r.get' hd1
            rw [← r.length] at hm
            refine ⟨a, ys, k, m, y, rfl, rfl, ha, hk'.1, hk'.2, (ixN_seq hm).1, hy1, ?_⟩
            have x : Ext Z1 H1 Z1 (upd H1 a (.lst (ys.eraseIdx m))) := Ext.upd ha (S1.nz i a ((hφ a).mpr rfl)) trivial
            obtain ⟨S2, ev2⟩ := S1.upd (o := .lst (ys.eraseIdx m)) (A := fun b => b = a) hv0 (List.getElem?_eq_some_iff.mp hds).1 ha trivial ((hφ a).mpr rfl) (fun b hb => (hφ b).mpr hb) (Ow.lst1 upd_same ((r.erase m).ext x))
            exact Post.here (P2.mono ev2) S2 (hy2.ext x)
          · exact P2.elim
        · exact P2.elim
      · exact P2.elim
    · exact P2.elim
  · exact P.elim
end
end Pv
end

section
set_option Elab.async false
set_option linter.all false
set_option maxRecDepth 100000
set_option maxHeartbeats 4000000
/-! Pv21: isinstance(x, (S, T)). -/
namespace Pv
open PySem PySem.Spec PyProof.Rows L2
section
variable {Γ : Ct} {e a b c : Expr} {fa fb fc : En → R Opd} {pos p q : Pos} {x y : Str}
def isK (s T : String) : Bool := decide (s = T) || (decide (s = "bool") && decide (T = "int"))
def isi2D (T U : String) (d : D) : Option (D × Nat) := (tyD d).map fun s => (.bl (isK s T || isK s U), 0)
theorem ev_isi2 (G : Good Γ) {T U : String} (hT : T ∈ isiTs) (hU : U ∈ isiTs) (hx : bootBuiltins x = some (.type T)) (hy : bootBuiltins y = some (.type U)) (hg : Gl Γ.X "isinstance") (hm : Γ.X.mg "isinstance" = none) (hg2 : Gl Γ.X x) (hm2 : Γ.X.mg x = none) (hg3 : Gl Γ.X y) (hm3 : Γ.X.mg y = none) (ha : EvO Γ a fa) {q2 tq : Pos} {kk : Nat}
    (hn : x ≠ "__name__" := by decide) (hdb : (x == ("__debug__" : Str)) = false := by decide) (hn2 : y ≠ "__name__" := by decide) (hdb2 : (y == ("__debug__" : Str)) = false := by decide)
    (hs : starEach [a, .Tuple [.Name x q, .Name y q2] kk tq] Γ.X.env = [(false, eval a Γ.X.env), (false, eval (.Tuple [.Name x q, .Name y q2] kk tq) Γ.X.env)] := by rfl) : EvE Γ (.Call (.Name "isinstance" p) [a, .Tuple [.Name x q, .Name y q2] kk tq] [] pos) (op1 (isi2D T U) fa) := by
  obtain ⟨t, h1, h2⟩ := ha
  have pi : PA Γ.X [.Name x q, .Name y q2] (tCons (tC (.ty T)) (tCons (tC (.ty U)) tNil)) := pa_cons (pe_bltn hg2 hm2 hx rfl hn hdb) (pa_cons (pe_bltn hg3 hm3 hy rfl hn2 hdb2) pa_nil)
  have pb : PA Γ.X [.Tuple [.Name x q, .Name y q2] kk tq] (tCons _ tNil) := pa_cons (pe_tup pi) pa_nil
  have pa : PA Γ.X [a, .Tuple [.Name x q, .Name y q2] kk tq] (tCons t (tCons _ tNil)) := pa_cons h1 pb (by rw [hs]; rfl)
  refine ⟨_, pe_callB call_isiT hg hm (by decide +kernel) pa (by decide) (by decide) (by rw [hs]; rfl) rfl, ?_⟩
  have h3 := Ev.op1 (g := isi2D T U) (r := fun v H Q => [V.ty T, V.ty U].length ≤ sizeLine ∧ ∀ tp, H tp = none → rIsiT Γ.X.K [v, .ref tp] (upd H tp (.tup [.ty T, .ty U])) Q) h2 (fun σ H Z env φ S x d p hx hg Q P => by
    refine ⟨by show 2 ≤ sizeLine; decide, fun tp htp => ?_⟩
    unfold isi2D at hg
    obtain ⟨s, e1, rfl⟩ := Option.map_eq_some_iff.mp hg
    have k1 := kit_all s (tyD_mem e1) T hT
    have k2 := kit_all s (tyD_mem e1) U hU
    have ty : TyX Γ.C.K (upd H tp (.tup [.ty T, .ty U])) x (.type s) := by
      cases hx with
      | sh h => exact tyD_x (Rd1.sh (h.ext (Ext.new htp))) e1
      | lst h r => exact tyD_x (.lst (by rw [upd_ne (ne_of_none h htp)]; exact h) (r.ext (Ext.new htp))) e1
      | dic h l r => exact tyD_x (.dic (by rw [upd_ne (ne_of_none h htp)]; exact h) l (r.ext (Ext.new htp))) e1
    rw [G.hK] at ty
    refine ⟨x, tp, [.ty T, .ty U], .type s, [.type T, .type U], isK s T || isK s U, rfl, upd_same, .cons (.ty T) (.cons (.ty U) .nil), ty, ?_, Post.newT P S htp (Ow.sh (.bl _))⟩
    have q1 : PySem.W.kitOne Γ.X.K (.type s) (.type T) = some (isK s T) := kit_ty k1
    have q2 : PySem.W.kitOne Γ.X.K (.type s) (.type U) = some (isK s U) := kit_ty k2
    unfold PySem.W.kitAny
    rw [q1]
    cases h : isK s T with
    | true => rfl
    | false =>
      show PySem.W.kitAny Γ.X.K (.type s) [.type U] = some (isK s U)
      unfold PySem.W.kitAny
      rw [q2]
      cases h' : isK s U with
      | true => rfl
      | false => rfl)
  exact h3
end
end Pv
end

section
set_option Elab.async false
set_option linter.all false
set_option maxRecDepth 100000
set_option maxHeartbeats 4000000
/-! Pv22: a op b op c op d, as a test. -/
namespace Pv
open PySem PySem.Spec PyProof.Rows L2
/-- a chain of three -/
def tChain3 (r r' r'' : R2) (ta tb tc td : TE) : TE := fun σ H Q => ta σ H fun x H1 => tb σ H1 fun y H2 => r x y H2 fun z H3 => ∃ k, z = .bl k ∧
  (if k = true then tc σ H3 fun w H4 => r' y w H4 fun z2 H5 => ∃ k2, z2 = .bl k2 ∧ (if k2 = true then td σ H5 fun u H6 => r'' w u H6 Q else Q (.bl false) H5) else Q (.bl false) H3)
theorem pt_chain3 {X : Cx} {op op' op'' : CmpOp} {a b c d : Expr} {pos : Pos} {ta tb tc td : TE} {r r' r'' : R2} (ho : OpR X (compareOp op) r) (ho' : OpR X (compareOp op') r') (ho'' : OpR X (compareOp op'') r'') (ha : PE X a ta) (hb : PE X b tb) (hc : PE X c tc) (hd : PE X d td)
    (hm : lastMarks [op, op', op''] [b, c, d] = false := by with_unfolding_all rfl) : PT X (.Compare a [op, op', op''] [b, c, d] pos) (tTest (tChain3 r r' r'' ta tb tc td)) := by
  refine ⟨fun pins s σ H Q I h => ?_⟩
  refine isTrue_chain (thn (ha.run pins s σ H _ I h) fun v s1 ⟨x, H1, I1, r1, q1⟩ => test_link (thn (hb.run pins s1 σ H1 _ I1 q1) fun u s2 ⟨y, H2, I2, r2, q2⟩ =>
    thn (ho pins s2 σ H2 x y v u _ I2 r1 r2 q2) fun d s3 ⟨z, H3, I3, r3, k, e, q3⟩ => ?_)) hm
  subst e
  cases r3
  refine wpAny_truthy_bool ?_
  cases k with
  | false =>
    obtain ⟨k', e', q'⟩ := q3
    cases e'
    exact ite_ff ⟨H3, I3, q'⟩
  | true =>
    refine ite_tt (test_link (thn (hc.run pins s3 σ H3 _ I3 q3) fun w' s4 ⟨z', H4, I4, r4, q4⟩ => thn (ho' pins s4 σ H4 y z' u w' _ I4 r2 r4 q4) fun d' s5 ⟨z2, H5, I5, r5, k2, e2, q5⟩ => ?_))
    subst e2
    cases r5
    refine wpAny_truthy_bool ?_
    cases k2 with
    | false =>
      obtain ⟨k', e', q'⟩ := q5
      cases e'
      exact ite_ff ⟨H5, I5, q'⟩
    | true =>
      refine ite_tt (test_last (thn (hd.run pins s5 σ H5 _ I5 q5) fun w2 s6 ⟨z6, H6, I6, r6, q6⟩ => thn (ho'' pins s6 σ H6 z' z6 w' w2 _ I6 r4 r6 q6) fun d' s7 ⟨z7, H7, I7, r7, k7, e7, q7⟩ => ?_))
      subst e7
      cases r7
      exact wpAny_truthy_bool ⟨H7, I7, q7⟩
section
variable {Γ : Ct} {a b c d : Expr} {fa fb fc fd : En → R Opd} {pos : Pos}
def opC3 (g g' g'' : D → D → Option (D × Nat)) (fa fb fc fd : En → R Opd) : En → R (D × Nat) := fun env => (fa env).bind fun oa env1 => (fb env1).bind fun ob env2 =>
  match oa.get env2, ob.get env2 with
  | some x, some y => (match g x y with
    | some (.bl true, _) => (fc env2).bind fun oc env3 => (match ob.get env3, oc.get env3 with
      | some y, some z => (match g' y z with
        | some (.bl true, _) => (fd env3).bind fun od env4 => (match oc.get env4, od.get env4 with
          | some z, some u => R.of (g'' z u) env4
          | _, _ => .no)
        | some (.bl false, _) => .ok (.bl false, 0) env3
        | _ => .no)
      | _, _ => .no)
    | some (.bl false, _) => .ok (.bl false, 0) env2
    | _ => .no)
  | _, _ => .no
theorem Ev.chain3 {op op' op'' : CmpOp} {g g' g'' : D → D → Option (D × Nat)} (k : CmpB Γ op g) (k' : CmpB Γ op' g') (k'' : CmpR Γ op'' g'') {ta tb tc td : TE} (a2 : Ev Γ (OR Γ.C) fa ta) (b2 : Ev Γ (OR Γ.C) fb tb) (c2 : Ev Γ (OR Γ.C) fc tc) (d2 : Ev Γ (OR Γ.C) fd td) : Ev Γ (ER Γ.C) (opC3 g g' g'' fa fb fc fd) (tChain3 k.r k'.r k''.r ta tb tc td) := by
  intro σ H Z env φ S Q P
  refine a2.bind S P fun oa env1 x H1 Z1 φ1 A e1 S1 q1 dj1 ev1 P1 => ?_
  refine b2.bind S1 (P1.mono (Evo.refl.sub fun _ z => .inl z)) fun ob env2 y H2 Z2 φ2 B e2 S2 q2 dj2 ev2 P2 => ?_
  have P3 := P2.mono (Evo.refl.sub (F2 := Tot φ2) fun _ z => .inl z)
  have q1' : OR Γ.C σ B Z2 H2 oa x := OR.go (S1.ext ev2) q1
  cases ga : oa.get env2 with
  | none => rw [ga] at P3; exact P3.elim
  | some d0 =>
    cases gb : ob.get env2 with
    | none => rw [ga, gb] at P3; exact P3.elim
    | some e0 =>
      simp only [ga, gb] at P3
      have ra := Opd.rd S2 q1' ga
      have rb := Opd.rd S2 q2 gb
      cases gg : g d0 e0 with
      | none => rw [gg] at P3; exact P3.elim
      | some p =>
        obtain ⟨p, m⟩ := p
        rw [gg] at P3
        cases p with
        | bl w =>
          refine k.bool σ Z2 H2 x y d0 e0 w m ra rb gg _ ⟨w, rfl, ?_⟩
          cases w with
          | false => exact Post.here P3 S2 (Ow.sh (.bl false))
          | true =>
            rw [if_pos rfl]
            refine c2.bind S2 P3 fun oc env3 z H3 Z3 φ3 B3 e3 S3 q3 dj3 ev3 P4 => ?_
            have P5 := P4.mono (Evo.refl.sub (F2 := Tot φ3) fun _ z => .inl z)
            have q2' : OR Γ.C σ B3 Z3 H3 ob y := OR.go (S2.ext ev3) q2
            cases gb3 : ob.get env3 with
            | none => rw [gb3] at P5; exact P5.elim
            | some d3 =>
              cases gc3 : oc.get env3 with
              | none => rw [gb3, gc3] at P5; exact P5.elim
              | some f3 =>
                simp only [gb3, gc3] at P5
                have rb3 := Opd.rd S3 q2' gb3
                have rc3 := Opd.rd S3 q3 gc3
                cases g3 : g' d3 f3 with
                | none => rw [g3] at P5; exact P5.elim
                | some p3 =>
                  obtain ⟨p3, m3⟩ := p3
                  rw [g3] at P5
                  cases p3 with
                  | bl w3 =>
                    refine k'.bool σ Z3 H3 y z d3 f3 w3 m3 rb3 rc3 g3 _ ⟨w3, rfl, ?_⟩
                    cases w3 with
                    | false => exact Post.here P5 S3 (Ow.sh (.bl false))
                    | true =>
                      rw [if_pos rfl]
                      refine d2.bind S3 P5 fun od env4 u H4 Z4 φ4 B4 e4 S4 q4 dj4 ev4 P6 => ?_
                      have P7 := P6.mono (Evo.refl.sub (F2 := Tot φ4) fun _ z => .inl z)
                      have q3' : OR Γ.C σ B4 Z4 H4 oc z := OR.go (S3.ext ev4) q3
                      cases gc4 : oc.get env4 with
                      | none => rw [gc4] at P7; exact P7.elim
                      | some c4 =>
                        cases gd4 : od.get env4 with
                        | none => rw [gc4, gd4] at P7; exact P7.elim
                        | some f4 =>
                          simp only [gc4, gd4] at P7
                          cases g4 : g'' c4 f4 with
                          | none => rw [g4] at P7; exact P7.elim
                          | some p4 =>
                            rw [g4] at P7
                            exact k''.does σ H4 Z4 env4 φ4 S4 z u c4 f4 p4 (Opd.rd S4 q3' gc4) (Opd.rd S4 q4 gd4) g4 Q P7
                  | _ => exact P5.elim
        | _ => exact P3.elim
theorem et_chain3 {op op' op'' : CmpOp} {g g' g'' : D → D → Option (D × Nat)} (k : CmpB Γ op g) (k' : CmpB Γ op' g') (k'' : CmpR Γ op'' g'') (ha : EvO Γ a fa) (hb : EvO Γ b fb) (hc : EvO Γ c fc) (hd : EvO Γ d fd) (hm : lastMarks [op, op', op''] [b, c, d] = false := by with_unfolding_all rfl) : EvT Γ (.Compare a [op, op', op''] [b, c, d] pos) (tst (opC3 g g' g'' fa fb fc fd)) := by
  obtain ⟨ta, a1, a2⟩ := ha
  obtain ⟨tb, b1, b2⟩ := hb
  obtain ⟨tc, c1, c2⟩ := hc
  obtain ⟨td, d1, d2⟩ := hd
  exact ⟨_, pt_chain3 k.ok k'.ok k''.ok a1 b1 c1 d1 hm, (Ev.chain3 k k' k'' a2 b2 c2 d2).test⟩
end
end Pv
end

section
set_option Elab.async false
set_option linter.all false
set_option maxRecDepth 100000
set_option maxHeartbeats 4000000
/-! Pv23: comprehensions over encoded items. -/
namespace Pv
open PySem PySem.Spec PyProof.Rows L2
theorem compL_mapT {β : Type} {g : D → En → Option En} {tt : En → R Bool} {te : En → R (D × Nat)} {m : Nat} {vs : List Nat} (enc F : β → D) (env0 : En) : ∀ (bs : List β) (acc : List D), acc.length + bs.length ≤ lim →
    (∀ b ∈ bs, ∃ e1 e2 e3, g (enc b) env0 = some e1 ∧ tt e1 = .ok true e2 ∧ te e2 = .ok (F b, m) e3 ∧ wipeE e3 vs = env0) → compL g tt te m vs (bs.map enc) env0 acc = .ok (acc ++ bs.map F) env0
  | [], acc, _, _ => by simp [compL]
  | b :: bs, acc, hl, h => by
    obtain ⟨e1, e2, e3, h1, h2, h3, h4⟩ := h b List.mem_cons_self
    have hl' : acc.length < lim := by simp only [List.length_cons] at hl; omega
    have ih := compL_mapT (g := g) (tt := tt) (te := te) (m := m) (vs := vs) enc F env0 bs (acc ++ [F b]) (by simp only [List.length_append, List.length_cons, List.length_nil] at hl ⊢; omega) fun b' hb => h b' (List.mem_cons_of_mem _ hb)
    rw [List.map_cons]
    unfold compL
    rw [h1]
    simp only [h2, h3, h4, R.noX_ok, R.bind_ok, if_true, hl', and_self, ih, List.append_assoc, List.singleton_append, List.map_cons]
theorem comp_mapT {β : Type} {fi : En → R (List D)} {g : D → En → Option En} {tt : En → R Bool} {te : En → R (D × Nat)} {m : Nat} {vs : List Nat} (enc F : β → D) (env0 : En) {env env1 env2 : En} {bs : List β} (hfi : fi env = .ok (bs.map enc) env1) (h0 : wipeE env1 vs = env0) (hb : backE env1 env0 vs = env2) (hl : bs.length ≤ lim)
    (h : ∀ b ∈ bs, ∃ e1 e2 e3, g (enc b) env0 = some e1 ∧ tt e1 = .ok true e2 ∧ te e2 = .ok (F b, m) e3 ∧ wipeE e3 vs = env0) : comp fi g tt te m vs env = .ok (.lst (bs.map F), m + 1) env2 := by
  have q1 := compL_mapT (g := g) (tt := tt) (te := te) (m := m) (vs := vs) enc F env0 bs [] (by simpa using hl) h
  unfold comp
  rw [hfi]
  simp only [R.bind_ok, h0, q1, List.nil_append, hb]
theorem compL_filterT {β : Type} {g : D → En → Option En} {tt : En → R Bool} {te : En → R (D × Nat)} {m : Nat} {vs : List Nat} (enc F : β → D) (q : β → Bool) (env0 : En) : ∀ (bs : List β) (acc : List D), acc.length + bs.length ≤ lim →
    (∀ b ∈ bs, ∃ e1 e2, g (enc b) env0 = some e1 ∧ tt e1 = .ok (q b) e2 ∧ (q b = false → wipeE e2 vs = env0) ∧ (q b = true → ∃ e3, te e2 = .ok (F b, m) e3 ∧ wipeE e3 vs = env0)) → compL g tt te m vs (bs.map enc) env0 acc = .ok (acc ++ (bs.filter q).map F) env0
  | [], acc, _, _ => by simp [compL]
  | b :: bs, acc, hl, h => by
    obtain ⟨e1, e2, h1, h2, h3, h4⟩ := h b List.mem_cons_self
    have hl' : acc.length < lim := by simp only [List.length_cons] at hl; omega
    rw [List.map_cons]
    unfold compL
    rw [h1]
    simp only [h2, R.noX_ok, R.bind_ok]
    cases hq : q b with
    | false =>
      have ih := compL_filterT (g := g) (tt := tt) (te := te) (m := m) (vs := vs) enc F q env0 bs acc (by simp only [List.length_cons] at hl; omega) fun b' hb => h b' (List.mem_cons_of_mem _ hb)
      simp only [Bool.false_eq_true, if_false, h3 hq, ih, List.filter_cons, hq]
    | true =>
      obtain ⟨e3, h5, h6⟩ := h4 hq
      have ih := compL_filterT (g := g) (tt := tt) (te := te) (m := m) (vs := vs) enc F q env0 bs (acc ++ [F b]) (by simp only [List.length_append, List.length_cons, List.length_nil] at hl ⊢; omega) fun b' hb => h b' (List.mem_cons_of_mem _ hb)
      simp only [if_true, h5, R.noX_ok, R.bind_ok, hl', and_self, h6, ih, List.filter_cons, hq, List.map_cons, List.append_assoc, List.singleton_append]
theorem comp_filterT {β : Type} {fi : En → R (List D)} {g : D → En → Option En} {tt : En → R Bool} {te : En → R (D × Nat)} {m : Nat} {vs : List Nat} (enc F : β → D) (q : β → Bool) (env0 : En) {env env1 env2 : En} {bs : List β} (hfi : fi env = .ok (bs.map enc) env1) (h0 : wipeE env1 vs = env0) (hb : backE env1 env0 vs = env2) (hl : bs.length ≤ lim)
    (h : ∀ b ∈ bs, ∃ e1 e2, g (enc b) env0 = some e1 ∧ tt e1 = .ok (q b) e2 ∧ (q b = false → wipeE e2 vs = env0) ∧ (q b = true → ∃ e3, te e2 = .ok (F b, m) e3 ∧ wipeE e3 vs = env0)) : comp fi g tt te m vs env = .ok (.lst ((bs.filter q).map F), m + 1) env2 := by
  have q1 := compL_filterT (g := g) (tt := tt) (te := te) (m := m) (vs := vs) enc F q env0 bs [] (by simpa using hl) h
  unfold comp
  rw [hfi]
  simp only [R.bind_ok, h0, q1, List.nil_append, hb]
theorem set_none {env : En} {i : Nat} (hi : env[i]? = some none) : env.set i none = env := by
  apply List.ext_getElem?
  intro j
  rw [List.getElem?_set]
  split
  · rename_i e
    subst e
    split
    · exact hi.symm
    · rename_i h
      exact (h (List.getElem?_eq_some_iff.mp hi).1).elim
  · rfl
/-- one name, an item that changes nothing -/
theorem comp_map1 {β : Type} {fi : En → R (List D)} {te : En → R (D × Nat)} {m i : Nat} (enc F : β → D) {env env1 : En} {bs : List β} (hfi : fi env = .ok (bs.map enc) env1) (hi : env1[i]? = some none) (hl : bs.length ≤ 100000)
    (h : ∀ b ∈ bs, te (env1.set i (some (enc b, 0))) = .ok (F b, m) (env1.set i (some (enc b, 0)))) : comp fi (nameG i) yesT te m [i] env = .ok (.lst (bs.map F), m + 1) env1 := by
  have hlt := (List.getElem?_eq_some_iff.mp hi).1
  refine comp_mapT enc F env1 hfi (set_none hi) ?_ (le_lim hl) fun b hb => ⟨_, _, _, ?_, rfl, h b hb, ?_⟩
  · show env1.set i _ = env1
    rw [hi]
    exact set_none hi
  · unfold nameG
    rw [if_pos hlt]
  · show (env1.set i _).set i none = env1
    rw [List.set_set]
    exact set_none hi
/-- the same with a test -/
theorem comp_filter1 {β : Type} {fi : En → R (List D)} {tt : En → R Bool} {te : En → R (D × Nat)} {m i : Nat} (enc F : β → D) (q : β → Bool) {env env1 : En} {bs : List β} (hfi : fi env = .ok (bs.map enc) env1) (hi : env1[i]? = some none) (hl : bs.length ≤ 100000)
    (h : ∀ b ∈ bs, tt (env1.set i (some (enc b, 0))) = .ok (q b) (env1.set i (some (enc b, 0))) ∧ (q b = true → te (env1.set i (some (enc b, 0))) = .ok (F b, m) (env1.set i (some (enc b, 0))))) : comp fi (nameG i) tt te m [i] env = .ok (.lst ((bs.filter q).map F), m + 1) env1 := by
  have hlt := (List.getElem?_eq_some_iff.mp hi).1
  refine comp_filterT enc F q env1 hfi (set_none hi) ?_ (le_lim hl) fun b hb => ⟨_, _, ?_, (h b hb).1, fun _ => ?_, fun hq => ⟨_, (h b hb).2 hq, ?_⟩⟩
  · show env1.set i _ = env1
    rw [hi]
    exact set_none hi
  · unfold nameG
    rw [if_pos hlt]
  · show (env1.set i _).set i none = env1
    rw [List.set_set]
    exact set_none hi
  · show (env1.set i _).set i none = env1
    rw [List.set_set]
    exact set_none hi
end Pv
end

section
set_option Elab.async false
set_option linter.all false
set_option maxRecDepth 100000
set_option maxHeartbeats 4000000
/-! Pv24: enumerate over lists and tuples. -/
namespace Pv
open PySem PySem.Spec PyProof.Rows L2

theorem mkEnum {vv : Value} {ob : Obj} {Hq : Heap → Prop} (Bg : Begins vv ob Hq) :
    Meets (Builtin.«enumerate.__new__» ⟨[.type "enumerate", vv], []⟩) (fun _ R z => Hq z.heap ∧ R (.ok (.ret (.ref (z.heap.push ob).objs.size))) { z with heap := (z.heap.push ob).push { cls := .type "enumerate", data := .fields #[.none, .bool false, .ref z.heap.objs.size, rawInt 0, .none, .none] } }) :=
  .of_wp fun pr w A R z hz => by
    obtain ⟨h0, gg, dd, tk, os⟩ := z; obtain ⟨hb, hr⟩ := hz
    have hsub := sub_enumerate
    have itq : ∀ {A' : Around} {E : Value → Shared → Prop} {Q : Value → Shared → Prop}, Q (.ref h0.objs.size) ⟨h0.push ob, gg, dd, tk, os⟩ → wpAny (model pr w) A' (pyIter vv) Q E ⟨h0, gg, dd, tk, os⟩ := fun q => Bg.iter pr w _ _ ⟨h0, gg, dd, tk, os⟩ _ hb q
    wp_walk using itq
    refine wpAny_stack_any fun st => wpAny_pure ?_
    split
    · rename_i c _ _ _ _ _
      cases (c == Value.type "enumerate")
      · wp_walk using itq
        exact ⟨_, rfl, hr⟩
      · wp_walk using itq
        exact ⟨_, rfl, hr⟩
    · wp_walk using itq
      exact ⟨_, rfl, hr⟩
section
variable {pr : Program} {w : World} {A : Around} {E : Value → Shared → Prop} {z : Shared}
theorem callEnum {vv : Value} {ob : Obj} {Hq : Heap → Prop} {Q : Value → Shared → Prop} (Bg : Begins vv ob Hq) (hb : Hq z.heap)
    (k : ∀ h', IsEnum h' (z.heap.objs.size + 1) z.heap.objs.size 0 .none → h'.get? z.heap.objs.size = some ob → h'.objs.size = z.heap.objs.size + 2 → (∀ b o, z.heap.get? b = some o → h'.get? b = some o) → Q (.ref (z.heap.objs.size + 1)) { z with heap := h' }) :
    wpAny (model pr w) A (call (.type "enumerate") [vv]) Q E z := by
  refine callType_new F.called_enumerate (by decide) (F.typeCall_enumerate_1 vv) (F.newCall_enumerate_1 vv) (fun ob' => F.args_object_init_2 ob' _) F.entry_enumerate_new (mkEnum Bg) ⟨hb, ?_⟩
  have z1 : (z.heap.push ob).objs.size = z.heap.objs.size + 1 := Heap.size_push ..
  show _ ∧ _
  rw [z1]
  have ie : IsEnum ((z.heap.push ob).push { cls := .type "enumerate", data := .fields #[.none, .bool false, .ref z.heap.objs.size, rawInt 0, .none, .none] }) (z.heap.objs.size + 1) z.heap.objs.size 0 .none := by
    have q := Heap.get?_push_size (z.heap.push ob) (o := { cls := .type "enumerate", data := .fields #[.none, .bool false, .ref z.heap.objs.size, rawInt 0, .none, .none] }) rfl
    rw [z1] at q
    exact q
  exact ⟨⟨_, ie, rfl⟩, k _ ie (Heap.get?_push_of_some _ (Heap.get?_push_size _ Bg.free)) (by rw [Heap.size_push, z1]) fun b o x => Heap.get?_push_of_some _ (Heap.get?_push_of_some _ x)⟩
end
/-- the tuple at a, its items with their places -/
def ItEn (K : PySem.W.Frag) (a : Addr) : It where
  go := fun i Hh => ∃ (us : List V) (u : V), SqT K Hh a us ∧ us[i]? = some u
  yld := fun i Hh y Hh' => ∃ T u, y = .ref T ∧ Hh T = none ∧ Hh' = upd Hh T (.tup [.int (i : Nat), u]) ∧ ∀ us, SqT K Hh a us → us[i]? = some u
  stop := fun i Hh => ∃ us : List V, SqT K Hh a us ∧ us.length = i
theorem turnEn {Pg : Program} {w : World} {K : PySem.W.Frag} {ts : List Expr} {kk : Nat} {tp : Pos} (a e it : Addr) : Turn Pg w K (.Tuple ts kk tp) (ItEn K a) [e, it] e (fun i h => (∃ o, IsEnum h e it ((i : Nat) : Int) o) ∧ h.IsTupleIter it a i ∧ e ≠ it) where
  mem := by simp
  obj := fun i h st b hb => by
    obtain ⟨⟨o1, he⟩, ⟨o, ho, hc, hd⟩, _⟩ := st
    rcases List.mem_cons.mp hb with q | q
    · rw [q]; exact ⟨_, he, fun v q => nomatch q⟩
    · rw [List.mem_singleton.mp q]; exact ⟨o, ho, fun v q => by rw [hd] at q; cases q⟩
  keep := fun i h h' st k => ⟨⟨st.1.choose, k e (by simp) _ st.1.choose_spec⟩, st.2.1.at fun o q => k it (by simp) o q, st.2.2⟩
  item := by
    intro X hP hw hK hc i pins s σ H E I hf st hg
    subst hP hw hK
    obtain ⟨⟨o1, he⟩, hit, hne⟩ := st
    obtain ⟨us, u, hq, hu⟩ := hg
    obtain ⟨its, rv, pt, hz⟩ := I.tuple hq
    obtain ⟨x, hx, rx⟩ := rv.get hu
    have lt1 : e < s.heap.objs.size := Heap.lt_size he
    have lt2 : it < s.heap.objs.size := by obtain ⟨_, q, _⟩ := hit; exact Heap.lt_size q
    have hd := I.ok.hd hc
    have pt : s.heap.IsTuple a its.toArray := pt
    have lt3 : a < s.heap.objs.size := by obtain ⟨_, q, _⟩ := pt; exact Heap.lt_size q
    have hea : a ≠ it := fun q => by
      obtain ⟨o2, q1, q2, _⟩ := pt
      obtain ⟨o3, q3, q4, _⟩ := hit
      rw [q, q3] at q1; cases q1
      rw [q4] at q2; simp at q2
    have hee : e ≠ a := fun q => by
      obtain ⟨o2, q1, q2, _⟩ := pt
      have q3 : s.heap.get? e = _ := he
      rw [q, q1] at q3; cases q3
      simp at q2
    have hi : i < its.toArray.size := by
      have q := (List.getElem?_eq_some_iff.mp hx).1
      simpa using q
    refine wpAny_pyNext_enum_itemD (Draws.tuple (A := X.A.in1) (by simpa using hd) it a hea its.toArray) he ⟨hit, pt⟩ hi hne (by simp [hne, hee]) fun y h' tk hy ho hs' hT hsz hk => ?_
    have hyx : y = x := by
      have q : its.toArray[i]? = some y := hy
      rw [List.getElem?_toArray, hx] at q
      exact (Option.some.inj q).symm
    subst hyx
    refine ⟨_, rfl, wpAny_letOwnedTupleGo_enum (s := { s with heap := h', toks := tk + 1 }) ho fun h'' he' sb => ?_⟩
    have hT2 : h''.get? s.heap.objs.size = some { cls := .type "tuple", data := .seq #[.int i tk, y] } := (sb.2 _ (Nat.ne_of_gt lt1)).trans hT
    have nw : ObjOk X.prog X.w (upd H s.heap.objs.size (.tup [.int (i : Nat), u])) h'' s.heap.objs.size (.tup [.int (i : Nat), u]) :=
      ⟨by show 2 ≤ sizeLine; decide, [.int i tk, y], .cons ⟨_, rfl⟩ (.cons rx .nil), ⟨_, hT2, rfl, _, rfl⟩⟩
    have J : Inv X pins σ (upd H s.heap.objs.size (.tup [.int (i : Nat), u])) { s with heap := h'', toks := tk + 1 } :=
      I.turnedNew (ch := [e, it]) (fun b ob hb q => (sb.2 b (fun z => hb (by simp [z]))).trans (hk b ob (fun z => hb (by simp [z])) (fun z => hb (by simp [z])) q)) hf (Nat.le_refl _) nw
    refine ⟨.ref s.heap.objs.size, _, J, rfl, ⟨_, u, rfl, I.hok.fresh (Nat.le_refl _), rfl, fun ys hy => by rw [I.tuple_inj hy hq]; exact hu⟩, ⟨⟨y, ?_⟩, hs'.1.at fun o q => (sb.2 it (Ne.symm hne)).trans q, hne⟩, fun b hb => ?_⟩
    · have e1 : ((i + 1 : Nat) : Int) = (i : Int) + 1 := by omega
      rw [e1]; exact he'
    · have hb' : b < s.heap.objs.size := by
        rcases List.mem_cons.mp hb with q | q
        · rw [q]; exact lt1
        · rw [List.mem_singleton.mp q]; exact lt2
      rw [upd_ne (Nat.ne_of_lt hb')]
      exact (hf b hb).1
  done := by
    intro X hP hw hK hc i pins s σ H E I hf st hg
    subst hP hw hK
    obtain ⟨⟨o1, he⟩, hit, hne⟩ := st
    obtain ⟨us, hq, hu⟩ := hg
    obtain ⟨its, rv, pt, hz⟩ := I.tuple hq
    obtain ⟨f0, f1, f2, f3, f4, f5⟩ := hf it (by simp)
    have hl := rv.length
    have hd := I.ok.hd hc
    have pt : s.heap.IsTuple a its.toArray := pt
    have hea : a ≠ it := fun q => by
      obtain ⟨o2, q1, q2, _⟩ := pt
      obtain ⟨o3, q3, q4, _⟩ := hit
      rw [q, q3] at q1; cases q1
      rw [q4] at q2; simp at q2
    have hn : i = its.toArray.size := by simp; omega
    subst hn
    exact wpAny_pyNext_enum_endD (Draws.tuple (A := X.A.in1) (by simpa using hd) it a hea its.toArray) he ⟨hit, pt⟩ fun h' eb => ⟨rfl, I.turned (t' := s.toks) (fun b o hb q => eb b o hb q) f0 f1 f3 f4 f5⟩
  self := fun A i s Q E st h => wpAny_pyIter_enum st.1.choose_spec h

def iEnA (K : PySem.W.Frag) (ta : L2.TA) : TI := fun σ H R => ta σ H fun vs H1 => ∃ a xs, vs = [.ref a] ∧ ((SqL K H1 a xs ∧ R (Ite K a) H1) ∨ (SqT K H1 a xs ∧ R (ItEn K a) H1))
theorem pi_enA {X : Cx} {e : Expr} {ta : L2.TA} {p pos tp : Pos} {ts : List Expr} {kk : Nat} (hg : Gl X "enumerate") (hm : X.mg "enumerate" = none) (ha : PA X [e] ta) (hs : starEach [e] X.env = [(false, eval e X.env)] := by rfl) :
    PI X (.Tuple ts kk tp) (.Call (.Name "enumerate" p) [e] [] pos) (iEnA X.K ta) := by
  refine ⟨fun pins s σ H R I h => ?_⟩
  refine Call_ (ld_blt I hg hm boot_enumerate (PyProof.Rows.callWith_type1 (thn (ha.run pos pins s σ H _ I h) fun us s1 ⟨vs, H1, I1, r1, q1⟩ => ?_) hs rfl))
  obtain ⟨a, xs, rfl, q⟩ := q1
  cases r1 with
  | cons r rr =>
    cases rr
    cases r
    have fpo : ∀ h' : Heap, (∀ b o, s1.heap.get? b = some o → h'.get? b = some o) → ∀ b ∈ [s1.heap.objs.size + 1, s1.heap.objs.size], s1.heap.objs.size ≤ b := fun h' hk b hb => by
      rcases List.mem_cons.mp hb with z | z
      · rw [z]; exact Nat.le_add_right _ _
      · rw [List.mem_singleton.mp z]; exact Nat.le_refl _
    rcases q with ⟨hq, q⟩ | ⟨hq, q⟩
    · obtain ⟨its, rv, pl, hz⟩ := I1.list hq
      refine callEnum (begins_list a its.toArray) pl.isList fun h' he hit hsz hk => wpAny_pyIter_enum he ?_
      have I2 : Inv X pins σ H1 { s1 with heap := h' } := I1.kept (t' := s1.toks) hk
      exact ⟨s1.heap.objs.size + 1, [s1.heap.objs.size + 1, s1.heap.objs.size], _, _, H1, rfl, I2, turn_enum a (s1.heap.objs.size + 1) s1.heap.objs.size, ⟨⟨.none, he⟩, ⟨_, hit, rfl, rfl⟩, Nat.succ_ne_self _⟩, fun b hb => I1.fpOk (fpo h' hk b hb) (I1.hok.fresh (fpo h' hk b hb)), q⟩
    · obtain ⟨its, rv, pt, hz⟩ := I1.tuple hq
      refine callEnum (begins_tuple a its.toArray) pt fun h' he hit hsz hk => wpAny_pyIter_enum he ?_
      have I2 : Inv X pins σ H1 { s1 with heap := h' } := I1.kept (t' := s1.toks) hk
      exact ⟨s1.heap.objs.size + 1, [s1.heap.objs.size + 1, s1.heap.objs.size], _, _, H1, rfl, I2, turnEn a (s1.heap.objs.size + 1) s1.heap.objs.size, ⟨⟨.none, he⟩, ⟨_, hit, rfl, rfl⟩, Nat.succ_ne_self _⟩, fun b hb => I1.fpOk (fpo h' hk b hb) (I1.hok.fresh (fpo h' hk b hb)), q⟩
def enumL (xs : List D) : List D := (xs.zipIdx).map fun q => .tup [.int (q.2 : Nat), q.1]
def enumD : List D → Option (List D)
  | [.lst xs] => some (enumL xs)
  | [.tup xs] => some (enumL xs)
  | _ => none
def enumI (f : En → R (List D)) : En → R (List D) := fun env => (f env).bind fun ds env1 => R.of (enumD ds) env1
theorem enumL_get {xs : List D} {i : Nat} {d : D} (h : (enumL xs)[i]? = some d) : ∃ x, xs[i]? = some x ∧ d = .tup [.int (i : Nat), x] := by
  unfold enumL at h
  rw [List.getElem?_map] at h
  obtain ⟨q, hq, rfl⟩ := Option.map_eq_some_iff.mp h
  rw [List.getElem?_zipIdx] at hq
  obtain ⟨x, hx, rfl⟩ := Option.map_eq_some_iff.mp hq
  exact ⟨x, hx, by simp⟩
theorem ei_enum {Γ : Ct} {a : Expr} {p pos : Pos} {ts : List Expr} {kk : Nat} {tpos : Pos} {f : En → R (List D)} (G : Good Γ) (hg : Gl Γ.X "enumerate") (hm : Γ.X.mg "enumerate" = none) (ha : EvA Γ [a] f)
    (hs : starEach [a] Γ.X.env = [(false, eval a Γ.X.env)] := by rfl) : EvI Γ (.Tuple ts kk tpos) (.Call (.Name "enumerate" p) [a] [] pos) (enumI f) := by
  obtain ⟨t, h1, h2⟩ := ha
  refine ⟨_, pi_enA hg hm h1 hs, fun σ H Z env φ S R P => ?_⟩
  refine h2 σ H Z env φ S _ ?_
  unfold enumI at P
  cases e : f env with
  | ex x => rw [e] at P; exact P
  | no => rw [e] at P; exact P
  | ok ds env1 =>
    rw [e] at P
    simp only [Pv.R.bind_ok] at P
    intro vs H1 Z1 φ1 A S1 sh0 dj ev
    have ev' := ev.sub (F2 := Tot φ1) fun _ z => .inl z
    have sh : ShL Γ.C Z1 H1 vs ds := sh0
    cases eD : enumD ds with
    | none => rw [eD] at P; exact P.elim
    | some items =>
     rw [eD] at P
     unfold enumD at eD
     split at eD
     · rename_i xs
       cases eD
       cases sh with
       | cons h r =>
         cases r
         cases h with
         | @lst b us _ hb zb rb =>
           refine ⟨b, us, rfl, .inl ⟨SqL.of hb, P _ H1 Z1 φ1 S1 (fun Z2 H2 x => ?_) ev'⟩⟩
           have hb2 := x.zk b _ zb hb
           have rb2 := rb.ext x
           refine ⟨⟨us, SqL.of hb2, by simp [enumL, rb.length]⟩, fun i d hd => ?_⟩
           obtain ⟨q, hq, rfl⟩ := enumL_get hd
           obtain ⟨w1, e1, s1⟩ := rb2.get' hq
           refine ⟨⟨us, w1, SqL.of hb2, e1⟩, fun y H' hy => ?_⟩
           obtain ⟨T, y1, rfl, hT, rfl, k1⟩ := hy
           have f1 := k1 us (SqL.of hb2)
           rw [e1] at f1; cases f1
           have xn : Ext Z2 H2 Z2 (upd H2 T (.tup [.int (i : Nat), w1])) := Ext.new hT
           exact ⟨.tup (SqT.of upd_same) (.cons (.int _) (.cons (s1.ext xn) .nil)), .inr ⟨T, _, hT, rfl⟩⟩
     · rename_i xs
       cases eD
       cases sh with
       | cons h r =>
         cases r
         cases h with
         | @tup b us _ hb rb =>
           have hb' := hb
           rw [G.hK] at hb'
           refine ⟨b, us, rfl, .inr ⟨hb', P _ H1 Z1 φ1 S1 (fun Z2 H2 x => ?_) ev'⟩⟩
           have hb2 : SqT Γ.X.K H2 b us := by rw [← G.hK]; exact x.sqT hb
           have rb2 := rb.ext x
           refine ⟨⟨us, hb2, by simp [enumL, rb.length]⟩, fun i d hd => ?_⟩
           obtain ⟨q, hq, rfl⟩ := enumL_get hd
           obtain ⟨w1, e1, s1⟩ := rb2.get' hq
           refine ⟨⟨us, w1, hb2, e1⟩, fun y H' hy => ?_⟩
           obtain ⟨T, y1, rfl, hT, rfl, k1⟩ := hy
           have f1 := k1 us hb2
           rw [e1] at f1; cases f1
           have xn : Ext Z2 H2 Z2 (upd H2 T (.tup [.int (i : Nat), w1])) := Ext.new hT
           exact ⟨.tup (SqT.of upd_same) (.cons (.int _) (.cons (s1.ext xn) .nil)), .inr ⟨T, _, hT, rfl⟩⟩
     · cases eD
end Pv
end

section
set_option Elab.async false
set_option linter.all false
set_option maxRecDepth 100000
set_option maxHeartbeats 4000000
/-! Pv25: sorted(set(t)), ranges as values. -/
namespace Pv
open PySem PySem.Spec PyProof.Rows L2

/-- one more in an ascending list without repeats -/
def insU (k : Int) : List Int → List Int
  | [] => [k]
  | x :: xs => if k < x then k :: x :: xs else if k = x then x :: xs else x :: insU k xs
def srtU (ns : List Int) : List Int := ns.foldr insU []
theorem mem_insU (k j : Int) : ∀ l : List Int, j ∈ insU k l ↔ j = k ∨ j ∈ l
  | [] => by simp [insU]
  | x :: xs => by
    unfold insU
    split
    · simp
    · split
      · rename_i h; subst h; simp
      · rw [List.mem_cons, mem_insU k j xs, List.mem_cons]
        constructor
        · rintro (h | h | h)
          · exact .inr (.inl h)
          · exact .inl h
          · exact .inr (.inr h)
        · rintro (h | h | h)
          · exact .inr (.inl h)
          · exact .inl h
          · exact .inr (.inr h)
theorem asc_insU (k : Int) : ∀ l : List Int, l.Pairwise (· < ·) → (insU k l).Pairwise (· < ·)
  | [], _ => by simp [insU]
  | x :: xs, h => by
    have hx := List.pairwise_cons.mp h
    unfold insU
    split
    · rename_i q
      refine List.pairwise_cons.mpr ⟨fun y hy => ?_, h⟩
      rcases List.mem_cons.mp hy with e | hy
      · rw [e]; exact q
      · have := hx.1 y hy; omega
    · split
      · exact h
      · rename_i q1 q2
        refine List.pairwise_cons.mpr ⟨fun y hy => ?_, asc_insU k xs hx.2⟩
        rcases (mem_insU k y xs).mp hy with e | hy
        · rw [e]; omega
        · exact hx.1 y hy
theorem mem_srtU (j : Int) : ∀ ns : List Int, j ∈ srtU ns ↔ j ∈ ns
  | [] => by simp [srtU]
  | n :: ns => by
    have ih := mem_srtU j ns
    show j ∈ insU n (srtU ns) ↔ _
    rw [mem_insU, ih, List.mem_cons]
theorem asc_srtU : ∀ ns : List Int, (srtU ns).Pairwise (· < ·)
  | [] => .nil
  | n :: ns => asc_insU n _ (asc_srtU ns)
theorem asc_unique : ∀ {l r : List Int}, l.Pairwise (· < ·) → r.Pairwise (· < ·) → (∀ j, j ∈ l ↔ j ∈ r) → l = r
  | [], [], _, _, _ => rfl
  | [], y :: _, _, _, h => by have := (h y).mpr List.mem_cons_self; cases this
  | x :: _, [], _, _, h => by have := (h x).mp List.mem_cons_self; cases this
  | x :: xs, y :: ys, h1, h2, h => by
    have a1 := List.pairwise_cons.mp h1
    have a2 := List.pairwise_cons.mp h2
    have e : x = y := by
      rcases List.mem_cons.mp ((h x).mp List.mem_cons_self) with q | q
      · exact q
      · rcases List.mem_cons.mp ((h y).mpr List.mem_cons_self) with q' | q'
        · exact q'.symm
        · have := a2.1 x q; have := a1.1 y q'; omega
    subst e
    rw [asc_unique a1.2 a2.2 fun j => ?_]
    constructor
    · intro hj
      rcases List.mem_cons.mp ((h j).mp (List.mem_cons_of_mem _ hj)) with q | q
      · have := a1.1 j hj; omega
      · exact q
    · intro hj
      rcases List.mem_cons.mp ((h j).mpr (List.mem_cons_of_mem _ hj)) with q | q
      · have := a2.1 j hj; omega
      · exact q
def rSetTI (K : PySem.W.Frag) (w : World) : List V → Hp → VK → Prop := fun vs H Q => ∃ (p : Addr) (ns : List Int), vs = [.ref p] ∧ SqT K H p (ns.map V.int) ∧ ns.length ≤ 60 ∧ ∀ a c, H a = none → c ≤ ns.length → Q (.ref a) (upd H a (SetO w a (fun j => decide (j ∈ ns)) c))
theorem cr_setTI {X : Cx} (hc : X.calm = true) : CallR X (.type "set") (rSetTI X.K X.w) := by
  intro pins s σ H vs us Q I r h
  obtain ⟨p0, ns, rfl, hq, hl, q⟩ := h
  rw [Vals.ref1 r]
  obtain ⟨its, rv, pt, hz⟩ := I.tuple hq
  have hi : IntsAre its.toArray.toList ns := ints_of_vals rv
  refine call_set_tupI ns (I.ok.hd hc) (show s.heap.IsTuple p0 its.toArray from pt) hi (by unfold scanBound; omega) fun h' tk c R1 hcn k => ?_
  have hn : H s.heap.objs.size = none := I.hok.fresh (Nat.le_refl _)
  have J : Inv X pins σ (upd H s.heap.objs.size (SetO X.w s.heap.objs.size (fun j => decide (j ∈ ns)) c)) { s with heap := h', toks := tk } :=
    I.call (ch := []) (Un.laid k (Nat.le_refl _) hn) (I.hok.laid k (Nat.le_refl _) (setO_new R1)) I.bare (fun _ z => nomatch z)
  exact ⟨.ref _, _, J, rfl, q _ c hn hcn⟩
def ssetD : D → Option (D × Nat)
  | .tup xs => match D.ints xs with
    | some ns => if ns.length ≤ 60 then some (.lst ((srtU ns).map D.int), 1) else none
    | none => none
  | _ => none
section
variable {Γ : Ct} {a : Expr} {fa : En → R Opd} {p p2 q pos : Pos}
theorem ev_sset (G : Good Γ) (hg : Gl Γ.X "sorted") (hm : Γ.X.mg "sorted" = none) (hg2 : Gl Γ.X "set") (hm2 : Γ.X.mg "set" = none) (ha : EvO Γ a fa) (hs : starEach [a] Γ.X.env = [(false, eval a Γ.X.env)] := by rfl)
    (hs2 : starEach [.Call (.Name "set" p2) [a] [] q] Γ.X.env = [(false, eval (.Call (.Name "set" p2) [a] [] q) Γ.X.env)] := by rfl) : EvE Γ (.Call (.Name "sorted" p) [.Call (.Name "set" p2) [a] [] q] [] pos) (op1 ssetD fa) := by
  obtain ⟨t, h1, h2⟩ := ha
  have pa : PA Γ.X [a] (tCons t tNil) := pa_cons h1 pa_nil hs
  have pe1 := pe_callTy (p := p2) (pos := q) (cr_setTI G.calm) hg2 hm2 PyProof.Rows.boot_set pa (by decide) (by decide) hs rfl
  have pa2 := pa_cons pe1 pa_nil hs2
  have pe2 := pe_callB (p := p) (pos := pos) (cr_sortedSet G.calm) hg hm (by decide +kernel) pa2 (by decide) (by decide) hs2 rfl
  refine ⟨_, pe2, h2.op1 (r := fun v H Q => rSetTI Γ.X.K Γ.X.w [v] H fun u H2 => rSortedSet Γ.X.w [u] H2 Q) fun σ H Z env φ S x d pp hx hgd Q P => ?_⟩
  unfold ssetD at hgd
  split at hgd
  · rename_i xs
    split at hgd
    · rename_i ns hns
      split at hgd
      · rename_i hl
        cases hgd
        have e := D.ints_eq hns
        subst e
        obtain ⟨b, us, rfl, hb, r⟩ := hx.tupI
        rw [G.hK] at hb
        have e2 := r.ints
        subst e2
        refine ⟨b, ns, rfl, hb, hl, fun b2 c hb2 hcn => ⟨b2, _, c, rfl, upd_same, by omega, fun ns' p2 hp1 hp2 hp3 hp4 => ?_⟩⟩
        have e3 : ns' = srtU ns := asc_unique hp1 (asc_srtU ns) fun j => by rw [hp2, mem_srtU, decide_eq_true_eq]
        subst e3
        exact Post.newL (P.mono (Evo.new hb2 fun _ z => .inl z)) (S.new hb2) hp4 (Ow.lst1 upd_same shl_ints)
      · cases hgd
    · cases hgd
  · cases hgd
/-! ranges as values -/
def rgL (i j : Int) : List Int := (List.range (j - i).toNat).map fun k : Nat => i + k
def rgOkB (i j : Int) : Bool := rgB i j && decide ((j - i).toNat ≤ lim)
theorem rgOkB_ok {i j : Int} (h : rgOkB i j = true) : RgOk i j := by
  unfold rgOkB at h
  rw [Bool.and_eq_true, decide_eq_true_eq] at h
  have h1 := rgB_ok h.1
  have h2 : (j - i).toNat ≤ 2 ^ 24 := Nat.le_trans h.2 (by decide)
  exact ⟨h1.1, h1.2.1, h1.2.2.1, h1.2.2.2, h2⟩
theorem rgV_eq (i j : Int) : rgV i j = (rgL i j).map V.int := by
  unfold rgV rgL
  rw [List.map_map]
  rfl
def lrg1D : D → Option (D × Nat)
  | .int n => if rgOkB 0 n = true then some (.lst ((rgL 0 n).map D.int), 1) else none
  | _ => none
def trg1D : D → Option (D × Nat)
  | .int n => if rgOkB 0 n = true then some (.tup ((rgL 0 n).map D.int), 0) else none
  | _ => none
def lrg2D : D → D → Option (D × Nat)
  | .int m, .int n => if rgOkB m n = true then some (.lst ((rgL m n).map D.int), 1) else none
  | _, _ => none
theorem ev_lrg1 (G : Good Γ) (hg : Gl Γ.X "list") (hm : Γ.X.mg "list" = none) (hg2 : Gl Γ.X "range") (hm2 : Γ.X.mg "range" = none) (ha : EvO Γ a fa) (hs : starEach [a] Γ.X.env = [(false, eval a Γ.X.env)] := by rfl)
    (hs2 : starEach [.Call (.Name "range" p2) [a] [] q] Γ.X.env = [(false, eval (.Call (.Name "range" p2) [a] [] q) Γ.X.env)] := by rfl) : EvE Γ (.Call (.Name "list" p) [.Call (.Name "range" p2) [a] [] q] [] pos) (op1 lrg1D fa) := by
  obtain ⟨t, h1, h2⟩ := ha
  refine ⟨_, pe_listRg G.calm hg hm (prg_1 hg2 hm2 h1 hs) hs2, h2.op1 (r := fun v H Q => ∃ n, v = .int n ∧ RgOk 0 n ∧ ∀ q, H q = none → Q (.ref q) (upd H q (.lst (rgV 0 n)))) fun σ H Z env φ S x d pp hx hgd Q P => ?_⟩
  unfold lrg1D at hgd
  split at hgd
  · split at hgd
    · rename_i n hn
      cases hgd
      refine ⟨n, hx.intI, rgOkB_ok hn, fun b hb => ?_⟩
      rw [rgV_eq]
      exact Post.newL P S hb (Ow.lst1 upd_same shl_ints)
    · cases hgd
  · cases hgd
theorem ev_trg1 (G : Good Γ) (hg : Gl Γ.X "tuple") (hm : Γ.X.mg "tuple" = none) (hg2 : Gl Γ.X "range") (hm2 : Γ.X.mg "range" = none) (ha : EvO Γ a fa) (hs : starEach [a] Γ.X.env = [(false, eval a Γ.X.env)] := by rfl)
    (hs2 : starEach [.Call (.Name "range" p2) [a] [] q] Γ.X.env = [(false, eval (.Call (.Name "range" p2) [a] [] q) Γ.X.env)] := by rfl) : EvE Γ (.Call (.Name "tuple" p) [.Call (.Name "range" p2) [a] [] q] [] pos) (op1 trg1D fa) := by
  obtain ⟨t, h1, h2⟩ := ha
  refine ⟨_, pe_tupRg G.calm hg hm (prg_1 hg2 hm2 h1 hs) hs2, h2.op1 (r := fun v H Q => ∃ n, v = .int n ∧ RgOk 0 n ∧ ∀ q, H q = none → Q (.ref q) (upd H q (.tup (rgV 0 n)))) fun σ H Z env φ S x d pp hx hgd Q P => ?_⟩
  unfold trg1D at hgd
  split at hgd
  · split at hgd
    · rename_i n hn
      cases hgd
      refine ⟨n, hx.intI, rgOkB_ok hn, fun b hb => ?_⟩
      rw [rgV_eq]
      exact Post.newT P S hb (Ow.sh (.tup (SqT.of upd_same) shl_ints))
    · cases hgd
  · cases hgd
theorem ev_lrg2 {b : Expr} {fb : En → R Opd} (G : Good Γ) (hg : Gl Γ.X "list") (hm : Γ.X.mg "list" = none) (hg2 : Gl Γ.X "range") (hm2 : Γ.X.mg "range" = none) (ha : EvO Γ a fa) (hb : EvO Γ b fb) (hs : starEach [a, b] Γ.X.env = (false, eval a Γ.X.env) :: starEach [b] Γ.X.env := by rfl)
    (hs1 : starEach [b] Γ.X.env = (false, eval b Γ.X.env) :: starEach [] Γ.X.env := by rfl) (hpl : (backTo q (starEach [b] Γ.X.env)).any (·.1) = false := by rfl)
    (hs2 : starEach [.Call (.Name "range" p2) [a, b] [] q] Γ.X.env = [(false, eval (.Call (.Name "range" p2) [a, b] [] q) Γ.X.env)] := by rfl) : EvE Γ (.Call (.Name "list" p) [.Call (.Name "range" p2) [a, b] [] q] [] pos) (op2 lrg2D fa fb) := by
  refine ev_op2 (ta := fun _ _ _ _ => False) (mk := fun x _ => x) (r := fun x y H Q => ∃ m n, x = .int m ∧ y = .int n ∧ RgOk m n ∧ ∀ q, H q = none → Q (.ref q) (upd H q (.lst (rgV m n)))) ha hb (fun ta tb h1 h2 => pe_listRg G.calm hg hm (prg_2 hg2 hm2 h1 h2 hs hs1 hpl) hs2) fun σ H Z env φ S x y d e pp hx hy hgd Q P => ?_
  unfold lrg2D at hgd
  split at hgd
  · split at hgd
    · rename_i m n hn
      cases hgd
      refine ⟨m, n, hx.intI, hy.intI, rgOkB_ok hn, fun b hb => ?_⟩
      rw [rgV_eq]
      exact Post.newL P S hb (Ow.lst1 upd_same shl_ints)
    · cases hgd
  · cases hgd
theorem rgL_nat {n : Nat} : rgL 0 (n : Int) = (List.range n).map fun k : Nat => (k : Int) := by
  unfold rgL
  have e : ((n : Int) - 0).toNat = n := by omega
  rw [e]
  exact List.map_congr_left fun k _ => Int.zero_add _
theorem rgOkB_nat {n : Nat} (h : n ≤ 100000) : rgOkB 0 (n : Int) = true := by
  unfold rgOkB
  rw [Bool.and_eq_true, decide_eq_true_eq]
  refine ⟨?_, ?_⟩
  · unfold rgB
    rw [Bool.and_eq_true]
    exact ⟨Nat.ble_eq_true_of_le (by omega), Nat.ble_eq_true_of_le (by omega)⟩
  · have e : ((n : Int) - 0).toNat = n := by omega
    rw [e]; exact le_lim h
end
end Pv
end

section
set_option Elab.async false
set_option linter.all false
set_option maxRecDepth 100000
set_option maxHeartbeats 4000000
/-! Pv26: sorted(ints, reverse=True). -/
namespace Pv
open PySem PySem.Spec PyProof.Rows L2
def insD (k : Int) : List Int → List Int
  | [] => [k]
  | x :: xs => if x ≤ k then k :: x :: xs else x :: insD k xs
def srtDn (ns : List Int) : List Int := ns.foldr insD []
theorem perm_insD (k : Int) : ∀ l : List Int, (insD k l).Perm (k :: l)
  | [] => .refl _
  | x :: xs => by
    unfold insD
    split
    · exact .refl _
    · exact ((perm_insD k xs).cons x).trans (.swap k x xs)
theorem desc_insD (k : Int) : ∀ l : List Int, l.Pairwise (· ≥ ·) → (insD k l).Pairwise (· ≥ ·)
  | [], _ => by simp [insD]
  | x :: xs, h => by
    have hx := List.pairwise_cons.mp h
    unfold insD
    split
    · rename_i q
      refine List.pairwise_cons.mpr ⟨fun y hy => ?_, h⟩
      rcases List.mem_cons.mp hy with e | hy
      · rw [e]; exact q
      · have := hx.1 y hy; omega
    · rename_i q
      refine List.pairwise_cons.mpr ⟨fun y hy => ?_, desc_insD k xs hx.2⟩
      rcases List.mem_cons.mp ((perm_insD k xs).mem_iff.mp hy) with e | hy
      · rw [e]; omega
      · exact hx.1 y hy
theorem perm_srtDn : ∀ ns : List Int, (srtDn ns).Perm ns
  | [] => .refl _
  | n :: ns => (perm_insD n _).trans ((perm_srtDn ns).cons n)
theorem desc_srtDn : ∀ ns : List Int, (srtDn ns).Pairwise (· ≥ ·)
  | [] => .nil
  | n :: ns => desc_insD n _ (desc_srtDn ns)
theorem desc_unique : ∀ {l r : List Int}, l.Pairwise (· ≥ ·) → r.Pairwise (· ≥ ·) → l.Perm r → l = r
  | [], r, _, _, h => by rw [List.Perm.eq_nil h.symm]
  | x :: xs, [], _, _, h => by have := h.length_eq; simp at this
  | x :: xs, y :: ys, h1, h2, h => by
    have a1 := List.pairwise_cons.mp h1
    have a2 := List.pairwise_cons.mp h2
    have e : x = y := by
      have k1 : y ≥ x := by
        rcases List.mem_cons.mp (h.mem_iff.mp List.mem_cons_self) with q | q
        · rw [q]; exact Int.le_refl _
        · exact a2.1 x q
      have k2 : x ≥ y := by
        rcases List.mem_cons.mp (h.mem_iff.mpr List.mem_cons_self) with q | q
        · rw [q]; exact Int.le_refl _
        · exact a1.1 y q
      omega
    subst e
    rw [desc_unique a1.2 a2.2 (List.Perm.cons_inv h)]
def sortRD : D → Option (D × Nat)
  | .lst xs => match D.ints xs with
    | some ns => some (.lst ((srtDn ns).map D.int), 1)
    | none => none
  | _ => none
section
variable {Γ : Ct} {a : Expr} {fa : En → R Opd} {p pos kpos p3 : Pos} {j : Nat}
theorem ev_sortR (hg : Gl Γ.X "sorted") (hm : Γ.X.mg "sorted" = none) (ha : EvO Γ a fa) (hs : starEach [a] Γ.X.env = [(false, eval a Γ.X.env)] := by rfl)
    (he : backTo pos (starEach [a] Γ.X.env) = (false, eval a Γ.X.env) :: backTo pos (starEach [] Γ.X.env) := by rfl) (hpl : (backTo pos (starEach [a] Γ.X.env)).any (·.1) = false := by rfl)
    (hall : (backToKw pos (keywordEach [⟨some "reverse", .Constant (.bool true) j p3, kpos⟩] Γ.X.env)).all (·.1.isSome) = true := by rfl) (hnone : (backToKw pos (keywordEach [⟨some "reverse", .Constant (.bool true) j p3, kpos⟩] Γ.X.env)).any (·.1.isNone) = false := by rfl)
    (hks : (backToKw pos (keywordEach [⟨some "reverse", .Constant (.bool true) j p3, kpos⟩] Γ.X.env)).filterMap (·.1) = [Str.ofString "reverse"] := by rfl) :
    EvE Γ (.Call (.Name "sorted" p) [a] [⟨some "reverse", .Constant (.bool true) j p3, kpos⟩] pos) (op1 sortRD fa) := by
  obtain ⟨t, h1, h2⟩ := ha
  have pa : PA Γ.X [a] (tCons t tNil) := pa_cons h1 pa_nil hs
  have pk : PK Γ.X [⟨some "reverse", .Constant (.bool true) j p3, kpos⟩] (tCons (tC (.bl true)) tNil) := pk_cons pe_bl pk_nil
  have pe2 := pe_callBK (p := p) (pos := pos) (cr_sortedRev (X := Γ.X) (b := true)) hg hm (by decide +kernel) pa pk (by decide) (by decide) he hpl hall hnone hks
  refine ⟨_, pe2, h2.op1 (r := fun v H Q => rSortedKw Γ.X.K true [.bl true] [v] [.bl true] H Q) fun σ H Z env φ S x d pp hx hgd Q P => ?_⟩
  unfold sortRD at hgd
  split at hgd
  · rename_i xs
    split at hgd
    · rename_i ns hns
      cases hgd
      have e := D.ints_eq hns
      subst e
      obtain ⟨b, us, rfl, hb, r⟩ := hx.lstI
      have e2 := r.ints
      subst e2
      refine ⟨b, ns, rfl, rfl, SqL.of hb, fun ns' p hp ho hp0 => ?_⟩
      have e3 : ns' = srtDn ns := desc_unique ho (desc_srtDn ns) (hp.trans (perm_srtDn ns).symm)
      subst e3
      exact Post.newL P S hp0 (Ow.lst1 upd_same shl_ints)
    · cases hgd
  · cases hgd
end
end Pv
end

section
set_option Elab.async false
set_option linter.all false
set_option maxRecDepth 100000
set_option maxHeartbeats 4000000
/-! Pv27: == of plain data (None, ints, texts, tuples, lists). -/
namespace Pv
open PySem PySem.Spec PyProof.Rows L2
mutual
def plD : D → Bool
  | .non => true
  | .int _ => true
  | .str s => PyData.strOk s
  | .tup ds => plL ds
  | .lst ds => plL ds
  | .bl _ => false
  | .fn _ => false
  | .dic _ _ => false
  | .scr _ => false
def plL : List D → Bool
  | [] => true
  | d :: ds => plD d && plL ds
end
mutual
def dpD : D → Nat
  | .tup ds => dpL ds + 1
  | .lst ds => dpL ds + 1
  | .non => 0
  | .int _ => 0
  | .str _ => 0
  | .bl _ => 0
  | .fn _ => 0
  | .dic _ _ => 0
  | .scr _ => 0
def dpL : List D → Nat
  | [] => 0
  | d :: ds => max (dpD d) (dpL ds)
end
mutual
def enP : D → PyData
  | .int i => .int i
  | .str s => .str s
  | .tup ds => .tuple (enPL ds)
  | .lst ds => .list (enPL ds)
  | .non => .none
  | .bl b => .bool b
  | .fn _ => .none
  | .dic _ _ => .none
  | .scr _ => .none
def enPL : List D → List PyData
  | [] => []
  | d :: ds => enP d :: enPL ds
end
mutual
theorem py_enP : ∀ d : D, plD d = true → D.py d = some (enP d)
  | .non, _ => rfl
  | .int _, _ => rfl
  | .str _, _ => rfl
  | .tup ds, h => by
    rw [D.py, pyL_enP ds (by simpa [plD] using h), enP]; rfl
  | .lst ds, h => by
    rw [D.py, pyL_enP ds (by simpa [plD] using h), enP]; rfl
  | .bl _, h => by simp [plD] at h
  | .fn _, h => by simp [plD] at h
  | .dic _ _, h => by simp [plD] at h
  | .scr _, h => by simp [plD] at h
theorem pyL_enP : ∀ ds : List D, plL ds = true → D.pyL ds = some (enPL ds)
  | [], _ => rfl
  | d :: ds, h => by
    rw [plL, Bool.and_eq_true] at h
    rw [D.pyL, py_enP d h.1, pyL_enP ds h.2, enPL]
end
mutual
theorem lay_enP : ∀ d : D, plD d = true → (enP d).canLay0 = true
  | .non, _ => by simp [enP, PyData.canLay0]
  | .int _, _ => by simp [enP, PyData.canLay0]
  | .str s, h => by
    rw [plD] at h
    simp [enP, PyData.canLay0, h]
  | .tup ds, h => by
    rw [enP, PyData.canLay0]; exact lay_enPL ds (by simpa [plD] using h)
  | .lst ds, h => by
    rw [enP, PyData.canLay0]; exact lay_enPL ds (by simpa [plD] using h)
  | .bl _, h => by simp [plD] at h
  | .fn _, h => by simp [plD] at h
  | .dic _ _, h => by simp [plD] at h
  | .scr _, h => by simp [plD] at h
theorem lay_enPL : ∀ ds : List D, plL ds = true → PyData.canLayAll0 (enPL ds) = true
  | [], _ => by simp [enPL, PyData.canLayAll0]
  | d :: ds, h => by
    rw [plL, Bool.and_eq_true] at h
    rw [enPL, PyData.canLayAll0, lay_enP d h.1, lay_enPL ds h.2]
    rfl
end
mutual
theorem dep_enP : ∀ d : D, (enP d).depth = dpD d
  | .non => by simp [enP, PyData.depth, dpD]
  | .int _ => by simp [enP, PyData.depth, dpD]
  | .str s => by simp [enP, PyData.depth, dpD]
  | .tup ds => by rw [enP, PyData.depth, dpD, dep_enPL ds]
  | .lst ds => by rw [enP, PyData.depth, dpD, dep_enPL ds]
  | .bl _ => by simp [enP, PyData.depth, dpD]
  | .fn _ => by simp [enP, PyData.depth, dpD]
  | .dic _ _ => by simp [enP, PyData.depth, dpD]
  | .scr _ => by simp [enP, PyData.depth, dpD]
theorem dep_enPL : ∀ ds : List D, PyData.depthAll (enPL ds) = dpL ds
  | [] => by simp [enPL, PyData.depthAll, dpL]
  | d :: ds => by rw [enPL, PyData.depthAll, dpL, dep_enP d, dep_enPL ds]
end
mutual
theorem eqv_enP : ∀ d e : D, plD d = true → plD e = true → (PyData.eqv (enP d) (enP e) = true ↔ d = e)
  | .non, e, _, h => by cases e <;> simp [plD] at h <;> simp [enP, PyData.eqv]
  | .int i, e, _, h => by cases e <;> simp [plD] at h <;> simp [enP, PyData.eqv]
  | .str s, e, _, h => by cases e <;> simp [plD] at h <;> simp [enP, PyData.eqv]
  | .tup ds, e, h0, h => by
    have h0 : plL ds = true := by simpa [plD] using h0
    cases e with
    | tup es =>
      have h : plL es = true := by simpa [plD] using h
      have ih := eqv_enPL ds es h0 h
      rw [enP, enP, PyData.eqv, ih]
      simp
    | non => simp [enP, PyData.eqv]
    | int _ => simp [enP, PyData.eqv]
    | str _ => simp [enP, PyData.eqv]
    | lst _ => simp [enP, PyData.eqv]
    | bl _ => simp [plD] at h
    | fn _ => simp [plD] at h
    | dic _ _ => simp [plD] at h
    | scr _ => simp [plD] at h
  | .lst ds, e, h0, h => by
    have h0 : plL ds = true := by simpa [plD] using h0
    cases e with
    | lst es =>
      have h : plL es = true := by simpa [plD] using h
      have ih := eqv_enPL ds es h0 h
      rw [enP, enP, PyData.eqv, ih]
      simp
    | non => simp [enP, PyData.eqv]
    | int _ => simp [enP, PyData.eqv]
    | str _ => simp [enP, PyData.eqv]
    | tup _ => simp [enP, PyData.eqv]
    | bl _ => simp [plD] at h
    | fn _ => simp [plD] at h
    | dic _ _ => simp [plD] at h
    | scr _ => simp [plD] at h
  | .bl _, _, h, _ => by simp [plD] at h
  | .fn _, _, h, _ => by simp [plD] at h
  | .dic _ _, _, h, _ => by simp [plD] at h
  | .scr _, _, h, _ => by simp [plD] at h
theorem eqv_enPL : ∀ ds es : List D, plL ds = true → plL es = true → (PyData.eqvAll (enPL ds) (enPL es) = true ↔ ds = es)
  | [], [], _, _ => by simp [enPL, PyData.eqvAll]
  | [], _ :: _, _, _ => by simp [enPL, PyData.eqvAll]
  | _ :: _, [], _, _ => by simp [enPL, PyData.eqvAll]
  | d :: ds, e :: es, h0, h => by
    rw [plL, Bool.and_eq_true] at h0 h
    rw [enPL, enPL, PyData.eqvAll, Bool.and_eq_true, eqv_enP d e h0.1 h.1, eqv_enPL ds es h0.2 h.2]
    simp
end
/-- plain data, not deep -/
structure PlD (d : D) : Prop where
  p : plD d = true
  d : dpD d ≤ 64
theorem eqB_pl {d e : D} (h0 : PlD d) (h : PlD e) : ∃ b, eqB d e = some b ∧ (b = true ↔ d = e) := by
  refine ⟨PyData.eqv (enP d) (enP e), ?_, eqv_enP d e h0.p h.p⟩
  unfold eqB
  rw [py_enP d h0.p, py_enP e h.p]
  have s0 : SeqAt.shaped (enP d) = true := by
    unfold SeqAt.shaped
    rw [lay_enP d h0.p, dep_enP, Bool.true_and]
    exact decide_eq_true h0.d
  have s1 : SeqAt.shaped (enP e) = true := by
    unfold SeqAt.shaped
    rw [lay_enP e h.p, dep_enP, Bool.true_and]
    exact decide_eq_true h.d
  simp only [s0, s1, Bool.and_self, if_true]
theorem eqB_same {d : D} (h : PlD d) : eqB d d = some true := by
  obtain ⟨b, h1, h2⟩ := eqB_pl h h
  rw [h1, h2.mpr rfl]
theorem eqB_diff {d e : D} (h0 : PlD d) (h : PlD e) (hn : d ≠ e) : eqB d e = some false := by
  obtain ⟨b, h1, h2⟩ := eqB_pl h0 h
  cases b with
  | true => exact (hn (h2.mp rfl)).elim
  | false => exact h1
theorem eqD_same {d : D} (h : PlD d) : eqD d d = some (.bl true, 0) := by simp [eqD, eqB_same h]
theorem neD_same {d : D} (h : PlD d) : neD d d = some (.bl false, 0) := by simp [neD, eqB_same h]
theorem eqD_diff {d e : D} (h0 : PlD d) (h : PlD e) (hn : d ≠ e) : eqD d e = some (.bl false, 0) := by simp [eqD, eqB_diff h0 h hn]
theorem neD_diff {d e : D} (h0 : PlD d) (h : PlD e) (hn : d ≠ e) : neD d e = some (.bl true, 0) := by simp [neD, eqB_diff h0 h hn]
theorem plL_all : ∀ ds : List D, plL ds = ds.all plD
  | [] => rfl
  | d :: ds => by rw [plL, plL_all ds]; rfl
theorem dpL_le {k : Nat} : ∀ {ds : List D}, (∀ d ∈ ds, dpD d ≤ k) → dpL ds ≤ k
  | [], _ => Nat.zero_le _
  | d :: ds, h => by
    rw [dpL]
    exact Nat.max_le.mpr ⟨h d List.mem_cons_self, dpL_le fun e he => h e (List.mem_cons_of_mem _ he)⟩
theorem PlD.tup {ds : List D} {k : Nat} (h : ∀ d ∈ ds, plD d = true ∧ dpD d ≤ k) (hk : k < 64) : PlD (.tup ds) :=
  ⟨by rw [plD, plL_all, List.all_eq_true]; exact fun d hd => (h d hd).1, by rw [dpD]; have := dpL_le fun d hd => (h d hd).2; omega⟩
theorem PlD.lst {ds : List D} {k : Nat} (h : ∀ d ∈ ds, plD d = true ∧ dpD d ≤ k) (hk : k < 64) : PlD (.lst ds) :=
  ⟨by rw [plD, plL_all, List.all_eq_true]; exact fun d hd => (h d hd).1, by rw [dpD]; have := dpL_le fun d hd => (h d hd).2; omega⟩
end Pv
end

section
set_option Elab.async false
set_option linter.all false
set_option maxRecDepth 100000
set_option maxHeartbeats 4000000
/-! Pm1: partings: first numbering, restricted growth, kernels. -/
namespace PM
theorem snocInd {α : Type} {P : List α → Prop} (h0 : P []) (hs : ∀ xs x, P xs → P (xs ++ [x])) (xs : List α) : P xs := by
  have key : ∀ l : List α, P l.reverse := by
    intro l
    induction l with
    | nil => exact h0
    | cons a l ih => rw [List.reverse_cons]; exact hs _ _ ih
  have := key xs.reverse
  rwa [List.reverse_reverse] at this
def stepN (st : List Int × List Int) (m : Int) : List Int × List Int := if m ∈ st.1 then (st.1, st.2 ++ [((st.1.idxOf m : Nat) : Int)]) else (st.1 ++ [m], st.2 ++ [((st.1.length : Nat) : Int)])
def stN (xs : List Int) : List Int × List Int := xs.foldl stepN ([], [])
def fnum (xs : List Int) : List Int := (stN xs).2
theorem stN_snoc (xs : List Int) (m : Int) : stN (xs ++ [m]) = stepN (stN xs) m := by
  unfold stN
  rw [List.foldl_append]
  rfl
theorem mem_foldN (j : Int) : ∀ (xs : List Int) (st : List Int × List Int), j ∈ (xs.foldl stepN st).1 ↔ j ∈ st.1 ∨ j ∈ xs
  | [], st => by simp
  | m :: xs, st => by
    rw [List.foldl_cons, mem_foldN j xs, List.mem_cons]
    unfold stepN
    split
    · rename_i h
      constructor
      · rintro (q | q)
        · exact .inl q
        · exact .inr (.inr q)
      · rintro (q | rfl | q)
        · exact .inl q
        · exact .inl h
        · exact .inr q
    · simp only [List.mem_append, List.mem_singleton]
      constructor
      · rintro ((q | q) | q)
        · exact .inl q
        · exact .inr (.inl q)
        · exact .inr (.inr q)
      · rintro (q | q | q)
        · exact .inl (.inl q)
        · exact .inl (.inr q)
        · exact .inr q
theorem mem_stN {j : Int} {xs : List Int} : j ∈ (stN xs).1 ↔ j ∈ xs := by
  unfold stN
  rw [mem_foldN]
  simp
theorem len_foldN : ∀ (xs : List Int) (st : List Int × List Int), (xs.foldl stepN st).2.length = st.2.length + xs.length
  | [], st => by simp
  | m :: xs, st => by
    rw [List.foldl_cons, len_foldN xs]
    unfold stepN
    split <;> simp <;> omega
theorem len_fnum (xs : List Int) : (fnum xs).length = xs.length := by
  unfold fnum stN
  rw [len_foldN]
  simp
def rgI (K : Nat) : List Int := (List.range K).map fun k : Nat => (k : Int)
theorem mem_rgI {j : Int} {K : Nat} : j ∈ rgI K ↔ 0 ≤ j ∧ j < K := by
  unfold rgI
  rw [List.mem_map]
  constructor
  · rintro ⟨a, ha, rfl⟩
    have := List.mem_range.mp ha
    omega
  · rintro ⟨h1, h2⟩
    exact ⟨j.toNat, List.mem_range.mpr (by omega), by omega⟩
theorem rgI_succ (K : Nat) : rgI (K + 1) = rgI K ++ [(K : Int)] := by
  unfold rgI
  rw [List.range_succ, List.map_append]
  rfl
theorem rgI_len (K : Nat) : (rgI K).length = K := by simp [rgI]
theorem idx_rgI {K c : Nat} (h : c < K) : (rgI K).idxOf (c : Int) = c := by
  induction K with
  | zero => omega
  | succ K ih =>
    rw [rgI_succ, List.idxOf_append]
    by_cases hc : c < K
    · have : (c : Int) ∈ rgI K := mem_rgI.mpr ⟨by omega, by omega⟩
      rw [if_pos this, ih hc]
    · have e : c = K := by omega
      subst e
      have : ¬ (c : Int) ∈ rgI c := fun q => by have := (mem_rgI.mp q).2; omega
      rw [if_neg this, rgI_len]
      simp
/-- a parting with K blocks -/
def RG (K : Nat) (xs : List Int) : Prop := stN xs = (rgI K, xs)
theorem rg_nil : RG 0 [] := rfl
theorem rg_old {K c : Nat} {xs : List Int} (h : RG K xs) (hc : c < K) : RG K (xs ++ [(c : Int)]) := by
  unfold RG at h ⊢
  rw [stN_snoc, h]
  unfold stepN
  rw [if_pos (mem_rgI.mpr ⟨by omega, by omega⟩)]
  simp only [idx_rgI hc]
theorem rg_new {K : Nat} {xs : List Int} (h : RG K xs) : RG (K + 1) (xs ++ [(K : Int)]) := by
  unfold RG at h ⊢
  rw [stN_snoc, h]
  unfold stepN
  have : ¬ (K : Int) ∈ rgI K := fun q => by have := (mem_rgI.mp q).2; omega
  simp only [if_neg this, rgI_len, rgI_succ]
theorem rg_mem {K : Nat} {xs : List Int} (h : RG K xs) (j : Int) : j ∈ xs ↔ 0 ≤ j ∧ j < K := by
  rw [← mem_stN, h, mem_rgI]
theorem rg_fnum {K : Nat} {xs : List Int} (h : RG K xs) : fnum xs = xs := by
  unfold fnum
  rw [h]
theorem rg_of {xs : List Int} (h : fnum xs = xs) : ∃ K, RG K xs := by
  have key : ∀ xs : List Int, (stN xs).2 = xs → ∃ K, (stN xs).1 = rgI K := by
    intro xs
    refine snocInd (P := fun xs => (stN xs).2 = xs → ∃ K, (stN xs).1 = rgI K) (fun _ => ⟨0, rfl⟩) (fun xs c ih h => ?_) xs
    rw [stN_snoc] at h ⊢
    unfold stepN at h ⊢
    by_cases hc : c ∈ (stN xs).1
    · rw [if_pos hc] at h ⊢
      exact ih (List.append_inj_left' h rfl)
    · rw [if_neg hc] at h ⊢
      obtain ⟨K, hK⟩ := ih (List.append_inj_left' h rfl)
      have e := List.append_inj_right' h rfl
      simp only [List.cons.injEq, and_true] at e
      rw [hK, rgI_len] at e
      exact ⟨K + 1, by rw [rgI_succ, ← e, hK]⟩
  obtain ⟨K, hK⟩ := key xs h
  exact ⟨K, Prod.ext hK h⟩
theorem len_stN1 (xs : List Int) : (stN xs).1.length ≤ xs.length := by
  refine snocInd (P := fun xs => (stN xs).1.length ≤ xs.length) (by simp [stN]) (fun xs c ih => ?_) xs
  rw [stN_snoc]
  unfold stepN
  split <;> simp <;> omega
theorem rg_le {K : Nat} {xs : List Int} (h : RG K xs) : K ≤ xs.length := by
  have key : ∀ xs : List Int, (stN xs).1.length ≤ xs.length := by
    intro xs
    refine snocInd (P := fun xs => (stN xs).1.length ≤ xs.length) (by simp [stN]) (fun xs c ih => ?_) xs
    rw [stN_snoc]
    unfold stepN
    split <;> simp <;> omega
  have := key xs
  rw [h, rgI_len] at this
  exact this
/-! kernels -/
theorem idx_map {σ : Int → Int} {m : Int} : ∀ {l : List Int}, (∀ a ∈ l, σ a = σ m → a = m) → (l.map σ).idxOf (σ m) = l.idxOf m
  | [], _ => rfl
  | a :: l, h => by
    rw [List.map_cons, List.idxOf_cons, List.idxOf_cons, idx_map fun b hb => h b (List.mem_cons_of_mem _ hb)]
    by_cases e : a = m
    · subst e
      rw [beq_self_eq_true, beq_self_eq_true]
    · have h1 : (σ a == σ m) = false := beq_eq_false_iff_ne.mpr fun q => e (h a List.mem_cons_self q)
      have h2 : (a == m) = false := beq_eq_false_iff_ne.mpr e
      rw [h1, h2]
theorem fold_map {σ : Int → Int} : ∀ (xs : List Int) (st : List Int × List Int), (∀ a, a ∈ st.1 ∨ a ∈ xs → ∀ b, b ∈ st.1 ∨ b ∈ xs → σ a = σ b → a = b) →
    (xs.map σ).foldl stepN (st.1.map σ, st.2) = ((xs.foldl stepN st).1.map σ, (xs.foldl stepN st).2)
  | [], st, _ => rfl
  | m :: xs, st, h => by
    rw [List.map_cons, List.foldl_cons, List.foldl_cons]
    have hm : σ m ∈ st.1.map σ ↔ m ∈ st.1 := by
      rw [List.mem_map]
      constructor
      · rintro ⟨a, ha, e⟩
        rw [← h a (.inl ha) m (.inr List.mem_cons_self) e]; exact ha
      · exact fun q => ⟨m, q, rfl⟩
    have hi : (st.1.map σ).idxOf (σ m) = st.1.idxOf m := idx_map fun a ha e => h a (.inl ha) m (.inr List.mem_cons_self) e
    have e : stepN (st.1.map σ, st.2) (σ m) = ((stepN st m).1.map σ, (stepN st m).2) := by
      unfold stepN
      by_cases q : m ∈ st.1
      · rw [if_pos (hm.mpr q), if_pos q]
        simp only [hi]
      · rw [if_neg (fun z => q (hm.mp z)), if_neg q]
        simp
    rw [e]
    refine fold_map xs (stepN st m) fun a ha b hb => h a ?_ b ?_
    · rcases ha with ha | ha
      · unfold stepN at ha
        split at ha
        · exact .inl ha
        · rcases List.mem_append.mp ha with ha | ha
          · exact .inl ha
          · exact .inr (by rw [List.mem_singleton.mp ha]; exact List.mem_cons_self)
      · exact .inr (List.mem_cons_of_mem _ ha)
    · rcases hb with ha | ha
      · unfold stepN at ha
        split at ha
        · exact .inl ha
        · rcases List.mem_append.mp ha with ha | ha
          · exact .inl ha
          · exact .inr (by rw [List.mem_singleton.mp ha]; exact List.mem_cons_self)
      · exact .inr (List.mem_cons_of_mem _ ha)
theorem fnum_map {σ : Int → Int} {xs : List Int} (h : ∀ a ∈ xs, ∀ b ∈ xs, σ a = σ b → a = b) : fnum (xs.map σ) = fnum xs := by
  have := fold_map (σ := σ) xs ([], []) (fun a ha b hb => h a (by simpa using ha) b (by simpa using hb))
  unfold fnum stN
  have e : (([] : List Int).map σ, ([] : List Int)) = ([], []) := rfl
  rw [e] at this
  rw [this]
/-- one numbering for one kernel -/
theorem fnum_ker {a b : List Int} (hl : a.length = b.length) (h : ∀ i j, i < a.length → j < a.length → (a[i]? = a[j]? ↔ b[i]? = b[j]?)) : fnum a = fnum b := by
  have hm : a.map (fun v => b.getD (a.idxOf v) 0) = b := by
    apply List.ext_getElem?
    intro i
    rw [List.getElem?_map]
    by_cases hi : i < a.length
    · have e1 : a[i]? = some a[i] := List.getElem?_eq_getElem hi
      have hmem : a[i] ∈ a := List.getElem_mem hi
      have hlt : a.idxOf a[i] < a.length := List.idxOf_lt_length_of_mem hmem
      have e2 : a[a.idxOf a[i]]? = some a[i] := by
        rw [List.getElem?_eq_getElem hlt, List.getElem_idxOf]
      have e3 := (h (a.idxOf a[i]) i hlt hi).mp (by rw [e2, e1])
      rw [e1, Option.map_some, List.getD_eq_getElem?_getD, e3]
      rw [List.getElem?_eq_getElem (by omega)]
      rfl
    · rw [List.getElem?_eq_none (by omega), List.getElem?_eq_none (by omega)]
      rfl
  rw [← hm, fnum_map fun u hu v hv e => ?_]
  have hlu : a.idxOf u < a.length := List.idxOf_lt_length_of_mem hu
  have hlv : a.idxOf v < a.length := List.idxOf_lt_length_of_mem hv
  simp only [List.getD_eq_getElem?_getD] at e
  rw [List.getElem?_eq_getElem (by omega), List.getElem?_eq_getElem (by omega), Option.getD_some, Option.getD_some] at e
  have q := (h (a.idxOf u) (a.idxOf v) hlu hlv).mpr (by rw [List.getElem?_eq_getElem (by omega), List.getElem?_eq_getElem (by omega), e])
  rw [List.getElem?_eq_getElem hlu, List.getElem?_eq_getElem hlv, List.getElem_idxOf, List.getElem_idxOf] at q
  exact Option.some.inj q
end PM
end

section
set_option Elab.async false
set_option linter.all false
set_option maxRecDepth 100000
set_option maxHeartbeats 4000000
/-! Pv28: loops that may raise, dicts with int keys, sorted ints. -/
namespace Pv
open PySem PySem.Spec PyProof.Rows L2
/-- a loop whose turns may raise x -/
theorem loopS_opt {α β : Type} {g : D → En → Option En} {body : En → SR} {x : Xn} (f : β → D) (step : α → β → Option α) (P : α → En → Prop) : ∀ (bs : List β) (a : α) (env : En), P a env →
    (∀ b ∈ bs, ∀ a env, P a env → ∃ e1, g (f b) env = some e1 ∧ (match step a b with
      | some a' => ∃ e2, body e1 = .nx e2 ∧ P a' e2
      | none => body e1 = .ex x)) →
    (match bs.foldlM step a with
      | some a' => ∃ e, loopS g body (bs.map f) env = .nx e ∧ P a' e
      | none => loopS g body (bs.map f) env = .ex x)
  | [], a, env, hP, _ => ⟨env, rfl, hP⟩
  | b :: bs, a, env, hP, h => by
    obtain ⟨e1, h1, h2⟩ := h b List.mem_cons_self a env hP
    rw [List.foldlM_cons, List.map_cons]
    cases hs : step a b with
    | none =>
      rw [hs] at h2
      simp only [Option.bind_eq_bind, Option.bind_none]
      unfold loopS
      rw [h1]
      simp only [h2]
    | some a' =>
      rw [hs] at h2
      obtain ⟨e2, h3, h4⟩ := h2
      have ih := loopS_opt (g := g) (body := body) (x := x) f step P bs a' e2 h4 fun b' hb => h b' (List.mem_cons_of_mem _ hb)
      simp only [Option.bind_eq_bind, Option.bind_some]
      unfold loopS
      rw [h1]
      simp only [h3]
      exact ih
/-- a dict with int keys -/
def dicI (ks : List Int) (vs : List D) : D := .dic (ks.map Sum.inl) vs
theorem hasK_int (m : Int) : ∀ ks : List Int, hasK (ks.map (Sum.inl : Int → Key)) (Sum.inl m) = decide (m ∈ ks)
  | [] => rfl
  | k :: ks => by
    have ih := hasK_int m ks
    unfold hasK at ih ⊢
    rw [List.map_cons, List.any_cons, ih]
    by_cases e : k = m
    · subst e; simp
    · have e' : ¬ m = k := fun q => e q.symm
      simp [e, e']
theorem inD_dicI (m : Int) (ks : List Int) (vs : List D) : inD (.int m) (dicI ks vs) = some (.bl (decide (m ∈ ks)), 0) := by
  show (((keyD (.int m)).map fun k => hasK (ks.map Sum.inl) k).map fun b => (D.bl b, 0)) = _
  simp only [keyD, Option.map_some, hasK_int]
theorem ninD_dicI (m : Int) (ks : List Int) (vs : List D) : ninD (.int m) (dicI ks vs) = some (.bl (!decide (m ∈ ks)), 0) := by
  show (((keyD (.int m)).map fun k => hasK (ks.map Sum.inl) k).map fun b => (D.bl (!b), 0)) = _
  simp only [keyD, Option.map_some, hasK_int]
theorem put_dicI {m : Int} {ks : List Int} {vs : List D} {v : D} (h : m ∉ ks) (hl : ks.length < 100000) : putD (dicI ks vs) (.int m) v = some (dicI (ks ++ [m]) (vs ++ [v])) := by
  show ((keyD (.int m)).bind fun k => if (ks.map (Sum.inl : Int → Key)).length < lim then some (if hasK (ks.map Sum.inl) k then D.dic (ks.map Sum.inl) (putVs (ks.map Sum.inl) vs k v) else D.dic (ks.map Sum.inl ++ [k]) (vs ++ [v])) else none) = _
  have h1 : (ks.map (Sum.inl : Int → Key)).length < lim := by rw [List.length_map]; exact lt_lim hl
  have h2 : decide (m ∈ ks) = false := decide_eq_false h
  simp only [keyD, Option.bind_some, h1, if_true, hasK_int, h2, Bool.false_eq_true, if_false]
  unfold dicI
  rw [List.map_append]
  rfl
theorem keyV_int (m : Int) : ∀ (ks : List Int) (vs : List D), ks.length = vs.length → m ∈ ks → keyV (ks.map (Sum.inl : Int → Key)) vs (Sum.inl m) = vs[ks.idxOf m]?
  | [], _, _, h => by cases h
  | k :: ks, [], h, _ => by simp at h
  | k :: ks, v :: vs, hl, hm => by
    unfold keyV
    rw [List.map_cons, List.zip_cons_cons, List.find?_cons]
    by_cases e : k = m
    · subst e
      simp
    · have h1 : decide ((Sum.inl k : Key) = Sum.inl m) = false := decide_eq_false fun q => e (Sum.inl.inj q)
      have h2 : (k == m) = false := beq_eq_false_iff_ne.mpr e
      have hm' : m ∈ ks := by
        rcases List.mem_cons.mp hm with q | q
        · exact (e q.symm).elim
        · exact q
      have ih := keyV_int m ks vs (by simpa using hl) hm'
      unfold keyV at ih
      simp only [h1, List.idxOf_cons, h2, cond_false, List.getElem?_cons_succ]
      exact ih
theorem idx_dicI {m : Int} {ks : List Int} {vs : List D} {v : D} (hl : ks.length = vs.length) (hm : m ∈ ks) (hv : vs[ks.idxOf m]? = some v) : idxD (dicI ks vs) (.int m) = some (v, 0) := by
  show ((keyD (.int m)).bind fun k => (keyV (ks.map Sum.inl) vs k).map (·, 0)) = _
  simp only [keyD, Option.bind_some, keyV_int m ks vs hl hm, hv, Option.map_some]
/-- a draw -/
theorem take_nat (a b : Int) (m : Nat) (hm : 0 < m) (hl : m ≤ 1000) : ∃ (v : Nat) (a' b' : Int), lawTake (some (.lst [.int a, .int b], 1)) [.int m] = .ok (.int v, 0) (some (.lst [.int a', .int b'], 1)) ∧ v < m := by
  have hlog : (m : Int).natAbs.log2 < 9000 := by
    have h1 : (m : Int).natAbs = m := by omega
    rw [h1]
    have : m.log2 ≤ m := Nat.log2_le_self m
    omega
  obtain ⟨v, a', b', h1, h2, h3⟩ := lawTake_ok a b m (by omega) hlog
  obtain ⟨u, rfl⟩ : ∃ u : Nat, v = u := ⟨v.toNat, by omega⟩
  exact ⟨u, a', b', h1, by omega⟩
abbrev stt (a b : Int) : Sl := some (.lst [.int a, .int b], 1)
theorem idx_lst {ds : List D} {k : Nat} (h : k < ds.length) : idxD (.lst ds) (.int k) = some (ds[k], 0) := by
  show (L2.atI ds (k : Int)).map (·, 0) = _
  rw [at_nat h]
  rfl
theorem idx_tup {ds : List D} {k : Nat} (h : k < ds.length) : idxD (.tup ds) (.int k) = some (ds[k], 0) := by
  show (L2.atI ds (k : Int)).map (·, 0) = _
  rw [at_nat h]
  rfl
theorem str_nat {i : Int} (h : i.natAbs < 2 ^ 200) : strD (.int i) = some (.str (toString i), 0) := by
  have h1 : i.natAbs.log2 < 1920 := by
    by_cases h0 : i.natAbs = 0
    · rw [h0]; decide
    · have := (Nat.log2_lt h0).mpr h
      omega
  show (if i.natAbs.log2 < 1920 then some (D.str (toString i), 0) else none) = _
  rw [if_pos h1]
theorem cut_to {α : Type} {xs : List α} {k : Nat} (h : k ≤ xs.length) : cutD xs none (some (k : Int)) = xs.take k := by
  have h0 : HT.sIx xs.length 0 none = 0 := rfl
  have h1 : HT.sIx xs.length xs.length (some (k : Int)) = k := by
    rw [HT.sIx_nat]
    omega
  unfold cutD
  rw [h0, h1]
  simp
theorem cut_from {α : Type} {xs : List α} {k : Nat} (h : k ≤ xs.length) : cutD xs (some (k : Int)) none = xs.drop k := by
  have h0 : HT.sIx xs.length xs.length none = xs.length := rfl
  have h1 : HT.sIx xs.length 0 (some (k : Int)) = k := by
    rw [HT.sIx_nat]
    omega
  unfold cutD
  rw [h0, h1]
  apply List.take_of_length_le
  simp
/-- sorted ints, turned -/
theorem leK_int (a b : Int) : leK (.int a) (.int b) = decide (a ≤ b) := by
  rw [leK_eq]
  show (!PySem.W.dataLt (encD (.int b)) (encD (.int a))) = _
  have e : ∀ n : Int, encD (.int n) = .int n := fun _ => rfl
  rw [e, e]
  have h2 : PySem.W.dataLt (.int b) (.int a) = decide (b < a) := PySem.W.dataLt_int b a
  rw [h2]
  by_cases q : a ≤ b
  · have : ¬ b < a := by omega
    simp [q, this]
  · have : b < a := by omega
    simp [q, this]
def srtI (ns : List Int) : List Int := msr (fun a b => decide (a ≤ b)) ns.length ns
theorem sort_ints (ns : List Int) : sortL (ns.map D.int) = some (.lst ((srtI ns).map D.int), 1) := by
  have ok : sortOkB (ns.map D.int) = true := by
    unfold sortOkB
    have : (ns.map D.int).all isInt = true := by simp [isInt]
    rw [this]; simp
  unfold sortL
  rw [if_pos ok]
  unfold srt srtI
  rw [List.length_map, msr_map leK_int]
theorem srtI_perm (ns : List Int) : (srtI ns).Perm ns := msr_perm _ ns
theorem srtI_asc (ns : List Int) : (srtI ns).Pairwise (· ≤ ·) := by
  unfold srtI
  rw [msr_eq _ _ _ (Nat.le_succ _)]
  have := List.pairwise_mergeSort (le := fun a b : Int => decide (a ≤ b)) (fun a b c h1 h2 => by
    rw [decide_eq_true_eq] at *; omega) (fun a b => by
    rw [Bool.or_eq_true, decide_eq_true_eq, decide_eq_true_eq]; omega) ns
  exact this.imp fun h => of_decide_eq_true h
theorem srtI_rev (ns : List Int) : (srtI ns).reverse = srtDn ns :=
  desc_unique (List.pairwise_reverse.mpr ((srtI_asc ns).imp fun h => h)) (desc_srtDn ns) ((List.reverse_perm _).trans ((srtI_perm ns).trans (perm_srtDn ns).symm))
end Pv
end

section
set_option Elab.async false
set_option linter.all false
set_option maxRecDepth 100000
set_option maxHeartbeats 4000000
/-! Pv29: comprehensions that draw; partings put together again. -/
namespace Pv
open PySem PySem.Spec PyProof.Rows L2
inductive Rel2 {α β : Type} (R : α → β → Prop) : List α → List β → Prop
  | nil : Rel2 R [] []
  | cons {a : α} {b : β} {as : List α} {bs : List β} : R a b → Rel2 R as bs → Rel2 R (a :: as) (b :: bs)
theorem compL_rel {g : D → En → Option En} {tt : En → R Bool} {te : En → R (D × Nat)} {m : Nat} {vs : List Nat} (I : En → Prop) (Rl : D → D → Prop) : ∀ (ds : List D) (env : En) (acc : List D), I env → acc.length + ds.length ≤ lim →
    (∀ d ∈ ds, ∀ env, I env → ∃ e1 e2 e3 d', g d env = some e1 ∧ tt e1 = .ok true e2 ∧ te e2 = .ok (d', m) e3 ∧ I (wipeE e3 vs) ∧ Rl d d') → ∃ e ds', compL g tt te m vs ds env acc = .ok (acc ++ ds') e ∧ I e ∧ Rel2 Rl ds ds'
  | [], env, acc, hI, _, _ => ⟨env, [], by simp [compL], hI, .nil⟩
  | d :: ds, env, acc, hI, hl, h => by
    obtain ⟨e1, e2, e3, d', h1, h2, h3, h4, h5⟩ := h d List.mem_cons_self env hI
    have hl' : acc.length < lim := by simp only [List.length_cons] at hl; omega
    obtain ⟨e, ds', q1, q2, q3⟩ := compL_rel I Rl ds (wipeE e3 vs) (acc ++ [d']) h4 (by simp only [List.length_append, List.length_cons, List.length_nil] at hl ⊢; omega) fun d' hd => h d' (List.mem_cons_of_mem _ hd)
    refine ⟨e, d' :: ds', ?_, q2, .cons h5 q3⟩
    unfold compL
    rw [h1]
    simp only [h2, h3, R.noX_ok, R.bind_ok, if_true, hl', and_self, q1, List.append_assoc, List.singleton_append]
theorem comp_rel {fi : En → R (List D)} {te : En → R (D × Nat)} {m i : Nat} (I : En → Prop) (Rl : D → D → Prop) {env env1 : En} {ds : List D} (hfi : fi env = .ok ds env1) (hi : env1[i]? = some none) (hI : I env1) (hl : ds.length ≤ 100000)
    (h : ∀ d ∈ ds, ∀ env, I env → i < env.length ∧ ∃ e3 d', te (env.set i (some (d, 0))) = .ok (d', m) e3 ∧ I (e3.set i none) ∧ Rl d d') : ∃ e ds', comp fi (nameG i) yesT te m [i] env = .ok (.lst ds', m + 1) (e.set i none) ∧ I e ∧ Rel2 Rl ds ds' := by
  obtain ⟨e, ds', q1, q2, q3⟩ := compL_rel (g := nameG i) (tt := yesT) (te := te) (m := m) (vs := [i]) I Rl ds env1 [] hI (by simpa using le_lim hl) fun d hd env hE => by
    obtain ⟨hlt, e3, d', h1, h2, h3⟩ := h d hd env hE
    exact ⟨_, _, e3, d', by unfold nameG; rw [if_pos hlt], rfl, h1, h2, h3⟩
  refine ⟨e, ds', ?_, q2, q3⟩
  unfold comp
  rw [hfi]
  have hw : wipeE env1 [i] = env1 := set_none hi
  simp only [R.bind_ok, hw, q1, List.nil_append]
  have hb : backE env1 e [i] = e.set i none := by
    show e.set i _ = _
    rw [hi]
  rw [hb]
end Pv
namespace PM
open Pv
def mark1 (n k : Nat) (tg : List (Int × Nat)) (x : Int) : Option (List (Int × Nat)) := if 0 ≤ x ∧ x < n ∧ x ∉ tg.map Prod.fst then some (tg ++ [(x, k)]) else none
def markB (n : Nat) (tg : List (Int × Nat)) (q : List Int × Nat) : Option (List (Int × Nat)) := q.1.foldlM (mark1 n q.2) tg
def tagsFrom : Nat → List (List Int) → List (Int × Nat)
  | _, [] => []
  | j, b :: M => b.map (fun x => (x, j)) ++ tagsFrom (j + 1) M
theorem tags_keys : ∀ (M : List (List Int)) (j : Nat), (tagsFrom j M).map Prod.fst = M.flatten
  | [], _ => rfl
  | b :: M, j => by
    rw [tagsFrom, List.map_append, List.map_map, tags_keys M, List.flatten_cons]
    congr 1
    simp [Function.comp_def]
theorem fold1 {n k : Nat} : ∀ (b : List Int) (tg : List (Int × Nat)), (∀ x ∈ b, 0 ≤ x ∧ x < n) → (tg.map Prod.fst ++ b).Nodup → b.foldlM (mark1 n k) tg = some (tg ++ b.map fun x => (x, k))
  | [], tg, _, _ => by simp
  | x :: b, tg, h, hn => by
    have h1 := h x List.mem_cons_self
    have h2 : x ∉ tg.map Prod.fst := fun q => by
      have := (List.nodup_append.mp hn).2.2 x q x List.mem_cons_self
      exact this rfl
    rw [List.foldlM_cons]
    unfold mark1
    rw [if_pos ⟨h1.1, h1.2, h2⟩]
    show List.foldlM (mark1 n k) (tg ++ [(x, k)]) b = _
    rw [fold1 b (tg ++ [(x, k)]) (fun y hy => h y (List.mem_cons_of_mem _ hy)) (by simpa using hn)]
    simp
theorem foldAll {n : Nat} : ∀ (M : List (List Int)) (j : Nat) (tg : List (Int × Nat)), (∀ x ∈ M.flatten, 0 ≤ x ∧ x < n) → (tg.map Prod.fst ++ M.flatten).Nodup → (M.zipIdx j).foldlM (markB n) tg = some (tg ++ tagsFrom j M)
  | [], j, tg, _, _ => by simp [tagsFrom]
  | b :: M, j, tg, h, hn => by
    rw [List.flatten_cons] at h hn
    rw [List.zipIdx_cons, List.foldlM_cons]
    have h1 : markB n tg (b, j) = some (tg ++ b.map fun x => (x, j)) := fold1 b tg (fun x hx => h x (List.mem_append_left _ hx)) (by
      rw [← List.append_assoc] at hn
      exact (List.nodup_append.mp hn).1)
    rw [h1]
    show List.foldlM (markB n) (tg ++ b.map fun x => (x, j)) (M.zipIdx (j + 1)) = _
    rw [foldAll M (j + 1) _ (fun x hx => h x (List.mem_append_right _ hx)) (by
      rw [List.map_append, List.map_map]
      have e : (Prod.fst ∘ fun x : Int => (x, j)) = id := rfl
      rw [e, List.map_id, List.append_assoc]
      exact hn)]
    rw [tagsFrom, List.append_assoc]
theorem tag_at : ∀ (M : List (List Int)) (j : Nat) (x : Int), x ∈ M.flatten → (tagsFrom j M)[M.flatten.idxOf x]? = some (x, j + M.findIdx fun b => decide (x ∈ b))
  | [], _, _, h => by simp at h
  | b :: M, j, x, h => by
    rw [tagsFrom, List.flatten_cons, List.idxOf_append, List.findIdx_cons]
    by_cases hx : x ∈ b
    · rw [if_pos hx, decide_eq_true hx]
      have hlt := List.idxOf_lt_length_of_mem hx
      rw [List.getElem?_append_left (by simpa using hlt), List.getElem?_map, List.getElem?_eq_getElem hlt, List.getElem_idxOf]
      rfl
    · rw [if_neg hx, decide_eq_false hx]
      have hM : x ∈ M.flatten := by
        rw [List.flatten_cons] at h
        exact (List.mem_append.mp h).resolve_left hx
      rw [List.getElem?_append_right (by simp)]
      have e : M.flatten.idxOf x + b.length - (b.map fun x => (x, j)).length = M.flatten.idxOf x := by simp
      rw [e, tag_at M (j + 1) x hM]
      simp only [cond_false, Option.some.injEq, Prod.mk.injEq, true_and]
      omega
/-- M: the blocks of p, in any order, each in any order -/
structure Fits (p : List Int) (M : List (List Int)) : Prop where
  cls : ∀ b ∈ M, ∃ c : Int, ∀ x : Int, x ∈ b ↔ ∃ i : Nat, x = i ∧ p[i]? = some c
  all : ∀ i : Nat, i < p.length → ∃ b ∈ M, (i : Int) ∈ b
  nd : M.flatten.Nodup
  len : M.flatten.length = p.length
  ne : ∀ b ∈ M, b ≠ []
theorem Fits.rng {p : List Int} {M : List (List Int)} (h : Fits p M) : ∀ x ∈ M.flatten, 0 ≤ x ∧ x < p.length := by
  intro x hx
  obtain ⟨b, hb, hxb⟩ := List.mem_flatten.mp hx
  obtain ⟨c, hc⟩ := h.cls b hb
  obtain ⟨i, rfl, hi⟩ := (hc x).mp hxb
  have := (List.getElem?_eq_some_iff.mp hi).1
  omega
def msOf (n : Nat) (M : List (List Int)) : List Int := (List.range n).map fun x : Nat => ((M.findIdx fun b => decide ((x : Int) ∈ b) : Nat) : Int)
theorem Fits.at {p : List Int} {M : List (List Int)} (h : Fits p M) {i : Nat} (hi : i < p.length) : ∃ hk : (M.findIdx fun b => decide ((i : Int) ∈ b)) < M.length, (i : Int) ∈ M[M.findIdx fun b => decide ((i : Int) ∈ b)] := by
  obtain ⟨b, hb, hib⟩ := h.all i hi
  have hk : (M.findIdx fun b => decide ((i : Int) ∈ b)) < M.length := List.findIdx_lt_length_of_exists ⟨b, hb, decide_eq_true hib⟩
  exact ⟨hk, of_decide_eq_true (List.findIdx_getElem (w := hk))⟩
theorem Fits.ker {p : List Int} {M : List (List Int)} (h : Fits p M) {i j : Nat} (hi : i < p.length) (hj : j < p.length) : (M.findIdx fun b => decide ((i : Int) ∈ b)) = (M.findIdx fun b => decide ((j : Int) ∈ b)) ↔ p[i]? = p[j]? := by
  have one : ∀ {i j : Nat}, i < p.length → j < p.length → p[i]? = p[j]? → (M.findIdx fun b => decide ((j : Int) ∈ b)) ≤ (M.findIdx fun b => decide ((i : Int) ∈ b)) := by
    intro i j hi hj e
    obtain ⟨hk, hm⟩ := h.at hi
    obtain ⟨c, hc⟩ := h.cls _ (List.getElem_mem hk)
    obtain ⟨i', e1, e2⟩ := (hc _).mp hm
    have e3 : i' = i := by omega
    subst e3
    have hjm := (hc (j : Int)).mpr ⟨j, rfl, by rw [← e, e2]⟩
    refine Nat.le_of_not_lt fun q => ?_
    have z := List.not_of_lt_findIdx q
    rw [decide_eq_true hjm] at z
    cases z
  constructor
  · intro e
    obtain ⟨hk, hm⟩ := h.at hi
    obtain ⟨hk', hm'⟩ := h.at hj
    obtain ⟨c, hc⟩ := h.cls _ (List.getElem_mem hk)
    obtain ⟨i', e1, e2⟩ := (hc _).mp hm
    have hm2 : (j : Int) ∈ M[M.findIdx fun b => decide ((i : Int) ∈ b)] := by
      have : M[M.findIdx fun b => decide ((i : Int) ∈ b)] = M[M.findIdx fun b => decide ((j : Int) ∈ b)] := by
        congr 1
      rw [this]; exact hm'
    obtain ⟨j', e3, e4⟩ := (hc _).mp hm2
    have q1 : i' = i := by omega
    have q2 : j' = j := by omega
    subst q1 q2
    rw [e2, e4]
  · intro e
    have := one hi hj e
    have := one hj hi e.symm
    omega
theorem fits_num {p : List Int} {M : List (List Int)} (h : Fits p M) : fnum (msOf p.length M) = fnum p := by
  refine fnum_ker (by simp [msOf]) fun i j hi hj => ?_
  have hi : i < p.length := by simpa [msOf] using hi
  have hj : j < p.length := by simpa [msOf] using hj
  unfold msOf
  rw [List.getElem?_map, List.getElem?_map, List.getElem?_range hi, List.getElem?_range hj, Option.map_some, Option.map_some, ← h.ker hi hj]
  constructor
  · intro e
    have := Option.some.inj e
    omega
  · intro e
    rw [e]
end PM
end

section
set_option Elab.async false
set_option linter.all false
set_option maxRecDepth 100000
set_option maxHeartbeats 4000000
/-! Pv30: len(set(list of ints)), a call of what an expression gives. -/
namespace Pv
open PySem PySem.Spec PyProof.Rows L2

def rLenSetA (K : PySem.W.Frag) : V → Hp → VK → Prop := fun x H Q => ∃ (l : Addr) (ns : List Int), x = .ref l ∧ SqL K H l (ns.map V.int) ∧ ns.length ≤ 4000 ∧ Q (.int ((firstMet (fun i => ns.getD i 0) ns.length).length : Nat)) H
theorem pe_lsetA {X : Cx} {a : Expr} {ta : TE} {p p2 q pos : Pos} (hg : Gl X "len") (hm : X.mg "len" = none) (hg2 : Gl X "set") (hm2 : X.mg "set" = none) (ha : PE X a ta) (hc : X.calm = true)
    (na : starEach [a] X.env = (false, eval a X.env) :: starEach [] X.env := by rfl) : PE X (.Call (.Name "len" p) [.Call (.Name "set" p2) [a] [] q] [] pos) (fun σ H Q => ta σ H fun x H1 => rLenSetA X.K x H1 Q) := by
  refine ⟨fun pins s σ H Q I h => ?_⟩
  refine Call_ (ld_blt I hg hm boot_len ?_)
  refine PyProof.Rows.callWith_builtin1 (PyProof.Rows.args_cons ?_ rfl) rfl rfl
  refine Call_ (ld_blt I hg2 hm2 boot_set ?_)
  refine PyProof.Rows.callWith_type1 (PyProof.Rows.args_cons (thn (ha.run pins s σ H _ I h) fun v s1 ⟨x, H1, I1, r1, qq⟩ => PyProof.Rows.args_nil ?_) na) na rfl
  obtain ⟨l, ns, rfl, hq, hl, qq⟩ := qq
  cases r1
  obtain ⟨its, r, pl, hz⟩ := I1.list hq
  have hsz : its.toArray.size = ns.length := by rw [List.size_toArray, ← r.length, List.length_map]
  have hi : IntsAre its.toArray.toList ns := ints_of_vals r
  refine call_set_list (I1.ok.hd hc) pl.isList hi (by rw [hsz]; unfold scanBound; omega) fun h' tk hS hk => ?_
  refine PyProof.Rows.args_nil ?_
  rw [hsz] at hS
  have hle := firstMet_length_le (fun i => ns.getD i 0) ns.length
  obtain ⟨o, es, ep, t, ho, hex, hd, _, _, _, hf, hn⟩ := hS
  have J : Inv X pins σ H1 { s1 with heap := h', toks := tk } := I1.kept fun b o e => hk b o (Heap.lt_size e) e
  exact call_len_set ho hex hd hf (by rw [hn]; omega) ⟨.int _, H1, J.tok _, ⟨_, by rw [hn]⟩, qq⟩
theorem mem_dedup (j : Int) : ∀ (l acc : List Int), j ∈ l.foldl step_dedup acc ↔ j ∈ acc ∨ j ∈ l
  | [], acc => by simp
  | x :: l, acc => by
    rw [List.foldl_cons, mem_dedup j l]
    unfold step_dedup
    split
    · rename_i h
      have hx : x ∈ acc := by simpa using h
      constructor
      · rintro (q | q)
        · exact .inl q
        · exact .inr (List.mem_cons_of_mem _ q)
      · rintro (q | q)
        · exact .inl q
        · rcases List.mem_cons.mp q with rfl | q
          · exact .inl hx
          · exact .inr q
    · simp only [List.mem_append, List.mem_cons, List.not_mem_nil, or_false]
      constructor
      · rintro ((q | q) | q)
        · exact .inl q
        · exact .inr (.inl q)
        · exact .inr (.inr q)
      · rintro (q | q | q)
        · exact .inl (.inl q)
        · exact .inl (.inr q)
        · exact .inr q
theorem nodup_dedup : ∀ (l acc : List Int), acc.Nodup → (l.foldl step_dedup acc).Nodup
  | [], acc, h => h
  | x :: l, acc, h => by
    rw [List.foldl_cons]
    refine nodup_dedup l _ ?_
    unfold step_dedup
    split
    · exact h
    · rename_i q
      have hx : x ∉ acc := by simpa using q
      exact List.nodup_append.mpr ⟨h, by simp, fun a ha b hb e => by
        rw [List.mem_singleton.mp hb] at e
        exact hx (e ▸ ha)⟩
theorem map_getD (ns : List Int) : (List.range ns.length).map (fun i => ns.getD i 0) = ns := by
  apply List.ext_getElem?
  intro i
  rw [List.getElem?_map]
  by_cases h : i < ns.length
  · rw [List.getElem?_range h, Option.map_some, List.getD_eq_getElem?_getD, List.getElem?_eq_getElem h]
    rfl
  · rw [List.getElem?_eq_none (by simpa using h), List.getElem?_eq_none (by omega)]
    rfl
theorem nodup_len {l r : List Int} (h1 : l.Nodup) (h2 : r.Nodup) (h : ∀ j, j ∈ l ↔ j ∈ r) : l.length = r.length :=
  ((List.perm_ext_iff_of_nodup h1 h2).mpr h).length_eq
theorem first_srtU (ns : List Int) : (firstMet (fun i => ns.getD i 0) ns.length).length = (srtU ns).length := by
  unfold firstMet
  rw [map_getD]
  refine nodup_len (nodup_dedup ns [] .nil) ((asc_srtU ns).imp fun h e => by omega) fun j => ?_
  rw [mem_dedup, mem_srtU]
  simp
def lsetD : D → Option (D × Nat)
  | .lst xs => match D.ints xs with
    | some ns => if ns.length ≤ 4000 then some (.int (srtU ns).length, 0) else none
    | none => none
  | _ => none
section
variable {Γ : Ct} {a e : Expr} {es : List Expr} {fa : En → R Opd} {p p2 q pos : Pos} {k : Nat}
theorem ev_lset (G : Good Γ) (hg : Gl Γ.X "len") (hm : Γ.X.mg "len" = none) (hg2 : Gl Γ.X "set") (hm2 : Γ.X.mg "set" = none) (ha : EvO Γ a fa) (hs : starEach [a] Γ.X.env = (false, eval a Γ.X.env) :: starEach [] Γ.X.env := by rfl) :
    EvE Γ (.Call (.Name "len" p) [.Call (.Name "set" p2) [a] [] q] [] pos) (op1 lsetD fa) := by
  obtain ⟨t, h1, h2⟩ := ha
  refine ⟨_, pe_lsetA hg hm hg2 hm2 h1 G.calm hs, h2.op1 (r := rLenSetA Γ.X.K) fun σ H Z env φ S x d pp hx hgd Q P => ?_⟩
  unfold lsetD at hgd
  split at hgd
  · split at hgd
    · rename_i ns hns
      split at hgd
      · rename_i hl
        cases hgd
        have e := D.ints_eq hns
        subst e
        obtain ⟨b, us, rfl, hb, r⟩ := hx.lstI
        have e2 := r.ints
        subst e2
        refine ⟨b, ns, rfl, SqL.of hb, hl, ?_⟩
        rw [first_srtU]
        exact Post.here P S (Ow.sh (.int _))
      · cases hgd
    · cases hgd
  · cases hgd
/-- the callee is what an expression gives -/
def callV (T : Nat → Option (Nat × (Sl → List D → FR))) (fe : En → R D) (r : En → R (List D)) : En → R (D × Nat) := fun env => (fe env).bind fun d env1 => match d with
  | .fn m => (match T m with
    | some (n, F) => callF n F r env1
    | none => .no)
  | _ => .no
def tCallV (W : WX) (tf : TE) (S : Addr → Sp → Prop) (t : L2.TA) : TE := fun σ H Q => tf σ H fun y H1 => ∃ f sp, y = .ref f ∧ S f sp ∧ t σ H1 fun vs H2 => sp vs H2 Q (WE W σ)
theorem pe_callV {X : Cx} {W : WX} {g : Expr} {tf : TE} {S : Addr → Sp → Prop} {t : L2.TA} (tk : Takes X W) (hS : ∀ f sp, S f sp → ∃ fd ps, FnOk X.prog X.w X.K X.mg X.base (L2.CX X.prog X.w) k f fd ps sp ∧ PySem.W.keepIn X.K (.ref f) = true ∧ Binds X.K fd ps []) (hr : Room k X.A) (hf : PE X g tf) (ha : PA X (e :: es) t)
    (ht : eval (.Call g (e :: es) [] pos) X.env = (do callWith pos (← eval g X.env) [] (backTo pos (starEach (e :: es) X.env)) (backToKw pos (keywordEach [] X.env))) := by rfl)
    (he : starEach (e :: es) X.env = (false, eval e X.env) :: starEach es X.env := by rfl) (hpl : (backTo pos (starEach es X.env)).any (·.1) = false := by rfl) : PE X (.Call g (e :: es) [] pos) (tCallV W tf S t) := by
  refine ⟨fun pins s σ H Q I h => ?_⟩
  refine Call_ (thn (hf.run pins s σ H _ I h) fun u s1 ⟨y, H1, I1, ry, f, sp, ey, hSf, qq⟩ => ?_) ht
  subst ey
  obtain rfl : u = Value.ref f := ry
  obtain ⟨fd, ps, F, hk, hb⟩ := hS f sp hSf
  refine PySem.W.callWith_K (h₀ := X.base) I.ok.mod.kin hk (thn (ha.run pos pins s1 σ _ _ I1 qq) fun us s2 ⟨vs, H2, I2, r, q⟩ => ⟨I2.kIn, ?_⟩) he hpl
  exact run_fnS (E := WE W) F hr hb (passAt tk σ) I2 r q
theorem ev_callV {g : Expr} {fe : En → R D} (G : Good Γ) {T : Nat → Option (Nat × (Sl → List D → FR))} (hT : FnT Γ k T) (hr : Room k Γ.X.A) (hfe : EvV Γ g fe) {r : En → R (List D)} (ha : EvA Γ (e :: es) r)
    (ht : eval (.Call g (e :: es) [] pos) Γ.X.env = (do callWith pos (← eval g Γ.X.env) [] (backTo pos (starEach (e :: es) Γ.X.env)) (backToKw pos (keywordEach [] Γ.X.env))) := by rfl)
    (he : starEach (e :: es) Γ.X.env = (false, eval e Γ.X.env) :: starEach es Γ.X.env := by rfl) (hpl : (backTo pos (starEach es Γ.X.env)).any (·.1) = false := by rfl) :
    EvE Γ (.Call g (e :: es) [] pos) (callV T fe r) := by
  obtain ⟨t, h1, h2⟩ := ha
  obtain ⟨tf, f1, f2⟩ := hfe
  refine ⟨_, pe_callV (k := k) (W := Γ.W) (S := fun f sp => ∃ m n F, Γ.C.fa m = some f ∧ T m = some (n, F) ∧ sp = spF Γ.C n false F) G.tk (fun f sp ⟨m, n, F, e1, e2, e3⟩ => ?_) hr f1 h1 ht he hpl, fun σ H Z env φ S Q P => ?_⟩
  · obtain ⟨fd, ps, q1, q2, q3, q4⟩ := hT.at' m n F e2 f e1
    subst e3 q4
    exact ⟨fd, ps, q1, q2, q3⟩
  · refine f2.bind S P fun d env1 v H1 Z1 φ1 A e1 S1 sh dj1 ev1 P1 => ?_
    have sh : Sh Γ.C Z1 H1 v d := sh
    have P1 := P1.mono (Evo.refl.sub (F2 := Tot φ1) fun _ z => .inl z)
    cases d with
    | fn m =>
      cases sh with
      | @fn _ f0 hf =>
        cases eT : T m with
        | none => simp only [eT] at P1; exact P1.elim
        | some nF =>
          obtain ⟨n, F⟩ := nF
          simp only [eT] at P1
          refine ⟨f0, spF Γ.C n false F, rfl, ⟨m, n, F, hf, eT, rfl⟩, ?_⟩
          refine h2.bind S1 P1 fun ds env2 vs H2 Z2 φ2 A2 e2 S2 q1 dj2 ev2 P2 => ?_
          have q1 : ShL Γ.C Z2 H2 vs ds := q1
          have P2 := P2.mono Evo.dropA
          by_cases hl : ds.length = n
          · rw [if_pos hl] at P2
            exact call_core S2 (fun _ _ _ h => h.1) (by rw [q1.length]; exact hl) q1 P2
          · rw [if_neg hl] at P2; exact P2.elim
    | non => exact P1.elim
    | bl _ => exact P1.elim
    | int _ => exact P1.elim
    | str _ => exact P1.elim
    | tup _ => exact P1.elim
    | lst _ => exact P1.elim
    | dic _ _ => exact P1.elim
    | scr _ => exact P1.elim
end
end Pv
end

section
open PySem PySem.Spec PyProof.Rows L2 Pv
namespace L17
def topS (i : Nat) : Stmt := PySem.Challenge.pw_momentroads_k17_complements.main.body.getD i (.Pass ⟨0, 0, 0, 0⟩)
abbrev s__law_state : Stmt := topS 20
theorem sc__law_state : FnScope ["script", "seed", "total", "cell"] ["script"] (defScope s__law_state) := ⟨rfl, rfl, rfl, by decide +kernel, rfl, by decide +kernel, by decide +kernel⟩
abbrev s__law_take : Stmt := topS 21
theorem sc__law_take : FnScope ["state", "m", "value"] ["state", "m"] (defScope s__law_take) := ⟨rfl, rfl, rfl, by decide +kernel, rfl, by decide +kernel, by decide +kernel⟩
abbrev s__law_crosses : Stmt := topS 28
theorem sc__law_crosses : FnScope ["p", "n", "x", "y", "z"] ["p"] (defScope s__law_crosses) := ⟨rfl, rfl, rfl, by decide +kernel, rfl, by decide +kernel, by decide +kernel⟩
abbrev s__law_numbered : Stmt := topS 26
theorem sc__law_numbered : FnScope ["marks", "c", "names", "found"] ["marks"] (defScope s__law_numbered) := ⟨rfl, rfl, rfl, by decide +kernel, rfl, by decide +kernel, by decide +kernel⟩
abbrev s_first_numbering : Stmt := topS 7
theorem sc_first_numbering : FnScope ["marks", "mark", "numbers", "found"] ["marks"] (defScope s_first_numbering) := ⟨rfl, rfl, rfl, by decide +kernel, rfl, by decide +kernel, by decide +kernel⟩
abbrev s_is_integer : Stmt := topS 4
theorem sc_is_integer : FnScope ["value"] ["value"] (defScope s_is_integer) := ⟨rfl, rfl, rfl, by decide +kernel, rfl, by decide +kernel, by decide +kernel⟩
abbrev s_has_no_crossing : Stmt := topS 10
theorem sc_has_no_crossing : FnScope ["p", "last", "open_ones", "x", "c"] ["p"] (defScope s_has_no_crossing) := ⟨rfl, rfl, rfl, by decide +kernel, rfl, by decide +kernel, by decide +kernel⟩
abbrev s_blocks_of : Stmt := topS 9
theorem sc_blocks_of : FnScope ["p", "found", "x", "c", "_", "block"] ["p"] (defScope s_blocks_of) := ⟨rfl, rfl, rfl, by decide +kernel, rfl, by decide +kernel, by decide +kernel⟩
abbrev s__law_finer : Stmt := topS 30
theorem sc__law_finer : FnScope ["p", "q", "x", "y"] ["p", "q"] (defScope s__law_finer) := ⟨rfl, rfl, rfl, by decide +kernel, rfl, by decide +kernel, by decide +kernel⟩
abbrev s__law_is_whole : Stmt := topS 24
theorem sc__law_is_whole : FnScope ["value"] ["value"] (defScope s__law_is_whole) := ⟨rfl, rfl, rfl, by decide +kernel, rfl, by decide +kernel, by decide +kernel⟩
abbrev s__law_blocks : Stmt := topS 27
theorem sc__law_blocks : FnScope ["p", "found", "c", "x"] ["p"] (defScope s__law_blocks) := ⟨rfl, rfl, rfl, by decide +kernel, rfl, by decide +kernel, by decide +kernel⟩
abbrev s__law_drawn : Stmt := topS 31
theorem sc__law_drawn : FnScope ["state", "sort", "n", "p", "x", "most", "c"] ["state", "sort", "n"] (defScope s__law_drawn) := ⟨rfl, rfl, rfl, by decide +kernel, rfl, by decide +kernel, by decide +kernel⟩
abbrev s__law_kreweras : Stmt := topS 32
theorem sc__law_kreweras : FnScope ["p", "n", "marks", "y", "x", "inner", "outer", "c"] ["p"] (defScope s__law_kreweras) := ⟨rfl, rfl, rfl, by decide +kernel, rfl, by decide +kernel, by decide +kernel⟩
abbrev s_is_parting : Stmt := topS 8
theorem sc_is_parting : FnScope ["value", "c"] ["value"] (defScope s_is_parting) := ⟨rfl, rfl, rfl, by decide +kernel, rfl, by decide +kernel, by decide +kernel⟩
abbrev s_complement_of : Stmt := topS 14
theorem sc_complement_of : FnScope ["p", "n", "before", "block", "marks", "start", "k", "x"] ["p"] (defScope s_complement_of) := ⟨rfl, rfl, rfl, by decide +kernel, rfl, by decide +kernel, by decide +kernel⟩
abbrev s_turned : Stmt := topS 15
theorem sc_turned : FnScope ["p", "s", "n", "x"] ["p", "s"] (defScope s_turned) := ⟨rfl, rfl, rfl, by decide +kernel, rfl, by decide +kernel, by decide +kernel⟩
abbrev s__law_grown : Stmt := topS 29
theorem sc__law_grown : FnScope ["n", "found", "x", "longer", "p", "q", "c"] ["n"] (defScope s__law_grown) := ⟨rfl, rfl, rfl, by decide +kernel, rfl, by decide +kernel, by decide +kernel⟩
abbrev s__law_woven : Stmt := topS 35
theorem sc__law_woven : FnScope ["p", "q", "x", "found", "shift"] ["p", "q"] (defScope s__law_woven) := ⟨rfl, rfl, rfl, by decide +kernel, rfl, by decide +kernel, by decide +kernel⟩
abbrev s__law_turned : Stmt := topS 34
theorem sc__law_turned : FnScope ["p", "s", "n", "found", "x"] ["p", "s"] (defScope s__law_turned) := ⟨rfl, rfl, rfl, by decide +kernel, rfl, by decide +kernel, by decide +kernel⟩
abbrev s_check_noncrossing : Stmt := topS 13
theorem sc_check_noncrossing : FnScope ["p"] ["p"] (defScope s_check_noncrossing) := ⟨rfl, rfl, rfl, by decide +kernel, rfl, by decide +kernel, by decide +kernel⟩
abbrev s_kreweras : Stmt := topS 16
theorem sc_kreweras : FnScope ["p"] ["p"] (defScope s_kreweras) := ⟨rfl, rfl, rfl, by decide +kernel, rfl, by decide +kernel, by decide +kernel⟩
abbrev s_kreweras_back : Stmt := topS 17
theorem sc_kreweras_back : FnScope ["p"] ["p"] (defScope s_kreweras_back) := ⟨rfl, rfl, rfl, by decide +kernel, rfl, by decide +kernel, by decide +kernel⟩
abbrev s_turned_parting : Stmt := topS 18
theorem sc_turned_parting : FnScope ["p", "s"] ["p", "s"] (defScope s_turned_parting) := ⟨rfl, rfl, rfl, by decide +kernel, rfl, by decide +kernel, by decide +kernel⟩
abbrev s__law_odd : Stmt := topS 22
theorem sc__law_odd : FnScope ["value", "item"] ["value"] (defScope s__law_odd) := ⟨rfl, rfl, rfl, by decide +kernel, rfl, by decide +kernel, by decide +kernel⟩
abbrev s__law_honest : Stmt := topS 23
theorem sc__law_honest : FnScope ["value"] ["value"] (defScope s__law_honest) := ⟨rfl, rfl, rfl, by decide +kernel, rfl, by decide +kernel, by decide +kernel⟩
abbrev s__law_same : Stmt := topS 25
theorem sc__law_same : FnScope ["one", "two", "k"] ["one", "two"] (defScope s__law_same) := ⟨rfl, rfl, rfl, by decide +kernel, rfl, by decide +kernel, by decide +kernel⟩
abbrev s__law_told : Stmt := topS 33
theorem sc__law_told : FnScope ["which", "p", "s"] ["which", "p", "s"] (defScope s__law_told) := ⟨rfl, rfl, rfl, by decide +kernel, rfl, by decide +kernel, by decide +kernel⟩
abbrev s__law_few_hold : Stmt := topS 36
theorem sc__law_few_hold : FnScope ["state", "every", "p", "due", "near", "q"] ["state"] (defScope s__law_few_hold) := ⟨rfl, rfl, rfl, by decide +kernel, rfl, by decide +kernel, by decide +kernel⟩
abbrev s_law : Stmt := topS 37
theorem sc_law : FnScope ["script", "state", "n", "p", "due", "back", "s", "bad", "which"] ["script"] (defScope s_law) := ⟨rfl, rfl, rfl, by decide +kernel, rfl, by decide +kernel, by decide +kernel⟩
/-- where the program's top has left its things -/
structure Facts (K : PySem.W.Frag) (mg : Str → Option Value) where
  d__law_state : DA K mg "_law_state" s__law_state ["script"]
  d__law_take : DA K mg "_law_take" s__law_take ["state", "m"]
  d__law_crosses : DA K mg "_law_crosses" s__law_crosses ["p"]
  d__law_numbered : DA K mg "_law_numbered" s__law_numbered ["marks"]
  d_first_numbering : DA K mg "first_numbering" s_first_numbering ["marks"]
  d_is_integer : DA K mg "is_integer" s_is_integer ["value"]
  d_has_no_crossing : DA K mg "has_no_crossing" s_has_no_crossing ["p"]
  d_blocks_of : DA K mg "blocks_of" s_blocks_of ["p"]
  d__law_finer : DA K mg "_law_finer" s__law_finer ["p", "q"]
  d__law_is_whole : DA K mg "_law_is_whole" s__law_is_whole ["value"]
  d__law_blocks : DA K mg "_law_blocks" s__law_blocks ["p"]
  d__law_drawn : DA K mg "_law_drawn" s__law_drawn ["state", "sort", "n"]
  d__law_kreweras : DA K mg "_law_kreweras" s__law_kreweras ["p"]
  d_is_parting : DA K mg "is_parting" s_is_parting ["value"]
  d_complement_of : DA K mg "complement_of" s_complement_of ["p"]
  d_turned : DA K mg "turned" s_turned ["p", "s"]
  d__law_grown : DA K mg "_law_grown" s__law_grown ["n"]
  d__law_woven : DA K mg "_law_woven" s__law_woven ["p", "q"]
  d__law_turned : DA K mg "_law_turned" s__law_turned ["p", "s"]
  d_check_noncrossing : DA K mg "check_noncrossing" s_check_noncrossing ["p"]
  d_kreweras : DA K mg "kreweras" s_kreweras ["p"]
  d_kreweras_back : DA K mg "kreweras_back" s_kreweras_back ["p"]
  d_turned_parting : DA K mg "turned_parting" s_turned_parting ["p", "s"]
  d__law_odd : DA K mg "_law_odd" s__law_odd ["value"]
  d__law_honest : DA K mg "_law_honest" s__law_honest ["value"]
  d__law_same : DA K mg "_law_same" s__law_same ["one", "two"]
  d__law_told : DA K mg "_law_told" s__law_told ["which", "p", "s"]
  d__law_few_hold : DA K mg "_law_few_hold" s__law_few_hold ["state"]
  d_law : DA K mg "law" s_law ["script"]
  x_Malformed : XA K mg "Malformed"
  t_MOST_PLACES : Tok
  c_MOST_PLACES : mg "MOST_PLACES" = some (.int 12 t_MOST_PLACES)
  t_MOST_TURN : Tok
  c_MOST_TURN : mg "MOST_TURN" = some (.int 12 t_MOST_TURN)
  b_abs : mg "abs" = none
  b_all : mg "all" = none
  b_any : mg "any" = none
  b_bool : mg "bool" = none
  b_enumerate : mg "enumerate" = none
  b_int : mg "int" = none
  b_isinstance : mg "isinstance" = none
  b_len : mg "len" = none
  b_list : mg "list" = none
  b_max : mg "max" = none
  b_range : mg "range" = none
  b_set : mg "set" = none
  b_sorted : mg "sorted" = none
  b_str : mg "str" = none
  b_tuple : mg "tuple" = none
def Facts.C {K : PySem.W.Frag} {mg : Str → Option Value} (E : Facts K mg) : RC := ⟨K, fun i => match i with
  | _ => none, fun i => match i with
  | 1 => some E.x_Malformed.a
  | _ => none⟩
variable {P : Program} {w : World} {K : PySem.W.Frag} {mg : Str → Option Value} {base : Heap} (E : Facts K mg)
abbrev lb__law_state_1 : En → SR := (seqS
  (setS 1 ((op2 addD (oOfV ((vOfE (op2 mulD (nmO 1) (oOfV (kI 1000003)))))) (oOfV ((vOfE (op1 absD (nmO 3)))))))) (setS 2 ((op2 modD (oOfV ((vOfE (op1 intD (oOfV ((vOfE (op2 addD (oOfV ((vOfE (op2 mulD (nmO 2) (oOfV (kI 48271)))))) (nmO 3))))))))) (oOfV (kI 2147483647))))))
abbrev g__law_state_1 : En → SR := (setS 1 ((eOfV (kI 0))))
abbrev g__law_state_2 : En → SR := (setS 2 ((eOfV (kI 1))))
abbrev g__law_state_3 : En → SR := (forS (seqI' ((vOfE (opS (nmO 0) pNone (pSome (kI 63)))))) (nameG 3) lb__law_state_1)
abbrev g__law_state_4 : En → SR := (retS ((lstE (aCons ((nmV 1)) (aCons ((nmV 2)) aNil)))))
def g__law_state : En → SR := (seqS g__law_state_1 (seqS g__law_state_2 (seqS g__law_state_3 g__law_state_4)))
def F__law_state : Sl → List D → FR := fnF 4 false g__law_state
set_option maxRecDepth 100000 in
theorem ok__law_state : FnV P w K mg base E.C 1 E.d__law_state.f E.d__law_state.fd ["script"] false F__law_state :=
  fnV_of E.d__law_state.F sc__law_state false [] rfl (fun h => nomatch h) fun cdv A outer s H X σ₀ hr G => by
    exact (eb_cons
  (es_set (i := 1) G rfl (by first | exact .inl rfl | exact .inr rfl) (show (1 : Nat) ∉ ([] : List Nat) by decide) (EvV.toE ev_int)) (eb_cons
  (es_set (i := 2) G rfl (by first | exact .inl rfl | exact .inr rfl) (show (2 : Nat) ∉ ([] : List Nat) by decide) (EvV.toE ev_int)) (eb_cons
  (es_for G (passes_of rfl) (ei_seq G (EvE.toV (ev_slice G (ev_nameO (i := 0) rfl (by first | exact .inl rfl | exact .inr (.inl rfl) | exact .inr (.inr rfl))) ep_none (ep_some ev_int)))) (eg_name (i := 3) G rfl (by first | exact .inl rfl | exact .inr rfl) (show (3 : Nat) ∉ ([] : List Nat) by decide)) (eb_cons
  (es_set (i := 1) G rfl (by first | exact .inl rfl | exact .inr rfl) (show (1 : Nat) ∉ ([] : List Nat) by decide) (ev_add G (EvV.toO (EvE.toV (ev_mul G (ev_nameO (i := 1) rfl (by first | exact .inl rfl | exact .inr (.inl rfl) | exact .inr (.inr rfl))) (EvV.toO ev_int)))) (EvV.toO (EvE.toV (ev_abs (by rfl) E.b_abs (ev_nameO (i := 3) rfl (by first | exact .inl rfl | exact .inr (.inl rfl) | exact .inr (.inr rfl)))))))) (eb_one (es_set (i := 2) G rfl (by first | exact .inl rfl | exact .inr rfl) (show (2 : Nat) ∉ ([] : List Nat) by decide) (ev_mod (EvV.toO (EvE.toV (ev_int1 (by rfl) E.b_int (EvV.toO (EvE.toV (ev_add G (EvV.toO (EvE.toV (ev_mul G (ev_nameO (i := 2) rfl (by first | exact .inl rfl | exact .inr (.inl rfl) | exact .inr (.inr rfl))) (EvV.toO ev_int)))) (ev_nameO (i := 3) rfl (by first | exact .inl rfl | exact .inr (.inl rfl) | exact .inr (.inr rfl))))))))) (EvV.toO ev_int)))))) (eb_one (es_ret (ev_lst (ea_cons (ev_name (i := 1) rfl (by first | exact .inl rfl | exact .inr (.inl rfl) | exact .inr (.inr rfl))) (ea_cons (ev_name (i := 2) rfl (by first | exact .inl rfl | exact .inr (.inl rfl) | exact .inr (.inr rfl))) ea_nil))))))))
abbrev g__law_take_1 : En → SR := (iteS (tst (op2 (cmpD fun i j => decide (j < i)) (oOfV ((vOfE (op2 idxD (nmO 0) (oOfV (kI 0)))))) (oOfV (kI 0)))) (seqS
  (setS 2 ((op2 modD (oOfV ((vOfE (op1 intD (oOfV ((vOfE (op2 idxD (nmO 0) (oOfV (kI 0)))))))))) (nmO 1)))) (seqS
  (sItS 0 ((vOfE (op2 fdivD (oOfV ((vOfE (op2 idxD (nmO 0) (oOfV (kI 0)))))) (nmO 1)))) (kI 0)) (retM 2))) passS)
abbrev g__law_take_2 : En → SR := (sItS 0 ((vOfE (op2 modD (oOfV ((vOfE (op1 intD (oOfV ((vOfE (op2 addD (oOfV ((vOfE (op2 mulD (oOfV ((vOfE (op2 idxD (nmO 0) (oOfV (kI 1)))))) (oOfV (kI 48271)))))) (oOfV (kI 11)))))))))) (oOfV (kI 2147483647))))) (kI 1))
abbrev g__law_take_3 : En → SR := (retS ((op2 modD (oOfV ((vOfE (op1 intD (oOfV ((vOfE (op2 fdivD (oOfV ((vOfE (op2 idxD (nmO 0) (oOfV (kI 1)))))) (oOfV (kI 7)))))))))) (nmO 1))))
def g__law_take : En → SR := (seqS g__law_take_1 (seqS g__law_take_2 g__law_take_3))
def F__law_take : Sl → List D → FR := fnF 3 true g__law_take
set_option maxRecDepth 100000 in
theorem ok__law_take : FnV P w K mg base E.C 1 E.d__law_take.f E.d__law_take.fd ["state", "m"] true F__law_take :=
  fnV_of E.d__law_take.F sc__law_take true [0] rfl (fun _ => ⟨by decide, by decide⟩) fun cdv A outer s H X σ₀ hr G => by
    exact (eb_cons
  (es_if (et_cmp (cGt) (EvV.toO (EvE.toV (ev_idx G hr (ev_nameO (i := 0) rfl (by first | exact .inl rfl | exact .inr (.inl rfl) | exact .inr (.inr rfl))) (EvV.toO ev_int)))) (EvV.toO ev_int)) (eb_cons
  (es_set (i := 2) G rfl (by first | exact .inl rfl | exact .inr rfl) (show (2 : Nat) ∉ ([0] : List Nat) by decide) (ev_mod (EvV.toO (EvE.toV (ev_int1 (by rfl) E.b_int (EvV.toO (EvE.toV (ev_idx G hr (ev_nameO (i := 0) rfl (by first | exact .inl rfl | exact .inr (.inl rfl) | exact .inr (.inr rfl))) (EvV.toO ev_int))))))) (ev_nameO (i := 1) rfl (by first | exact .inl rfl | exact .inr (.inl rfl) | exact .inr (.inr rfl))))) (eb_cons
  (es_sub (i := 0) G hr rfl (by first | exact .inl rfl | exact .inr (.inl rfl) | exact .inr (.inr rfl)) (EvE.toV (ev_fdiv (EvV.toO (EvE.toV (ev_idx G hr (ev_nameO (i := 0) rfl (by first | exact .inl rfl | exact .inr (.inl rfl) | exact .inr (.inr rfl))) (EvV.toO ev_int)))) (ev_nameO (i := 1) rfl (by first | exact .inl rfl | exact .inr (.inl rfl) | exact .inr (.inr rfl))))) ev_int) (eb_one (es_retM (i := 2) rfl (by first | exact .inl rfl | exact .inr (.inl rfl) | exact .inr (.inr rfl)))))) eb_nil) (eb_cons
  (es_sub (i := 0) G hr rfl (by first | exact .inl rfl | exact .inr (.inl rfl) | exact .inr (.inr rfl)) (EvE.toV (ev_mod (EvV.toO (EvE.toV (ev_int1 (by rfl) E.b_int (EvV.toO (EvE.toV (ev_add G (EvV.toO (EvE.toV (ev_mul G (EvV.toO (EvE.toV (ev_idx G hr (ev_nameO (i := 0) rfl (by first | exact .inl rfl | exact .inr (.inl rfl) | exact .inr (.inr rfl))) (EvV.toO ev_int)))) (EvV.toO ev_int)))) (EvV.toO ev_int))))))) (EvV.toO ev_int))) ev_int) (eb_one (es_ret (ev_mod (EvV.toO (EvE.toV (ev_int1 (by rfl) E.b_int (EvV.toO (EvE.toV (ev_fdiv (EvV.toO (EvE.toV (ev_idx G hr (ev_nameO (i := 0) rfl (by first | exact .inl rfl | exact .inr (.inl rfl) | exact .inr (.inr rfl))) (EvV.toO ev_int)))) (EvV.toO ev_int))))))) (ev_nameO (i := 1) rfl (by first | exact .inl rfl | exact .inr (.inl rfl) | exact .inr (.inr rfl))))))))
abbrev cp__law_crosses_1 : En → R (D × Nat) := (comp (rg2 (aCons ((vOfE (op2 addD (nmO 3) (oOfV (kI 1))))) (aCons ((nmV 1)) aNil))) (nameG 4) (yesT) ((eOfV ((andV ((vOfE (op2 eqD (oOfV ((vOfE (op2 idxD (nmO 0) (nmO 4))))) (oOfV ((vOfE (op2 idxD (nmO 0) (nmO 2)))))))) ((vOfE (op2 inD (oOfV ((vOfE (op2 idxD (nmO 0) (nmO 3))))) (oOfV ((vOfE (opS (nmO 0) (pSome ((vOfE (op2 addD (nmO 4) (oOfV (kI 1)))))) pNone))))))))))) 0 [4])
abbrev lb__law_crosses_1 : En → SR := (iteS (andT (tst (op2 neD (oOfV ((vOfE (op2 idxD (nmO 0) (nmO 2))))) (oOfV ((vOfE (op2 idxD (nmO 0) (nmO 3))))))) (tru (oOfV ((vOfE (op1 anyD (oOfV ((vOfE cp__law_crosses_1))))))))) (retS ((eOfV (kB true)))) passS)
abbrev lb__law_crosses_2 : En → SR := (forS (rg2 (aCons ((vOfE (op2 addD (nmO 2) (oOfV (kI 1))))) (aCons ((nmV 1)) aNil))) (nameG 3) lb__law_crosses_1)
abbrev g__law_crosses_1 : En → SR := (setS 1 ((op1 lenD (nmO 0))))
abbrev g__law_crosses_2 : En → SR := (forS (rg1 (aCons ((nmV 1)) aNil)) (nameG 2) lb__law_crosses_2)
abbrev g__law_crosses_3 : En → SR := (retS ((eOfV (kB false))))
def g__law_crosses : En → SR := (seqS g__law_crosses_1 (seqS g__law_crosses_2 g__law_crosses_3))
def F__law_crosses : Sl → List D → FR := fnF 5 false g__law_crosses
set_option maxRecDepth 100000 in
theorem ok__law_crosses : FnV P w K mg base E.C 1 E.d__law_crosses.f E.d__law_crosses.fd ["p"] false F__law_crosses :=
  fnV_of E.d__law_crosses.F sc__law_crosses false [] rfl (fun h => nomatch h) fun cdv A outer s H X σ₀ hr G => by
    exact (eb_cons
  (es_set (i := 1) G rfl (by first | exact .inl rfl | exact .inr rfl) (show (1 : Nat) ∉ ([] : List Nat) by decide) (ev_len G (by rfl) E.b_len (ev_nameO (i := 0) rfl (by first | exact .inl rfl | exact .inr (.inl rfl) | exact .inr (.inr rfl))))) (eb_cons
  (es_for G (passes_of rfl) (ei_rg1 (by rfl) E.b_range (ea_cons (ev_name (i := 1) rfl (by first | exact .inl rfl | exact .inr (.inl rfl) | exact .inr (.inr rfl))) ea_nil)) (eg_name (i := 2) G rfl (by first | exact .inl rfl | exact .inr rfl) (show (2 : Nat) ∉ ([] : List Nat) by decide)) (eb_one (es_for G (passes_of rfl) (ei_rg2 (by rfl) E.b_range (ea_cons (EvE.toV (ev_add G (ev_nameO (i := 2) rfl (by first | exact .inl rfl | exact .inr (.inl rfl) | exact .inr (.inr rfl))) (EvV.toO ev_int))) (ea_cons (ev_name (i := 1) rfl (by first | exact .inl rfl | exact .inr (.inl rfl) | exact .inr (.inr rfl))) ea_nil))) (eg_name (i := 3) G rfl (by first | exact .inl rfl | exact .inr rfl) (show (3 : Nat) ∉ ([] : List Nat) by decide)) (eb_one (es_if (EvW.t (ew_and (et_cmp (cNe G hr) (EvV.toO (EvE.toV (ev_idx G hr (ev_nameO (i := 0) rfl (by first | exact .inl rfl | exact .inr (.inl rfl) | exact .inr (.inr rfl))) (ev_nameO (i := 2) rfl (by first | exact .inl rfl | exact .inr (.inl rfl) | exact .inr (.inr rfl)))))) (EvV.toO (EvE.toV (ev_idx G hr (ev_nameO (i := 0) rfl (by first | exact .inl rfl | exact .inr (.inl rfl) | exact .inr (.inr rfl))) (ev_nameO (i := 3) rfl (by first | exact .inl rfl | exact .inr (.inl rfl) | exact .inr (.inr rfl))))))) (ew_and1 (et_tru G (EvV.toO (EvE.toV (ev_any G (by rfl) E.b_any (EvV.toO (EvE.toV (ev_lc (own := [((PySem.Str.ofString "z"), 4)]) (vs := [4]) (ws := [4]) 0 G (ei_rg2 (by rfl) E.b_range (ea_cons (EvE.toV (ev_add G (ev_nameO (i := 3) rfl (by first | exact .inl rfl | exact .inr (.inl rfl) | exact .inr (.inr rfl))) (EvV.toO ev_int))) (ea_cons (ev_name (i := 1) rfl (by first | exact .inl rfl | exact .inr (.inl rfl) | exact .inr (.inr rfl))) ea_nil))) (blkOk_by (by kernel_rfl)) rfl (by decide) (fun _ _ _ _ _ => blkG G fun G => (eg_name (i := 4) G rfl (by first | exact .inl rfl | exact .inr rfl) (show (4 : Nat) ∉ ([] : List Nat) by decide))) (fun _ _ _ _ _ => blkT G fun G => ept_nil) (fun _ _ _ _ _ => blkE G fun G => (EvV.toE (ev_and (EvE.toV (ev_cmp (cEq G hr) (EvV.toO (EvE.toV (ev_idx G hr (ev_nameO (i := 0) rfl (by first | exact .inl rfl | exact .inr (.inl rfl) | exact .inr (.inr rfl))) (ev_nameO (i := 4) rfl (by first | exact .inl rfl | exact .inr (.inl rfl) | exact .inr (.inr rfl)))))) (EvV.toO (EvE.toV (ev_idx G hr (ev_nameO (i := 0) rfl (by first | exact .inl rfl | exact .inr (.inl rfl) | exact .inr (.inr rfl))) (ev_nameO (i := 2) rfl (by first | exact .inl rfl | exact .inr (.inl rfl) | exact .inr (.inr rfl)))))))) (ev_one (EvE.toV (ev_cmp (cIn G hr) (EvV.toO (EvE.toV (ev_idx G hr (ev_nameO (i := 0) rfl (by first | exact .inl rfl | exact .inr (.inl rfl) | exact .inr (.inr rfl))) (ev_nameO (i := 3) rfl (by first | exact .inl rfl | exact .inr (.inl rfl) | exact .inr (.inr rfl)))))) (EvV.toO (EvE.toV (ev_slice G (ev_nameO (i := 0) rfl (by first | exact .inl rfl | exact .inr (.inl rfl) | exact .inr (.inr rfl))) (ep_some (EvE.toV (ev_add G (ev_nameO (i := 4) rfl (by first | exact .inl rfl | exact .inr (.inl rfl) | exact .inr (.inr rfl))) (EvV.toO ev_int)))) ep_none))))))))))))))))))) (eb_one (es_ret (EvV.toE ev_bl))) eb_nil))))) (eb_one (es_ret (EvV.toE ev_bl)))))
abbrev lb__law_numbered_1 : En → SR := (seqS
  (iteS (tst (op2 ninD (nmO 1) (nmO 2))) (sItS 2 ((vOfE (op1 lenD (nmO 2)))) ((nmV 1))) passS) (appS 3 ((vOfE (op2 idxD (nmO 2) (nmO 1))))))
abbrev g__law_numbered_1 : En → SR := (parS 2 3 (lCons (dicE) (lCons ((lstE aNil)) lNil)))
abbrev g__law_numbered_2 : En → SR := (forS (seqI' ((nmV 0))) (nameG 1) lb__law_numbered_1)
abbrev g__law_numbered_3 : En → SR := (retS ((op1 tupD (nmO 3))))
def g__law_numbered : En → SR := (seqS g__law_numbered_1 (seqS g__law_numbered_2 g__law_numbered_3))
def F__law_numbered : Sl → List D → FR := fnF 4 false g__law_numbered
set_option maxRecDepth 100000 in
theorem ok__law_numbered : FnV P w K mg base E.C 1 E.d__law_numbered.f E.d__law_numbered.fd ["marks"] false F__law_numbered :=
  fnV_of E.d__law_numbered.F sc__law_numbered false [] rfl (fun h => nomatch h) fun cdv A outer s H X σ₀ hr G => by
    exact (eb_cons
  (es_par (i := 2) (j := 3) G rfl rfl (by decide) (show (2 : Nat) ∉ ([] : List Nat) by decide) (show (3 : Nat) ∉ ([] : List Nat) by decide) rfl rfl (el_cons ev_dic (el_cons (ev_lst ea_nil) el_nil))) (eb_cons
  (es_for G (passes_of rfl) (ei_seq G (ev_name (i := 0) rfl (by first | exact .inl rfl | exact .inr (.inl rfl) | exact .inr (.inr rfl)))) (eg_name (i := 1) G rfl (by first | exact .inl rfl | exact .inr rfl) (show (1 : Nat) ∉ ([] : List Nat) by decide)) (eb_cons
  (es_if (et_cmp (cNin G hr) (ev_nameO (i := 1) rfl (by first | exact .inl rfl | exact .inr (.inl rfl) | exact .inr (.inr rfl))) (ev_nameO (i := 2) rfl (by first | exact .inl rfl | exact .inr (.inl rfl) | exact .inr (.inr rfl)))) (eb_one (es_sub (i := 2) G hr rfl (by first | exact .inl rfl | exact .inr (.inl rfl) | exact .inr (.inr rfl)) (EvE.toV (ev_len G (by rfl) E.b_len (ev_nameO (i := 2) rfl (by first | exact .inl rfl | exact .inr (.inl rfl) | exact .inr (.inr rfl))))) (ev_name (i := 1) rfl (by first | exact .inl rfl | exact .inr (.inl rfl) | exact .inr (.inr rfl))))) eb_nil) (eb_one (es_app (i := 3) G rfl (by first | exact .inl rfl | exact .inr (.inl rfl) | exact .inr (.inr rfl)) (EvE.toV (ev_idx G hr (ev_nameO (i := 2) rfl (by first | exact .inl rfl | exact .inr (.inl rfl) | exact .inr (.inr rfl))) (ev_nameO (i := 1) rfl (by first | exact .inl rfl | exact .inr (.inl rfl) | exact .inr (.inr rfl))))))))) (eb_one (es_ret (ev_tuple G (by rfl) E.b_tuple (ev_nameO (i := 3) rfl (by first | exact .inl rfl | exact .inr (.inl rfl) | exact .inr (.inr rfl))))))))
abbrev lb_first_numbering_1 : En → SR := (seqS
  (iteS (tst (op2 ninD (nmO 1) (nmO 2))) (sItS 2 ((vOfE (op1 lenD (nmO 2)))) ((nmV 1))) passS) (appS 3 ((vOfE (op2 idxD (nmO 2) (nmO 1))))))
abbrev g_first_numbering_1 : En → SR := (parS 2 3 (lCons (dicE) (lCons ((lstE aNil)) lNil)))
abbrev g_first_numbering_2 : En → SR := (forS (seqI' ((nmV 0))) (nameG 1) lb_first_numbering_1)
abbrev g_first_numbering_3 : En → SR := (retS ((op1 tupD (nmO 3))))
def g_first_numbering : En → SR := (seqS g_first_numbering_1 (seqS g_first_numbering_2 g_first_numbering_3))
def F_first_numbering : Sl → List D → FR := fnF 4 false g_first_numbering
set_option maxRecDepth 100000 in
theorem ok_first_numbering : FnV P w K mg base E.C 1 E.d_first_numbering.f E.d_first_numbering.fd ["marks"] false F_first_numbering :=
  fnV_of E.d_first_numbering.F sc_first_numbering false [] rfl (fun h => nomatch h) fun cdv A outer s H X σ₀ hr G => by
    exact (eb_cons
  (es_par (i := 2) (j := 3) G rfl rfl (by decide) (show (2 : Nat) ∉ ([] : List Nat) by decide) (show (3 : Nat) ∉ ([] : List Nat) by decide) rfl rfl (el_cons ev_dic (el_cons (ev_lst ea_nil) el_nil))) (eb_cons
  (es_for G (passes_of rfl) (ei_seq G (ev_name (i := 0) rfl (by first | exact .inl rfl | exact .inr (.inl rfl) | exact .inr (.inr rfl)))) (eg_name (i := 1) G rfl (by first | exact .inl rfl | exact .inr rfl) (show (1 : Nat) ∉ ([] : List Nat) by decide)) (eb_cons
  (es_if (et_cmp (cNin G hr) (ev_nameO (i := 1) rfl (by first | exact .inl rfl | exact .inr (.inl rfl) | exact .inr (.inr rfl))) (ev_nameO (i := 2) rfl (by first | exact .inl rfl | exact .inr (.inl rfl) | exact .inr (.inr rfl)))) (eb_one (es_sub (i := 2) G hr rfl (by first | exact .inl rfl | exact .inr (.inl rfl) | exact .inr (.inr rfl)) (EvE.toV (ev_len G (by rfl) E.b_len (ev_nameO (i := 2) rfl (by first | exact .inl rfl | exact .inr (.inl rfl) | exact .inr (.inr rfl))))) (ev_name (i := 1) rfl (by first | exact .inl rfl | exact .inr (.inl rfl) | exact .inr (.inr rfl))))) eb_nil) (eb_one (es_app (i := 3) G rfl (by first | exact .inl rfl | exact .inr (.inl rfl) | exact .inr (.inr rfl)) (EvE.toV (ev_idx G hr (ev_nameO (i := 2) rfl (by first | exact .inl rfl | exact .inr (.inl rfl) | exact .inr (.inr rfl))) (ev_nameO (i := 1) rfl (by first | exact .inl rfl | exact .inr (.inl rfl) | exact .inr (.inr rfl))))))))) (eb_one (es_ret (ev_tuple G (by rfl) E.b_tuple (ev_nameO (i := 3) rfl (by first | exact .inl rfl | exact .inr (.inl rfl) | exact .inr (.inr rfl))))))))
def g_is_integer : En → SR := (retS ((eOfV ((andV ((vOfE (op1 (isiD "int") (nmO 0)))) ((notV ((vOfE (op1 (isiD "bool") (nmO 0)))))))))))
def F_is_integer : Sl → List D → FR := fnF 1 false g_is_integer
set_option maxRecDepth 100000 in
theorem ok_is_integer : FnV P w K mg base E.C 1 E.d_is_integer.f E.d_is_integer.fd ["value"] false F_is_integer :=
  fnV_of E.d_is_integer.F sc_is_integer false [] rfl (fun h => nomatch h) fun cdv A outer s H X σ₀ hr G => by
    exact (eb_one (es_ret (EvV.toE (ev_and (EvE.toV (ev_isi G (T := "int") (by decide) (by decide +kernel) (by rfl) E.b_isinstance (by rfl) E.b_int (ev_nameO (i := 0) rfl (by first | exact .inl rfl | exact .inr (.inl rfl) | exact .inr (.inr rfl))))) (ev_one (ev_not (EvE.toV (ev_isi G (T := "bool") (by decide) (by decide +kernel) (by rfl) E.b_isinstance (by rfl) E.b_bool (ev_nameO (i := 0) rfl (by first | exact .inl rfl | exact .inr (.inl rfl) | exact .inr (.inr rfl)))))))))))
abbrev lb_has_no_crossing_1 : En → SR := (sItS 1 ((nmV 3)) ((nmV 4)))
abbrev lb_has_no_crossing_2 : En → SR := (seqS
  (iteS (tst (op2 inD (nmO 4) (nmO 2))) (iteS (tst (op2 neD (oOfV ((vOfE (op2 idxD (nmO 2) (oOfV ((vOfE (op1 negD (oOfV (kI 1)))))))))) (nmO 4))) (retS ((eOfV (kB false)))) passS) (appS 2 ((nmV 4)))) (iteS (tst (op2 eqD (oOfV ((vOfE (op2 idxD (nmO 1) (nmO 4))))) (nmO 3))) (exprS (eOfV ((popV 2)))) passS))
abbrev g_has_no_crossing_1 : En → SR := (setS 1 (dicE))
abbrev g_has_no_crossing_2 : En → SR := (forS (enumI (aCons ((nmV 0)) aNil)) (tupG 2 (consG (nameG 3) (consG (nameG 4) nilG))) lb_has_no_crossing_1)
abbrev g_has_no_crossing_3 : En → SR := (setS 2 ((lstE aNil)))
abbrev g_has_no_crossing_4 : En → SR := (forS (enumI (aCons ((nmV 0)) aNil)) (tupG 2 (consG (nameG 3) (consG (nameG 4) nilG))) lb_has_no_crossing_2)
abbrev g_has_no_crossing_5 : En → SR := (retS ((eOfV (kB true))))
def g_has_no_crossing : En → SR := (seqS g_has_no_crossing_1 (seqS g_has_no_crossing_2 (seqS g_has_no_crossing_3 (seqS g_has_no_crossing_4 g_has_no_crossing_5))))
def F_has_no_crossing : Sl → List D → FR := fnF 5 false g_has_no_crossing
set_option maxRecDepth 100000 in
theorem ok_has_no_crossing : FnV P w K mg base E.C 1 E.d_has_no_crossing.f E.d_has_no_crossing.fd ["p"] false F_has_no_crossing :=
  fnV_of E.d_has_no_crossing.F sc_has_no_crossing false [] rfl (fun h => nomatch h) fun cdv A outer s H X σ₀ hr G => by
    exact (eb_cons
  (es_set (i := 1) G rfl (by first | exact .inl rfl | exact .inr rfl) (show (1 : Nat) ∉ ([] : List Nat) by decide) ev_dic) (eb_cons
  (es_for G (passes_of rfl) (ei_enum G (by rfl) E.b_enumerate (ea_cons (ev_name (i := 0) rfl (by first | exact .inl rfl | exact .inr (.inl rfl) | exact .inr (.inr rfl))) ea_nil)) (eg_tup G (egs_cons (eg_name (i := 3) G rfl (by first | exact .inl rfl | exact .inr rfl) (show (3 : Nat) ∉ ([] : List Nat) by decide)) (egs_cons (eg_name (i := 4) G rfl (by first | exact .inl rfl | exact .inr rfl) (show (4 : Nat) ∉ ([] : List Nat) by decide)) egs_nil))) (eb_one (es_sub (i := 1) G hr rfl (by first | exact .inl rfl | exact .inr (.inl rfl) | exact .inr (.inr rfl)) (ev_name (i := 3) rfl (by first | exact .inl rfl | exact .inr (.inl rfl) | exact .inr (.inr rfl))) (ev_name (i := 4) rfl (by first | exact .inl rfl | exact .inr (.inl rfl) | exact .inr (.inr rfl)))))) (eb_cons
  (es_set (i := 2) G rfl (by first | exact .inl rfl | exact .inr rfl) (show (2 : Nat) ∉ ([] : List Nat) by decide) (ev_lst ea_nil)) (eb_cons
  (es_for G (passes_of rfl) (ei_enum G (by rfl) E.b_enumerate (ea_cons (ev_name (i := 0) rfl (by first | exact .inl rfl | exact .inr (.inl rfl) | exact .inr (.inr rfl))) ea_nil)) (eg_tup G (egs_cons (eg_name (i := 3) G rfl (by first | exact .inl rfl | exact .inr rfl) (show (3 : Nat) ∉ ([] : List Nat) by decide)) (egs_cons (eg_name (i := 4) G rfl (by first | exact .inl rfl | exact .inr rfl) (show (4 : Nat) ∉ ([] : List Nat) by decide)) egs_nil))) (eb_cons
  (es_if (et_cmp (cIn G hr) (ev_nameO (i := 4) rfl (by first | exact .inl rfl | exact .inr (.inl rfl) | exact .inr (.inr rfl))) (ev_nameO (i := 2) rfl (by first | exact .inl rfl | exact .inr (.inl rfl) | exact .inr (.inr rfl)))) (eb_one (es_if (et_cmp (cNe G hr) (EvV.toO (EvE.toV (ev_idx G hr (ev_nameO (i := 2) rfl (by first | exact .inl rfl | exact .inr (.inl rfl) | exact .inr (.inr rfl))) (EvV.toO (EvE.toV (ev_neg (EvV.toO ev_int))))))) (ev_nameO (i := 4) rfl (by first | exact .inl rfl | exact .inr (.inl rfl) | exact .inr (.inr rfl)))) (eb_one (es_ret (EvV.toE ev_bl))) eb_nil)) (eb_one (es_app (i := 2) G rfl (by first | exact .inl rfl | exact .inr (.inl rfl) | exact .inr (.inr rfl)) (ev_name (i := 4) rfl (by first | exact .inl rfl | exact .inr (.inl rfl) | exact .inr (.inr rfl)))))) (eb_one (es_if (et_cmp (cEq G hr) (EvV.toO (EvE.toV (ev_idx G hr (ev_nameO (i := 1) rfl (by first | exact .inl rfl | exact .inr (.inl rfl) | exact .inr (.inr rfl))) (ev_nameO (i := 4) rfl (by first | exact .inl rfl | exact .inr (.inl rfl) | exact .inr (.inr rfl)))))) (ev_nameO (i := 3) rfl (by first | exact .inl rfl | exact .inr (.inl rfl) | exact .inr (.inr rfl)))) (eb_one (es_expr (EvV.toE (ev_pop (i := 2) rfl (by first | exact .inl rfl | exact .inr (.inl rfl) | exact .inr (.inr rfl)))))) eb_nil)))) (eb_one (es_ret (EvV.toE ev_bl)))))))
abbrev cp_blocks_of_1 : En → R (D × Nat) := (comp (seqI' ((vOfE (op1 ssetD (nmO 0))))) (nameG 4) (yesT) ((lstE aNil)) 1 [4])
abbrev lb_blocks_of_1 : En → SR := (app2S 1 (nmK 3) (nmK 2))
abbrev cp_blocks_of_2 : En → R (D × Nat) := (comp (seqI' ((nmV 1))) (nameG 5) (yesT) ((eOfV ((vOfE (op1 tupD (nmO 5)))))) 0 [5])
abbrev g_blocks_of_1 : En → SR := (setS 1 cp_blocks_of_1)
abbrev g_blocks_of_2 : En → SR := (forS (enumI (aCons ((nmV 0)) aNil)) (tupG 2 (consG (nameG 2) (consG (nameG 3) nilG))) lb_blocks_of_1)
abbrev g_blocks_of_3 : En → SR := (retS (cp_blocks_of_2))
def g_blocks_of : En → SR := (seqS g_blocks_of_1 (seqS g_blocks_of_2 g_blocks_of_3))
def F_blocks_of : Sl → List D → FR := fnF 6 false g_blocks_of
set_option maxRecDepth 100000 in
theorem ok_blocks_of : FnV P w K mg base E.C 1 E.d_blocks_of.f E.d_blocks_of.fd ["p"] false F_blocks_of :=
  fnV_of E.d_blocks_of.F sc_blocks_of false [] rfl (fun h => nomatch h) fun cdv A outer s H X σ₀ hr G => by
    exact (eb_cons
  (es_setLc (i := 1) (own := [((PySem.Str.ofString "_"), 4)]) (vs := [4]) (ws := [4]) 1 G rfl rfl (show (1 : Nat) ∉ ([] : List Nat) by decide) (sw_true rfl rfl rfl rfl) (ei_seq G (EvE.toV (ev_sset G (by rfl) E.b_sorted (by rfl) E.b_set (ev_nameO (i := 0) rfl (by first | exact .inl rfl | exact .inr (.inl rfl) | exact .inr (.inr rfl)))))) (blkOk_by (by kernel_rfl)) rfl (by decide) (fun _ _ _ _ _ => blkG G fun G => (eg_name (i := 4) G rfl (by first | exact .inl rfl | exact .inr rfl) (show (4 : Nat) ∉ ([] : List Nat) by decide))) (fun _ _ _ _ _ => blkT G fun G => ept_nil) (fun _ _ _ _ _ => blkE G fun G => (ev_lst ea_nil))) (eb_cons
  (es_for G (passes_of rfl) (ei_enum G (by rfl) E.b_enumerate (ea_cons (ev_name (i := 0) rfl (by first | exact .inl rfl | exact .inr (.inl rfl) | exact .inr (.inr rfl))) ea_nil)) (eg_tup G (egs_cons (eg_name (i := 2) G rfl (by first | exact .inl rfl | exact .inr rfl) (show (2 : Nat) ∉ ([] : List Nat) by decide)) (egs_cons (eg_name (i := 3) G rfl (by first | exact .inl rfl | exact .inr rfl) (show (3 : Nat) ∉ ([] : List Nat) by decide)) egs_nil))) (eb_one (es_app2 (i := 1) G rfl (by first | exact .inl rfl | exact .inr (.inl rfl) | exact .inr (.inr rfl)) (ek_name (i := 3) rfl (by first | exact .inl rfl | exact .inr (.inl rfl) | exact .inr (.inr rfl))) (ek_name (i := 2) rfl (by first | exact .inl rfl | exact .inr (.inl rfl) | exact .inr (.inr rfl)))))) (eb_one (es_ret (ev_lc (own := [((PySem.Str.ofString "block"), 5)]) (vs := [5]) (ws := [5]) 0 G (ei_seq G (ev_name (i := 1) rfl (by first | exact .inl rfl | exact .inr (.inl rfl) | exact .inr (.inr rfl)))) (blkOk_by (by kernel_rfl)) rfl (by decide) (fun _ _ _ _ _ => blkG G fun G => (eg_name (i := 5) G rfl (by first | exact .inl rfl | exact .inr rfl) (show (5 : Nat) ∉ ([] : List Nat) by decide))) (fun _ _ _ _ _ => blkT G fun G => ept_nil) (fun _ _ _ _ _ => blkE G fun G => (EvV.toE (EvE.toV (ev_tuple G (by rfl) E.b_tuple (ev_nameO (i := 5) rfl (by first | exact .inl rfl | exact .inr (.inl rfl) | exact .inr (.inr rfl))))))))))))
abbrev cp__law_finer_1 : En → R (D × Nat) := (comp (rg1 (aCons ((nmV 2)) aNil)) (nameG 3) ((tst (op2 eqD (oOfV ((vOfE (op2 idxD (nmO 0) (nmO 2))))) (oOfV ((vOfE (op2 idxD (nmO 0) (nmO 3)))))))) ((eOfV ((vOfE (op2 eqD (oOfV ((vOfE (op2 idxD (nmO 1) (nmO 2))))) (oOfV ((vOfE (op2 idxD (nmO 1) (nmO 3)))))))))) 0 [3])
abbrev cp__law_finer_2 : En → R (D × Nat) := (comp (rg1 (aCons ((vOfE (op1 lenD (nmO 0)))) aNil)) (nameG 2) (yesT) ((eOfV ((vOfE (op1 allD (oOfV ((vOfE cp__law_finer_1)))))))) 0 [2])
def g__law_finer : En → SR := (retS ((op1 allD (oOfV ((vOfE cp__law_finer_2))))))
def F__law_finer : Sl → List D → FR := fnF 4 false g__law_finer
set_option maxRecDepth 100000 in
theorem ok__law_finer : FnV P w K mg base E.C 1 E.d__law_finer.f E.d__law_finer.fd ["p", "q"] false F__law_finer :=
  fnV_of E.d__law_finer.F sc__law_finer false [] rfl (fun h => nomatch h) fun cdv A outer s H X σ₀ hr G => by
    exact (eb_one (es_ret (ev_all G (by rfl) E.b_all (EvV.toO (EvE.toV (ev_lc (own := [((PySem.Str.ofString "x"), 2)]) (vs := [2]) (ws := [2]) 0 G (ei_rg1 (by rfl) E.b_range (ea_cons (EvE.toV (ev_len G (by rfl) E.b_len (ev_nameO (i := 0) rfl (by first | exact .inl rfl | exact .inr (.inl rfl) | exact .inr (.inr rfl))))) ea_nil)) (blkOk_by (by kernel_rfl)) rfl (by decide) (fun _ _ _ _ _ => blkG G fun G => (eg_name (i := 2) G rfl (by first | exact .inl rfl | exact .inr rfl) (show (2 : Nat) ∉ ([] : List Nat) by decide))) (fun _ _ _ _ _ => blkT G fun G => ept_nil) (fun _ _ _ _ _ => blkE G fun G => (EvV.toE (EvE.toV (ev_all G (by rfl) E.b_all (EvV.toO (EvE.toV (ev_lc (own := [((PySem.Str.ofString "y"), 3)]) (vs := [3]) (ws := [3]) 0 G (ei_rg1 (by rfl) E.b_range (ea_cons (ev_name (i := 2) rfl (by first | exact .inl rfl | exact .inr (.inl rfl) | exact .inr (.inr rfl))) ea_nil)) (blkOk_by (by kernel_rfl)) rfl (by decide) (fun _ _ _ _ _ => blkG G fun G => (eg_name (i := 3) G rfl (by first | exact .inl rfl | exact .inr rfl) (show (3 : Nat) ∉ ([] : List Nat) by decide))) (fun _ _ _ _ _ => blkT G fun G => (ept_one (et_cmp (cEq G hr) (EvV.toO (EvE.toV (ev_idx G hr (ev_nameO (i := 0) rfl (by first | exact .inl rfl | exact .inr (.inl rfl) | exact .inr (.inr rfl))) (ev_nameO (i := 2) rfl (by first | exact .inl rfl | exact .inr (.inl rfl) | exact .inr (.inr rfl)))))) (EvV.toO (EvE.toV (ev_idx G hr (ev_nameO (i := 0) rfl (by first | exact .inl rfl | exact .inr (.inl rfl) | exact .inr (.inr rfl))) (ev_nameO (i := 3) rfl (by first | exact .inl rfl | exact .inr (.inl rfl) | exact .inr (.inr rfl))))))))) (fun _ _ _ _ _ => blkE G fun G => (EvV.toE (EvE.toV (ev_cmp (cEq G hr) (EvV.toO (EvE.toV (ev_idx G hr (ev_nameO (i := 1) rfl (by first | exact .inl rfl | exact .inr (.inl rfl) | exact .inr (.inr rfl))) (ev_nameO (i := 2) rfl (by first | exact .inl rfl | exact .inr (.inl rfl) | exact .inr (.inr rfl)))))) (EvV.toO (EvE.toV (ev_idx G hr (ev_nameO (i := 1) rfl (by first | exact .inl rfl | exact .inr (.inl rfl) | exact .inr (.inr rfl))) (ev_nameO (i := 3) rfl (by first | exact .inl rfl | exact .inr (.inl rfl) | exact .inr (.inr rfl)))))))))))))))))))))))
def g__law_is_whole : En → SR := (retS ((eOfV ((andV ((vOfE (op1 (isiD "int") (nmO 0)))) ((notV ((vOfE (op1 (isiD "bool") (nmO 0)))))))))))
def F__law_is_whole : Sl → List D → FR := fnF 1 false g__law_is_whole
set_option maxRecDepth 100000 in
theorem ok__law_is_whole : FnV P w K mg base E.C 1 E.d__law_is_whole.f E.d__law_is_whole.fd ["value"] false F__law_is_whole :=
  fnV_of E.d__law_is_whole.F sc__law_is_whole false [] rfl (fun h => nomatch h) fun cdv A outer s H X σ₀ hr G => by
    exact (eb_one (es_ret (EvV.toE (ev_and (EvE.toV (ev_isi G (T := "int") (by decide) (by decide +kernel) (by rfl) E.b_isinstance (by rfl) E.b_int (ev_nameO (i := 0) rfl (by first | exact .inl rfl | exact .inr (.inl rfl) | exact .inr (.inr rfl))))) (ev_one (ev_not (EvE.toV (ev_isi G (T := "bool") (by decide) (by decide +kernel) (by rfl) E.b_isinstance (by rfl) E.b_bool (ev_nameO (i := 0) rfl (by first | exact .inl rfl | exact .inr (.inl rfl) | exact .inr (.inr rfl)))))))))))
abbrev cp__law_blocks_1 : En → R (D × Nat) := (comp (rg1 (aCons ((vOfE (op1 lenD (nmO 0)))) aNil)) (nameG 3) ((tst (op2 eqD (oOfV ((vOfE (op2 idxD (nmO 0) (nmO 3))))) (nmO 2)))) ((eOfV ((nmV 3)))) 0 [3])
abbrev lb__law_blocks_1 : En → SR := (appS 1 ((vOfE (op1 tupD (oOfV ((vOfE cp__law_blocks_1)))))))
abbrev g__law_blocks_1 : En → SR := (setS 1 ((lstE aNil)))
abbrev g__law_blocks_2 : En → SR := (forS (rg1 (aCons ((vOfE (op2 addD (oOfV ((vOfE (op1 maxD1 (oOfV ((vOfE (op2 addD (oOfV ((tupE (aCons ((vOfE (op1 negD (oOfV (kI 1))))) aNil)))) (nmO 0))))))))) (oOfV (kI 1))))) aNil)) (nameG 2) lb__law_blocks_1)
abbrev g__law_blocks_3 : En → SR := (retM 1)
def g__law_blocks : En → SR := (seqS g__law_blocks_1 (seqS g__law_blocks_2 g__law_blocks_3))
def F__law_blocks : Sl → List D → FR := fnF 4 false g__law_blocks
set_option maxRecDepth 100000 in
theorem ok__law_blocks : FnV P w K mg base E.C 1 E.d__law_blocks.f E.d__law_blocks.fd ["p"] false F__law_blocks :=
  fnV_of E.d__law_blocks.F sc__law_blocks false [] rfl (fun h => nomatch h) fun cdv A outer s H X σ₀ hr G => by
    exact (eb_cons
  (es_set (i := 1) G rfl (by first | exact .inl rfl | exact .inr rfl) (show (1 : Nat) ∉ ([] : List Nat) by decide) (ev_lst ea_nil)) (eb_cons
  (es_for G (passes_of rfl) (ei_rg1 (by rfl) E.b_range (ea_cons (EvE.toV (ev_add G (EvV.toO (EvE.toV (ev_max1 G hr (by rfl) E.b_max (EvV.toO (EvE.toV (ev_add G (EvV.toO (ev_tup (ea_cons (EvE.toV (ev_neg (EvV.toO ev_int))) ea_nil))) (ev_nameO (i := 0) rfl (by first | exact .inl rfl | exact .inr (.inl rfl) | exact .inr (.inr rfl))))))))) (EvV.toO ev_int))) ea_nil)) (eg_name (i := 2) G rfl (by first | exact .inl rfl | exact .inr rfl) (show (2 : Nat) ∉ ([] : List Nat) by decide)) (eb_one (es_app (i := 1) G rfl (by first | exact .inl rfl | exact .inr (.inl rfl) | exact .inr (.inr rfl)) (EvE.toV (ev_tuple G (by rfl) E.b_tuple (EvV.toO (EvE.toV (ev_lc (own := [((PySem.Str.ofString "x"), 3)]) (vs := [3]) (ws := [3]) 0 G (ei_rg1 (by rfl) E.b_range (ea_cons (EvE.toV (ev_len G (by rfl) E.b_len (ev_nameO (i := 0) rfl (by first | exact .inl rfl | exact .inr (.inl rfl) | exact .inr (.inr rfl))))) ea_nil)) (blkOk_by (by kernel_rfl)) rfl (by decide) (fun _ _ _ _ _ => blkG G fun G => (eg_name (i := 3) G rfl (by first | exact .inl rfl | exact .inr rfl) (show (3 : Nat) ∉ ([] : List Nat) by decide))) (fun _ _ _ _ _ => blkT G fun G => (ept_one (et_cmp (cEq G hr) (EvV.toO (EvE.toV (ev_idx G hr (ev_nameO (i := 0) rfl (by first | exact .inl rfl | exact .inr (.inl rfl) | exact .inr (.inr rfl))) (ev_nameO (i := 3) rfl (by first | exact .inl rfl | exact .inr (.inl rfl) | exact .inr (.inr rfl)))))) (ev_nameO (i := 2) rfl (by first | exact .inl rfl | exact .inr (.inl rfl) | exact .inr (.inr rfl)))))) (fun _ _ _ _ _ => blkE G fun G => (EvV.toE (ev_name (i := 3) rfl (by first | exact .inl rfl | exact .inr (.inl rfl) | exact .inr (.inr rfl))))))))))))) (eb_one (es_retM (i := 1) rfl (by first | exact .inl rfl | exact .inr (.inl rfl) | exact .inr (.inr rfl))))))
abbrev lb__law_drawn_1 : En → SR := (seqS
  (setS 5 ((op2 addD (oOfV ((vOfE (op1 maxD1 (oOfV ((vOfE (op2 addD (oOfV ((tupE (aCons ((vOfE (op1 negD (oOfV (kI 1))))) aNil)))) (nmO 3))))))))) (oOfV (kI 2))))) (seqS
  (setS 6 ((callI 2 (F__law_take) 0 (aCons ((nmV 5)) aNil)))) (seqS
  (iteS (tst (op2 eqD (nmO 1) (oOfV (kS (PySem.Str.ofString "interval"))))) (setS 6 ((iteE ((tst (op2 (cmpD fun i j => decide (j < i)) (nmO 4) (oOfV (kI 0))))) ((op2 max2D (oOfV ((vOfE (op2 subD (oOfV ((vOfE (op2 subD (nmO 5) (oOfV (kI 1)))))) (oOfV ((vOfE (callI 2 (F__law_take) 0 (aCons (kI 2) aNil))))))))) (oOfV (kI 0)))) ((eOfV (kI 0)))))) passS) (seqS
  (iteS (andT (tst (op2 eqD (nmO 1) (oOfV (kS (PySem.Str.ofString "noncrossing"))))) (tru (oOfV ((vOfE (callF 1 (F__law_crosses) (aCons ((vOfE (op2 addD (nmO 3) (oOfV ((tupE (aCons ((nmV 6)) aNil))))))) aNil))))))) (setS 6 ((op2 idxD (nmO 3) (oOfV ((vOfE (op1 negD (oOfV (kI 1))))))))) passS) (setS 3 ((op2 addD (nmO 3) (oOfV ((tupE (aCons ((nmV 6)) aNil)))))))))))
abbrev g__law_drawn_1 : En → SR := (setS 3 ((eOfV ((tupE aNil)))))
abbrev g__law_drawn_2 : En → SR := (forS (rg1 (aCons ((nmV 2)) aNil)) (nameG 4) lb__law_drawn_1)
abbrev g__law_drawn_3 : En → SR := (retM 3)
def g__law_drawn : En → SR := (seqS g__law_drawn_1 (seqS g__law_drawn_2 g__law_drawn_3))
def F__law_drawn : Sl → List D → FR := fnF 7 true g__law_drawn
set_option maxRecDepth 100000 in
theorem ok__law_drawn : FnV P w K mg base E.C 2 E.d__law_drawn.f E.d__law_drawn.fd ["state", "sort", "n"] true F__law_drawn :=
  fnV_of E.d__law_drawn.F sc__law_drawn true [0] rfl (fun _ => ⟨by decide, by decide⟩) fun cdv A outer s H X σ₀ hr G => by
    exact (eb_cons
  (es_set (i := 3) G rfl (by first | exact .inl rfl | exact .inr rfl) (show (3 : Nat) ∉ ([0] : List Nat) by decide) (EvV.toE (ev_tup ea_nil))) (eb_cons
  (es_for G (passes_of rfl) (ei_rg1 (by rfl) E.b_range (ea_cons (ev_name (i := 2) rfl (by first | exact .inl rfl | exact .inr (.inl rfl) | exact .inr (.inr rfl))) ea_nil)) (eg_name (i := 4) G rfl (by first | exact .inl rfl | exact .inr rfl) (show (4 : Nat) ∉ ([0] : List Nat) by decide)) (eb_cons
  (es_set (i := 5) G rfl (by first | exact .inl rfl | exact .inr rfl) (show (5 : Nat) ∉ ([0] : List Nat) by decide) (ev_add G (EvV.toO (EvE.toV (ev_max1 G hr (by rfl) E.b_max (EvV.toO (EvE.toV (ev_add G (EvV.toO (ev_tup (ea_cons (EvE.toV (ev_neg (EvV.toO ev_int))) ea_nil))) (ev_nameO (i := 3) rfl (by first | exact .inl rfl | exact .inr (.inl rfl) | exact .inr (.inr rfl))))))))) (EvV.toO ev_int))) (eb_cons
  (es_set (i := 6) G rfl (by first | exact .inl rfl | exact .inr rfl) (show (6 : Nat) ∉ ([0] : List Nat) by decide) (ev_callI G (ok__law_take E) (hr.mono (by decide)) (by rfl) E.d__law_take.m E.d__law_take.F.kp E.d__law_take.b (i := 0) rfl (by first | exact .inl rfl | exact .inr (.inl rfl) | exact .inr (.inr rfl)) (ea_cons (ev_name (i := 5) rfl (by first | exact .inl rfl | exact .inr (.inl rfl) | exact .inr (.inr rfl))) ea_nil))) (eb_cons
  (es_if (et_cmp (cEq G hr) (ev_nameO (i := 1) rfl (by first | exact .inl rfl | exact .inr (.inl rfl) | exact .inr (.inr rfl))) (EvV.toO ev_str)) (eb_one (es_set (i := 6) G rfl (by first | exact .inl rfl | exact .inr rfl) (show (6 : Nat) ∉ ([0] : List Nat) by decide) (ev_ite (et_cmp (cGt) (ev_nameO (i := 4) rfl (by first | exact .inl rfl | exact .inr (.inl rfl) | exact .inr (.inr rfl))) (EvV.toO ev_int)) (ev_max2 G (by rfl) E.b_max (EvV.toO (EvE.toV (ev_sub (EvV.toO (EvE.toV (ev_sub (ev_nameO (i := 5) rfl (by first | exact .inl rfl | exact .inr (.inl rfl) | exact .inr (.inr rfl))) (EvV.toO ev_int)))) (EvV.toO (EvE.toV (ev_callI G (ok__law_take E) (hr.mono (by decide)) (by rfl) E.d__law_take.m E.d__law_take.F.kp E.d__law_take.b (i := 0) rfl (by first | exact .inl rfl | exact .inr (.inl rfl) | exact .inr (.inr rfl)) (ea_cons ev_int ea_nil))))))) (EvV.toO ev_int)) (EvV.toE ev_int)))) eb_nil) (eb_cons
  (es_if (EvW.t (ew_and (et_cmp (cEq G hr) (ev_nameO (i := 1) rfl (by first | exact .inl rfl | exact .inr (.inl rfl) | exact .inr (.inr rfl))) (EvV.toO ev_str)) (ew_and1 (et_tru G (EvV.toO (EvE.toV (ev_call G (ok__law_crosses E) (hr.mono (by decide)) (by rfl) E.d__law_crosses.m E.d__law_crosses.F.kp E.d__law_crosses.b (ea_cons (EvE.toV (ev_add G (ev_nameO (i := 3) rfl (by first | exact .inl rfl | exact .inr (.inl rfl) | exact .inr (.inr rfl))) (EvV.toO (ev_tup (ea_cons (ev_name (i := 6) rfl (by first | exact .inl rfl | exact .inr (.inl rfl) | exact .inr (.inr rfl))) ea_nil))))) ea_nil)))))))) (eb_one (es_set (i := 6) G rfl (by first | exact .inl rfl | exact .inr rfl) (show (6 : Nat) ∉ ([0] : List Nat) by decide) (ev_idx G hr (ev_nameO (i := 3) rfl (by first | exact .inl rfl | exact .inr (.inl rfl) | exact .inr (.inr rfl))) (EvV.toO (EvE.toV (ev_neg (EvV.toO ev_int))))))) eb_nil) (eb_one (es_set (i := 3) G rfl (by first | exact .inl rfl | exact .inr rfl) (show (3 : Nat) ∉ ([0] : List Nat) by decide) (ev_add G (ev_nameO (i := 3) rfl (by first | exact .inl rfl | exact .inr (.inl rfl) | exact .inr (.inr rfl))) (EvV.toO (ev_tup (ea_cons (ev_name (i := 6) rfl (by first | exact .inl rfl | exact .inr (.inl rfl) | exact .inr (.inr rfl))) ea_nil))))))))))) (eb_one (es_retM (i := 3) rfl (by first | exact .inl rfl | exact .inr (.inl rfl) | exact .inr (.inr rfl))))))
abbrev cp__law_kreweras_1 : En → R (D × Nat) := (comp (seqI' ((nmV 5))) (nameG 7) (yesT) ((eOfV ((vOfE (op2 inD (nmO 7) (nmO 6)))))) 0 [7])
abbrev cp__law_kreweras_2 : En → R (D × Nat) := (comp (seqI' ((nmV 2))) (nameG 7) (yesT) ((eOfV ((vOfE (iteE ((tst (op2 eqD (nmO 7) (oOfV ((vOfE (op2 idxD (nmO 2) (nmO 3)))))))) ((op2 idxD (nmO 2) (nmO 4))) ((eOfV ((nmV 7))))))))) 0 [7])
abbrev lb__law_kreweras_1 : En → SR := (seqS
  (asgS (tupG 2 (consG (nameG 5) (consG (nameG 6) nilG))) ((tupE (aCons ((vOfE (opS (nmO 0) (pSome ((vOfE (op2 addD (nmO 4) (oOfV (kI 1)))))) (pSome ((vOfE (op2 addD (nmO 3) (oOfV (kI 1))))))))) (aCons ((vOfE (op2 addD (oOfV ((vOfE (opS (nmO 0) pNone (pSome ((vOfE (op2 addD (nmO 4) (oOfV (kI 1)))))))))) (oOfV ((vOfE (opS (nmO 0) (pSome ((vOfE (op2 addD (nmO 3) (oOfV (kI 1)))))) pNone))))))) aNil))))) (iteS (notT (tru (oOfV ((vOfE (op1 anyD (oOfV ((vOfE cp__law_kreweras_1))))))))) (setS 2 (cp__law_kreweras_2)) passS))
abbrev lb__law_kreweras_2 : En → SR := (forS (rg1 (aCons ((nmV 3)) aNil)) (nameG 4) lb__law_kreweras_1)
abbrev g__law_kreweras_1 : En → SR := (setS 1 ((op1 lenD (nmO 0))))
abbrev g__law_kreweras_2 : En → SR := (setS 2 ((op1 lrg1D (nmO 1))))
abbrev g__law_kreweras_3 : En → SR := (forS (rg1 (aCons ((nmV 1)) aNil)) (nameG 3) lb__law_kreweras_2)
abbrev g__law_kreweras_4 : En → SR := (retS ((callF 1 (F__law_numbered) (aCons ((nmV 2)) aNil))))
def g__law_kreweras : En → SR := (seqS g__law_kreweras_1 (seqS g__law_kreweras_2 (seqS g__law_kreweras_3 g__law_kreweras_4)))
def F__law_kreweras : Sl → List D → FR := fnF 8 false g__law_kreweras
set_option maxRecDepth 100000 in
theorem ok__law_kreweras : FnV P w K mg base E.C 2 E.d__law_kreweras.f E.d__law_kreweras.fd ["p"] false F__law_kreweras :=
  fnV_of E.d__law_kreweras.F sc__law_kreweras false [] rfl (fun h => nomatch h) fun cdv A outer s H X σ₀ hr G => by
    exact (eb_cons
  (es_set (i := 1) G rfl (by first | exact .inl rfl | exact .inr rfl) (show (1 : Nat) ∉ ([] : List Nat) by decide) (ev_len G (by rfl) E.b_len (ev_nameO (i := 0) rfl (by first | exact .inl rfl | exact .inr (.inl rfl) | exact .inr (.inr rfl))))) (eb_cons
  (es_set (i := 2) G rfl (by first | exact .inl rfl | exact .inr rfl) (show (2 : Nat) ∉ ([] : List Nat) by decide) (ev_lrg1 G (by rfl) E.b_list (by rfl) E.b_range (ev_nameO (i := 1) rfl (by first | exact .inl rfl | exact .inr (.inl rfl) | exact .inr (.inr rfl))))) (eb_cons
  (es_for G (passes_of rfl) (ei_rg1 (by rfl) E.b_range (ea_cons (ev_name (i := 1) rfl (by first | exact .inl rfl | exact .inr (.inl rfl) | exact .inr (.inr rfl))) ea_nil)) (eg_name (i := 3) G rfl (by first | exact .inl rfl | exact .inr rfl) (show (3 : Nat) ∉ ([] : List Nat) by decide)) (eb_one (es_for G (passes_of rfl) (ei_rg1 (by rfl) E.b_range (ea_cons (ev_name (i := 3) rfl (by first | exact .inl rfl | exact .inr (.inl rfl) | exact .inr (.inr rfl))) ea_nil)) (eg_name (i := 4) G rfl (by first | exact .inl rfl | exact .inr rfl) (show (4 : Nat) ∉ ([] : List Nat) by decide)) (eb_cons
  (es_asg (ev_tup (ea_cons (EvE.toV (ev_slice G (ev_nameO (i := 0) rfl (by first | exact .inl rfl | exact .inr (.inl rfl) | exact .inr (.inr rfl))) (ep_some (EvE.toV (ev_add G (ev_nameO (i := 4) rfl (by first | exact .inl rfl | exact .inr (.inl rfl) | exact .inr (.inr rfl))) (EvV.toO ev_int)))) (ep_some (EvE.toV (ev_add G (ev_nameO (i := 3) rfl (by first | exact .inl rfl | exact .inr (.inl rfl) | exact .inr (.inr rfl))) (EvV.toO ev_int)))))) (ea_cons (EvE.toV (ev_add G (EvV.toO (EvE.toV (ev_slice G (ev_nameO (i := 0) rfl (by first | exact .inl rfl | exact .inr (.inl rfl) | exact .inr (.inr rfl))) ep_none (ep_some (EvE.toV (ev_add G (ev_nameO (i := 4) rfl (by first | exact .inl rfl | exact .inr (.inl rfl) | exact .inr (.inr rfl))) (EvV.toO ev_int))))))) (EvV.toO (EvE.toV (ev_slice G (ev_nameO (i := 0) rfl (by first | exact .inl rfl | exact .inr (.inl rfl) | exact .inr (.inr rfl))) (ep_some (EvE.toV (ev_add G (ev_nameO (i := 3) rfl (by first | exact .inl rfl | exact .inr (.inl rfl) | exact .inr (.inr rfl))) (EvV.toO ev_int)))) ep_none))))) ea_nil))) (eg_tup G (egs_cons (eg_name (i := 5) G rfl (by first | exact .inl rfl | exact .inr rfl) (show (5 : Nat) ∉ ([] : List Nat) by decide)) (egs_cons (eg_name (i := 6) G rfl (by first | exact .inl rfl | exact .inr rfl) (show (6 : Nat) ∉ ([] : List Nat) by decide)) egs_nil)))) (eb_one (es_if (et_not (et_tru G (EvV.toO (EvE.toV (ev_any G (by rfl) E.b_any (EvV.toO (EvE.toV (ev_lc (own := [((PySem.Str.ofString "c"), 7)]) (vs := [7]) (ws := [7]) 0 G (ei_seq G (ev_name (i := 5) rfl (by first | exact .inl rfl | exact .inr (.inl rfl) | exact .inr (.inr rfl)))) (blkOk_by (by kernel_rfl)) rfl (by decide) (fun _ _ _ _ _ => blkG G fun G => (eg_name (i := 7) G rfl (by first | exact .inl rfl | exact .inr rfl) (show (7 : Nat) ∉ ([] : List Nat) by decide))) (fun _ _ _ _ _ => blkT G fun G => ept_nil) (fun _ _ _ _ _ => blkE G fun G => (EvV.toE (EvE.toV (ev_cmp (cIn G hr) (ev_nameO (i := 7) rfl (by first | exact .inl rfl | exact .inr (.inl rfl) | exact .inr (.inr rfl))) (ev_nameO (i := 6) rfl (by first | exact .inl rfl | exact .inr (.inl rfl) | exact .inr (.inr rfl))))))))))))))) (eb_one (es_set (i := 2) G rfl (by first | exact .inl rfl | exact .inr rfl) (show (2 : Nat) ∉ ([] : List Nat) by decide) (ev_lc (own := [((PySem.Str.ofString "c"), 7)]) (vs := [7]) (ws := [7]) 0 G (ei_seq G (ev_name (i := 2) rfl (by first | exact .inl rfl | exact .inr (.inl rfl) | exact .inr (.inr rfl)))) (blkOk_by (by kernel_rfl)) rfl (by decide) (fun _ _ _ _ _ => blkG G fun G => (eg_name (i := 7) G rfl (by first | exact .inl rfl | exact .inr rfl) (show (7 : Nat) ∉ ([] : List Nat) by decide))) (fun _ _ _ _ _ => blkT G fun G => ept_nil) (fun _ _ _ _ _ => blkE G fun G => (EvV.toE (EvE.toV (ev_ite (et_cmp (cEq G hr) (ev_nameO (i := 7) rfl (by first | exact .inl rfl | exact .inr (.inl rfl) | exact .inr (.inr rfl))) (EvV.toO (EvE.toV (ev_idx G hr (ev_nameO (i := 2) rfl (by first | exact .inl rfl | exact .inr (.inl rfl) | exact .inr (.inr rfl))) (ev_nameO (i := 3) rfl (by first | exact .inl rfl | exact .inr (.inl rfl) | exact .inr (.inr rfl))))))) (ev_idx G hr (ev_nameO (i := 2) rfl (by first | exact .inl rfl | exact .inr (.inl rfl) | exact .inr (.inr rfl))) (ev_nameO (i := 4) rfl (by first | exact .inl rfl | exact .inr (.inl rfl) | exact .inr (.inr rfl)))) (EvV.toE (ev_name (i := 7) rfl (by first | exact .inl rfl | exact .inr (.inl rfl) | exact .inr (.inr rfl))))))))))) eb_nil)))))) (eb_one (es_ret (ev_call G (ok__law_numbered E) (hr.mono (by decide)) (by rfl) E.d__law_numbered.m E.d__law_numbered.F.kp E.d__law_numbered.b (ea_cons (ev_name (i := 2) rfl (by first | exact .inl rfl | exact .inr (.inl rfl) | exact .inr (.inr rfl))) ea_nil)))))))
abbrev cp_is_parting_1 : En → R (D × Nat) := (comp (seqI' ((nmV 0))) (nameG 1) (yesT) ((eOfV ((vOfE (callF 1 (F_is_integer) (aCons ((nmV 1)) aNil)))))) 0 [1])
abbrev g_is_parting_1 : En → SR := (iteS (orT (notT (tru (oOfV ((vOfE (op1 (isiD "tuple") (nmO 0))))))) (orT (tst (op2 (cmpD fun i j => decide (j < i)) (oOfV ((vOfE (op1 lenD (nmO 0))))) (oOfV (kI 12)))) (notT (tru (oOfV ((vOfE (op1 allD (oOfV ((vOfE cp_is_parting_1))))))))))) (retS ((eOfV (kB false)))) passS)
abbrev g_is_parting_2 : En → SR := (retS ((op2 eqD (oOfV ((vOfE (callF 1 (F_first_numbering) (aCons ((nmV 0)) aNil))))) (nmO 0))))
def g_is_parting : En → SR := (seqS g_is_parting_1 g_is_parting_2)
def F_is_parting : Sl → List D → FR := fnF 2 false g_is_parting
set_option maxRecDepth 100000 in
theorem ok_is_parting : FnV P w K mg base E.C 2 E.d_is_parting.f E.d_is_parting.fd ["value"] false F_is_parting :=
  fnV_of E.d_is_parting.F sc_is_parting false [] rfl (fun h => nomatch h) fun cdv A outer s H X σ₀ hr G => by
    exact (eb_cons
  (es_if (EvW.t (ew_or (et_not (et_tru G (EvV.toO (EvE.toV (ev_isi G (T := "tuple") (by decide) (by decide +kernel) (by rfl) E.b_isinstance (by rfl) E.b_tuple (ev_nameO (i := 0) rfl (by first | exact .inl rfl | exact .inr (.inl rfl) | exact .inr (.inr rfl)))))))) (ew_or (et_cmp (cGt) (EvV.toO (EvE.toV (ev_len G (by rfl) E.b_len (ev_nameO (i := 0) rfl (by first | exact .inl rfl | exact .inr (.inl rfl) | exact .inr (.inr rfl)))))) (EvV.toO (ev_gint (by rfl) E.c_MOST_PLACES))) (ew_or1 (et_not (et_tru G (EvV.toO (EvE.toV (ev_all G (by rfl) E.b_all (EvV.toO (EvE.toV (ev_lc (own := [((PySem.Str.ofString "c"), 1)]) (vs := [1]) (ws := [1]) 0 G (ei_seq G (ev_name (i := 0) rfl (by first | exact .inl rfl | exact .inr (.inl rfl) | exact .inr (.inr rfl)))) (blkOk_by (by kernel_rfl)) rfl (by decide) (fun _ _ _ _ _ => blkG G fun G => (eg_name (i := 1) G rfl (by first | exact .inl rfl | exact .inr rfl) (show (1 : Nat) ∉ ([] : List Nat) by decide))) (fun _ _ _ _ _ => blkT G fun G => ept_nil) (fun _ _ _ _ _ => blkE G fun G => (EvV.toE (EvE.toV (ev_call G (ok_is_integer E) (hr.mono (by decide)) (by rfl) E.d_is_integer.m E.d_is_integer.F.kp E.d_is_integer.b (ea_cons (ev_name (i := 1) rfl (by first | exact .inl rfl | exact .inr (.inl rfl) | exact .inr (.inr rfl))) ea_nil))))))))))))))))) (eb_one (es_ret (EvV.toE ev_bl))) eb_nil) (eb_one (es_ret (ev_cmp (cEq G hr) (EvV.toO (EvE.toV (ev_call G (ok_first_numbering E) (hr.mono (by decide)) (by rfl) E.d_first_numbering.m E.d_first_numbering.F.kp E.d_first_numbering.b (ea_cons (ev_name (i := 0) rfl (by first | exact .inl rfl | exact .inr (.inl rfl) | exact .inr (.inr rfl))) ea_nil)))) (ev_nameO (i := 0) rfl (by first | exact .inl rfl | exact .inr (.inl rfl) | exact .inr (.inr rfl)))))))
abbrev lb_complement_of_1 : En → SR := (sItS 2 ((vOfE (op2 idxD (nmO 3) (oOfV ((vOfE (op2 subD (nmO 6) (oOfV (kI 1))))))))) ((vOfE (op2 idxD (nmO 3) (nmO 6)))))
abbrev lb_complement_of_2 : En → SR := (forS (rg1 (aCons ((vOfE (op1 lenD (nmO 3)))) aNil)) (nameG 6) lb_complement_of_1)
abbrev lb_complement_of_3 : En → SR := (seqS
  (sItS 4 ((nmV 5)) ((nmV 7))) (setS 7 ((op2 idxD (nmO 2) (oOfV ((vOfE (op2 modD (oOfV ((vOfE (op2 addD (nmO 7) (oOfV (kI 1)))))) (nmO 1)))))))))
abbrev lb_complement_of_4 : En → SR := (seqS
  (setS 7 ((eOfV ((nmV 5))))) (whileS (tst (op2 isD (oOfV ((vOfE (op2 idxD (nmO 4) (nmO 7))))) (oOfV (kN)))) lb_complement_of_3 100))
abbrev g_complement_of_1 : En → SR := (setS 1 ((op1 lenD (nmO 0))))
abbrev g_complement_of_2 : En → SR := (setS 2 ((op2 mulD (oOfV ((vOfE (lstE (aCons (kI 0) aNil))))) (nmO 1))))
abbrev g_complement_of_3 : En → SR := (forS (seqI' ((vOfE (callF 1 (F_blocks_of) (aCons ((nmV 0)) aNil))))) (nameG 3) lb_complement_of_2)
abbrev g_complement_of_4 : En → SR := (setS 4 ((op2 mulD (oOfV ((vOfE (lstE (aCons (kN) aNil))))) (nmO 1))))
abbrev g_complement_of_5 : En → SR := (forS (rg1 (aCons ((nmV 1)) aNil)) (nameG 5) lb_complement_of_4)
abbrev g_complement_of_6 : En → SR := (retS ((callF 1 (F_first_numbering) (aCons ((nmV 4)) aNil))))
def g_complement_of : En → SR := (seqS g_complement_of_1 (seqS g_complement_of_2 (seqS g_complement_of_3 (seqS g_complement_of_4 (seqS g_complement_of_5 g_complement_of_6)))))
def F_complement_of : Sl → List D → FR := fnF 8 false g_complement_of
set_option maxRecDepth 100000 in
theorem ok_complement_of : FnV P w K mg base E.C 2 E.d_complement_of.f E.d_complement_of.fd ["p"] false F_complement_of :=
  fnV_of E.d_complement_of.F sc_complement_of false [] rfl (fun h => nomatch h) fun cdv A outer s H X σ₀ hr G => by
    exact (eb_cons
  (es_set (i := 1) G rfl (by first | exact .inl rfl | exact .inr rfl) (show (1 : Nat) ∉ ([] : List Nat) by decide) (ev_len G (by rfl) E.b_len (ev_nameO (i := 0) rfl (by first | exact .inl rfl | exact .inr (.inl rfl) | exact .inr (.inr rfl))))) (eb_cons
  (es_set (i := 2) G rfl (by first | exact .inl rfl | exact .inr rfl) (show (2 : Nat) ∉ ([] : List Nat) by decide) (ev_mul G (EvV.toO (EvE.toV (ev_lst (ea_cons ev_int ea_nil)))) (ev_nameO (i := 1) rfl (by first | exact .inl rfl | exact .inr (.inl rfl) | exact .inr (.inr rfl))))) (eb_cons
  (es_for G (passes_of rfl) (ei_seq G (EvE.toV (ev_call G (ok_blocks_of E) (hr.mono (by decide)) (by rfl) E.d_blocks_of.m E.d_blocks_of.F.kp E.d_blocks_of.b (ea_cons (ev_name (i := 0) rfl (by first | exact .inl rfl | exact .inr (.inl rfl) | exact .inr (.inr rfl))) ea_nil)))) (eg_name (i := 3) G rfl (by first | exact .inl rfl | exact .inr rfl) (show (3 : Nat) ∉ ([] : List Nat) by decide)) (eb_one (es_for G (passes_of rfl) (ei_rg1 (by rfl) E.b_range (ea_cons (EvE.toV (ev_len G (by rfl) E.b_len (ev_nameO (i := 3) rfl (by first | exact .inl rfl | exact .inr (.inl rfl) | exact .inr (.inr rfl))))) ea_nil)) (eg_name (i := 6) G rfl (by first | exact .inl rfl | exact .inr rfl) (show (6 : Nat) ∉ ([] : List Nat) by decide)) (eb_one (es_sub (i := 2) G hr rfl (by first | exact .inl rfl | exact .inr (.inl rfl) | exact .inr (.inr rfl)) (EvE.toV (ev_idx G hr (ev_nameO (i := 3) rfl (by first | exact .inl rfl | exact .inr (.inl rfl) | exact .inr (.inr rfl))) (EvV.toO (EvE.toV (ev_sub (ev_nameO (i := 6) rfl (by first | exact .inl rfl | exact .inr (.inl rfl) | exact .inr (.inr rfl))) (EvV.toO ev_int)))))) (EvE.toV (ev_idx G hr (ev_nameO (i := 3) rfl (by first | exact .inl rfl | exact .inr (.inl rfl) | exact .inr (.inr rfl))) (ev_nameO (i := 6) rfl (by first | exact .inl rfl | exact .inr (.inl rfl) | exact .inr (.inr rfl)))))))))) (eb_cons
  (es_set (i := 4) G rfl (by first | exact .inl rfl | exact .inr rfl) (show (4 : Nat) ∉ ([] : List Nat) by decide) (ev_mul G (EvV.toO (EvE.toV (ev_lst (ea_cons ev_non ea_nil)))) (ev_nameO (i := 1) rfl (by first | exact .inl rfl | exact .inr (.inl rfl) | exact .inr (.inr rfl))))) (eb_cons
  (es_for G (passes_of rfl) (ei_rg1 (by rfl) E.b_range (ea_cons (ev_name (i := 1) rfl (by first | exact .inl rfl | exact .inr (.inl rfl) | exact .inr (.inr rfl))) ea_nil)) (eg_name (i := 5) G rfl (by first | exact .inl rfl | exact .inr rfl) (show (5 : Nat) ∉ ([] : List Nat) by decide)) (eb_cons
  (es_set (i := 7) G rfl (by first | exact .inl rfl | exact .inr rfl) (show (7 : Nat) ∉ ([] : List Nat) by decide) (EvV.toE (ev_name (i := 5) rfl (by first | exact .inl rfl | exact .inr (.inl rfl) | exact .inr (.inr rfl))))) (eb_one (es_while 100 (passes_of rfl) (et_cmp (cIs) (EvV.toO (EvE.toV (ev_idx G hr (ev_nameO (i := 4) rfl (by first | exact .inl rfl | exact .inr (.inl rfl) | exact .inr (.inr rfl))) (ev_nameO (i := 7) rfl (by first | exact .inl rfl | exact .inr (.inl rfl) | exact .inr (.inr rfl)))))) (EvV.toO ev_non)) (eb_cons
  (es_sub (i := 4) G hr rfl (by first | exact .inl rfl | exact .inr (.inl rfl) | exact .inr (.inr rfl)) (ev_name (i := 5) rfl (by first | exact .inl rfl | exact .inr (.inl rfl) | exact .inr (.inr rfl))) (ev_name (i := 7) rfl (by first | exact .inl rfl | exact .inr (.inl rfl) | exact .inr (.inr rfl)))) (eb_one (es_set (i := 7) G rfl (by first | exact .inl rfl | exact .inr rfl) (show (7 : Nat) ∉ ([] : List Nat) by decide) (ev_idx G hr (ev_nameO (i := 2) rfl (by first | exact .inl rfl | exact .inr (.inl rfl) | exact .inr (.inr rfl))) (EvV.toO (EvE.toV (ev_mod (EvV.toO (EvE.toV (ev_add G (ev_nameO (i := 7) rfl (by first | exact .inl rfl | exact .inr (.inl rfl) | exact .inr (.inr rfl))) (EvV.toO ev_int)))) (ev_nameO (i := 1) rfl (by first | exact .inl rfl | exact .inr (.inl rfl) | exact .inr (.inr rfl)))))))))))))) (eb_one (es_ret (ev_call G (ok_first_numbering E) (hr.mono (by decide)) (by rfl) E.d_first_numbering.m E.d_first_numbering.F.kp E.d_first_numbering.b (ea_cons (ev_name (i := 4) rfl (by first | exact .inl rfl | exact .inr (.inl rfl) | exact .inr (.inr rfl))) ea_nil)))))))))
abbrev cp_turned_1 : En → R (D × Nat) := (comp (rg1 (aCons ((nmV 2)) aNil)) (nameG 3) (yesT) ((eOfV ((vOfE (op2 idxD (nmO 0) (oOfV ((vOfE (op2 modD (oOfV ((vOfE (op2 subD (nmO 3) (nmO 1))))) (nmO 2)))))))))) 0 [3])
abbrev g_turned_1 : En → SR := (setS 2 ((op1 lenD (nmO 0))))
abbrev g_turned_2 : En → SR := (retS ((callF 1 (F_first_numbering) (aCons ((vOfE cp_turned_1)) aNil))))
def g_turned : En → SR := (seqS g_turned_1 g_turned_2)
def F_turned : Sl → List D → FR := fnF 4 false g_turned
set_option maxRecDepth 100000 in
theorem ok_turned : FnV P w K mg base E.C 2 E.d_turned.f E.d_turned.fd ["p", "s"] false F_turned :=
  fnV_of E.d_turned.F sc_turned false [] rfl (fun h => nomatch h) fun cdv A outer s H X σ₀ hr G => by
    exact (eb_cons
  (es_set (i := 2) G rfl (by first | exact .inl rfl | exact .inr rfl) (show (2 : Nat) ∉ ([] : List Nat) by decide) (ev_len G (by rfl) E.b_len (ev_nameO (i := 0) rfl (by first | exact .inl rfl | exact .inr (.inl rfl) | exact .inr (.inr rfl))))) (eb_one (es_ret (ev_call G (ok_first_numbering E) (hr.mono (by decide)) (by rfl) E.d_first_numbering.m E.d_first_numbering.F.kp E.d_first_numbering.b (ea_cons (EvE.toV (ev_lc (own := [((PySem.Str.ofString "x"), 3)]) (vs := [3]) (ws := [3]) 0 G (ei_rg1 (by rfl) E.b_range (ea_cons (ev_name (i := 2) rfl (by first | exact .inl rfl | exact .inr (.inl rfl) | exact .inr (.inr rfl))) ea_nil)) (blkOk_by (by kernel_rfl)) rfl (by decide) (fun _ _ _ _ _ => blkG G fun G => (eg_name (i := 3) G rfl (by first | exact .inl rfl | exact .inr rfl) (show (3 : Nat) ∉ ([] : List Nat) by decide))) (fun _ _ _ _ _ => blkT G fun G => ept_nil) (fun _ _ _ _ _ => blkE G fun G => (EvV.toE (EvE.toV (ev_idx G hr (ev_nameO (i := 0) rfl (by first | exact .inl rfl | exact .inr (.inl rfl) | exact .inr (.inr rfl))) (EvV.toO (EvE.toV (ev_mod (EvV.toO (EvE.toV (ev_sub (ev_nameO (i := 3) rfl (by first | exact .inl rfl | exact .inr (.inl rfl) | exact .inr (.inr rfl))) (ev_nameO (i := 1) rfl (by first | exact .inl rfl | exact .inr (.inl rfl) | exact .inr (.inr rfl)))))) (ev_nameO (i := 2) rfl (by first | exact .inl rfl | exact .inr (.inl rfl) | exact .inr (.inr rfl)))))))))))) ea_nil)))))
abbrev cp__law_grown_1 : En → R (D × Nat) := (comp (rg1 (aCons ((vOfE (op2 addD (oOfV ((vOfE (op1 maxD1 (oOfV ((vOfE (op2 addD (oOfV ((tupE (aCons ((vOfE (op1 negD (oOfV (kI 1))))) aNil)))) (nmO 4))))))))) (oOfV (kI 2))))) aNil)) (nameG 6) (yesT) ((eOfV ((vOfE (op2 addD (nmO 4) (oOfV ((tupE (aCons ((nmV 6)) aNil))))))))) 0 [6])
abbrev cp__law_grown_2 : En → R (D × Nat) := (comp (seqI' ((vOfE cp__law_grown_1))) (nameG 5) ((notT (tru (oOfV ((vOfE (callF 1 (F__law_crosses) (aCons ((nmV 5)) aNil)))))))) ((eOfV ((nmV 5)))) 0 [5])
abbrev lb__law_grown_1 : En → SR := (setS 3 ((op2 addD (nmO 3) (oOfV ((vOfE cp__law_grown_2))))))
abbrev lb__law_grown_2 : En → SR := (seqS
  (setS 3 ((lstE aNil))) (seqS
  (forS (seqI' ((nmV 1))) (nameG 4) lb__law_grown_1) (setS 1 ((op1 lisD (nmO 3))))))
abbrev g__law_grown_1 : En → SR := (setS 1 ((lstE (aCons ((tupE aNil)) aNil))))
abbrev g__law_grown_2 : En → SR := (forS (rg1 (aCons ((nmV 0)) aNil)) (nameG 2) lb__law_grown_2)
abbrev g__law_grown_3 : En → SR := (retM 1)
def g__law_grown : En → SR := (seqS g__law_grown_1 (seqS g__law_grown_2 g__law_grown_3))
def F__law_grown : Sl → List D → FR := fnF 7 false g__law_grown
set_option maxRecDepth 100000 in
theorem ok__law_grown : FnV P w K mg base E.C 2 E.d__law_grown.f E.d__law_grown.fd ["n"] false F__law_grown :=
  fnV_of E.d__law_grown.F sc__law_grown false [] rfl (fun h => nomatch h) fun cdv A outer s H X σ₀ hr G => by
    exact (eb_cons
  (es_set (i := 1) G rfl (by first | exact .inl rfl | exact .inr rfl) (show (1 : Nat) ∉ ([] : List Nat) by decide) (ev_lst (ea_cons (ev_tup ea_nil) ea_nil))) (eb_cons
  (es_for G (passes_of rfl) (ei_rg1 (by rfl) E.b_range (ea_cons (ev_name (i := 0) rfl (by first | exact .inl rfl | exact .inr (.inl rfl) | exact .inr (.inr rfl))) ea_nil)) (eg_name (i := 2) G rfl (by first | exact .inl rfl | exact .inr rfl) (show (2 : Nat) ∉ ([] : List Nat) by decide)) (eb_cons
  (es_set (i := 3) G rfl (by first | exact .inl rfl | exact .inr rfl) (show (3 : Nat) ∉ ([] : List Nat) by decide) (ev_lst ea_nil)) (eb_cons
  (es_for G (passes_of rfl) (ei_seq G (ev_name (i := 1) rfl (by first | exact .inl rfl | exact .inr (.inl rfl) | exact .inr (.inr rfl)))) (eg_name (i := 4) G rfl (by first | exact .inl rfl | exact .inr rfl) (show (4 : Nat) ∉ ([] : List Nat) by decide)) (eb_one (es_set (i := 3) G rfl (by first | exact .inl rfl | exact .inr rfl) (show (3 : Nat) ∉ ([] : List Nat) by decide) (ev_add G (ev_nameO (i := 3) rfl (by first | exact .inl rfl | exact .inr (.inl rfl) | exact .inr (.inr rfl))) (EvV.toO (EvE.toV (ev_lc (own := [((PySem.Str.ofString "q"), 5)]) (vs := [5]) (ws := [5]) 0 G (ei_seq G (EvE.toV (ev_lc (own := [((PySem.Str.ofString "c"), 6)]) (vs := [6]) (ws := [6]) 0 G (ei_rg1 (by rfl) E.b_range (ea_cons (EvE.toV (ev_add G (EvV.toO (EvE.toV (ev_max1 G hr (by rfl) E.b_max (EvV.toO (EvE.toV (ev_add G (EvV.toO (ev_tup (ea_cons (EvE.toV (ev_neg (EvV.toO ev_int))) ea_nil))) (ev_nameO (i := 4) rfl (by first | exact .inl rfl | exact .inr (.inl rfl) | exact .inr (.inr rfl))))))))) (EvV.toO ev_int))) ea_nil)) (blkOk_by (by kernel_rfl)) rfl (by decide) (fun _ _ _ _ _ => blkG G fun G => (eg_name (i := 6) G rfl (by first | exact .inl rfl | exact .inr rfl) (show (6 : Nat) ∉ ([] : List Nat) by decide))) (fun _ _ _ _ _ => blkT G fun G => ept_nil) (fun _ _ _ _ _ => blkE G fun G => (EvV.toE (EvE.toV (ev_add G (ev_nameO (i := 4) rfl (by first | exact .inl rfl | exact .inr (.inl rfl) | exact .inr (.inr rfl))) (EvV.toO (ev_tup (ea_cons (ev_name (i := 6) rfl (by first | exact .inl rfl | exact .inr (.inl rfl) | exact .inr (.inr rfl))) ea_nil)))))))))) (blkOk_by (by kernel_rfl)) rfl (by decide) (fun _ _ _ _ _ => blkG G fun G => (eg_name (i := 5) G rfl (by first | exact .inl rfl | exact .inr rfl) (show (5 : Nat) ∉ ([] : List Nat) by decide))) (fun _ _ _ _ _ => blkT G fun G => (ept_one (et_not (et_tru G (EvV.toO (EvE.toV (ev_call G (ok__law_crosses E) (hr.mono (by decide)) (by rfl) E.d__law_crosses.m E.d__law_crosses.F.kp E.d__law_crosses.b (ea_cons (ev_name (i := 5) rfl (by first | exact .inl rfl | exact .inr (.inl rfl) | exact .inr (.inr rfl))) ea_nil)))))))) (fun _ _ _ _ _ => blkE G fun G => (EvV.toE (ev_name (i := 5) rfl (by first | exact .inl rfl | exact .inr (.inl rfl) | exact .inr (.inr rfl)))))))))))) (eb_one (es_set (i := 1) G rfl (by first | exact .inl rfl | exact .inr rfl) (show (1 : Nat) ∉ ([] : List Nat) by decide) (ev_list G (by rfl) E.b_list (ev_nameO (i := 3) rfl (by first | exact .inl rfl | exact .inr (.inl rfl) | exact .inr (.inr rfl))))))))) (eb_one (es_retM (i := 1) rfl (by first | exact .inl rfl | exact .inr (.inl rfl) | exact .inr (.inr rfl))))))
abbrev lb__law_woven_1 : En → SR := (setS 3 ((op2 addD (nmO 3) (oOfV ((tupE (aCons ((vOfE (op2 idxD (nmO 0) (nmO 2)))) (aCons ((vOfE (op2 addD (nmO 4) (oOfV ((vOfE (op2 idxD (nmO 1) (nmO 2)))))))) aNil))))))))
abbrev g__law_woven_1 : En → SR := (parS 3 4 (lCons ((eOfV ((tupE aNil)))) (lCons ((op2 addD (oOfV ((vOfE (op1 maxD1 (oOfV ((vOfE (op2 addD (oOfV ((tupE (aCons ((vOfE (op1 negD (oOfV (kI 1))))) aNil)))) (nmO 0))))))))) (oOfV (kI 1)))) lNil)))
abbrev g__law_woven_2 : En → SR := (forS (rg1 (aCons ((vOfE (op1 lenD (nmO 0)))) aNil)) (nameG 2) lb__law_woven_1)
abbrev g__law_woven_3 : En → SR := (retS ((callF 1 (F__law_numbered) (aCons ((nmV 3)) aNil))))
def g__law_woven : En → SR := (seqS g__law_woven_1 (seqS g__law_woven_2 g__law_woven_3))
def F__law_woven : Sl → List D → FR := fnF 5 false g__law_woven
set_option maxRecDepth 100000 in
theorem ok__law_woven : FnV P w K mg base E.C 2 E.d__law_woven.f E.d__law_woven.fd ["p", "q"] false F__law_woven :=
  fnV_of E.d__law_woven.F sc__law_woven false [] rfl (fun h => nomatch h) fun cdv A outer s H X σ₀ hr G => by
    exact (eb_cons
  (es_par (i := 3) (j := 4) G rfl rfl (by decide) (show (3 : Nat) ∉ ([] : List Nat) by decide) (show (4 : Nat) ∉ ([] : List Nat) by decide) rfl rfl (el_cons (EvV.toE (ev_tup ea_nil)) (el_cons (ev_add G (EvV.toO (EvE.toV (ev_max1 G hr (by rfl) E.b_max (EvV.toO (EvE.toV (ev_add G (EvV.toO (ev_tup (ea_cons (EvE.toV (ev_neg (EvV.toO ev_int))) ea_nil))) (ev_nameO (i := 0) rfl (by first | exact .inl rfl | exact .inr (.inl rfl) | exact .inr (.inr rfl))))))))) (EvV.toO ev_int)) el_nil))) (eb_cons
  (es_for G (passes_of rfl) (ei_rg1 (by rfl) E.b_range (ea_cons (EvE.toV (ev_len G (by rfl) E.b_len (ev_nameO (i := 0) rfl (by first | exact .inl rfl | exact .inr (.inl rfl) | exact .inr (.inr rfl))))) ea_nil)) (eg_name (i := 2) G rfl (by first | exact .inl rfl | exact .inr rfl) (show (2 : Nat) ∉ ([] : List Nat) by decide)) (eb_one (es_set (i := 3) G rfl (by first | exact .inl rfl | exact .inr rfl) (show (3 : Nat) ∉ ([] : List Nat) by decide) (ev_add G (ev_nameO (i := 3) rfl (by first | exact .inl rfl | exact .inr (.inl rfl) | exact .inr (.inr rfl))) (EvV.toO (ev_tup (ea_cons (EvE.toV (ev_idx G hr (ev_nameO (i := 0) rfl (by first | exact .inl rfl | exact .inr (.inl rfl) | exact .inr (.inr rfl))) (ev_nameO (i := 2) rfl (by first | exact .inl rfl | exact .inr (.inl rfl) | exact .inr (.inr rfl))))) (ea_cons (EvE.toV (ev_add G (ev_nameO (i := 4) rfl (by first | exact .inl rfl | exact .inr (.inl rfl) | exact .inr (.inr rfl))) (EvV.toO (EvE.toV (ev_idx G hr (ev_nameO (i := 1) rfl (by first | exact .inl rfl | exact .inr (.inl rfl) | exact .inr (.inr rfl))) (ev_nameO (i := 2) rfl (by first | exact .inl rfl | exact .inr (.inl rfl) | exact .inr (.inr rfl)))))))) ea_nil)))))))) (eb_one (es_ret (ev_call G (ok__law_numbered E) (hr.mono (by decide)) (by rfl) E.d__law_numbered.m E.d__law_numbered.F.kp E.d__law_numbered.b (ea_cons (ev_name (i := 3) rfl (by first | exact .inl rfl | exact .inr (.inl rfl) | exact .inr (.inr rfl))) ea_nil))))))
abbrev cp__law_turned_1 : En → R (D × Nat) := (comp (seqI' ((nmV 0))) (nameG 4) (yesT) ((eOfV (kI 0))) 0 [4])
abbrev lb__law_turned_1 : En → SR := (sItS 3 ((vOfE (op2 idxD (nmO 0) (nmO 4)))) ((vOfE (op2 modD (oOfV ((vOfE (op1 intD (oOfV ((vOfE (op2 addD (nmO 4) (nmO 1))))))))) (nmO 2)))))
abbrev g__law_turned_1 : En → SR := (setS 2 ((op1 lenD (nmO 0))))
abbrev g__law_turned_2 : En → SR := (setS 3 cp__law_turned_1)
abbrev g__law_turned_3 : En → SR := (forS (rg1 (aCons ((nmV 2)) aNil)) (nameG 4) lb__law_turned_1)
abbrev g__law_turned_4 : En → SR := (retS ((callF 1 (F__law_numbered) (aCons ((nmV 3)) aNil))))
def g__law_turned : En → SR := (seqS g__law_turned_1 (seqS g__law_turned_2 (seqS g__law_turned_3 g__law_turned_4)))
def F__law_turned : Sl → List D → FR := fnF 5 false g__law_turned
set_option maxRecDepth 100000 in
theorem ok__law_turned : FnV P w K mg base E.C 2 E.d__law_turned.f E.d__law_turned.fd ["p", "s"] false F__law_turned :=
  fnV_of E.d__law_turned.F sc__law_turned false [] rfl (fun h => nomatch h) fun cdv A outer s H X σ₀ hr G => by
    exact (eb_cons
  (es_set (i := 2) G rfl (by first | exact .inl rfl | exact .inr rfl) (show (2 : Nat) ∉ ([] : List Nat) by decide) (ev_len G (by rfl) E.b_len (ev_nameO (i := 0) rfl (by first | exact .inl rfl | exact .inr (.inl rfl) | exact .inr (.inr rfl))))) (eb_cons
  (es_setLc (i := 3) (own := [((PySem.Str.ofString "x"), 4)]) (vs := [4]) (ws := [4]) 0 G rfl rfl (show (3 : Nat) ∉ ([] : List Nat) by decide) (sw_true rfl rfl rfl rfl) (ei_seq G (ev_name (i := 0) rfl (by first | exact .inl rfl | exact .inr (.inl rfl) | exact .inr (.inr rfl)))) (blkOk_by (by kernel_rfl)) rfl (by decide) (fun _ _ _ _ _ => blkG G fun G => (eg_name (i := 4) G rfl (by first | exact .inl rfl | exact .inr rfl) (show (4 : Nat) ∉ ([] : List Nat) by decide))) (fun _ _ _ _ _ => blkT G fun G => ept_nil) (fun _ _ _ _ _ => blkE G fun G => (EvV.toE ev_int))) (eb_cons
  (es_for G (passes_of rfl) (ei_rg1 (by rfl) E.b_range (ea_cons (ev_name (i := 2) rfl (by first | exact .inl rfl | exact .inr (.inl rfl) | exact .inr (.inr rfl))) ea_nil)) (eg_name (i := 4) G rfl (by first | exact .inl rfl | exact .inr rfl) (show (4 : Nat) ∉ ([] : List Nat) by decide)) (eb_one (es_sub (i := 3) G hr rfl (by first | exact .inl rfl | exact .inr (.inl rfl) | exact .inr (.inr rfl)) (EvE.toV (ev_idx G hr (ev_nameO (i := 0) rfl (by first | exact .inl rfl | exact .inr (.inl rfl) | exact .inr (.inr rfl))) (ev_nameO (i := 4) rfl (by first | exact .inl rfl | exact .inr (.inl rfl) | exact .inr (.inr rfl))))) (EvE.toV (ev_mod (EvV.toO (EvE.toV (ev_int1 (by rfl) E.b_int (EvV.toO (EvE.toV (ev_add G (ev_nameO (i := 4) rfl (by first | exact .inl rfl | exact .inr (.inl rfl) | exact .inr (.inr rfl))) (ev_nameO (i := 1) rfl (by first | exact .inl rfl | exact .inr (.inl rfl) | exact .inr (.inr rfl))))))))) (ev_nameO (i := 2) rfl (by first | exact .inl rfl | exact .inr (.inl rfl) | exact .inr (.inr rfl)))))))) (eb_one (es_ret (ev_call G (ok__law_numbered E) (hr.mono (by decide)) (by rfl) E.d__law_numbered.m E.d__law_numbered.F.kp E.d__law_numbered.b (ea_cons (ev_name (i := 3) rfl (by first | exact .inl rfl | exact .inr (.inl rfl) | exact .inr (.inr rfl))) ea_nil)))))))
def g_check_noncrossing : En → SR := (iteS (orT (notT (tru (oOfV ((vOfE (callF 1 (F_is_parting) (aCons ((nmV 0)) aNil))))))) (notT (tru (oOfV ((vOfE (callF 1 (F_has_no_crossing) (aCons ((nmV 0)) aNil)))))))) (raiseS 1) passS)
def F_check_noncrossing : Sl → List D → FR := fnF 1 false g_check_noncrossing
set_option maxRecDepth 100000 in
theorem ok_check_noncrossing : FnV P w K mg base E.C 3 E.d_check_noncrossing.f E.d_check_noncrossing.fd ["p"] false F_check_noncrossing :=
  fnV_of E.d_check_noncrossing.F sc_check_noncrossing false [] rfl (fun h => nomatch h) fun cdv A outer s H X σ₀ hr G => by
    exact (eb_one (es_if (EvW.t (ew_or (et_not (et_tru G (EvV.toO (EvE.toV (ev_call G (ok_is_parting E) (hr.mono (by decide)) (by rfl) E.d_is_parting.m E.d_is_parting.F.kp E.d_is_parting.b (ea_cons (ev_name (i := 0) rfl (by first | exact .inl rfl | exact .inr (.inl rfl) | exact .inr (.inr rfl))) ea_nil)))))) (ew_or1 (et_not (et_tru G (EvV.toO (EvE.toV (ev_call G (ok_has_no_crossing E) (hr.mono (by decide)) (by rfl) E.d_has_no_crossing.m E.d_has_no_crossing.F.kp E.d_has_no_crossing.b (ea_cons (ev_name (i := 0) rfl (by first | exact .inl rfl | exact .inr (.inl rfl) | exact .inr (.inr rfl))) ea_nil))))))))) (eb_one (es_raise (c := 1) G (E.x_Malformed.excC rfl) (by rfl))) eb_nil))
abbrev g_kreweras_1 : En → SR := (exprS (callF 1 (F_check_noncrossing) (aCons ((nmV 0)) aNil)))
abbrev g_kreweras_2 : En → SR := (retS ((callF 1 (F_complement_of) (aCons ((nmV 0)) aNil))))
def g_kreweras : En → SR := (seqS g_kreweras_1 g_kreweras_2)
def F_kreweras : Sl → List D → FR := fnF 1 false g_kreweras
set_option maxRecDepth 100000 in
theorem ok_kreweras : FnV P w K mg base E.C 4 E.d_kreweras.f E.d_kreweras.fd ["p"] false F_kreweras :=
  fnV_of E.d_kreweras.F sc_kreweras false [] rfl (fun h => nomatch h) fun cdv A outer s H X σ₀ hr G => by
    exact (eb_cons
  (es_expr (ev_call G (ok_check_noncrossing E) (hr.mono (by decide)) (by rfl) E.d_check_noncrossing.m E.d_check_noncrossing.F.kp E.d_check_noncrossing.b (ea_cons (ev_name (i := 0) rfl (by first | exact .inl rfl | exact .inr (.inl rfl) | exact .inr (.inr rfl))) ea_nil))) (eb_one (es_ret (ev_call G (ok_complement_of E) (hr.mono (by decide)) (by rfl) E.d_complement_of.m E.d_complement_of.F.kp E.d_complement_of.b (ea_cons (ev_name (i := 0) rfl (by first | exact .inl rfl | exact .inr (.inl rfl) | exact .inr (.inr rfl))) ea_nil)))))
abbrev g_kreweras_back_1 : En → SR := (exprS (callF 1 (F_check_noncrossing) (aCons ((nmV 0)) aNil)))
abbrev g_kreweras_back_2 : En → SR := (retS ((callF 2 (F_turned) (aCons ((vOfE (callF 1 (F_complement_of) (aCons ((nmV 0)) aNil)))) (aCons (kI 1) aNil)))))
def g_kreweras_back : En → SR := (seqS g_kreweras_back_1 g_kreweras_back_2)
def F_kreweras_back : Sl → List D → FR := fnF 1 false g_kreweras_back
set_option maxRecDepth 100000 in
theorem ok_kreweras_back : FnV P w K mg base E.C 4 E.d_kreweras_back.f E.d_kreweras_back.fd ["p"] false F_kreweras_back :=
  fnV_of E.d_kreweras_back.F sc_kreweras_back false [] rfl (fun h => nomatch h) fun cdv A outer s H X σ₀ hr G => by
    exact (eb_cons
  (es_expr (ev_call G (ok_check_noncrossing E) (hr.mono (by decide)) (by rfl) E.d_check_noncrossing.m E.d_check_noncrossing.F.kp E.d_check_noncrossing.b (ea_cons (ev_name (i := 0) rfl (by first | exact .inl rfl | exact .inr (.inl rfl) | exact .inr (.inr rfl))) ea_nil))) (eb_one (es_ret (ev_call G (ok_turned E) (hr.mono (by decide)) (by rfl) E.d_turned.m E.d_turned.F.kp E.d_turned.b (ea_cons (EvE.toV (ev_call G (ok_complement_of E) (hr.mono (by decide)) (by rfl) E.d_complement_of.m E.d_complement_of.F.kp E.d_complement_of.b (ea_cons (ev_name (i := 0) rfl (by first | exact .inl rfl | exact .inr (.inl rfl) | exact .inr (.inr rfl))) ea_nil))) (ea_cons ev_int ea_nil))))))
abbrev g_turned_parting_1 : En → SR := (exprS (callF 1 (F_check_noncrossing) (aCons ((nmV 0)) aNil)))
abbrev g_turned_parting_2 : En → SR := (iteS (orT (notT (tru (oOfV ((vOfE (callF 1 (F_is_integer) (aCons ((nmV 1)) aNil))))))) (notT (tst (opC (cmpD fun i j => decide (i ≤ j)) (cmpD fun i j => decide (i ≤ j)) (oOfV ((vOfE (op1 negD (oOfV (kI 12)))))) (nmO 1) (oOfV (kI 12)))))) (raiseS 1) passS)
abbrev g_turned_parting_3 : En → SR := (retS ((callF 2 (F_turned) (aCons ((nmV 0)) (aCons ((nmV 1)) aNil)))))
def g_turned_parting : En → SR := (seqS g_turned_parting_1 (seqS g_turned_parting_2 g_turned_parting_3))
def F_turned_parting : Sl → List D → FR := fnF 2 false g_turned_parting
set_option maxRecDepth 100000 in
theorem ok_turned_parting : FnV P w K mg base E.C 4 E.d_turned_parting.f E.d_turned_parting.fd ["p", "s"] false F_turned_parting :=
  fnV_of E.d_turned_parting.F sc_turned_parting false [] rfl (fun h => nomatch h) fun cdv A outer s H X σ₀ hr G => by
    exact (eb_cons
  (es_expr (ev_call G (ok_check_noncrossing E) (hr.mono (by decide)) (by rfl) E.d_check_noncrossing.m E.d_check_noncrossing.F.kp E.d_check_noncrossing.b (ea_cons (ev_name (i := 0) rfl (by first | exact .inl rfl | exact .inr (.inl rfl) | exact .inr (.inr rfl))) ea_nil))) (eb_cons
  (es_if (EvW.t (ew_or (et_not (et_tru G (EvV.toO (EvE.toV (ev_call G (ok_is_integer E) (hr.mono (by decide)) (by rfl) E.d_is_integer.m E.d_is_integer.F.kp E.d_is_integer.b (ea_cons (ev_name (i := 1) rfl (by first | exact .inl rfl | exact .inr (.inl rfl) | exact .inr (.inr rfl))) ea_nil)))))) (ew_or1 (et_not (et_chain (bLe) (cLe) (EvV.toO (EvE.toV (ev_neg (EvV.toO (ev_gint (by rfl) E.c_MOST_TURN))))) (ev_nameO (i := 1) rfl (by first | exact .inl rfl | exact .inr (.inl rfl) | exact .inr (.inr rfl))) (EvV.toO (ev_gint (by rfl) E.c_MOST_TURN))))))) (eb_one (es_raise (c := 1) G (E.x_Malformed.excC rfl) (by rfl))) eb_nil) (eb_one (es_ret (ev_call G (ok_turned E) (hr.mono (by decide)) (by rfl) E.d_turned.m E.d_turned.F.kp E.d_turned.b (ea_cons (ev_name (i := 0) rfl (by first | exact .inl rfl | exact .inr (.inl rfl) | exact .inr (.inr rfl))) (ea_cons (ev_name (i := 1) rfl (by first | exact .inl rfl | exact .inr (.inl rfl) | exact .inr (.inr rfl))) ea_nil)))))))
abbrev cp__law_odd_1 (rec : Sl → List D → FR) : En → R (D × Nat) := (comp (seqI' ((nmV 0))) (nameG 1) ((tru (oOfV ((vOfE (callF 1 (rec) (aCons ((nmV 1)) aNil))))))) ((eOfV ((nmV 1)))) 0 [1])
abbrev g__law_odd_1 (rec : Sl → List D → FR) : En → SR := (iteS (tst (op2 eqD (nmO 0) (oOfV (kS (PySem.Str.ofString "a word that nothing else is"))))) (retS ((eOfV (kB true)))) passS)
abbrev g__law_odd_2 (rec : Sl → List D → FR) : En → SR := (retS ((eOfV ((andV ((vOfE (op1 (isi2D "tuple" "list") (nmO 0)))) ((vOfE (op2 (cmpD fun i j => decide (j < i)) (oOfV ((vOfE (op1 lenD (oOfV ((vOfE (cp__law_odd_1 rec)))))))) (oOfV (kI 0))))))))))
def g__law_odd (rec : Sl → List D → FR) : En → SR := (seqS (g__law_odd_1 rec) (g__law_odd_2 rec))
def F__law_odd : Nat → Sl → List D → FR
  | 0 => fun _ _ => .no
  | k + 1 => fnF 2 false (g__law_odd (F__law_odd k))
set_option maxRecDepth 100000 in
theorem ok__law_odd : ∀ kk : Nat, FnV P w K mg base E.C (1 + kk) E.d__law_odd.f E.d__law_odd.fd ["value"] false (F__law_odd kk)
  | 0 => fnV_no
  | kk + 1 => fnV_of E.d__law_odd.F sc__law_odd false [] rfl (fun h => nomatch h) fun cdv A outer s H X σ₀ hr G => by
    exact (eb_cons
  (es_if (et_cmp (cEq G hr) (ev_nameO (i := 0) rfl (by first | exact .inl rfl | exact .inr (.inl rfl) | exact .inr (.inr rfl))) (EvV.toO ev_str)) (eb_one (es_ret (EvV.toE ev_bl))) eb_nil) (eb_one (es_ret (EvV.toE (ev_and (EvE.toV (ev_isi2 G (T := "tuple") (U := "list") (by decide) (by decide) (by decide +kernel) (by decide +kernel) (by rfl) E.b_isinstance (by rfl) E.b_tuple (by rfl) E.b_list (ev_nameO (i := 0) rfl (by first | exact .inl rfl | exact .inr (.inl rfl) | exact .inr (.inr rfl))))) (ev_one (EvE.toV (ev_cmp (cGt) (EvV.toO (EvE.toV (ev_len G (by rfl) E.b_len (EvV.toO (EvE.toV (ev_lc (own := [((PySem.Str.ofString "item"), 1)]) (vs := [1]) (ws := [1]) 0 G (ei_seq G (ev_name (i := 0) rfl (by first | exact .inl rfl | exact .inr (.inl rfl) | exact .inr (.inr rfl)))) (blkOk_by (by kernel_rfl)) rfl (by decide) (fun _ _ _ _ _ => blkG G fun G => (eg_name (i := 1) G rfl (by first | exact .inl rfl | exact .inr rfl) (show (1 : Nat) ∉ ([] : List Nat) by decide))) (fun _ _ _ _ _ => blkT G fun G => (ept_one (et_tru G (EvV.toO (EvE.toV (ev_call G (ok__law_odd kk) hr (by rfl) E.d__law_odd.m E.d__law_odd.F.kp E.d__law_odd.b (ea_cons (ev_name (i := 1) rfl (by first | exact .inl rfl | exact .inr (.inl rfl) | exact .inr (.inr rfl))) ea_nil))))))) (fun _ _ _ _ _ => blkE G fun G => (EvV.toE (ev_name (i := 1) rfl (by first | exact .inl rfl | exact .inr (.inl rfl) | exact .inr (.inr rfl))))))))))) (EvV.toO ev_int)))))))))
def g__law_honest : En → SR := (retS ((iteE ((tru (oOfV ((vOfE (callF 1 (F__law_odd 6) (aCons ((nmV 0)) aNil))))))) ((eOfV (kS (PySem.Str.ofString "odd")))) ((eOfV ((nmV 0)))))))
def F__law_honest : Sl → List D → FR := fnF 1 false g__law_honest
set_option maxRecDepth 100000 in
theorem ok__law_honest : FnV P w K mg base E.C 8 E.d__law_honest.f E.d__law_honest.fd ["value"] false F__law_honest :=
  fnV_of E.d__law_honest.F sc__law_honest false [] rfl (fun h => nomatch h) fun cdv A outer s H X σ₀ hr G => by
    exact (eb_one (es_ret (ev_ite (et_tru G (EvV.toO (EvE.toV (ev_call G (ok__law_odd E 6) (hr.mono (by decide)) (by rfl) E.d__law_odd.m E.d__law_odd.F.kp E.d__law_odd.b (ea_cons (ev_name (i := 0) rfl (by first | exact .inl rfl | exact .inr (.inl rfl) | exact .inr (.inr rfl))) ea_nil))))) (EvV.toE ev_str) (EvV.toE (ev_name (i := 0) rfl (by first | exact .inl rfl | exact .inr (.inl rfl) | exact .inr (.inr rfl)))))))
abbrev cp__law_same_1 (rec : Sl → List D → FR) : En → R (D × Nat) := (comp (rg1 (aCons ((vOfE (op1 lenD (nmO 1)))) aNil)) (nameG 2) (yesT) ((eOfV ((vOfE (callF 2 (rec) (aCons ((vOfE (op2 idxD (nmO 0) (nmO 2)))) (aCons ((vOfE (op2 idxD (nmO 1) (nmO 2)))) aNil))))))) 0 [2])
abbrev g__law_same_1 (rec : Sl → List D → FR) : En → SR := (iteS (tru (oOfV ((vOfE (op1 (isiD "tuple") (nmO 1)))))) (retS ((eOfV ((andV ((vOfE (op1 (isiD "tuple") (nmO 0)))) ((andV ((vOfE (op2 eqD (oOfV ((vOfE (op1 lenD (nmO 0))))) (oOfV ((vOfE (op1 lenD (nmO 1)))))))) ((vOfE (op1 allD (oOfV ((vOfE (cp__law_same_1 rec)))))))))))))) passS)
abbrev g__law_same_2 (rec : Sl → List D → FR) : En → SR := (iteS (tru (oOfV ((vOfE (op1 (isiD "bool") (nmO 1)))))) (retS ((eOfV ((andV ((vOfE (op1 (isiD "bool") (nmO 0)))) ((vOfE (op2 eqD (nmO 0) (nmO 1))))))))) passS)
abbrev g__law_same_3 (rec : Sl → List D → FR) : En → SR := (iteS (tru (oOfV ((vOfE (op1 (isiD "str") (nmO 1)))))) (retS ((eOfV ((andV ((vOfE (op1 (isiD "str") (nmO 0)))) ((vOfE (op2 eqD (nmO 0) (nmO 1))))))))) passS)
abbrev g__law_same_4 (rec : Sl → List D → FR) : En → SR := (iteS (tst (op2 isD (nmO 1) (oOfV (kN)))) (retS ((op2 isD (nmO 0) (oOfV (kN))))) passS)
abbrev g__law_same_5 (rec : Sl → List D → FR) : En → SR := (retS ((eOfV ((andV ((vOfE (callF 1 (F__law_is_whole) (aCons ((nmV 0)) aNil)))) ((vOfE (op2 eqD (nmO 0) (nmO 1)))))))))
def g__law_same (rec : Sl → List D → FR) : En → SR := (seqS (g__law_same_1 rec) (seqS (g__law_same_2 rec) (seqS (g__law_same_3 rec) (seqS (g__law_same_4 rec) (g__law_same_5 rec)))))
def F__law_same : Nat → Sl → List D → FR
  | 0 => fun _ _ => .no
  | k + 1 => fnF 3 false (g__law_same (F__law_same k))
set_option maxRecDepth 100000 in
theorem ok__law_same : ∀ kk : Nat, FnV P w K mg base E.C (2 + kk) E.d__law_same.f E.d__law_same.fd ["one", "two"] false (F__law_same kk)
  | 0 => fnV_no
  | kk + 1 => fnV_of E.d__law_same.F sc__law_same false [] rfl (fun h => nomatch h) fun cdv A outer s H X σ₀ hr G => by
    exact (eb_cons
  (es_if (et_tru G (EvV.toO (EvE.toV (ev_isi G (T := "tuple") (by decide) (by decide +kernel) (by rfl) E.b_isinstance (by rfl) E.b_tuple (ev_nameO (i := 1) rfl (by first | exact .inl rfl | exact .inr (.inl rfl) | exact .inr (.inr rfl))))))) (eb_one (es_ret (EvV.toE (ev_and (EvE.toV (ev_isi G (T := "tuple") (by decide) (by decide +kernel) (by rfl) E.b_isinstance (by rfl) E.b_tuple (ev_nameO (i := 0) rfl (by first | exact .inl rfl | exact .inr (.inl rfl) | exact .inr (.inr rfl))))) (ev_and (EvE.toV (ev_cmp (cEq G hr) (EvV.toO (EvE.toV (ev_len G (by rfl) E.b_len (ev_nameO (i := 0) rfl (by first | exact .inl rfl | exact .inr (.inl rfl) | exact .inr (.inr rfl)))))) (EvV.toO (EvE.toV (ev_len G (by rfl) E.b_len (ev_nameO (i := 1) rfl (by first | exact .inl rfl | exact .inr (.inl rfl) | exact .inr (.inr rfl)))))))) (ev_one (EvE.toV (ev_all G (by rfl) E.b_all (EvV.toO (EvE.toV (ev_lc (own := [((PySem.Str.ofString "k"), 2)]) (vs := [2]) (ws := [2]) 0 G (ei_rg1 (by rfl) E.b_range (ea_cons (EvE.toV (ev_len G (by rfl) E.b_len (ev_nameO (i := 1) rfl (by first | exact .inl rfl | exact .inr (.inl rfl) | exact .inr (.inr rfl))))) ea_nil)) (blkOk_by (by kernel_rfl)) rfl (by decide) (fun _ _ _ _ _ => blkG G fun G => (eg_name (i := 2) G rfl (by first | exact .inl rfl | exact .inr rfl) (show (2 : Nat) ∉ ([] : List Nat) by decide))) (fun _ _ _ _ _ => blkT G fun G => ept_nil) (fun _ _ _ _ _ => blkE G fun G => (EvV.toE (EvE.toV (ev_call G (ok__law_same kk) hr (by rfl) E.d__law_same.m E.d__law_same.F.kp E.d__law_same.b (ea_cons (EvE.toV (ev_idx G hr (ev_nameO (i := 0) rfl (by first | exact .inl rfl | exact .inr (.inl rfl) | exact .inr (.inr rfl))) (ev_nameO (i := 2) rfl (by first | exact .inl rfl | exact .inr (.inl rfl) | exact .inr (.inr rfl))))) (ea_cons (EvE.toV (ev_idx G hr (ev_nameO (i := 1) rfl (by first | exact .inl rfl | exact .inr (.inl rfl) | exact .inr (.inr rfl))) (ev_nameO (i := 2) rfl (by first | exact .inl rfl | exact .inr (.inl rfl) | exact .inr (.inr rfl))))) ea_nil))))))))))))))))) eb_nil) (eb_cons
  (es_if (et_tru G (EvV.toO (EvE.toV (ev_isi G (T := "bool") (by decide) (by decide +kernel) (by rfl) E.b_isinstance (by rfl) E.b_bool (ev_nameO (i := 1) rfl (by first | exact .inl rfl | exact .inr (.inl rfl) | exact .inr (.inr rfl))))))) (eb_one (es_ret (EvV.toE (ev_and (EvE.toV (ev_isi G (T := "bool") (by decide) (by decide +kernel) (by rfl) E.b_isinstance (by rfl) E.b_bool (ev_nameO (i := 0) rfl (by first | exact .inl rfl | exact .inr (.inl rfl) | exact .inr (.inr rfl))))) (ev_one (EvE.toV (ev_cmp (cEq G hr) (ev_nameO (i := 0) rfl (by first | exact .inl rfl | exact .inr (.inl rfl) | exact .inr (.inr rfl))) (ev_nameO (i := 1) rfl (by first | exact .inl rfl | exact .inr (.inl rfl) | exact .inr (.inr rfl)))))))))) eb_nil) (eb_cons
  (es_if (et_tru G (EvV.toO (EvE.toV (ev_isi G (T := "str") (by decide) (by decide +kernel) (by rfl) E.b_isinstance (by rfl) E.b_str (ev_nameO (i := 1) rfl (by first | exact .inl rfl | exact .inr (.inl rfl) | exact .inr (.inr rfl))))))) (eb_one (es_ret (EvV.toE (ev_and (EvE.toV (ev_isi G (T := "str") (by decide) (by decide +kernel) (by rfl) E.b_isinstance (by rfl) E.b_str (ev_nameO (i := 0) rfl (by first | exact .inl rfl | exact .inr (.inl rfl) | exact .inr (.inr rfl))))) (ev_one (EvE.toV (ev_cmp (cEq G hr) (ev_nameO (i := 0) rfl (by first | exact .inl rfl | exact .inr (.inl rfl) | exact .inr (.inr rfl))) (ev_nameO (i := 1) rfl (by first | exact .inl rfl | exact .inr (.inl rfl) | exact .inr (.inr rfl)))))))))) eb_nil) (eb_cons
  (es_if (et_cmp (cIs) (ev_nameO (i := 1) rfl (by first | exact .inl rfl | exact .inr (.inl rfl) | exact .inr (.inr rfl))) (EvV.toO ev_non)) (eb_one (es_ret (ev_cmp (cIs) (ev_nameO (i := 0) rfl (by first | exact .inl rfl | exact .inr (.inl rfl) | exact .inr (.inr rfl))) (EvV.toO ev_non)))) eb_nil) (eb_one (es_ret (EvV.toE (ev_and (EvE.toV (ev_call G (ok__law_is_whole E) (hr.mono (Nat.le_trans (m := 2) (by decide) (Nat.le_add_right 2 kk))) (by rfl) E.d__law_is_whole.m E.d__law_is_whole.F.kp E.d__law_is_whole.b (ea_cons (ev_name (i := 0) rfl (by first | exact .inl rfl | exact .inr (.inl rfl) | exact .inr (.inr rfl))) ea_nil))) (ev_one (EvE.toV (ev_cmp (cEq G hr) (ev_nameO (i := 0) rfl (by first | exact .inl rfl | exact .inr (.inl rfl) | exact .inr (.inr rfl))) (ev_nameO (i := 1) rfl (by first | exact .inl rfl | exact .inr (.inl rfl) | exact .inr (.inr rfl))))))))))))))
def g__law_told : En → SR := (tryS [0, 1, 2] 1 (seqS
  (iteS (tst (op2 eqD (nmO 0) (oOfV (kI 0)))) (retS ((callF 1 (F__law_honest) (aCons ((vOfE (callF 1 (F_kreweras) (aCons ((nmV 1)) aNil)))) aNil)))) passS) (retS ((callF 1 (F__law_honest) (aCons ((vOfE (iteE ((tst (op2 eqD (nmO 0) (oOfV (kI 1))))) ((callF 1 (F_kreweras_back) (aCons ((nmV 1)) aNil))) ((callF 2 (F_turned_parting) (aCons ((nmV 1)) (aCons ((nmV 2)) aNil))))))) aNil))))) (retS ((eOfV (kS (PySem.Str.ofString "malformed"))))))
def F__law_told : Sl → List D → FR := fnF 3 false g__law_told
set_option maxRecDepth 100000 in
theorem ok__law_told : FnV P w K mg base E.C 9 E.d__law_told.f E.d__law_told.fd ["which", "p", "s"] false F__law_told :=
  fnV_of E.d__law_told.F sc__law_told false [0, 1, 2] rfl (fun h => nomatch h) fun cdv A outer s H X σ₀ hr G => by
    exact (eb_one (es_try G rfl rfl (List.cons_ne_nil _ _) (fun _ _ _ tk po => by have G := G.tryG tk; exact (eb_cons
  (es_if (et_cmp (cEq G hr) (ev_nameO (i := 0) rfl (by first | exact .inl rfl | exact .inr (.inl rfl) | exact .inr (.inr rfl))) (EvV.toO ev_int)) (eb_one (es_ret (ev_call G (ok__law_honest E) (hr.mono (by decide)) (by rfl) E.d__law_honest.m E.d__law_honest.F.kp E.d__law_honest.b (ea_cons (EvE.toV (ev_call G (ok_kreweras E) (hr.mono (by decide)) (by rfl) E.d_kreweras.m E.d_kreweras.F.kp E.d_kreweras.b (ea_cons (ev_name (i := 1) rfl (by first | exact .inl rfl | exact .inr (.inl rfl) | exact .inr (.inr rfl))) ea_nil))) ea_nil)))) eb_nil) (eb_one (es_ret (ev_call G (ok__law_honest E) (hr.mono (by decide)) (by rfl) E.d__law_honest.m E.d__law_honest.F.kp E.d__law_honest.b (ea_cons (EvE.toV (ev_ite (et_cmp (cEq G hr) (ev_nameO (i := 0) rfl (by first | exact .inl rfl | exact .inr (.inl rfl) | exact .inr (.inr rfl))) (EvV.toO ev_int)) (ev_call G (ok_kreweras_back E) (hr.mono (by decide)) (by rfl) E.d_kreweras_back.m E.d_kreweras_back.F.kp E.d_kreweras_back.b (ea_cons (ev_name (i := 1) rfl (by first | exact .inl rfl | exact .inr (.inl rfl) | exact .inr (.inr rfl))) ea_nil)) (ev_call G (ok_turned_parting E) (hr.mono (by decide)) (by rfl) E.d_turned_parting.m E.d_turned_parting.F.kp E.d_turned_parting.b (ea_cons (ev_name (i := 1) rfl (by first | exact .inl rfl | exact .inr (.inl rfl) | exact .inr (.inr rfl))) (ea_cons (ev_name (i := 2) rfl (by first | exact .inl rfl | exact .inr (.inl rfl) | exact .inr (.inr rfl))) ea_nil))))) ea_nil)))))) (by rfl) E.x_Malformed.m rfl E.x_Malformed.e (fun _ _ _ => (eb_one (es_ret (EvV.toE ev_str))))))
abbrev cp__law_few_hold_1 : En → R (D × Nat) := (comp (seqI' ((nmV 1))) (nameG 5) ((notT (tru (oOfV ((vOfE (callF 1 (F__law_crosses) (aCons ((vOfE (callF 2 (F__law_woven) (aCons ((nmV 2)) (aCons ((nmV 5)) aNil))))) aNil)))))))) ((eOfV ((nmV 5)))) 0 [5])
abbrev cp__law_few_hold_2 : En → R (D × Nat) := (comp (seqI' ((nmV 4))) (nameG 5) (yesT) ((eOfV ((notV ((vOfE (callF 2 (F__law_finer) (aCons ((nmV 5)) (aCons ((nmV 3)) aNil))))))))) 0 [5])
abbrev g__law_few_hold_1 : En → SR := (setS 1 ((callF 1 (F__law_grown) (aCons ((vOfE (callI 2 (F__law_take) 0 (aCons (kI 6) aNil)))) aNil))))
abbrev g__law_few_hold_2 : En → SR := (setS 2 ((op2 idxD (nmO 1) (oOfV ((vOfE (callI 2 (F__law_take) 0 (aCons ((vOfE (op1 lenD (nmO 1)))) aNil))))))))
abbrev g__law_few_hold_3 : En → SR := (setS 3 ((callF 3 (F__law_told) (aCons (kI 0) (aCons ((nmV 2)) (aCons (kI 0) aNil))))))
abbrev g__law_few_hold_4 : En → SR := (setS 4 cp__law_few_hold_1)
abbrev g__law_few_hold_5 : En → SR := (iteS (orT (tst (op2 ninD (nmO 3) (nmO 4))) (tru (oOfV ((vOfE (op1 anyD (oOfV ((vOfE cp__law_few_hold_2))))))))) (retS ((eOfV (kB false)))) passS)
abbrev g__law_few_hold_6 : En → SR := (setS 5 ((op2 idxD (nmO 1) (oOfV ((vOfE (callI 2 (F__law_take) 0 (aCons ((vOfE (op1 lenD (nmO 1)))) aNil))))))))
abbrev g__law_few_hold_7 : En → SR := (retS ((op2 eqD (oOfV ((vOfE (callF 2 (F__law_finer) (aCons ((nmV 2)) (aCons ((nmV 5)) aNil)))))) (oOfV ((vOfE (callF 2 (F__law_finer) (aCons ((vOfE (callF 3 (F__law_told) (aCons (kI 0) (aCons ((nmV 5)) (aCons (kI 0) aNil)))))) (aCons ((nmV 3)) aNil)))))))))
def g__law_few_hold : En → SR := (seqS g__law_few_hold_1 (seqS g__law_few_hold_2 (seqS g__law_few_hold_3 (seqS g__law_few_hold_4 (seqS g__law_few_hold_5 (seqS g__law_few_hold_6 g__law_few_hold_7))))))
def F__law_few_hold : Sl → List D → FR := fnF 6 true g__law_few_hold
set_option maxRecDepth 100000 in
theorem ok__law_few_hold : FnV P w K mg base E.C 10 E.d__law_few_hold.f E.d__law_few_hold.fd ["state"] true F__law_few_hold :=
  fnV_of E.d__law_few_hold.F sc__law_few_hold true [0] rfl (fun _ => ⟨by decide, by decide⟩) fun cdv A outer s H X σ₀ hr G => by
    exact (eb_cons
  (es_set (i := 1) G rfl (by first | exact .inl rfl | exact .inr rfl) (show (1 : Nat) ∉ ([0] : List Nat) by decide) (ev_call G (ok__law_grown E) (hr.mono (by decide)) (by rfl) E.d__law_grown.m E.d__law_grown.F.kp E.d__law_grown.b (ea_cons (EvE.toV (ev_callI G (ok__law_take E) (hr.mono (by decide)) (by rfl) E.d__law_take.m E.d__law_take.F.kp E.d__law_take.b (i := 0) rfl (by first | exact .inl rfl | exact .inr (.inl rfl) | exact .inr (.inr rfl)) (ea_cons ev_int ea_nil))) ea_nil))) (eb_cons
  (es_set (i := 2) G rfl (by first | exact .inl rfl | exact .inr rfl) (show (2 : Nat) ∉ ([0] : List Nat) by decide) (ev_idx G hr (ev_nameO (i := 1) rfl (by first | exact .inl rfl | exact .inr (.inl rfl) | exact .inr (.inr rfl))) (EvV.toO (EvE.toV (ev_callI G (ok__law_take E) (hr.mono (by decide)) (by rfl) E.d__law_take.m E.d__law_take.F.kp E.d__law_take.b (i := 0) rfl (by first | exact .inl rfl | exact .inr (.inl rfl) | exact .inr (.inr rfl)) (ea_cons (EvE.toV (ev_len G (by rfl) E.b_len (ev_nameO (i := 1) rfl (by first | exact .inl rfl | exact .inr (.inl rfl) | exact .inr (.inr rfl))))) ea_nil)))))) (eb_cons
  (es_set (i := 3) G rfl (by first | exact .inl rfl | exact .inr rfl) (show (3 : Nat) ∉ ([0] : List Nat) by decide) (ev_call G (ok__law_told E) (hr.mono (by decide)) (by rfl) E.d__law_told.m E.d__law_told.F.kp E.d__law_told.b (ea_cons ev_int (ea_cons (ev_name (i := 2) rfl (by first | exact .inl rfl | exact .inr (.inl rfl) | exact .inr (.inr rfl))) (ea_cons ev_int ea_nil))))) (eb_cons
  (es_setLc (i := 4) (own := [((PySem.Str.ofString "q"), 5)]) (vs := [5]) (ws := [5]) 0 G rfl rfl (show (4 : Nat) ∉ ([0] : List Nat) by decide) (sw_true rfl rfl rfl rfl) (ei_seq G (ev_name (i := 1) rfl (by first | exact .inl rfl | exact .inr (.inl rfl) | exact .inr (.inr rfl)))) (blkOk_by (by kernel_rfl)) rfl (by decide) (fun _ _ _ _ _ => blkG G fun G => (eg_name (i := 5) G rfl (by first | exact .inl rfl | exact .inr rfl) (show (5 : Nat) ∉ ([] : List Nat) by decide))) (fun _ _ _ _ _ => blkT G fun G => (ept_one (et_not (et_tru G (EvV.toO (EvE.toV (ev_call G (ok__law_crosses E) (hr.mono (by decide)) (by rfl) E.d__law_crosses.m E.d__law_crosses.F.kp E.d__law_crosses.b (ea_cons (EvE.toV (ev_call G (ok__law_woven E) (hr.mono (by decide)) (by rfl) E.d__law_woven.m E.d__law_woven.F.kp E.d__law_woven.b (ea_cons (ev_name (i := 2) rfl (by first | exact .inl rfl | exact .inr (.inl rfl) | exact .inr (.inr rfl))) (ea_cons (ev_name (i := 5) rfl (by first | exact .inl rfl | exact .inr (.inl rfl) | exact .inr (.inr rfl))) ea_nil)))) ea_nil)))))))) (fun _ _ _ _ _ => blkE G fun G => (EvV.toE (ev_name (i := 5) rfl (by first | exact .inl rfl | exact .inr (.inl rfl) | exact .inr (.inr rfl)))))) (eb_cons
  (es_if (EvW.t (ew_or (et_cmp (cNin G hr) (ev_nameO (i := 3) rfl (by first | exact .inl rfl | exact .inr (.inl rfl) | exact .inr (.inr rfl))) (ev_nameO (i := 4) rfl (by first | exact .inl rfl | exact .inr (.inl rfl) | exact .inr (.inr rfl)))) (ew_or1 (et_tru G (EvV.toO (EvE.toV (ev_any G (by rfl) E.b_any (EvV.toO (EvE.toV (ev_lc (own := [((PySem.Str.ofString "q"), 5)]) (vs := [5]) (ws := [5]) 0 G (ei_seq G (ev_name (i := 4) rfl (by first | exact .inl rfl | exact .inr (.inl rfl) | exact .inr (.inr rfl)))) (blkOk_by (by kernel_rfl)) rfl (by decide) (fun _ _ _ _ _ => blkG G fun G => (eg_name (i := 5) G rfl (by first | exact .inl rfl | exact .inr rfl) (show (5 : Nat) ∉ ([] : List Nat) by decide))) (fun _ _ _ _ _ => blkT G fun G => ept_nil) (fun _ _ _ _ _ => blkE G fun G => (EvV.toE (ev_not (EvE.toV (ev_call G (ok__law_finer E) (hr.mono (by decide)) (by rfl) E.d__law_finer.m E.d__law_finer.F.kp E.d__law_finer.b (ea_cons (ev_name (i := 5) rfl (by first | exact .inl rfl | exact .inr (.inl rfl) | exact .inr (.inr rfl))) (ea_cons (ev_name (i := 3) rfl (by first | exact .inl rfl | exact .inr (.inl rfl) | exact .inr (.inr rfl))) ea_nil))))))))))))))))) (eb_one (es_ret (EvV.toE ev_bl))) eb_nil) (eb_cons
  (es_set (i := 5) G rfl (by first | exact .inl rfl | exact .inr rfl) (show (5 : Nat) ∉ ([0] : List Nat) by decide) (ev_idx G hr (ev_nameO (i := 1) rfl (by first | exact .inl rfl | exact .inr (.inl rfl) | exact .inr (.inr rfl))) (EvV.toO (EvE.toV (ev_callI G (ok__law_take E) (hr.mono (by decide)) (by rfl) E.d__law_take.m E.d__law_take.F.kp E.d__law_take.b (i := 0) rfl (by first | exact .inl rfl | exact .inr (.inl rfl) | exact .inr (.inr rfl)) (ea_cons (EvE.toV (ev_len G (by rfl) E.b_len (ev_nameO (i := 1) rfl (by first | exact .inl rfl | exact .inr (.inl rfl) | exact .inr (.inr rfl))))) ea_nil)))))) (eb_one (es_ret (ev_cmp (cEq G hr) (EvV.toO (EvE.toV (ev_call G (ok__law_finer E) (hr.mono (by decide)) (by rfl) E.d__law_finer.m E.d__law_finer.F.kp E.d__law_finer.b (ea_cons (ev_name (i := 2) rfl (by first | exact .inl rfl | exact .inr (.inl rfl) | exact .inr (.inr rfl))) (ea_cons (ev_name (i := 5) rfl (by first | exact .inl rfl | exact .inr (.inl rfl) | exact .inr (.inr rfl))) ea_nil))))) (EvV.toO (EvE.toV (ev_call G (ok__law_finer E) (hr.mono (by decide)) (by rfl) E.d__law_finer.m E.d__law_finer.F.kp E.d__law_finer.b (ea_cons (EvE.toV (ev_call G (ok__law_told E) (hr.mono (by decide)) (by rfl) E.d__law_told.m E.d__law_told.F.kp E.d__law_told.b (ea_cons ev_int (ea_cons (ev_name (i := 5) rfl (by first | exact .inl rfl | exact .inr (.inl rfl) | exact .inr (.inr rfl))) (ea_cons ev_int ea_nil))))) (ea_cons (ev_name (i := 3) rfl (by first | exact .inl rfl | exact .inr (.inl rfl) | exact .inr (.inr rfl))) ea_nil))))))))))))))
abbrev lb_law_1 : En → SR := (iteS (notT (tru (oOfV ((vOfE (callF 2 (F__law_same 6) (aCons ((vOfE (callF 3 (F__law_told) (aCons (kI 2) (aCons ((nmV 3)) (aCons ((nmV 6)) aNil)))))) (aCons ((vOfE (iteE ((tst (op2 (cmpD fun i j => decide (j < i)) (nmO 2) (oOfV (kI 0))))) ((callF 2 (F__law_turned) (aCons ((nmV 3)) (aCons ((nmV 6)) aNil)))) ((eOfV ((tupE aNil))))))) aNil)))))))) (retS ((eOfV (kB false)))) passS)
abbrev cp_law_1 : En → R (D × Nat) := (comp (rg1 (aCons (kI 3) aNil)) (nameG 8) (yesT) ((eOfV ((vOfE (callF 3 (F__law_told) (aCons ((nmV 8)) (aCons ((nmV 7)) (aCons (kI 1) aNil)))))))) 0 [8])
abbrev lb_law_2 : En → SR := (iteS (tst (op2 neD (oOfV ((vOfE cp_law_1))) (oOfV ((vOfE (op2 mulD (oOfV ((vOfE (lstE (aCons (kS (PySem.Str.ofString "malformed")) aNil))))) (oOfV (kI 3)))))))) (retS ((eOfV (kB false)))) passS)
abbrev cp_law_2 : En → R (D × Nat) := (comp (seqI' ((vOfE (lstE (aCons (kN) (aCons (kI 13) (aCons ((vOfE (op1 negD (oOfV (kI 13))))) (aCons (kB true) (aCons (kS (PySem.Str.ofString "1")) aNil))))))))) (nameG 7) (yesT) ((eOfV ((vOfE (callF 3 (F__law_told) (aCons (kI 2) (aCons ((nmV 3)) (aCons ((nmV 7)) aNil)))))))) 0 [7])
abbrev g_law_1 : En → SR := (setS 1 ((callF 1 (F__law_state) (aCons ((nmV 0)) aNil))))
abbrev g_law_2 : En → SR := (iteS (notT (tru (oOfV ((vOfE (callI 1 (F__law_few_hold) 1 aNil)))))) (retS ((eOfV (kB false)))) passS)
abbrev g_law_3 : En → SR := (setS 2 ((callI 2 (F__law_take) 1 (aCons (kI 13) aNil))))
abbrev g_law_4 : En → SR := (setS 3 ((callI 3 (F__law_drawn) 1 (aCons (kS (PySem.Str.ofString "noncrossing")) (aCons ((nmV 2)) aNil)))))
abbrev g_law_5 : En → SR := (setS 4 ((callF 1 (F__law_kreweras) (aCons ((nmV 3)) aNil))))
abbrev g_law_6 : En → SR := (iteS (orT (notT (tru (oOfV ((vOfE (callF 2 (F__law_same 6) (aCons ((vOfE (callF 3 (F__law_told) (aCons (kI 0) (aCons ((nmV 3)) (aCons (kI 0) aNil)))))) (aCons ((nmV 4)) aNil)))))))) (orT (notT (tru (oOfV ((vOfE (callF 2 (F__law_same 6) (aCons ((vOfE (callF 3 (F__law_told) (aCons (kI 1) (aCons ((nmV 4)) (aCons (kI 0) aNil)))))) (aCons ((nmV 3)) aNil)))))))) (tru (oOfV ((vOfE (callF 1 (F__law_crosses) (aCons ((nmV 4)) aNil)))))))) (retS ((eOfV (kB false)))) passS)
abbrev g_law_7 : En → SR := (setS 5 ((callF 3 (F__law_told) (aCons (kI 1) (aCons ((nmV 3)) (aCons (kI 0) aNil))))))
abbrev g_law_8 : En → SR := (iteS (orT (notT (tru (oOfV ((vOfE (callF 2 (F__law_same 6) (aCons ((vOfE (callF 3 (F__law_told) (aCons (kI 0) (aCons ((nmV 5)) (aCons (kI 0) aNil)))))) (aCons ((nmV 3)) aNil)))))))) (tst (op2 neD (oOfV ((vOfE (callF 1 (F__law_kreweras) (aCons ((nmV 5)) aNil))))) (nmO 3)))) (retS ((eOfV (kB false)))) passS)
abbrev g_law_9 : En → SR := (iteS (andT (tst (op2 (cmpD fun i j => decide (j < i)) (nmO 2) (oOfV (kI 0)))) (tst (op2 neD (oOfV ((vOfE (op2 addD (oOfV ((vOfE (op1 lenD (oOfV ((vOfE (callF 1 (F__law_blocks) (aCons ((nmV 3)) aNil))))))))) (oOfV ((vOfE (op1 lenD (oOfV ((vOfE (callF 1 (F__law_blocks) (aCons ((nmV 4)) aNil))))))))))))) (oOfV ((vOfE (op2 addD (nmO 2) (oOfV (kI 1))))))))) (retS ((eOfV (kB false)))) passS)
abbrev g_law_10 : En → SR := (forS (seqI' ((vOfE (lstE (aCons (kI 0) (aCons (kI 1) (aCons ((vOfE (op1 negD (oOfV (kI 1))))) (aCons ((vOfE (op2 subD (oOfV ((vOfE (callI 2 (F__law_take) 1 (aCons (kI 25) aNil))))) (oOfV (kI 12))))) (aCons (kI 12) (aCons ((vOfE (op1 negD (oOfV (kI 12))))) aNil)))))))))) (nameG 6) lb_law_1)
abbrev g_law_11 : En → SR := (iteS (andT (tst (op2 (cmpD fun i j => decide (j < i)) (nmO 2) (oOfV (kI 0)))) (notT (tru (oOfV ((vOfE (callF 2 (F__law_same 6) (aCons ((vOfE (callF 3 (F__law_told) (aCons (kI 0) (aCons ((nmV 4)) (aCons (kI 0) aNil)))))) (aCons ((vOfE (callF 2 (F__law_turned) (aCons ((nmV 3)) (aCons ((vOfE (op1 negD (oOfV (kI 1))))) aNil))))) aNil))))))))) (retS ((eOfV (kB false)))) passS)
abbrev g_law_12 : En → SR := (forS (seqI' ((vOfE (lstE (aCons (kN) (aCons (kI 5) (aCons ((tupE (aCons (kI 1) aNil))) (aCons ((tupE (aCons (kI 0) (aCons (kI 2) aNil)))) (aCons ((vOfE (op1 lisD (nmO 3)))) (aCons ((tupE (aCons (kI 0) (aCons (kI 1) (aCons (kI 0) (aCons (kI 1) aNil)))))) (aCons ((tupE (aCons (kI 0) (aCons (kI 1) (aCons (kI 2) (aCons (kI 0) (aCons (kI 1) aNil))))))) (aCons ((vOfE (op2 repD (oOfV ((tupE (aCons (kI 0) aNil)))) (oOfV (kI 13))))) (aCons ((tupE (aCons (kB true) aNil))) (aCons (kS (PySem.Str.ofString "0")) (aCons ((tupE (aCons (kI 0) (aCons (kI 1) (aCons (kI 1) (aCons (kI 0) (aCons (kI 2) (aCons (kI 0) (aCons (kI 2) aNil))))))))) aNil))))))))))))))) (nameG 7) lb_law_2)
abbrev g_law_13 : En → SR := (retS ((op2 eqD (oOfV ((vOfE cp_law_2))) (oOfV ((vOfE (op2 mulD (oOfV ((vOfE (lstE (aCons (kS (PySem.Str.ofString "malformed")) aNil))))) (oOfV (kI 5)))))))))
def g_law : En → SR := (seqS g_law_1 (seqS g_law_2 (seqS g_law_3 (seqS g_law_4 (seqS g_law_5 (seqS g_law_6 (seqS g_law_7 (seqS g_law_8 (seqS g_law_9 (seqS g_law_10 (seqS g_law_11 (seqS g_law_12 g_law_13))))))))))))
def F_law : Sl → List D → FR := fnF 9 false g_law
set_option maxRecDepth 100000 in
theorem ok_law : FnV P w K mg base E.C 11 E.d_law.f E.d_law.fd ["script"] false F_law :=
  fnV_of E.d_law.F sc_law false [] rfl (fun h => nomatch h) fun cdv A outer s H X σ₀ hr G => by
    exact (eb_cons
  (es_set (i := 1) G rfl (by first | exact .inl rfl | exact .inr rfl) (show (1 : Nat) ∉ ([] : List Nat) by decide) (ev_call G (ok__law_state E) (hr.mono (by decide)) (by rfl) E.d__law_state.m E.d__law_state.F.kp E.d__law_state.b (ea_cons (ev_name (i := 0) rfl (by first | exact .inl rfl | exact .inr (.inl rfl) | exact .inr (.inr rfl))) ea_nil))) (eb_cons
  (es_if (et_not (et_tru G (EvV.toO (EvE.toV (ev_callI G (ok__law_few_hold E) (hr.mono (by decide)) (by rfl) E.d__law_few_hold.m E.d__law_few_hold.F.kp E.d__law_few_hold.b (i := 1) rfl (by first | exact .inl rfl | exact .inr (.inl rfl) | exact .inr (.inr rfl)) ea_nil))))) (eb_one (es_ret (EvV.toE ev_bl))) eb_nil) (eb_cons
  (es_set (i := 2) G rfl (by first | exact .inl rfl | exact .inr rfl) (show (2 : Nat) ∉ ([] : List Nat) by decide) (ev_callI G (ok__law_take E) (hr.mono (by decide)) (by rfl) E.d__law_take.m E.d__law_take.F.kp E.d__law_take.b (i := 1) rfl (by first | exact .inl rfl | exact .inr (.inl rfl) | exact .inr (.inr rfl)) (ea_cons ev_int ea_nil))) (eb_cons
  (es_set (i := 3) G rfl (by first | exact .inl rfl | exact .inr rfl) (show (3 : Nat) ∉ ([] : List Nat) by decide) (ev_callI G (ok__law_drawn E) (hr.mono (by decide)) (by rfl) E.d__law_drawn.m E.d__law_drawn.F.kp E.d__law_drawn.b (i := 1) rfl (by first | exact .inl rfl | exact .inr (.inl rfl) | exact .inr (.inr rfl)) (ea_cons ev_str (ea_cons (ev_name (i := 2) rfl (by first | exact .inl rfl | exact .inr (.inl rfl) | exact .inr (.inr rfl))) ea_nil)))) (eb_cons
  (es_set (i := 4) G rfl (by first | exact .inl rfl | exact .inr rfl) (show (4 : Nat) ∉ ([] : List Nat) by decide) (ev_call G (ok__law_kreweras E) (hr.mono (by decide)) (by rfl) E.d__law_kreweras.m E.d__law_kreweras.F.kp E.d__law_kreweras.b (ea_cons (ev_name (i := 3) rfl (by first | exact .inl rfl | exact .inr (.inl rfl) | exact .inr (.inr rfl))) ea_nil))) (eb_cons
  (es_if (EvW.t (ew_or (et_not (et_tru G (EvV.toO (EvE.toV (ev_call G (ok__law_same E 6) (hr.mono (by decide)) (by rfl) E.d__law_same.m E.d__law_same.F.kp E.d__law_same.b (ea_cons (EvE.toV (ev_call G (ok__law_told E) (hr.mono (by decide)) (by rfl) E.d__law_told.m E.d__law_told.F.kp E.d__law_told.b (ea_cons ev_int (ea_cons (ev_name (i := 3) rfl (by first | exact .inl rfl | exact .inr (.inl rfl) | exact .inr (.inr rfl))) (ea_cons ev_int ea_nil))))) (ea_cons (ev_name (i := 4) rfl (by first | exact .inl rfl | exact .inr (.inl rfl) | exact .inr (.inr rfl))) ea_nil))))))) (ew_or (et_not (et_tru G (EvV.toO (EvE.toV (ev_call G (ok__law_same E 6) (hr.mono (by decide)) (by rfl) E.d__law_same.m E.d__law_same.F.kp E.d__law_same.b (ea_cons (EvE.toV (ev_call G (ok__law_told E) (hr.mono (by decide)) (by rfl) E.d__law_told.m E.d__law_told.F.kp E.d__law_told.b (ea_cons ev_int (ea_cons (ev_name (i := 4) rfl (by first | exact .inl rfl | exact .inr (.inl rfl) | exact .inr (.inr rfl))) (ea_cons ev_int ea_nil))))) (ea_cons (ev_name (i := 3) rfl (by first | exact .inl rfl | exact .inr (.inl rfl) | exact .inr (.inr rfl))) ea_nil))))))) (ew_or1 (et_tru G (EvV.toO (EvE.toV (ev_call G (ok__law_crosses E) (hr.mono (by decide)) (by rfl) E.d__law_crosses.m E.d__law_crosses.F.kp E.d__law_crosses.b (ea_cons (ev_name (i := 4) rfl (by first | exact .inl rfl | exact .inr (.inl rfl) | exact .inr (.inr rfl))) ea_nil))))))))) (eb_one (es_ret (EvV.toE ev_bl))) eb_nil) (eb_cons
  (es_set (i := 5) G rfl (by first | exact .inl rfl | exact .inr rfl) (show (5 : Nat) ∉ ([] : List Nat) by decide) (ev_call G (ok__law_told E) (hr.mono (by decide)) (by rfl) E.d__law_told.m E.d__law_told.F.kp E.d__law_told.b (ea_cons ev_int (ea_cons (ev_name (i := 3) rfl (by first | exact .inl rfl | exact .inr (.inl rfl) | exact .inr (.inr rfl))) (ea_cons ev_int ea_nil))))) (eb_cons
  (es_if (EvW.t (ew_or (et_not (et_tru G (EvV.toO (EvE.toV (ev_call G (ok__law_same E 6) (hr.mono (by decide)) (by rfl) E.d__law_same.m E.d__law_same.F.kp E.d__law_same.b (ea_cons (EvE.toV (ev_call G (ok__law_told E) (hr.mono (by decide)) (by rfl) E.d__law_told.m E.d__law_told.F.kp E.d__law_told.b (ea_cons ev_int (ea_cons (ev_name (i := 5) rfl (by first | exact .inl rfl | exact .inr (.inl rfl) | exact .inr (.inr rfl))) (ea_cons ev_int ea_nil))))) (ea_cons (ev_name (i := 3) rfl (by first | exact .inl rfl | exact .inr (.inl rfl) | exact .inr (.inr rfl))) ea_nil))))))) (ew_or1 (et_cmp (cNe G hr) (EvV.toO (EvE.toV (ev_call G (ok__law_kreweras E) (hr.mono (by decide)) (by rfl) E.d__law_kreweras.m E.d__law_kreweras.F.kp E.d__law_kreweras.b (ea_cons (ev_name (i := 5) rfl (by first | exact .inl rfl | exact .inr (.inl rfl) | exact .inr (.inr rfl))) ea_nil)))) (ev_nameO (i := 3) rfl (by first | exact .inl rfl | exact .inr (.inl rfl) | exact .inr (.inr rfl))))))) (eb_one (es_ret (EvV.toE ev_bl))) eb_nil) (eb_cons
  (es_if (EvW.t (ew_and (et_cmp (cGt) (ev_nameO (i := 2) rfl (by first | exact .inl rfl | exact .inr (.inl rfl) | exact .inr (.inr rfl))) (EvV.toO ev_int)) (ew_and1 (et_cmp (cNe G hr) (EvV.toO (EvE.toV (ev_add G (EvV.toO (EvE.toV (ev_len G (by rfl) E.b_len (EvV.toO (EvE.toV (ev_call G (ok__law_blocks E) (hr.mono (by decide)) (by rfl) E.d__law_blocks.m E.d__law_blocks.F.kp E.d__law_blocks.b (ea_cons (ev_name (i := 3) rfl (by first | exact .inl rfl | exact .inr (.inl rfl) | exact .inr (.inr rfl))) ea_nil))))))) (EvV.toO (EvE.toV (ev_len G (by rfl) E.b_len (EvV.toO (EvE.toV (ev_call G (ok__law_blocks E) (hr.mono (by decide)) (by rfl) E.d__law_blocks.m E.d__law_blocks.F.kp E.d__law_blocks.b (ea_cons (ev_name (i := 4) rfl (by first | exact .inl rfl | exact .inr (.inl rfl) | exact .inr (.inr rfl))) ea_nil)))))))))) (EvV.toO (EvE.toV (ev_add G (ev_nameO (i := 2) rfl (by first | exact .inl rfl | exact .inr (.inl rfl) | exact .inr (.inr rfl))) (EvV.toO ev_int)))))))) (eb_one (es_ret (EvV.toE ev_bl))) eb_nil) (eb_cons
  (es_for G (passes_of rfl) (ei_seq G (EvE.toV (ev_lst (ea_cons ev_int (ea_cons ev_int (ea_cons (EvE.toV (ev_neg (EvV.toO ev_int))) (ea_cons (EvE.toV (ev_sub (EvV.toO (EvE.toV (ev_callI G (ok__law_take E) (hr.mono (by decide)) (by rfl) E.d__law_take.m E.d__law_take.F.kp E.d__law_take.b (i := 1) rfl (by first | exact .inl rfl | exact .inr (.inl rfl) | exact .inr (.inr rfl)) (ea_cons ev_int ea_nil)))) (EvV.toO ev_int))) (ea_cons ev_int (ea_cons (EvE.toV (ev_neg (EvV.toO ev_int))) ea_nil))))))))) (eg_name (i := 6) G rfl (by first | exact .inl rfl | exact .inr rfl) (show (6 : Nat) ∉ ([] : List Nat) by decide)) (eb_one (es_if (et_not (et_tru G (EvV.toO (EvE.toV (ev_call G (ok__law_same E 6) (hr.mono (by decide)) (by rfl) E.d__law_same.m E.d__law_same.F.kp E.d__law_same.b (ea_cons (EvE.toV (ev_call G (ok__law_told E) (hr.mono (by decide)) (by rfl) E.d__law_told.m E.d__law_told.F.kp E.d__law_told.b (ea_cons ev_int (ea_cons (ev_name (i := 3) rfl (by first | exact .inl rfl | exact .inr (.inl rfl) | exact .inr (.inr rfl))) (ea_cons (ev_name (i := 6) rfl (by first | exact .inl rfl | exact .inr (.inl rfl) | exact .inr (.inr rfl))) ea_nil))))) (ea_cons (EvE.toV (ev_ite (et_cmp (cGt) (ev_nameO (i := 2) rfl (by first | exact .inl rfl | exact .inr (.inl rfl) | exact .inr (.inr rfl))) (EvV.toO ev_int)) (ev_call G (ok__law_turned E) (hr.mono (by decide)) (by rfl) E.d__law_turned.m E.d__law_turned.F.kp E.d__law_turned.b (ea_cons (ev_name (i := 3) rfl (by first | exact .inl rfl | exact .inr (.inl rfl) | exact .inr (.inr rfl))) (ea_cons (ev_name (i := 6) rfl (by first | exact .inl rfl | exact .inr (.inl rfl) | exact .inr (.inr rfl))) ea_nil))) (EvV.toE (ev_tup ea_nil)))) ea_nil))))))) (eb_one (es_ret (EvV.toE ev_bl))) eb_nil))) (eb_cons
  (es_if (EvW.t (ew_and (et_cmp (cGt) (ev_nameO (i := 2) rfl (by first | exact .inl rfl | exact .inr (.inl rfl) | exact .inr (.inr rfl))) (EvV.toO ev_int)) (ew_and1 (et_not (et_tru G (EvV.toO (EvE.toV (ev_call G (ok__law_same E 6) (hr.mono (by decide)) (by rfl) E.d__law_same.m E.d__law_same.F.kp E.d__law_same.b (ea_cons (EvE.toV (ev_call G (ok__law_told E) (hr.mono (by decide)) (by rfl) E.d__law_told.m E.d__law_told.F.kp E.d__law_told.b (ea_cons ev_int (ea_cons (ev_name (i := 4) rfl (by first | exact .inl rfl | exact .inr (.inl rfl) | exact .inr (.inr rfl))) (ea_cons ev_int ea_nil))))) (ea_cons (EvE.toV (ev_call G (ok__law_turned E) (hr.mono (by decide)) (by rfl) E.d__law_turned.m E.d__law_turned.F.kp E.d__law_turned.b (ea_cons (ev_name (i := 3) rfl (by first | exact .inl rfl | exact .inr (.inl rfl) | exact .inr (.inr rfl))) (ea_cons (EvE.toV (ev_neg (EvV.toO ev_int))) ea_nil)))) ea_nil)))))))))) (eb_one (es_ret (EvV.toE ev_bl))) eb_nil) (eb_cons
  (es_for G (passes_of rfl) (ei_seq G (EvE.toV (ev_lst (ea_cons ev_non (ea_cons ev_int (ea_cons (ev_tup (ea_cons ev_int ea_nil)) (ea_cons (ev_tup (ea_cons ev_int (ea_cons ev_int ea_nil))) (ea_cons (EvE.toV (ev_list G (by rfl) E.b_list (ev_nameO (i := 3) rfl (by first | exact .inl rfl | exact .inr (.inl rfl) | exact .inr (.inr rfl))))) (ea_cons (ev_tup (ea_cons ev_int (ea_cons ev_int (ea_cons ev_int (ea_cons ev_int ea_nil))))) (ea_cons (ev_tup (ea_cons ev_int (ea_cons ev_int (ea_cons ev_int (ea_cons ev_int (ea_cons ev_int ea_nil)))))) (ea_cons (EvE.toV (ev_rep G (EvV.toO (ev_tup (ea_cons ev_int ea_nil))) (EvV.toO ev_int))) (ea_cons (ev_tup (ea_cons ev_bl ea_nil)) (ea_cons ev_str (ea_cons (ev_tup (ea_cons ev_int (ea_cons ev_int (ea_cons ev_int (ea_cons ev_int (ea_cons ev_int (ea_cons ev_int (ea_cons ev_int ea_nil)))))))) ea_nil)))))))))))))) (eg_name (i := 7) G rfl (by first | exact .inl rfl | exact .inr rfl) (show (7 : Nat) ∉ ([] : List Nat) by decide)) (eb_one (es_if (et_cmp (cNe G hr) (EvV.toO (EvE.toV (ev_lc (own := [((PySem.Str.ofString "which"), 8)]) (vs := [8]) (ws := [8]) 0 G (ei_rg1 (by rfl) E.b_range (ea_cons ev_int ea_nil)) (blkOk_by (by kernel_rfl)) rfl (by decide) (fun _ _ _ _ _ => blkG G fun G => (eg_name (i := 8) G rfl (by first | exact .inl rfl | exact .inr rfl) (show (8 : Nat) ∉ ([] : List Nat) by decide))) (fun _ _ _ _ _ => blkT G fun G => ept_nil) (fun _ _ _ _ _ => blkE G fun G => (EvV.toE (EvE.toV (ev_call G (ok__law_told E) (hr.mono (by decide)) (by rfl) E.d__law_told.m E.d__law_told.F.kp E.d__law_told.b (ea_cons (ev_name (i := 8) rfl (by first | exact .inl rfl | exact .inr (.inl rfl) | exact .inr (.inr rfl))) (ea_cons (ev_name (i := 7) rfl (by first | exact .inl rfl | exact .inr (.inl rfl) | exact .inr (.inr rfl))) (ea_cons ev_int ea_nil)))))))))) (EvV.toO (EvE.toV (ev_mul G (EvV.toO (EvE.toV (ev_lst (ea_cons ev_str ea_nil)))) (EvV.toO ev_int))))) (eb_one (es_ret (EvV.toE ev_bl))) eb_nil))) (eb_one (es_ret (ev_cmp (cEq G hr) (EvV.toO (EvE.toV (ev_lc (own := [((PySem.Str.ofString "bad"), 7)]) (vs := [7]) (ws := [7]) 0 G (ei_seq G (EvE.toV (ev_lst (ea_cons ev_non (ea_cons ev_int (ea_cons (EvE.toV (ev_neg (EvV.toO ev_int))) (ea_cons ev_bl (ea_cons ev_str ea_nil)))))))) (blkOk_by (by kernel_rfl)) rfl (by decide) (fun _ _ _ _ _ => blkG G fun G => (eg_name (i := 7) G rfl (by first | exact .inl rfl | exact .inr rfl) (show (7 : Nat) ∉ ([] : List Nat) by decide))) (fun _ _ _ _ _ => blkT G fun G => ept_nil) (fun _ _ _ _ _ => blkE G fun G => (EvV.toE (EvE.toV (ev_call G (ok__law_told E) (hr.mono (by decide)) (by rfl) E.d__law_told.m E.d__law_told.F.kp E.d__law_told.b (ea_cons ev_int (ea_cons (ev_name (i := 3) rfl (by first | exact .inl rfl | exact .inr (.inl rfl) | exact .inr (.inr rfl))) (ea_cons (ev_name (i := 7) rfl (by first | exact .inl rfl | exact .inr (.inl rfl) | exact .inr (.inr rfl))) ea_nil)))))))))) (EvV.toO (EvE.toV (ev_mul G (EvV.toO (EvE.toV (ev_lst (ea_cons ev_str ea_nil)))) (EvV.toO ev_int)))))))))))))))))))
end L17
end

section
set_option Elab.async false
set_option linter.all false
set_option maxRecDepth 100000
/-! noncrossing maps and their complements, over functions -/
namespace KR
variable {α : Type} {f : Nat → α} {n : Nat}
def NC (f : Nat → α) (n : Nat) : Prop := ∀ a b c d, a < b → b < c → c < d → d < n → f a = f c → f b = f d → f a = f b
/-- the gap behind x is covered by the pair i, j -/
def cov (i j x : Nat) : Bool := decide (i ≤ x) && decide (x < j)
def Rel (f : Nat → α) (n x y : Nat) : Prop := ∀ i j, i < j → j < n → f i = f j → (i ≤ x ∧ x < j ↔ i ≤ y ∧ y < j)
theorem Rel.rfl' (x : Nat) : Rel f n x x := fun _ _ _ _ _ => Iff.rfl
theorem Rel.symm {x y : Nat} (h : Rel f n x y) : Rel f n y x := fun i j a b c => (h i j a b c).symm
theorem Rel.trans {x y z : Nat} (h : Rel f n x y) (h2 : Rel f n y z) : Rel f n x z := fun i j a b c => (h i j a b c).trans (h2 i j a b c)
/-- a set of places with a finite search -/
theorem least {P : Nat → Prop} : ∀ (a : Nat), P a → ∃ m, m ≤ a ∧ P m ∧ ∀ i, i < m → ¬ P i := by
  intro a
  induction a using Nat.strongRecOn with
  | _ a ih =>
    intro ha
    by_cases h : ∃ i, i < a ∧ P i
    · obtain ⟨i, hi, hp⟩ := h
      obtain ⟨m, h1, h2, h3⟩ := ih i hi hp
      exact ⟨m, by omega, h2, h3⟩
    · exact ⟨a, Nat.le_refl _, ha, fun i hi hp => h ⟨i, hi, hp⟩⟩
theorem greatest {P : Nat → Prop} {b a : Nat} (ha : P a) (hb : a ≤ b) : ∃ m, a ≤ m ∧ m ≤ b ∧ P m ∧ ∀ i, m < i → i ≤ b → ¬ P i := by
  obtain ⟨k, h1, h2, h3⟩ := least (P := fun k => k ≤ b - a ∧ P (b - k)) (b - a) ⟨Nat.le_refl _, by rw [Nat.sub_sub_self hb]; exact ha⟩
  exact ⟨b - k, by omega, by omega, h2.2, fun i hi hib hp => h3 (b - i) (by omega) ⟨by omega, by rw [Nat.sub_sub_self hib]; exact hp⟩⟩
/-- w is the place before z in its block, round about -/
def Prev (f : Nat → α) (n z w : Nat) : Prop := w < n ∧ f w = f z ∧ ((w < z ∧ ∀ i, w < i → i < z → f i ≠ f z) ∨ (z ≤ w ∧ (∀ i, i < z → f i ≠ f z) ∧ ∀ i, w < i → i < n → f i ≠ f z))
theorem rel_prev (hN : NC f n) {x w : Nat} (hx : x + 1 < n) (h : Prev f n (x + 1) w) : Rel f n x w := by
  obtain ⟨hw, he, h⟩ := h
  intro i j hij hj hf
  rcases h with ⟨hlt, hno⟩ | ⟨hge, hmin, hmax⟩
  · constructor
    · rintro ⟨h1, h2⟩
      refine ⟨?_, by omega⟩
      apply Decidable.byContradiction
      intro q
      by_cases hjz : j = x + 1
      · subst hjz
        exact hno i (by omega) (by omega) hf
      · have := hN w i (x + 1) j (by omega) (by omega) (by omega) hj he hf
        exact hno i (by omega) (by omega) (by rw [← this, he])
    · rintro ⟨h1, h2⟩
      refine ⟨by omega, ?_⟩
      apply Decidable.byContradiction
      intro q
      by_cases hiw : i = w
      · subst hiw
        exact hno j (by omega) (by omega) (by rw [← hf, he])
      · have := hN i w j (x + 1) (by omega) (by omega) (by omega) hx hf he
        exact hno j (by omega) (by omega) (by rw [← hf, this, he])
  · constructor
    · rintro ⟨h1, h2⟩
      refine ⟨by omega, ?_⟩
      apply Decidable.byContradiction
      intro q
      by_cases hjz : j = x + 1
      · subst hjz
        exact hmin i (by omega) hf
      · by_cases hjw : j = w
        · subst hjw
          exact hmin i (by omega) (by rw [hf, he])
        · have := hN i (x + 1) j w (by omega) (by omega) (by omega) hw hf he.symm
          exact hmin i (by omega) this
    · rintro ⟨h1, h2⟩
      refine ⟨?_, by omega⟩
      apply Decidable.byContradiction
      intro q
      by_cases hiz : i = x + 1
      · subst hiz
        exact hmax j (by omega) hj hf.symm
      · by_cases hiw : i = w
        · subst hiw
          exact hmax j (by omega) hj (by rw [← hf, he])
        · have := hN (x + 1) i w j (by omega) (by omega) (by omega) hj he.symm hf
          exact hmax j (by omega) hj (by rw [← hf, this])
theorem rel_prev0 (hN : NC f n) {w : Nat} (hn : 0 < n) (h : Prev f n 0 w) : Rel f n (n - 1) w := by
  obtain ⟨hw, he, h⟩ := h
  intro i j hij hj hf
  rcases h with ⟨hlt, hno⟩ | ⟨hge, hmin, hmax⟩
  · omega
  · constructor
    · rintro ⟨h1, h2⟩
      omega
    · rintro ⟨h1, h2⟩
      exfalso
      by_cases hi0 : i = 0
      · subst hi0
        exact hmax j (by omega) hj hf.symm
      · by_cases hiw : i = w
        · subst hiw
          exact hmax j (by omega) hj (by rw [← hf, he])
        · have := hN 0 i w j (by omega) (by omega) (by omega) hj he.symm hf
          exact hmax j (by omega) hj (by rw [← hf, this])
theorem rel_prevM (hN : NC f n) {x w : Nat} (hx : x < n) (h : Prev f n ((x + 1) % n) w) : Rel f n x w := by
  by_cases q : x + 1 < n
  · rw [Nat.mod_eq_of_lt q] at h
    exact rel_prev hN q h
  · have e : x + 1 = n := by omega
    rw [e, Nat.mod_self] at h
    have e2 : x = n - 1 := by omega
    rw [e2]
    exact rel_prev0 hN (by omega) h
theorem prev_uniq {z w w' : Nat} (hz : z < n) (h : Prev f n z w) (h' : Prev f n z w') : w = w' := by
  obtain ⟨a1, a2, a3⟩ := h
  obtain ⟨b1, b2, b3⟩ := h'
  rcases a3 with ⟨a4, a5⟩ | ⟨a4, a5, a6⟩ <;> rcases b3 with ⟨b4, b5⟩ | ⟨b4, b5, b6⟩
  · rcases Nat.lt_trichotomy w w' with q | q | q
    · exact (a5 w' q b4 b2).elim
    · exact q
    · exact (b5 w q a4 a2).elim
  · exact (b5 w a4 a2).elim
  · exact (a5 w' b4 b2).elim
  · rcases Nat.lt_trichotomy w w' with q | q | q
    · exact (a6 w' q b1 b2).elim
    · exact q
    · exact (b6 w q a1 a2).elim
/-- within a class the greater place is reached from the lesser one -/
theorem reach (hN : NC f n) {s : Nat → Nat} (hs : ∀ x, x < n → Prev f n ((x + 1) % n) (s x)) (x : Nat) : ∀ y, x ≤ y → y < n → Rel f n x y → ∀ (T : Nat → Prop), T x → (∀ v, v < n → T v → Rel f n x v → T (s v)) → T y := by
  intro y
  induction y using Nat.strongRecOn with
  | _ y ih =>
    intro hxy hy hR T h0 hT
    by_cases e : x = y
    · subst e; exact h0
    · have hlt : x < y := by omega
      obtain ⟨m, hm1, hm2, hm3⟩ := least (P := fun i => f i = f y) y rfl
      have hmx : x < m := by
        apply Decidable.byContradiction
        intro q
        have hmy : m < y := by omega
        have := (hR m y hmy hy hm2).mp ⟨by omega, hlt⟩
        omega
      have hmax : ∀ i, y < i → i < n → f i ≠ f y := by
        intro i hi hin hf
        have := (hR y i hi hin hf.symm).mpr ⟨Nat.le_refl _, hi⟩
        omega
      have hP : Prev f n m y := ⟨hy, hm2.symm, .inr ⟨hm1, fun i hi q => hm3 i hi (by rw [q, hm2]), fun i hi hin q => hmax i hi hin (by rw [q, hm2])⟩⟩
      have e1 : (m - 1 + 1) % n = m := by
        rw [Nat.sub_add_cancel (by omega), Nat.mod_eq_of_lt (by omega)]
      have h2 := hs (m - 1) (by omega)
      rw [e1] at h2
      have e2 : s (m - 1) = y := prev_uniq (by omega) h2 hP
      have hR2 : Rel f n (m - 1) y := rel_prevM hN (by omega) (by rw [e1]; exact hP)
      have hR3 := hR.trans hR2.symm
      have := ih (m - 1) (by omega) (by omega) (by omega) hR3 T h0 hT
      have := hT (m - 1) (by omega) this hR3
      rwa [e2] at this
/-! a complement -/
variable {β : Type} {g : Nat → β}
def IsK (f : Nat → α) (g : Nat → β) (n : Nat) : Prop := ∀ x y, x < n → y < n → (g x = g y ↔ Rel f n x y)
theorem IsK.nc (h : IsK f g n) : NC g n := by
  intro a b c d hab hbc hcd hd h1 h2
  have r1 := (h a c (by omega) (by omega)).mp h1
  have r2 := (h b d (by omega) (by omega)).mp h2
  refine (h a b (by omega) (by omega)).mpr fun i j hij hj hf => ⟨fun ⟨q1, q2⟩ => ?_, fun ⟨q1, q2⟩ => ?_⟩
  · have := (r1 i j hij hj hf).mp ⟨q1, q2⟩
    exact ⟨by omega, by omega⟩
  · have := (r2 i j hij hj hf).mp ⟨q1, q2⟩
    exact (r1 i j hij hj hf).mpr ⟨by omega, by omega⟩
theorem has_prev {z : Nat} (hz : z < n) : ∃ w, Prev f n z w := by
  by_cases h : ∃ i, i < z ∧ f i = f z
  · obtain ⟨i, hi, hf⟩ := h
    obtain ⟨m, h1, h2, h3, h4⟩ := greatest (P := fun i => i < z ∧ f i = f z) (b := z) ⟨hi, hf⟩ (by omega)
    exact ⟨m, by omega, h3.2, .inl ⟨h3.1, fun i hi hiz hq => h4 i hi (by omega) ⟨hiz, hq⟩⟩⟩
  · obtain ⟨m, h1, h2, h3, h4⟩ := greatest (P := fun i => f i = f z) (a := z) (b := n - 1) rfl (by omega)
    exact ⟨m, by omega, h3, .inr ⟨h1, fun i hi q => h ⟨i, hi, q⟩, fun i hi hin => h4 i hi (by omega)⟩⟩
/-- the complement of the complement -/
theorem IsK.twice (hN : NC f n) (h : IsK f g n) {x y : Nat} (hxy : x < y) (hy : y < n) : Rel g n x y ↔ f ((x + 1) % n) = f ((y + 1) % n) := by
  have hg : ∀ i j, i < j → j < n → (g i = g j ↔ Rel f n i j) := fun i j hij hj => h i j (by omega) hj
  have hx1 : (x + 1) % n = x + 1 := Nat.mod_eq_of_lt (by omega)
  rw [hx1]
  constructor
  · intro hR
    -- places related to each other lie in (x, y] together
    have hin : ∀ a b, a < n → b < n → Rel f n a b → x < a → a ≤ y → x < b ∧ b ≤ y := by
      intro a b ha hb hr h1 h2
      have hab := (h a b ha hb).mpr hr
      rcases Nat.lt_trichotomy a b with q | q | q
      · have := hR a b q hb hab
        omega
      · omega
      · have := hR b a q ha hab.symm
        omega
    obtain ⟨w, hw1, hw2, hw3, hw4⟩ := greatest (P := fun i => f i = f (x + 1)) (a := x + 1) (b := y) rfl (by omega)
    by_cases hz : ∃ z, w < z ∧ z < n ∧ f z = f (x + 1)
    · obtain ⟨z0, hz0⟩ := hz
      obtain ⟨z, h1, ⟨h2, h3, h4⟩, h5⟩ := least (P := fun z => w < z ∧ z < n ∧ f z = f (x + 1)) z0 hz0
      have hP : Prev f n z w := ⟨by omega, by rw [hw3, h4], .inl ⟨h2, fun i hi hiz q => h5 i hiz ⟨hi, by omega, by rw [q, h4]⟩⟩⟩
      have hr : Rel f n (z - 1) w := rel_prevM hN (by omega) (by rw [Nat.sub_add_cancel (by omega), Nat.mod_eq_of_lt h3]; exact hP)
      have hzy : y < z := by
        apply Decidable.byContradiction
        intro q
        exact hw4 z h2 (by omega) h4
      have := hin w (z - 1) (by omega) (by omega) hr.symm (by omega) (by omega)
      have e : y + 1 = z := by omega
      rw [e, Nat.mod_eq_of_lt h3, h4]
    · obtain ⟨m, hm1, hm2, hm3⟩ := least (P := fun i => f i = f (x + 1)) (x + 1) rfl
      have hP : Prev f n m w := ⟨by omega, by rw [hw3, hm2], .inr ⟨by omega, fun i hi q => hm3 i hi (by rw [q, hm2]), fun i hi hin q => hz ⟨i, hi, hin, by rw [q, hm2]⟩⟩⟩
      by_cases hm0 : m = 0
      · subst hm0
        have hr : Rel f n (n - 1) w := rel_prev0 hN (by omega) hP
        have := hin w (n - 1) (by omega) (by omega) hr.symm (by omega) (by omega)
        have e : y + 1 = n := by omega
        rw [e, Nat.mod_self, hm2]
      · have hr : Rel f n (m - 1) w := rel_prevM hN (by omega) (by rw [Nat.sub_add_cancel (by omega), Nat.mod_eq_of_lt (by omega)]; exact hP)
        have := hin w (m - 1) (by omega) (by omega) hr.symm (by omega) (by omega)
        omega
  · intro hf i j hij hj hgij
    have hr := (hg i j hij hj).mp hgij
    by_cases q : y + 1 < n
    · rw [Nat.mod_eq_of_lt q] at hf
      have := hr (x + 1) (y + 1) (by omega) q hf
      omega
    · have e : y + 1 = n := by omega
      rw [e, Nat.mod_self] at hf
      have := hr 0 (x + 1) (by omega) (by omega) hf.symm
      omega
theorem IsK.twice' (hN : NC f n) (h : IsK f g n) {x y : Nat} (hx : x < n) (hy : y < n) : Rel g n x y ↔ f ((x + 1) % n) = f ((y + 1) % n) := by
  rcases Nat.lt_trichotomy x y with q | q | q
  · exact h.twice hN q hy
  · subst q
    exact ⟨fun _ => rfl, fun _ => Rel.rfl' _⟩
  · constructor
    · intro r
      exact ((h.twice hN q hx).mp r.symm).symm
    · intro e
      exact ((h.twice hN q hx).mpr e.symm).symm
/-! turning by one place -/
/-- g' is g turned by one -/
def Tu (f : Nat → α) (f' : Nat → β) (n : Nat) : Prop := ∀ x y, x < n → y < n → (f' ((x + 1) % n) = f' ((y + 1) % n) ↔ f x = f y)
def btw (x y i : Nat) : Prop := (i ≤ x ∧ ¬ i ≤ y) ∨ (i ≤ y ∧ ¬ i ≤ x)
theorem rel_btw {x y : Nat} (hx : x < n) (hy : y < n) : Rel f n x y ↔ ∀ i j, i < n → j < n → f i = f j → (btw x y i ↔ btw x y j) := by
  constructor
  · intro h i j hi hj hf
    rcases Nat.lt_trichotomy i j with q | q | q
    · have := h i j q hj hf
      unfold btw
      omega
    · subst q; exact Iff.rfl
    · have := h j i q hi hf.symm
      unfold btw
      omega
  · intro h i j hij hj hf
    have := h i j (by omega) hj hf
    unfold btw at this
    omega
theorem succ_mod {x : Nat} (hx : x < n) : (x + 1 < n ∧ (x + 1) % n = x + 1) ∨ (x = n - 1 ∧ (x + 1) % n = 0) := by
  by_cases q : x + 1 < n
  · exact .inl ⟨q, Nat.mod_eq_of_lt q⟩
  · have e : x + 1 = n := by omega
    exact .inr ⟨by omega, by rw [e, Nat.mod_self]⟩
theorem pred_mod {y : Nat} (hy : y < n) : ∃ x, x < n ∧ (x + 1) % n = y := by
  by_cases q : y = 0
  · subst q
    exact ⟨n - 1, by omega, by rw [Nat.sub_add_cancel (by omega), Nat.mod_self]⟩
  · exact ⟨y - 1, by omega, by rw [Nat.sub_add_cancel (by omega), Nat.mod_eq_of_lt hy]⟩
theorem btw_turn {x y i j : Nat} (hx : x < n) (hy : y < n) (hi : i < n) (hj : j < n) : (btw ((x + 1) % n) ((y + 1) % n) ((i + 1) % n) ↔ btw ((x + 1) % n) ((y + 1) % n) ((j + 1) % n)) ↔ (btw x y i ↔ btw x y j) := by
  unfold btw
  rcases succ_mod hx with ⟨a1, a2⟩ | ⟨a1, a2⟩ <;> rcases succ_mod hy with ⟨b1, b2⟩ | ⟨b1, b2⟩ <;> rcases succ_mod hi with ⟨c1, c2⟩ | ⟨c1, c2⟩ <;> rcases succ_mod hj with ⟨d1, d2⟩ | ⟨d1, d2⟩ <;> rw [a2, b2, c2, d2] <;> omega
theorem rel_turn {f' : Nat → β} (h : Tu f f' n) {x y : Nat} (hx : x < n) (hy : y < n) : Rel f' n ((x + 1) % n) ((y + 1) % n) ↔ Rel f n x y := by
  have hp : 0 < n := by omega
  rw [rel_btw (Nat.mod_lt _ hp) (Nat.mod_lt _ hp), rel_btw hx hy]
  constructor
  · intro q i j hi hj hf
    exact (btw_turn hx hy hi hj).mp (q _ _ (Nat.mod_lt _ hp) (Nat.mod_lt _ hp) ((h i j hi hj).mpr hf))
  · intro q i j hi hj hf
    obtain ⟨i', hi', rfl⟩ := pred_mod hi
    obtain ⟨j', hj', rfl⟩ := pred_mod hj
    exact (btw_turn hx hy hi' hj').mpr (q i' j' hi' hj' ((h i' j' hi' hj').mp hf))
end KR
end

section
set_option Elab.async false
set_option linter.all false
set_option maxRecDepth 100000
open PM
namespace KR
variable {α β γ δ : Type} {f : Nat → α} {g : Nat → β} {n : Nat}
/-! counting blocks -/
open Classical in
noncomputable def cnt (P : Nat → Prop) : Nat → Nat
  | 0 => 0
  | n + 1 => cnt P n + if P n then 1 else 0
theorem cnt_congr {P Q : Nat → Prop} : ∀ {n : Nat}, (∀ x, x < n → (P x ↔ Q x)) → cnt P n = cnt Q n
  | 0, _ => rfl
  | n + 1, h => by
    unfold cnt
    rw [cnt_congr fun x hx => h x (by omega)]
    have := h n (by omega)
    by_cases q : P n
    · rw [if_pos q, if_pos (this.mp q)]
    · rw [if_neg q, if_neg fun z => q (this.mpr z)]
open Classical in
theorem cnt_shift (P : Nat → Prop) : ∀ n : Nat, cnt P (n + 1) = cnt P 1 + cnt (fun x => P (x + 1)) n
  | 0 => rfl
  | n + 1 => by
    have ih := cnt_shift P n
    rw [show cnt P (n + 1 + 1) = cnt P (n + 1) + (if P (n + 1) then 1 else 0) from rfl, ih, show cnt (fun x => P (x + 1)) (n + 1) = cnt (fun x => P (x + 1)) n + (if P (n + 1) then 1 else 0) from rfl]
    omega
theorem cnt_neg (P : Nat → Prop) : ∀ n : Nat, cnt P n + cnt (fun x => ¬ P x) n = n
  | 0 => rfl
  | n + 1 => by
    have := cnt_neg P n
    unfold cnt
    by_cases q : P n
    · rw [if_pos q, if_neg (fun z => z q)]; omega
    · rw [if_neg q, if_pos q]; omega
theorem cnt_remove {P : Nat → Prop} {u : Nat} (hu : P u) : ∀ n : Nat, u < n → cnt (fun x => P x ∧ x ≠ u) n + 1 = cnt P n
  | 0, h => by omega
  | n + 1, h => by
    unfold cnt
    by_cases e : u = n
    · subst e
      rw [if_pos hu, if_neg (fun z => z.2 rfl)]
      rw [cnt_congr (P := fun x => P x ∧ x ≠ u) (Q := P) fun x hx => ⟨fun z => z.1, fun z => ⟨z, by omega⟩⟩]
    · have := cnt_remove hu n (by omega)
      by_cases q : P n
      · rw [if_pos q, if_pos ⟨q, fun z => e z.symm⟩]; omega
      · rw [if_neg q, if_neg (fun z => q z.1)]; omega
def fst (f : Nat → α) (x : Nat) : Prop := ∀ i, i < x → f i ≠ f x
def lst (f : Nat → α) (n x : Nat) : Prop := ∀ i, x < i → i < n → f i ≠ f x
theorem fst_lst (f : Nat → α) : ∀ n : Nat, cnt (fst f) n = cnt (lst f n) n
  | 0 => rfl
  | n + 1 => by
    have ih := fst_lst f n
    have hl : ∀ x, x < n → (lst f (n + 1) x ↔ lst f n x ∧ f n ≠ f x) := fun x hx =>
      ⟨fun h => ⟨fun i a b => h i a (by omega), h n hx (by omega)⟩, fun h i a b => by
        by_cases e : i = n
        · subst e; exact h.2
        · exact h.1 i a (by omega)⟩
    have h1 : lst f (n + 1) n := fun i a b => by omega
    rw [cnt, cnt, if_pos h1, cnt_congr hl]
    by_cases q : fst f n
    · rw [if_pos q, ih]
      congr 1
      exact cnt_congr fun x hx => ⟨fun z => ⟨z, fun e => q x hx e.symm⟩, fun z => z.1⟩
    · rw [if_neg q, ih]
      obtain ⟨i, hi, hf⟩ : ∃ i, i < n ∧ f i = f n := by
        apply Classical.byContradiction
        intro z
        exact q fun i hi hf => z ⟨i, hi, hf⟩
      obtain ⟨u, h2, h3, h4, h5⟩ := greatest (P := fun i => f i = f n) (b := n - 1) hf (by omega)
      have hu : lst f n u := fun i a b hq => h5 i a (by omega) (by rw [hq, h4])
      have := cnt_remove hu n (by omega)
      have e2 : cnt (fun x => lst f n x ∧ f n ≠ f x) n = cnt (fun x => lst f n x ∧ x ≠ u) n := by
        refine cnt_congr fun x hx => ?_
        refine ⟨fun z => ⟨z.1, fun e => z.2 (by rw [e, h4])⟩, fun z => ⟨z.1, fun e => ?_⟩⟩
        rcases Nat.lt_trichotomy x u with a | a | a
        · exact z.1 u a (by omega) (by rw [h4, e])
        · exact z.2 a
        · exact hu x a hx (by rw [h4, e])
      omega
theorem IsK.count (hN : NC f n) (h : IsK f g n) (hn : 0 < n) : cnt (fst f) n + cnt (fst g) n = n + 1 := by
  obtain ⟨m, rfl⟩ : ∃ m, n = m + 1 := ⟨n - 1, by omega⟩
  have h1 : lst g (m + 1) m := fun i a b => by omega
  have h0 : cnt (fst f) 1 = 1 := by
    unfold cnt cnt
    rw [if_pos (show fst f 0 from fun i hi => by omega)]
  rw [fst_lst g, cnt_shift, h0, cnt, if_pos h1]
  have e : cnt (fun x => fst f (x + 1)) m = cnt (fun x => ¬ lst g (m + 1) x) m := cnt_congr fun x hx => by
    constructor
    · intro hf hl
      obtain ⟨w, hw⟩ := has_prev (f := f) (n := m + 1) (z := x + 1) (by omega)
      have hr := rel_prev hN (by omega) hw
      obtain ⟨a, b, c⟩ := hw
      rcases c with ⟨c, _⟩ | ⟨c, _⟩
      · exact hf w c b
      · exact hl w (by omega) a ((h x w (by omega) a).mpr hr).symm
    · intro hl i hi hf
      apply hl
      intro y hy hyn hg
      have := ((h x y (by omega) hyn).mp hg.symm) i (x + 1) hi (by omega) hf
      omega
  have := cnt_neg (lst g (m + 1)) m
  omega
/-! lists -/
abbrev pf (xs : List Int) (i : Nat) : Option Int := xs[i]?
theorem rg_snoc {K : Nat} {xs : List Int} {c : Int} (h : RG K (xs ++ [c])) : (0 ≤ c ∧ c < K ∧ RG K xs) ∨ ∃ k, K = k + 1 ∧ c = k ∧ RG k xs := by
  unfold RG at h
  rw [stN_snoc] at h
  unfold stepN at h
  by_cases q : c ∈ (stN xs).1
  · rw [if_pos q] at h
    have h1 := congrArg Prod.fst h
    have h2 := congrArg Prod.snd h
    simp only at h1 h2
    rw [h1] at q
    have := mem_rgI.mp q
    exact .inl ⟨this.1, this.2, Prod.ext h1 (List.append_inj_left' h2 rfl)⟩
  · rw [if_neg q] at h
    have h1 := congrArg Prod.fst h
    have h2 := congrArg Prod.snd h
    simp only at h1 h2
    cases K with
    | zero => simp [rgI] at h1
    | succ k =>
      rw [rgI_succ] at h1
      have e1 := List.append_inj_left' h1 rfl
      have e2 := List.append_inj_right' h1 rfl
      exact .inr ⟨k, rfl, by simpa using e2, Prod.ext e1 (List.append_inj_left' h2 rfl)⟩
theorem pf_snoc {xs : List Int} {c : Int} {i : Nat} (h : i < xs.length) : pf (xs ++ [c]) i = pf xs i := List.getElem?_append_left h
theorem pf_last {xs : List Int} {c : Int} : pf (xs ++ [c]) xs.length = some c := by simp [pf]
theorem rg_cnt : ∀ (xs : List Int) (K : Nat), RG K xs → cnt (fst (pf xs)) xs.length = K := by
  intro xs
  refine snocInd (P := fun xs => ∀ K, RG K xs → cnt (fst (pf xs)) xs.length = K) (fun K h => ?_) (fun xs c ih K h => ?_) xs
  · have : (rgI K).length = 0 := by
      have e := congrArg Prod.fst h
      simp only at e
      rw [← e]; rfl
    rw [rgI_len] at this
    rw [this]; rfl
  · have e : (xs ++ [c]).length = xs.length + 1 := by simp
    have hc : cnt (fst (pf (xs ++ [c]))) xs.length = cnt (fst (pf xs)) xs.length := cnt_congr fun x hx => by
      unfold fst
      rw [pf_snoc hx]
      exact ⟨fun z i hi => by have := z i hi; rwa [pf_snoc (by omega)] at this, fun z i hi => by rw [pf_snoc (by omega)]; exact z i hi⟩
    have hf : fst (pf (xs ++ [c])) xs.length ↔ c ∉ xs := by
      unfold fst
      rw [pf_last]
      constructor
      · intro z hm
        obtain ⟨i, hi, he⟩ := List.getElem_of_mem hm
        have := z i hi
        rw [pf_snoc hi] at this
        exact this (by rw [pf, List.getElem?_eq_getElem hi, he])
      · intro z i hi q
        rw [pf_snoc hi] at q
        exact z (List.mem_of_getElem? q)
    rw [e, cnt, hc]
    rcases rg_snoc h with ⟨h1, h2, h3⟩ | ⟨k, rfl, rfl, h3⟩
    · rw [ih K h3, if_neg (fun z => hf.mp z ((rg_mem h3 c).mpr ⟨h1, h2⟩))]
      rfl
    · rw [ih k h3, if_pos (hf.mpr fun z => by have := (rg_mem h3 _).mp z; omega)]
theorem NC_ker {n : Nat} (h : ∀ i j, i < n → j < n → (f i = f j ↔ g i = g j)) (hN : NC f n) : NC g n := fun a b c d hab hbc hcd hd h1 h2 =>
  (h a b (by omega) (by omega)).mp (hN a b c d hab hbc hcd hd ((h a c (by omega) (by omega)).mpr h1) ((h b d (by omega) (by omega)).mpr h2))
/-- the list of a complement -/
def KL (xs ys : List Int) : Prop := ys.length = xs.length ∧ fnum ys = ys ∧ IsK (pf xs) (pf ys) xs.length
theorem KL.uniq {xs ys zs : List Int} (h : KL xs ys) (h' : KL xs zs) : ys = zs := by
  rw [← h.2.1, ← h'.2.1]
  refine fnum_ker (by rw [h.1, h'.1]) fun i j hi hj => ?_
  rw [h.1] at hi hj
  exact (h.2.2 i j hi hj).trans (h'.2.2 i j hi hj).symm
/-- one kernel, one parting -/
theorem ker_uniq {xs ys : List Int} (hl : xs.length = ys.length) (h1 : fnum xs = xs) (h2 : fnum ys = ys) (h : ∀ i j, i < xs.length → j < xs.length → (xs[i]? = xs[j]? ↔ ys[i]? = ys[j]?)) : xs = ys := by
  rw [← h1, ← h2]
  exact fnum_ker hl h
theorem fnum_at {xs : List Int} {i j : Nat} (hi : i < xs.length) (hj : j < xs.length) : ((fnum xs)[i]? = (fnum xs)[j]? ↔ xs[i]? = xs[j]?) := by
  have key : ∀ xs : List Int, (∀ i, i < xs.length → (stN xs).2[i]? = xs[i]?.map fun c => (((stN xs).1.idxOf c : Nat) : Int)) := by
    intro xs
    refine snocInd (P := fun xs => ∀ i, i < xs.length → (stN xs).2[i]? = xs[i]?.map fun c => (((stN xs).1.idxOf c : Nat) : Int)) (fun i hi => by simp at hi) (fun xs c ih i hi => ?_) xs
    have hl := len_fnum xs
    unfold fnum at hl
    rw [stN_snoc]
    unfold stepN
    by_cases hc : c ∈ (stN xs).1
    · rw [if_pos hc]
      by_cases q : i < xs.length
      · rw [List.getElem?_append_left (by omega), List.getElem?_append_left q, ih i q]
      · have e : i = xs.length := by simp at hi; omega
        subst e
        rw [List.getElem?_append_right (by omega), List.getElem?_append_right (by omega), hl]
        simp
    · rw [if_neg hc]
      by_cases q : i < xs.length
      · rw [List.getElem?_append_left (by omega), List.getElem?_append_left q, ih i q, List.getElem?_eq_getElem q, Option.map_some, Option.map_some]
        rw [List.idxOf_append, if_pos (mem_stN.mpr (List.getElem_mem q))]
      · have e : i = xs.length := by simp at hi; omega
        subst e
        rw [List.getElem?_append_right (by omega), List.getElem?_append_right (by omega), hl]
        simp [List.idxOf_append, hc]
  unfold fnum
  rw [key xs i hi, key xs j hj, List.getElem?_eq_getElem hi, List.getElem?_eq_getElem hj]
  simp only [Option.map_some, Option.some.injEq]
  constructor
  · intro h
    have h' : (stN xs).1.idxOf xs[i] = (stN xs).1.idxOf xs[j] := by omega
    have m1 : (stN xs).1.idxOf xs[i] < _ := List.idxOf_lt_length_of_mem (mem_stN.mpr (List.getElem_mem hi))
    have m2 : (stN xs).1.idxOf xs[j] < _ := List.idxOf_lt_length_of_mem (mem_stN.mpr (List.getElem_mem hj))
    have e1 := List.getElem_idxOf m1
    have e2 := List.getElem_idxOf m2
    rw [← e1, ← e2]
    simp only [h']
  · intro h
    rw [h]
theorem fnum_idem (xs : List Int) : fnum (fnum xs) = fnum xs :=
  fnum_ker (len_fnum xs) fun i j hi hj => by
    rw [len_fnum] at hi hj
    exact fnum_at hi hj
/-! woven partings -/
def Wo (p : Nat → α) (q : Nat → β) (W : Nat → γ) (n : Nat) : Prop := ∀ x y, x < n → y < n → (W (2 * x) = W (2 * y) ↔ p x = p y) ∧ (W (2 * x + 1) = W (2 * y + 1) ↔ q x = q y) ∧ W (2 * x) ≠ W (2 * y + 1)
theorem woven_rel {p : Nat → α} {q : Nat → β} {W : Nat → γ} (h : Wo p q W n) (hN : NC W (2 * n)) {x y : Nat} (hx : x < n) (hy : y < n) (he : q x = q y) : Rel p n x y := by
  have key : ∀ x y, x < n → y < n → q x = q y → ∀ i j, i < j → j < n → p i = p j → i ≤ x ∧ x < j → i ≤ y ∧ y < j := by
    intro x y hx hy he i j hij hj hp ⟨h1, h2⟩
    have w1 := (h i j (by omega) hj).1.mpr hp
    have w2 := (h x y hx hy).2.1.mpr he
    apply Decidable.byContradiction
    intro z
    by_cases hyj : j ≤ y
    · exact (h i x (by omega) hx).2.2 (hN (2 * i) (2 * x + 1) (2 * j) (2 * y + 1) (by omega) (by omega) (by omega) (by omega) w1 w2)
    · exact (h i y (by omega) hy).2.2 (hN (2 * y + 1) (2 * i) (2 * x + 1) (2 * j) (by omega) (by omega) (by omega) (by omega) w2.symm w1).symm
  exact fun i j hij hj hp => ⟨key x y hx hy he i j hij hj hp, key y x hy hx he.symm i j hij hj hp⟩
theorem nc_woven {p : Nat → α} {q : Nat → β} {W : Nat → γ} (h : Wo p q W n) (hp : NC p n) (hq : NC q n) (hr : ∀ x y, x < n → y < n → q x = q y → Rel p n x y) : NC W (2 * n) := by
  intro a b c d hab hbc hcd hd h1 h2
  rcases Nat.mod_two_eq_zero_or_one a with qa | qa <;> rcases Nat.mod_two_eq_zero_or_one b with qb | qb <;> rcases Nat.mod_two_eq_zero_or_one c with qc | qc <;> rcases Nat.mod_two_eq_zero_or_one d with qd | qd
  all_goals
    have ea := Nat.div_add_mod a 2
    have eb := Nat.div_add_mod b 2
    have ec := Nat.div_add_mod c 2
    have ed := Nat.div_add_mod d 2
    rw [qa] at ea
    rw [qb] at eb
    rw [qc] at ec
    rw [qd] at ed
    generalize a / 2 = i at ea
    generalize b / 2 = x at eb
    generalize c / 2 = j at ec
    generalize d / 2 = y at ed
    subst ea eb ec ed
    clear qa qb qc qd
  · exact (h i x (by omega) (by omega)).1.mpr (hp i x j y (by omega) (by omega) (by omega) (by omega) ((h i j (by omega) (by omega)).1.mp h1) ((h x y (by omega) (by omega)).1.mp h2))
  · exact ((h x y (by omega) (by omega)).2.2 h2).elim
  · exact ((h i j (by omega) (by omega)).2.2 h1).elim
  · exact ((h i j (by omega) (by omega)).2.2 h1).elim
  · exact ((h y x (by omega) (by omega)).2.2 h2.symm).elim
  · have hxy := (h x y (by omega) (by omega)).2.1.mp h2
    have := hr x y (by omega) (by omega) hxy i j (by omega) (by omega) ((h i j (by omega) (by omega)).1.mp h1)
    omega
  · exact ((h i j (by omega) (by omega)).2.2 h1).elim
  · exact ((h i j (by omega) (by omega)).2.2 h1).elim
  · exact ((h j i (by omega) (by omega)).2.2 h1.symm).elim
  · exact ((h j i (by omega) (by omega)).2.2 h1.symm).elim
  · have hij := (h i j (by omega) (by omega)).2.1.mp h1
    have := hr i j (by omega) (by omega) hij x y (by omega) (by omega) ((h x y (by omega) (by omega)).1.mp h2)
    omega
  · exact ((h x y (by omega) (by omega)).2.2 h2).elim
  · exact ((h j i (by omega) (by omega)).2.2 h1.symm).elim
  · exact ((h j i (by omega) (by omega)).2.2 h1.symm).elim
  · exact ((h y x (by omega) (by omega)).2.2 h2.symm).elim
  · exact (h i x (by omega) (by omega)).2.1.mpr (hq i x j y (by omega) (by omega) (by omega) (by omega) ((h i j (by omega) (by omega)).2.1.mp h1) ((h x y (by omega) (by omega)).2.1.mp h2))
/-! finer -/
def fin (f : Nat → α) (g : Nat → β) (n : Nat) : Prop := ∀ x y, x < n → y < n → f x = f y → g x = g y
theorem fin_rel (h : fin f g n) {x y : Nat} (hr : Rel g n x y) : Rel f n x y := fun i j hij hj hf => hr i j hij hj (h i j (by omega) hj hf)
theorem fin_turns {p : Nat → α} {q : Nat → β} {kp : Nat → γ} {kq : Nat → δ} (hp : NC p n) (hq : NC q n) (h1 : IsK p kp n) (h2 : IsK q kq n) : fin p q n ↔ fin kq kp n := by
  constructor
  · intro h x y hx hy he
    exact (h1 x y hx hy).mpr (fin_rel h ((h2 x y hx hy).mp he))
  · intro h x y hx hy he
    obtain ⟨x', hx', rfl⟩ := pred_mod hx
    obtain ⟨y', hy', rfl⟩ := pred_mod hy
    exact (h2.twice' hq hx' hy').mp (fin_rel h ((h1.twice' hp hx' hy').mpr he))
end KR
end

section
open Pv PySem PM
set_option Elab.async false
set_option linter.all false
set_option maxRecDepth 100000
namespace L17
theorem law_num : F__law_numbered = F_first_numbering := rfl
theorem law_isw : F__law_is_whole = F_is_integer := rfl
def nI (xs : List Int) : List D := xs.map D.int
/-- the numbers of a dict's keys -/
def nmD (k : Nat) : List D := (List.range k).map fun i : Nat => .int i
theorem nmD_succ (k : Nat) : nmD (k + 1) = nmD k ++ [.int k] := by
  unfold nmD
  rw [List.range_succ, List.map_append]
  rfl
abbrev feD (v d : D) (F : List D) (m : Sl) : En := [some (v, 0), m, some (d, 1), some (.lst F, 1)]
def stD (ks : List Int) : D := dicI ks (nmD ks.length)
abbrev fe (v : D) (st : List Int × List Int) (m : Sl) : En := feD v (stD st.1) (nI st.2) m
theorem num_step (v : D) (ks fs : List Int) (m : Int) (h1 : ks.length < 90000) (h2 : fs.length < 90000) : lb_first_numbering_1 (fe v (ks, fs) (some (.int m, 0))) = .nx (fe v (stepN (ks, fs) m) (some (.int m, 0))) := by
  have hl : (nI fs).length < lim := lt_lim (by simp [nI]; omega)
  have hn := ninD_dicI m ks (nmD ks.length)
  by_cases h : m ∈ ks
  · have hi : idxD (dicI ks (nmD ks.length)) (.int m) = some (.int (ks.idxOf m : Nat), 0) := idx_dicI (by simp [nmD]) h (by
      have := List.idxOf_lt_length_of_mem h
      unfold nmD
      rw [List.getElem?_map, List.getElem?_range this]
      rfl)
    have hs : stepN (ks, fs) m = (ks, fs ++ [((ks.idxOf m : Nat) : Int)]) := by
      unfold stepN
      rw [if_pos h]
    have he : nI (fs ++ [((ks.idxOf m : Nat) : Int)]) = nI fs ++ [.int (ks.idxOf m : Nat)] := by simp [nI]
    rw [hs]
    show lb_first_numbering_1 (feD v (dicI ks (nmD ks.length)) (nI fs) (some (.int m, 0))) = .nx (feD v (dicI ks (nmD ks.length)) (nI (fs ++ [((ks.idxOf m : Nat) : Int)])) (some (.int m, 0)))
    rw [he]
    have hd : decide (m ∈ ks) = true := decide_eq_true h
    rw [hd] at hn
    generalize dicI ks (nmD ks.length) = dd at *
    generalize nI fs = F at *
    refine (seqS_nx (show iteS _ _ _ _ = .nx (feD v dd F (some (.int m, 0))) by simp [-List.map_map, fnF, en0, seqS, passS, noS, exprS, retS, retN, retM, putE, setS, iteS, vOfE, eOfV, oOfV, kI, kB, kS, kN, nmV, nmO, op1, op2, opC, tst, tru, truD, notT, andT, orT, blV, vbl, andV, orV, notV, iteE, aNil, aCons, lNil, lCons, tupE, lstE, dicE, Opd.get, callF, frR, callI, callL, own1, addD, subD, negD, cmpD, lenD, intD, tupD, lisD, absD, isiD, tyD, min2D, max2D, Pv.R.of, raiseS, asgS, nameG, nilG, consG, tupG, isD, nisD, isNB, opS, pNone, pSome, seqI', itsD, sItS, putD, wipeE, backE, hn])).trans ?_
    unfold appS
    rw [if_pos (by rfl)]
    simp [-List.map_map, fnF, en0, seqS, passS, noS, exprS, retS, retN, retM, putE, setS, iteS, vOfE, eOfV, oOfV, kI, kB, kS, kN, nmV, nmO, op1, op2, opC, tst, tru, truD, notT, andT, orT, blV, vbl, andV, orV, notV, iteE, aNil, aCons, lNil, lCons, tupE, lstE, dicE, Opd.get, callF, frR, callI, callL, own1, addD, subD, negD, cmpD, lenD, intD, tupD, lisD, absD, isiD, tyD, min2D, max2D, Pv.R.of, raiseS, asgS, nameG, nilG, consG, tupG, isD, nisD, isNB, opS, pNone, pSome, seqI', itsD, sItS, putD, wipeE, backE, hi, hl]
  · have hp : putD (dicI ks (nmD ks.length)) (.int m) (.int ks.length) = some (dicI (ks ++ [m]) (nmD (ks.length + 1))) := by
      rw [nmD_succ]
      exact put_dicI h (Nat.lt_trans h1 (by omega))
    have hi : idxD (dicI (ks ++ [m]) (nmD (ks.length + 1))) (.int m) = some (.int ks.length, 0) := idx_dicI (by simp [nmD]) (by simp) (by
      have e : (ks ++ [m]).idxOf m = ks.length := by
        rw [List.idxOf_append, if_neg h]
        simp
      rw [e]
      unfold nmD
      rw [List.getElem?_map, List.getElem?_range (by omega)]
      rfl)
    have hs : stepN (ks, fs) m = (ks ++ [m], fs ++ [(ks.length : Int)]) := by
      unfold stepN
      rw [if_neg h]
    have he : nI (fs ++ [(ks.length : Int)]) = nI fs ++ [.int ks.length] := by simp [nI]
    have hk : stD (ks ++ [m]) = dicI (ks ++ [m]) (nmD (ks.length + 1)) := by simp [stD]
    rw [hs]
    show lb_first_numbering_1 (feD v (dicI ks (nmD ks.length)) (nI fs) (some (.int m, 0))) = .nx (feD v (stD (ks ++ [m])) (nI (fs ++ [(ks.length : Int)])) (some (.int m, 0)))
    rw [he, hk]
    have hd : decide (m ∈ ks) = false := decide_eq_false h
    rw [hd] at hn
    have hlen : lenD (dicI ks (nmD ks.length)) = some (.int ks.length, 0) := by simp [lenD, dicI]
    generalize dicI (ks ++ [m]) (nmD (ks.length + 1)) = de at *
    generalize dicI ks (nmD ks.length) = dd at *
    generalize nI fs = F at *
    refine (seqS_nx (show iteS _ _ _ _ = .nx (feD v de F (some (.int m, 0))) by simp [-List.map_map, iteS, tst, op2, nmO, Opd.get, hn, sItS, vOfE, op1, hlen, hp, nmV, oOfV, Pv.R.of])).trans ?_
    unfold appS
    rw [if_pos (by rfl)]
    simp [-List.map_map, fnF, en0, seqS, passS, noS, exprS, retS, retN, retM, putE, setS, iteS, vOfE, eOfV, oOfV, kI, kB, kS, kN, nmV, nmO, op1, op2, opC, tst, tru, truD, notT, andT, orT, blV, vbl, andV, orV, notV, iteE, aNil, aCons, lNil, lCons, tupE, lstE, dicE, Opd.get, callF, frR, callI, callL, own1, addD, subD, negD, cmpD, lenD, intD, tupD, lisD, absD, isiD, tyD, min2D, max2D, Pv.R.of, raiseS, asgS, nameG, nilG, consG, tupG, isD, nisD, isNB, opS, pNone, pSome, seqI', itsD, sItS, putD, wipeE, backE, hi, hl]
theorem num_loop (v : D) (xs : List Int) (hl : xs.length ≤ 1000) : ∃ m, loopS (nameG 1) lb_first_numbering_1 (nI xs) (fe v ([], []) none) = .nx (fe v (stN xs) m) := by
  obtain ⟨e, he, m, rfl⟩ := loopS_ex (g := nameG 1) (body := lb_first_numbering_1) D.int xs (fun i env => ∃ m, env = fe v (stN (xs.take i)) m) (fe v ([], []) none) ⟨none, rfl⟩ (fun i hi env hP => by
    obtain ⟨m, rfl⟩ := hP
    have h1 := len_stN1 (xs.take i)
    have h2 := len_fnum (xs.take i)
    unfold fnum at h2
    have h3 : (xs.take i).length ≤ 1000 := by simp; omega
    refine ⟨fe v (stN (xs.take i)) (some (.int xs[i], 0)), _, ?_, num_step v (stN (xs.take i)).1 (stN (xs.take i)).2 xs[i] (by omega) (by omega), some (.int xs[i], 0), ?_⟩
    · generalize stD (stN (xs.take i)).1 = A
      generalize nI (stN (xs.take i)).2 = B
      simp [-List.map_map, fnF, en0, seqS, passS, noS, exprS, retS, retN, retM, putE, setS, iteS, vOfE, eOfV, oOfV, kI, kB, kS, kN, nmV, nmO, op1, op2, opC, tst, tru, truD, notT, andT, orT, blV, vbl, andV, orV, notV, iteE, aNil, aCons, lNil, lCons, tupE, lstE, dicE, Opd.get, callF, frR, callI, callL, own1, addD, subD, negD, cmpD, lenD, intD, tupD, lisD, absD, isiD, tyD, min2D, max2D, Pv.R.of, raiseS, asgS, nameG, nilG, consG, tupG, isD, nisD, isNB, opS, pNone, pSome, seqI', itsD, sItS, putD, wipeE, backE]
    · rw [List.take_succ_eq_append_getElem hi, stN_snoc])
  rw [List.take_length] at he
  exact ⟨m, he⟩
theorem num_any (v : D) (xs : List Int) (hl : xs.length ≤ 1000) (hv : itsD v = some (nI xs)) : F_first_numbering none [v] = .ok (.tup (nI (fnum xs)), 0) none := by
  obtain ⟨m, hm⟩ := num_loop v xs hl
  have a1 : g_first_numbering_1 (en0 4 none [v]) = .nx (fe v ([], []) none) := by simp [-List.map_map, fnF, en0, seqS, passS, noS, exprS, retS, retN, retM, putE, setS, iteS, vOfE, eOfV, oOfV, kI, kB, kS, kN, nmV, nmO, op1, op2, opC, tst, tru, truD, notT, andT, orT, blV, vbl, andV, orV, notV, iteE, aNil, aCons, lNil, lCons, tupE, lstE, dicE, Opd.get, callF, frR, callI, callL, own1, addD, subD, negD, cmpD, lenD, intD, tupD, lisD, absD, isiD, tyD, min2D, max2D, Pv.R.of, raiseS, asgS, nameG, nilG, consG, tupG, isD, nisD, isNB, opS, pNone, pSome, seqI', itsD, sItS, putD, wipeE, backE, parS]; exact ⟨rfl, rfl⟩
  have a2 : g_first_numbering_2 (fe v ([], []) none) = .nx (fe v (stN xs) m) := by
    refine (forS_ok (ds := nI xs) (env1 := fe v ([], []) none) ?_).trans hm
    simp [seqI', nmV, hv, Pv.R.of]
  have a3 : g_first_numbering_3 (fe v (stN xs) m) = .ret (.tup (nI (fnum xs)), 0) (fe v (stN xs) m) := by
    show g_first_numbering_3 (feD v (stD (stN xs).1) (nI (stN xs).2) m) = .ret (.tup (nI (stN xs).2), 0) (feD v (stD (stN xs).1) (nI (stN xs).2) m)
    generalize stD (stN xs).1 = A
    generalize nI (stN xs).2 = B
    simp [-List.map_map, fnF, en0, seqS, passS, noS, exprS, retS, retN, retM, putE, setS, iteS, vOfE, eOfV, oOfV, kI, kB, kS, kN, nmV, nmO, op1, op2, opC, tst, tru, truD, notT, andT, orT, blV, vbl, andV, orV, notV, iteE, aNil, aCons, lNil, lCons, tupE, lstE, dicE, Opd.get, callF, frR, callI, callL, own1, addD, subD, negD, cmpD, lenD, intD, tupD, lisD, absD, isiD, tyD, min2D, max2D, Pv.R.of, raiseS, asgS, nameG, nilG, consG, tupG, isD, nisD, isNB, opS, pNone, pSome, seqI', itsD, sItS, putD, wipeE, backE]
  exact fnF_ret ((seqS_nx a1).trans ((seqS_nx a2).trans a3))
end L17
end

section
open Pv PySem PM
set_option Elab.async false
set_option linter.all false
set_option maxRecDepth 100000
namespace L17
/-- is it an int -/
def isI : D → Bool
  | .int _ => true
  | _ => false
theorem isint_any (d : D) (h : tyD d ≠ none) : F_is_integer none [d] = .ok (.bl (isI d), 0) none := by
  cases d with
  | fn _ => exact (h rfl).elim
  | non => unfold F_is_integer g_is_integer; simp [-List.map_map, fnF, en0, seqS, passS, noS, exprS, retS, retN, retM, putE, setS, iteS, vOfE, eOfV, oOfV, kI, kB, kS, kN, nmV, nmO, op1, op2, opC, tst, tru, truD, notT, andT, orT, blV, vbl, andV, orV, notV, iteE, aNil, aCons, lNil, lCons, tupE, lstE, dicE, Opd.get, callF, frR, callI, callL, own1, addD, subD, negD, cmpD, lenD, intD, tupD, lisD, absD, isiD, tyD, min2D, max2D, Pv.R.of, raiseS, asgS, nameG, nilG, consG, tupG, isD, nisD, isNB, opS, pNone, pSome, seqI', itsD, sItS, putD, wipeE, backE, isI]
  | bl _ => unfold F_is_integer g_is_integer; simp [-List.map_map, fnF, en0, seqS, passS, noS, exprS, retS, retN, retM, putE, setS, iteS, vOfE, eOfV, oOfV, kI, kB, kS, kN, nmV, nmO, op1, op2, opC, tst, tru, truD, notT, andT, orT, blV, vbl, andV, orV, notV, iteE, aNil, aCons, lNil, lCons, tupE, lstE, dicE, Opd.get, callF, frR, callI, callL, own1, addD, subD, negD, cmpD, lenD, intD, tupD, lisD, absD, isiD, tyD, min2D, max2D, Pv.R.of, raiseS, asgS, nameG, nilG, consG, tupG, isD, nisD, isNB, opS, pNone, pSome, seqI', itsD, sItS, putD, wipeE, backE, isI]
  | int _ => unfold F_is_integer g_is_integer; simp [-List.map_map, fnF, en0, seqS, passS, noS, exprS, retS, retN, retM, putE, setS, iteS, vOfE, eOfV, oOfV, kI, kB, kS, kN, nmV, nmO, op1, op2, opC, tst, tru, truD, notT, andT, orT, blV, vbl, andV, orV, notV, iteE, aNil, aCons, lNil, lCons, tupE, lstE, dicE, Opd.get, callF, frR, callI, callL, own1, addD, subD, negD, cmpD, lenD, intD, tupD, lisD, absD, isiD, tyD, min2D, max2D, Pv.R.of, raiseS, asgS, nameG, nilG, consG, tupG, isD, nisD, isNB, opS, pNone, pSome, seqI', itsD, sItS, putD, wipeE, backE, isI]
  | str _ => unfold F_is_integer g_is_integer; simp [-List.map_map, fnF, en0, seqS, passS, noS, exprS, retS, retN, retM, putE, setS, iteS, vOfE, eOfV, oOfV, kI, kB, kS, kN, nmV, nmO, op1, op2, opC, tst, tru, truD, notT, andT, orT, blV, vbl, andV, orV, notV, iteE, aNil, aCons, lNil, lCons, tupE, lstE, dicE, Opd.get, callF, frR, callI, callL, own1, addD, subD, negD, cmpD, lenD, intD, tupD, lisD, absD, isiD, tyD, min2D, max2D, Pv.R.of, raiseS, asgS, nameG, nilG, consG, tupG, isD, nisD, isNB, opS, pNone, pSome, seqI', itsD, sItS, putD, wipeE, backE, isI]
  | tup _ => unfold F_is_integer g_is_integer; simp [-List.map_map, fnF, en0, seqS, passS, noS, exprS, retS, retN, retM, putE, setS, iteS, vOfE, eOfV, oOfV, kI, kB, kS, kN, nmV, nmO, op1, op2, opC, tst, tru, truD, notT, andT, orT, blV, vbl, andV, orV, notV, iteE, aNil, aCons, lNil, lCons, tupE, lstE, dicE, Opd.get, callF, frR, callI, callL, own1, addD, subD, negD, cmpD, lenD, intD, tupD, lisD, absD, isiD, tyD, min2D, max2D, Pv.R.of, raiseS, asgS, nameG, nilG, consG, tupG, isD, nisD, isNB, opS, pNone, pSome, seqI', itsD, sItS, putD, wipeE, backE, isI]
  | lst _ => unfold F_is_integer g_is_integer; simp [-List.map_map, fnF, en0, seqS, passS, noS, exprS, retS, retN, retM, putE, setS, iteS, vOfE, eOfV, oOfV, kI, kB, kS, kN, nmV, nmO, op1, op2, opC, tst, tru, truD, notT, andT, orT, blV, vbl, andV, orV, notV, iteE, aNil, aCons, lNil, lCons, tupE, lstE, dicE, Opd.get, callF, frR, callI, callL, own1, addD, subD, negD, cmpD, lenD, intD, tupD, lisD, absD, isiD, tyD, min2D, max2D, Pv.R.of, raiseS, asgS, nameG, nilG, consG, tupG, isD, nisD, isNB, opS, pNone, pSome, seqI', itsD, sItS, putD, wipeE, backE, isI]
  | dic _ _ => unfold F_is_integer g_is_integer; simp [-List.map_map, fnF, en0, seqS, passS, noS, exprS, retS, retN, retM, putE, setS, iteS, vOfE, eOfV, oOfV, kI, kB, kS, kN, nmV, nmO, op1, op2, opC, tst, tru, truD, notT, andT, orT, blV, vbl, andV, orV, notV, iteE, aNil, aCons, lNil, lCons, tupE, lstE, dicE, Opd.get, callF, frR, callI, callL, own1, addD, subD, negD, cmpD, lenD, intD, tupD, lisD, absD, isiD, tyD, min2D, max2D, Pv.R.of, raiseS, asgS, nameG, nilG, consG, tupG, isD, nisD, isNB, opS, pNone, pSome, seqI', itsD, sItS, putD, wipeE, backE, isI]
  | scr _ => unfold F_is_integer g_is_integer; simp [-List.map_map, fnF, en0, seqS, passS, noS, exprS, retS, retN, retM, putE, setS, iteS, vOfE, eOfV, oOfV, kI, kB, kS, kN, nmV, nmO, op1, op2, opC, tst, tru, truD, notT, andT, orT, blV, vbl, andV, orV, notV, iteE, aNil, aCons, lNil, lCons, tupE, lstE, dicE, Opd.get, callF, frR, callI, callL, own1, addD, subD, negD, cmpD, lenD, intD, tupD, lisD, absD, isiD, tyD, min2D, max2D, Pv.R.of, raiseS, asgS, nameG, nilG, consG, tupG, isD, nisD, isNB, opS, pNone, pSome, seqI', itsD, sItS, putD, wipeE, backE, isI]
theorem allD_bl (bs : List Bool) : allD (.lst (bs.map D.bl)) = some (.bl (bs.all id), 0) := by
  simp [allD]
theorem isp_comp (v : D) (ds : List D) (hv : itsD v = some ds) (h : ∀ d ∈ ds, tyD d ≠ none) (hl : ds.length ≤ 1000) : cp_is_parting_1 [some (v, 0), none] = .ok (.lst ((ds.map isI).map D.bl), 1) [some (v, 0), none] := by
  rw [List.map_map]
  have e : ds = ds.map id := by simp
  refine comp_map1 (fun d => d) _ (env1 := [some (v, 0), none]) (by simp [seqI', nmV, hv, Pv.R.of]) rfl (by omega) fun d hd => ?_
  have hi := isint_any d (h d hd)
  simp [-List.map_map, fnF, en0, seqS, passS, noS, exprS, retS, retN, retM, putE, setS, iteS, vOfE, eOfV, oOfV, kI, kB, kS, kN, nmV, nmO, op1, op2, opC, tst, tru, truD, notT, andT, orT, blV, vbl, andV, orV, notV, iteE, aNil, aCons, lNil, lCons, tupE, lstE, dicE, Opd.get, callF, frR, callI, callL, own1, addD, subD, negD, cmpD, lenD, intD, tupD, lisD, absD, isiD, tyD, min2D, max2D, Pv.R.of, raiseS, asgS, nameG, nilG, consG, tupG, isD, nisD, isNB, opS, pNone, pSome, seqI', itsD, sItS, putD, wipeE, backE, hi]
theorem int_list : ∀ {ds : List D}, ds.all isI = true → ∃ xs : List Int, ds = nI xs
  | [], _ => ⟨[], rfl⟩
  | d :: ds, h => by
    rw [List.all_cons, Bool.and_eq_true] at h
    obtain ⟨xs, rfl⟩ := int_list h.2
    cases d with
    | int i => exact ⟨i :: xs, rfl⟩
    | _ => simp [isI] at h
theorem pl_nI (xs : List Int) : PlD (.tup (nI xs)) := PlD.tup (k := 0) (fun d hd => by
  obtain ⟨i, _, rfl⟩ := List.mem_map.mp hd
  exact ⟨rfl, Nat.le_refl _⟩) (by omega)
theorem nI_inj {xs ys : List Int} (h : nI xs = nI ys) : xs = ys := by
  unfold nI at h
  exact (List.map_inj_right (fun a b e => by cases e; rfl)).mp h
theorem isp_ints (xs : List Int) (hl : xs.length ≤ 12) : F_is_parting none [.tup (nI xs)] = .ok (.bl (decide (fnum xs = xs)), 0) none := by
  have hc := isp_comp (.tup (nI xs)) (nI xs) rfl (fun d hd => by
    obtain ⟨i, _, rfl⟩ := List.mem_map.mp hd
    simp [tyD]) (by simp [nI]; omega)
  have ha : ((nI xs).map isI).all id = true := by simp [nI, isI]
  have hb := allD_bl ((nI xs).map isI)
  rw [ha] at hb
  have hn := num_any (.tup (nI xs)) xs (by omega) rfl
  have hle : ¬ (12 : Int) < ((nI xs).length : Int) := by simp [nI]; omega
  have he : eqD (.tup (nI (fnum xs))) (.tup (nI xs)) = some (.bl (decide (fnum xs = xs)), 0) := by
    by_cases q : fnum xs = xs
    · rw [decide_eq_true q, q]; exact eqD_same (pl_nI _)
    · rw [decide_eq_false q]; exact eqD_diff (pl_nI _) (pl_nI _) fun z => q (nI_inj (D.tup.inj z))
  generalize ((nI xs).map isI).map D.bl = B at *
  generalize nI xs = X at *
  unfold F_is_parting g_is_parting
  simp [-List.map_map, fnF, en0, seqS, passS, noS, exprS, retS, retN, retM, putE, setS, iteS, vOfE, eOfV, oOfV, kI, kB, kS, kN, nmV, nmO, op1, op2, opC, tst, tru, truD, notT, andT, orT, blV, vbl, andV, orV, notV, iteE, aNil, aCons, lNil, lCons, tupE, lstE, dicE, Opd.get, callF, frR, callI, callL, own1, addD, subD, negD, cmpD, lenD, intD, tupD, lisD, absD, isiD, tyD, min2D, max2D, Pv.R.of, raiseS, asgS, nameG, nilG, consG, tupG, isD, nisD, isNB, opS, pNone, pSome, seqI', itsD, sItS, putD, wipeE, backE, hle, hc, hb, hn, he]
theorem isp_tup (ds : List D) (h : ∀ d ∈ ds, tyD d ≠ none) (hl : ds.length ≤ 1000) : ∃ b, F_is_parting none [.tup ds] = .ok (.bl b, 0) none ∧ (b = true → ∃ xs, ds = nI xs ∧ xs.length ≤ 12 ∧ fnum xs = xs) := by
  by_cases h12 : ds.length ≤ 12
  · by_cases ha : ds.all isI = true
    · obtain ⟨xs, rfl⟩ := int_list ha
      have hx : xs.length ≤ 12 := by simpa [nI] using h12
      exact ⟨_, isp_ints xs hx, fun q => ⟨xs, rfl, hx, of_decide_eq_true q⟩⟩
    · have hc := isp_comp (.tup ds) ds rfl h hl
      have ha' : (ds.map isI).all id = false := by
        rw [List.all_map]
        simpa using ha
      have hb := allD_bl (ds.map isI)
      rw [ha'] at hb
      have hle : ¬ (12 : Int) < (ds.length : Int) := by omega
      refine ⟨false, ?_, fun q => by cases q⟩
      generalize (ds.map isI).map D.bl = B at *
      unfold F_is_parting g_is_parting
      simp [-List.map_map, fnF, en0, seqS, passS, noS, exprS, retS, retN, retM, putE, setS, iteS, vOfE, eOfV, oOfV, kI, kB, kS, kN, nmV, nmO, op1, op2, opC, tst, tru, truD, notT, andT, orT, blV, vbl, andV, orV, notV, iteE, aNil, aCons, lNil, lCons, tupE, lstE, dicE, Opd.get, callF, frR, callI, callL, own1, addD, subD, negD, cmpD, lenD, intD, tupD, lisD, absD, isiD, tyD, min2D, max2D, Pv.R.of, raiseS, asgS, nameG, nilG, consG, tupG, isD, nisD, isNB, opS, pNone, pSome, seqI', itsD, sItS, putD, wipeE, backE, hle, hc, hb]
  · have hle : (12 : Int) < (ds.length : Int) := by omega
    refine ⟨false, ?_, fun q => by cases q⟩
    unfold F_is_parting g_is_parting
    simp [-List.map_map, fnF, en0, seqS, passS, noS, exprS, retS, retN, retM, putE, setS, iteS, vOfE, eOfV, oOfV, kI, kB, kS, kN, nmV, nmO, op1, op2, opC, tst, tru, truD, notT, andT, orT, blV, vbl, andV, orV, notV, iteE, aNil, aCons, lNil, lCons, tupE, lstE, dicE, Opd.get, callF, frR, callI, callL, own1, addD, subD, negD, cmpD, lenD, intD, tupD, lisD, absD, isiD, tyD, min2D, max2D, Pv.R.of, raiseS, asgS, nameG, nilG, consG, tupG, isD, nisD, isNB, opS, pNone, pSome, seqI', itsD, sItS, putD, wipeE, backE, hle]
theorem isp_no (d : D) (h : ∀ ds, d ≠ .tup ds) (ht : tyD d ≠ none) : F_is_parting none [d] = .ok (.bl false, 0) none := by
  have hi : isiD "tuple" d = some (.bl false, 0) := by
    cases d with
    | tup ds => exact (h ds rfl).elim
    | fn _ => exact (ht rfl).elim
    | _ => rfl
  unfold F_is_parting g_is_parting
  simp [-List.map_map, fnF, en0, seqS, passS, retS, iteS, vOfE, eOfV, oOfV, kB, nmV, nmO, op1, tru, truD, notT, orT, Opd.get, Pv.R.of, hi]
end L17
end

section
open Pv PySem PM
set_option Elab.async false
set_option linter.all false
set_option maxRecDepth 100000
namespace L17
def nD (k : Nat) : D := .int k
def blkU (xs : List Int) (i c : Nat) : List Nat := (List.range i).filter fun x => decide (xs[x]? = some (c : Int))
def blk (xs : List Int) (c : Nat) : List Nat := blkU xs xs.length c
def bD (b : List Nat) : D := .tup (b.map nD)
def bks (K : Nat) (xs : List Int) : List D := (List.range K).map fun c => bD (blk xs c)
theorem ints_nI (xs : List Int) : D.ints (nI xs) = some xs := by
  induction xs with
  | nil => rfl
  | cons x xs ih =>
    unfold nI at ih ⊢
    rw [List.map_cons]
    simp [D.ints, ih]
theorem rgI_asc (K : Nat) : (rgI K).Pairwise (· < ·) := by
  unfold rgI
  rw [List.pairwise_map]
  exact List.pairwise_lt_range.imp fun h => by omega
theorem srtU_rg {K : Nat} {xs : List Int} (h : RG K xs) : srtU xs = rgI K :=
  asc_unique (asc_srtU xs) (rgI_asc K) fun j => by rw [mem_srtU, rg_mem h, mem_rgI]
theorem sset_ok {K : Nat} {xs : List Int} (h : RG K xs) (hl : xs.length ≤ 12) : ssetD (.tup (nI xs)) = some (.lst (nI (rgI K)), 1) := by
  unfold ssetD
  simp only [ints_nI]
  rw [if_pos (by omega), srtU_rg h]
  rfl
abbrev be (v : D) (f : Sl) (x c : Sl) : En := [some (v, 0), f, x, c, none, none]
theorem bl_c1 {K : Nat} {xs : List Int} (h : RG K xs) (hl : xs.length ≤ 12) : cp_blocks_of_1 (be (.tup (nI xs)) none none none) = .ok (.lst (List.replicate K (.lst [])), 2) (be (.tup (nI xs)) none none none) := by
  have hs := sset_ok h hl
  have e : List.replicate K (D.lst []) = (rgI K).map fun _ => D.lst [] := by
    rw [List.map_const', rgI_len]
  rw [e]
  have hk := rg_le h
  generalize nI xs = X at *
  refine comp_map1 D.int _ (env1 := be (.tup X) none none none) ?_ rfl (by rw [rgI_len]; omega) fun j _ => ?_
  · unfold nI at hs
    simp [-List.map_map, fnF, en0, seqS, passS, noS, exprS, retS, retN, retM, putE, setS, iteS, vOfE, eOfV, oOfV, kI, kB, kS, kN, nmV, nmO, op1, op2, opC, tst, tru, truD, notT, andT, orT, blV, vbl, andV, orV, notV, iteE, aNil, aCons, lNil, lCons, tupE, lstE, dicE, Opd.get, callF, frR, callI, callL, own1, addD, subD, negD, cmpD, lenD, intD, tupD, lisD, absD, isiD, tyD, min2D, max2D, Pv.R.of, raiseS, asgS, nameG, nilG, consG, tupG, isD, nisD, isNB, opS, pNone, pSome, seqI', itsD, sItS, putD, wipeE, backE, hs]
  · simp [-List.map_map, fnF, en0, seqS, passS, noS, exprS, retS, retN, retM, putE, setS, iteS, vOfE, eOfV, oOfV, kI, kB, kS, kN, nmV, nmO, op1, op2, opC, tst, tru, truD, notT, andT, orT, blV, vbl, andV, orV, notV, iteE, aNil, aCons, lNil, lCons, tupE, lstE, dicE, Opd.get, callF, frR, callI, callL, own1, addD, subD, negD, cmpD, lenD, intD, tupD, lisD, absD, isiD, tyD, min2D, max2D, Pv.R.of, raiseS, asgS, nameG, nilG, consG, tupG, isD, nisD, isNB, opS, pNone, pSome, seqI', itsD, sItS, putD, wipeE, backE]
def fdD (K : Nat) (xs : List Int) (i : Nat) : D := .lst ((List.range K).map fun c => .lst ((blkU xs i c).map nD))
theorem fd_0 (K : Nat) (xs : List Int) : fdD K xs 0 = .lst (List.replicate K (.lst [])) := by
  have : (List.range K).map (fun c => D.lst ((blkU xs 0 c).map nD)) = (List.range K).map fun _ => D.lst [] := List.map_congr_left fun c _ => rfl
  unfold fdD
  rw [this, List.map_const', List.length_range]
theorem blkU_succ (xs : List Int) (i c : Nat) : blkU xs (i + 1) c = blkU xs i c ++ if xs[i]? = some (c : Int) then [i] else [] := by
  unfold blkU
  rw [List.range_succ, List.filter_append]
  congr 1
  by_cases q : xs[i]? = some (c : Int)
  · simp [q]
  · simp [q]
theorem blkU_len (xs : List Int) (i c : Nat) : (blkU xs i c).length ≤ i := by
  have := List.length_filter_le (fun x => decide (xs[x]? = some (c : Int))) (List.range i)
  rw [List.length_range] at this
  exact this
theorem bl_step {K : Nat} {xs : List Int} (v : D) (i c : Nat) (hc : c < K) (hi : xs[i]? = some (c : Int)) (hK : K ≤ 1000) (h1 : i ≤ 1000) : lb_blocks_of_1 (be v (some (fdD K xs i, 2)) (some (.int i, 0)) (some (.int c, 0))) = .nx (be v (some (fdD K xs (i + 1), 2)) (some (.int i, 0)) (some (.int c, 0))) := by
  have hix : L2.ixN ((List.range K).map fun c => D.lst ((blkU xs i c).map nD)).length (c : Int) = some c := by
    have h0 : (0 : Int) ≤ c := by omega
    have h1 : (c : Int) < K := by omega
    simp [L2.ixN, h0, h1]
  have hg : ((List.range K).map fun c => D.lst ((blkU xs i c).map nD))[c]? = some (.lst ((blkU xs i c).map nD)) := by
    rw [List.getElem?_map, List.getElem?_range hc]; rfl
  have hlen : ((blkU xs i c).map nD).length < lim := lt_lim (by have := blkU_len xs i c; simp; omega)
  have hset : ((List.range K).map fun c => D.lst ((blkU xs i c).map nD)).set c (.lst ((blkU xs i c).map nD ++ [.int i])) = (List.range K).map fun c => D.lst ((blkU xs (i + 1) c).map nD) := by
    apply List.ext_getElem?
    intro j
    rw [List.getElem?_set, List.getElem?_map, List.getElem?_map]
    by_cases hj : c = j
    · subst hj
      rw [if_pos rfl, List.getElem?_range hc, Option.map_some, blkU_succ, if_pos hi, List.map_append]
      simp [hc, nD]
    · rw [if_neg hj]
      by_cases hjK : j < K
      · rw [List.getElem?_range hjK, Option.map_some, Option.map_some, blkU_succ, if_neg]
        · simp
        · intro q
          rw [hi] at q
          have := Option.some.inj q
          omega
      · rw [List.getElem?_eq_none (by simp; omega)]
        rfl
  unfold fdD
  unfold lb_blocks_of_1 app2S
  simp only [List.getElem?_cons_succ, List.getElem?_cons_zero, nmK, true_or, hix, hg, hlen, if_true, hset, List.set_cons_succ, List.set_cons_zero]
theorem blocks_ok {K : Nat} {xs : List Int} (h : RG K xs) (hl : xs.length ≤ 12) : F_blocks_of none [.tup (nI xs)] = .ok (.lst (bks K xs), 1) none := by
  have hK := rg_le h
  have a1 : g_blocks_of_1 (en0 6 none [.tup (nI xs)]) = .nx (be (.tup (nI xs)) (some (fdD K xs 0, 2)) none none) := by
    have := bl_c1 h hl
    rw [fd_0]
    generalize nI xs = X at *
    simp [-List.map_map, fnF, en0, seqS, passS, noS, exprS, retS, retN, retM, putE, setS, iteS, vOfE, eOfV, oOfV, kI, kB, kS, kN, nmV, nmO, op1, op2, opC, tst, tru, truD, notT, andT, orT, blV, vbl, andV, orV, notV, iteE, aNil, aCons, lNil, lCons, tupE, lstE, dicE, Opd.get, callF, frR, callI, callL, own1, addD, subD, negD, cmpD, lenD, intD, tupD, lisD, absD, isiD, tyD, min2D, max2D, Pv.R.of, raiseS, asgS, nameG, nilG, consG, tupG, isD, nisD, isNB, opS, pNone, pSome, seqI', itsD, sItS, putD, wipeE, backE, this]
  obtain ⟨e, he, x, c, rfl⟩ := loopS_ex (g := tupG 2 (consG (nameG 2) (consG (nameG 3) nilG))) (body := lb_blocks_of_1) (fun q : D × Nat => .tup [.int (q.2 : Nat), q.1]) (nI xs).zipIdx (fun i env => ∃ x c, env = be (.tup (nI xs)) (some (fdD K xs i, 2)) x c)
    (be (.tup (nI xs)) (some (fdD K xs 0, 2)) none none) ⟨none, none, rfl⟩ (fun i hi env hP => by
      obtain ⟨x, c, rfl⟩ := hP
      have hi' : i < xs.length := by simpa [nI] using hi
      have hm := (rg_mem h xs[i]).mp (List.getElem_mem hi')
      obtain ⟨c', hc'⟩ : ∃ c' : Nat, xs[i] = c' := ⟨xs[i].toNat, by omega⟩
      have hx : xs[i]? = some (c' : Int) := by rw [List.getElem?_eq_getElem hi', hc']
      have hq : (nI xs).zipIdx[i] = (.int c', i) := by
        simp [nI, hc']
      rw [hq]
      generalize nI xs = X at *
      exact ⟨be (.tup X) (some (fdD K xs i, 2)) (some (.int i, 0)) (some (.int c', 0)), _, by simp [-List.map_map, fnF, en0, seqS, passS, noS, exprS, retS, retN, retM, putE, setS, iteS, vOfE, eOfV, oOfV, kI, kB, kS, kN, nmV, nmO, op1, op2, opC, tst, tru, truD, notT, andT, orT, blV, vbl, andV, orV, notV, iteE, aNil, aCons, lNil, lCons, tupE, lstE, dicE, Opd.get, callF, frR, callI, callL, own1, addD, subD, negD, cmpD, lenD, intD, tupD, lisD, absD, isiD, tyD, min2D, max2D, Pv.R.of, raiseS, asgS, nameG, nilG, consG, tupG, isD, nisD, isNB, opS, pNone, pSome, seqI', itsD, sItS, putD, wipeE, backE], bl_step (.tup X) i c' (by omega) hx (by omega) (by omega), _, _, rfl⟩)
  have hz : (nI xs).zipIdx.length = xs.length := by simp [nI]
  rw [hz] at he
  have a2 : g_blocks_of_2 (be (.tup (nI xs)) (some (fdD K xs 0, 2)) none none) = .nx (be (.tup (nI xs)) (some (fdD K xs xs.length, 2)) x c) := by
    refine (forS_ok (ds := enumL (nI xs)) (env1 := be (.tup (nI xs)) (some (fdD K xs 0, 2)) none none) ?_).trans he
    generalize nI xs = X
    simp [-List.map_map, fnF, en0, seqS, passS, noS, exprS, retS, retN, retM, putE, setS, iteS, vOfE, eOfV, oOfV, kI, kB, kS, kN, nmV, nmO, op1, op2, opC, tst, tru, truD, notT, andT, orT, blV, vbl, andV, orV, notV, iteE, aNil, aCons, lNil, lCons, tupE, lstE, dicE, Opd.get, callF, frR, callI, callL, own1, addD, subD, negD, cmpD, lenD, intD, tupD, lisD, absD, isiD, tyD, min2D, max2D, Pv.R.of, raiseS, asgS, nameG, nilG, consG, tupG, isD, nisD, isNB, opS, pNone, pSome, seqI', itsD, sItS, putD, wipeE, backE, enumI, enumD]
  have c2 : cp_blocks_of_2 (be (.tup (nI xs)) (some (fdD K xs xs.length, 2)) x c) = .ok (.lst (bks K xs), 1) (be (.tup (nI xs)) (some (fdD K xs xs.length, 0)) x c) := by
    unfold bks
    generalize nI xs = X
    refine comp_map1 (fun c => D.lst ((blkU xs xs.length c).map nD)) _ (env1 := be (.tup X) (some (fdD K xs xs.length, 0)) x c) ?_ rfl (by simp; omega) fun j _ => ?_
    · simp [-List.map_map, fnF, en0, seqS, passS, noS, exprS, retS, retN, retM, putE, setS, iteS, vOfE, eOfV, oOfV, kI, kB, kS, kN, nmV, nmO, op1, op2, opC, tst, tru, truD, notT, andT, orT, blV, vbl, andV, orV, notV, iteE, aNil, aCons, lNil, lCons, tupE, lstE, dicE, Opd.get, callF, frR, callI, callL, own1, addD, subD, negD, cmpD, lenD, intD, tupD, lisD, absD, isiD, tyD, min2D, max2D, Pv.R.of, raiseS, asgS, nameG, nilG, consG, tupG, isD, nisD, isNB, opS, pNone, pSome, seqI', itsD, sItS, putD, wipeE, backE, fdD]
    · simp [-List.map_map, fnF, en0, seqS, passS, noS, exprS, retS, retN, retM, putE, setS, iteS, vOfE, eOfV, oOfV, kI, kB, kS, kN, nmV, nmO, op1, op2, opC, tst, tru, truD, notT, andT, orT, blV, vbl, andV, orV, notV, iteE, aNil, aCons, lNil, lCons, tupE, lstE, dicE, Opd.get, callF, frR, callI, callL, own1, addD, subD, negD, cmpD, lenD, intD, tupD, lisD, absD, isiD, tyD, min2D, max2D, Pv.R.of, raiseS, asgS, nameG, nilG, consG, tupG, isD, nisD, isNB, opS, pNone, pSome, seqI', itsD, sItS, putD, wipeE, backE, bD, blk]
  have a3 : g_blocks_of_3 (be (.tup (nI xs)) (some (fdD K xs xs.length, 2)) x c) = .ret (.lst (bks K xs), 1) (be (.tup (nI xs)) (some (fdD K xs xs.length, 0)) x c) := by
    generalize nI xs = X at *
    simp [-List.map_map, fnF, en0, seqS, passS, noS, exprS, retS, retN, retM, putE, setS, iteS, vOfE, eOfV, oOfV, kI, kB, kS, kN, nmV, nmO, op1, op2, opC, tst, tru, truD, notT, andT, orT, blV, vbl, andV, orV, notV, iteE, aNil, aCons, lNil, lCons, tupE, lstE, dicE, Opd.get, callF, frR, callI, callL, own1, addD, subD, negD, cmpD, lenD, intD, tupD, lisD, absD, isiD, tyD, min2D, max2D, Pv.R.of, raiseS, asgS, nameG, nilG, consG, tupG, isD, nisD, isNB, opS, pNone, pSome, seqI', itsD, sItS, putD, wipeE, backE, c2]
  exact fnF_ret ((seqS_nx a1).trans ((seqS_nx a2).trans a3))
end L17
end

section
open Pv PySem PM KR
set_option Elab.async false
set_option linter.all false
set_option maxRecDepth 100000
namespace L17
theorem foldl_max_le {m : Int} : ∀ (l : List Int) (a : Int), a ≤ m → (∀ x ∈ l, x ≤ m) → l.foldl max a ≤ m
  | [], a, h, _ => h
  | x :: l, a, h, hl => foldl_max_le l (max a x) (by have := hl x List.mem_cons_self; omega) fun y hy => hl y (List.mem_cons_of_mem _ hy)
theorem le_foldl_max : ∀ (l : List Int) (a : Int), a ≤ l.foldl max a ∧ ∀ x ∈ l, x ≤ l.foldl max a
  | [], a => ⟨Int.le_refl _, fun _ h => by cases h⟩
  | x :: l, a => by
    have ih := le_foldl_max l (max a x)
    rw [List.foldl_cons]
    refine ⟨by have := ih.1; omega, fun y hy => ?_⟩
    rcases List.mem_cons.mp hy with e | hy
    · rw [e]; have := ih.1; omega
    · exact ih.2 y hy
theorem maxI_eq {l : List Int} {m : Int} (h1 : m ∈ l) (h2 : ∀ x ∈ l, x ≤ m) : maxI l = some m := by
  cases l with
  | nil => cases h1
  | cons a l =>
    show some (l.foldl max a) = some m
    have u := foldl_max_le l a (h2 a List.mem_cons_self) fun x hx => h2 x (List.mem_cons_of_mem _ hx)
    have w := le_foldl_max l a
    congr 1
    rcases List.mem_cons.mp h1 with e | e
    · have := w.1; omega
    · have := w.2 m e; omega
theorem max_rg {K : Nat} {xs : List Int} (h : RG K xs) : maxD1 (.tup (nI xs ++ [.int (-1)])) = some (.int ((K : Int) - 1), 0) := by
  have e : nI xs ++ [D.int (-1)] = nI (xs ++ [-1]) := by simp [nI]
  rw [e]
  unfold maxD1 seqI
  simp only [ints_nI, Option.bind_some]
  rw [maxI_eq (m := (K : Int) - 1)]
  · rfl
  · by_cases hk : K = 0
    · subst hk; simp
    · exact List.mem_append_left _ ((rg_mem h _).mpr ⟨by omega, by omega⟩)
  · intro x hx
    rcases List.mem_append.mp hx with hx | hx
    · have := (rg_mem h x).mp hx; omega
    · rw [List.mem_singleton.mp hx]; omega

theorem loopS_find {β : Type} {g : D → En → Option En} {body : En → SR} (f : β → D) (q : β → Bool) (P : En → Prop) (r : D × Nat) : ∀ (bs : List β) (env : En), P env →
    (∀ b ∈ bs, ∀ env, P env → ∃ e1, g (f b) env = some e1 ∧ ((q b = true ∧ ∃ e, body e1 = .ret r e) ∨ (q b = false ∧ ∃ e, body e1 = .nx e ∧ P e))) →
    (bs.any q = true ∧ ∃ e, loopS g body (bs.map f) env = .ret r e) ∨ (bs.any q = false ∧ ∃ e, loopS g body (bs.map f) env = .nx e ∧ P e)
  | [], env, hP, _ => .inr ⟨rfl, env, rfl, hP⟩
  | b :: bs, env, hP, h => by
    obtain ⟨e1, h1, h2⟩ := h b List.mem_cons_self env hP
    rw [List.any_cons, List.map_cons]
    rcases h2 with ⟨h2, e, h3⟩ | ⟨h2, e, h3, h4⟩
    · refine .inl ⟨by rw [h2]; rfl, e, ?_⟩
      unfold loopS
      rw [h1]
      simp only [h3]
    · have ih := loopS_find (g := g) (body := body) f q P r bs e h4 fun b' hb => h b' (List.mem_cons_of_mem _ hb)
      rw [h2, Bool.false_or]
      rcases ih with ⟨i1, e', i2⟩ | ⟨i1, e', i2, i3⟩
      · refine .inl ⟨i1, e', ?_⟩
        unfold loopS
        rw [h1]
        simp only [h3]
        exact i2
      · refine .inr ⟨i1, e', ?_, i3⟩
        unfold loopS
        rw [h1]
        simp only [h3]
        exact i2
def gx (xs : List Int) (i : Nat) : Int := xs.getD i 0
theorem gx_pf {xs : List Int} {i : Nat} (h : i < xs.length) : xs[i]? = some (gx xs i) := by
  unfold gx
  rw [List.getD_eq_getElem?_getD, List.getElem?_eq_getElem h]
  rfl
theorem gx_eq {xs : List Int} {i j : Nat} (hi : i < xs.length) (hj : j < xs.length) : xs[i]? = xs[j]? ↔ gx xs i = gx xs j := by
  rw [gx_pf hi, gx_pf hj, Option.some.injEq]
theorem at_gx {xs : List Int} {i : Nat} (h : i < xs.length) : idxD (.tup (nI xs)) (.int i) = some (.int (gx xs i), 0) := by
  have h' : i < (nI xs).length := by simpa [nI] using h
  rw [idx_tup h']
  simp [nI, gx, List.getElem?_eq_getElem h]
theorem atl_gx {xs : List Int} {i : Nat} (h : i < xs.length) : idxD (.lst (nI xs)) (.int i) = some (.int (gx xs i), 0) := by
  have h' : i < (nI xs).length := by simpa [nI] using h
  rw [idx_lst h']
  simp [nI, gx, List.getElem?_eq_getElem h]
theorem flat_nI (xs : List Int) : (nI xs).all D.flat = true := by
  simp [nI, D.flat]
theorem any_nI (c : Int) (xs : List Int) : ((nI xs).any fun e => eqF e (.int c)) = decide (c ∈ xs) := by
  induction xs with
  | nil => rfl
  | cons x xs ih =>
    have : nI (x :: xs) = .int x :: nI xs := rfl
    rw [this, List.any_cons, ih]
    have e : eqF (.int x) (.int c) = decide (x = c) := by unfold eqF; exact Bool.beq_eq_decide_eq x c
    rw [e]
    by_cases q : x = c
    · subst q; simp
    · have q' : ¬ c = x := fun z => q z.symm
      by_cases r : c ∈ xs <;> simp [q, q', r]
theorem in_tup (c : Int) (xs : List Int) : inD (.int c) (.tup (nI xs)) = some (.bl (decide (c ∈ xs)), 0) := by
  unfold inD inB
  simp only [flat_nI, any_nI]
  rfl
theorem in_lst (c : Int) (xs : List Int) : inD (.int c) (.lst (nI xs)) = some (.bl (decide (c ∈ xs)), 0) := by
  unfold inD inB
  simp only [flat_nI, any_nI]
  rfl
theorem len_tup (xs : List Int) : lenD (.tup (nI xs)) = some (.int xs.length, 0) := by simp [lenD, nI]
theorem len_lst (xs : List Int) : lenD (.lst (nI xs)) = some (.int xs.length, 0) := by simp [lenD, nI]
theorem from_tup {xs : List Int} {k : Nat} (h : k ≤ xs.length) : slD (.tup (nI xs)) (some (k : Int)) none = some (.tup (nI (xs.drop k)), 0) := by
  unfold slD
  simp only [nI, List.map_drop]
  rw [cut_from (by simpa using h)]
theorem to_tup {xs : List Int} {k : Nat} (h : k ≤ xs.length) : slD (.tup (nI xs)) none (some (k : Int)) = some (.tup (nI (xs.take k)), 0) := by
  unfold slD
  simp only [nI, List.map_take]
  rw [cut_to (by simpa using h)]
theorem nI_app (xs ys : List Int) : nI (xs ++ ys) = nI xs ++ nI ys := by simp [nI]
theorem anyD_bl (bs : List Bool) : anyD (.lst (bs.map D.bl)) = some (.bl (bs.any id), 0) := by
  simp [anyD]
/-! crossings -/
def cz (xs : List Int) (x y z : Nat) : Bool := decide (gx xs z = gx xs x) && decide (gx xs y ∈ xs.drop (z + 1))
def cy (xs : List Int) (x y : Nat) : Bool := !decide (gx xs x = gx xs y) && (List.range (xs.length - (y + 1))).any fun k => cz xs x y (y + 1 + k)
def cx (xs : List Int) (x : Nat) : Bool := (List.range (xs.length - (x + 1))).any fun k => cy xs x (x + 1 + k)
def crB (xs : List Int) : Bool := (List.range xs.length).any (cx xs)
abbrev ce (v : D) (n x y : Sl) : En := [some (v, 0), n, x, y, none]
theorem cr_c1 {xs : List Int} (hl : xs.length ≤ 1000) (x y : Nat) (hx : x < xs.length) (hy : y < xs.length) : cp__law_crosses_1 (ce (.tup (nI xs)) (some (.int xs.length, 0)) (some (.int x, 0)) (some (.int y, 0))) = .ok (.lst (((List.range (xs.length - (y + 1))).map fun k => cz xs x y (y + 1 + k)).map D.bl), 1) (ce (.tup (nI xs)) (some (.int xs.length, 0)) (some (.int x, 0)) (some (.int y, 0))) := by
  have h1 := at_gx hx
  have h2 := at_gx hy
  have h3 := fun z (hz : z < xs.length) => at_gx hz
  have h4 := fun z (hz : z + 1 ≤ xs.length) => from_tup hz
  have h5 := fun z => in_tup (gx xs y) (xs.drop (z + 1))
  rw [List.map_map]
  generalize hX : nI xs = X at *
  refine comp_map1 (fun k : Nat => .int (y + 1 + k : Nat)) _ (rg2_ok (l := y + 1) (n := xs.length) (env1 := ce (.tup X) (some (.int xs.length, 0)) (some (.int x, 0)) (some (.int y, 0))) (by simp [-List.map_map, fnF, en0, seqS, passS, noS, exprS, retS, retN, retM, putE, setS, iteS, vOfE, eOfV, oOfV, kI, kB, kS, kN, nmV, nmO, op1, op2, opC, tst, tru, truD, notT, andT, orT, blV, vbl, andV, orV, notV, iteE, aNil, aCons, lNil, lCons, tupE, lstE, dicE, Opd.get, callF, frR, callI, callL, own1, addD, subD, negD, cmpD, lenD, intD, tupD, lisD, absD, isiD, tyD, min2D, max2D, Pv.R.of, raiseS, asgS, nameG, nilG, consG, tupG, isD, nisD, isNB, opS, pNone, pSome, seqI', itsD, sItS, putD, wipeE, backE]) (by omega) (by omega)) rfl (by simp; omega) fun k hk => ?_
  have hk := List.mem_range.mp hk
  have h3 := h3 (y + 1 + k) (by omega)
  have h4 := h4 (y + 1 + k) (by omega)
  have h5 := h5 (y + 1 + k)
  generalize hz : y + 1 + k = z at *
  have e : (z : Int) + 1 = ((z + 1 : Nat) : Int) := by omega
  rw [← e] at h4
  clear e
  generalize nI (xs.drop (z + 1)) = Z at *
  by_cases q : gx xs z = gx xs x
  · simp [-List.map_map, fnF, en0, seqS, passS, noS, exprS, retS, retN, retM, putE, setS, iteS, vOfE, eOfV, oOfV, kI, kB, kS, kN, nmV, nmO, op1, op2, opC, tst, tru, truD, notT, andT, orT, blV, vbl, andV, orV, notV, iteE, aNil, aCons, lNil, lCons, tupE, lstE, dicE, Opd.get, callF, frR, callI, callL, own1, addD, subD, negD, cmpD, lenD, intD, tupD, lisD, absD, isiD, tyD, min2D, max2D, Pv.R.of, raiseS, asgS, nameG, nilG, consG, tupG, isD, nisD, isNB, opS, pNone, pSome, seqI', itsD, sItS, putD, wipeE, backE, h1, h2, h3, cz, q, eqD, h4, h5, hz]
  · simp [-List.map_map, fnF, en0, seqS, passS, noS, exprS, retS, retN, retM, putE, setS, iteS, vOfE, eOfV, oOfV, kI, kB, kS, kN, nmV, nmO, op1, op2, opC, tst, tru, truD, notT, andT, orT, blV, vbl, andV, orV, notV, iteE, aNil, aCons, lNil, lCons, tupE, lstE, dicE, Opd.get, callF, frR, callI, callL, own1, addD, subD, negD, cmpD, lenD, intD, tupD, lisD, absD, isiD, tyD, min2D, max2D, Pv.R.of, raiseS, asgS, nameG, nilG, consG, tupG, isD, nisD, isNB, opS, pNone, pSome, seqI', itsD, sItS, putD, wipeE, backE, h1, h2, h3, cz, q, eqD, hz]
theorem cr_l1 {xs : List Int} (hl : xs.length ≤ 1000) (x y : Nat) (hx : x < xs.length) (hy : y < xs.length) : (cy xs x y = true ∧ ∃ e, lb__law_crosses_1 (ce (.tup (nI xs)) (some (.int xs.length, 0)) (some (.int x, 0)) (some (.int y, 0))) = .ret (.bl true, 0) e) ∨ (cy xs x y = false ∧ lb__law_crosses_1 (ce (.tup (nI xs)) (some (.int xs.length, 0)) (some (.int x, 0)) (some (.int y, 0))) = .nx (ce (.tup (nI xs)) (some (.int xs.length, 0)) (some (.int x, 0)) (some (.int y, 0)))) := by
  have h1 := at_gx hx
  have h2 := at_gx hy
  have hc := cr_c1 hl x y hx hy
  have ha := anyD_bl ((List.range (xs.length - (y + 1))).map fun k => cz xs x y (y + 1 + k))
  rw [List.any_map] at ha
  have hcy : cy xs x y = (!decide (gx xs x = gx xs y) && (List.range (xs.length - (y + 1))).any (id ∘ fun k => cz xs x y (y + 1 + k))) := rfl
  generalize (List.range (xs.length - (y + 1))).any (id ∘ fun k => cz xs x y (y + 1 + k)) = b at *
  generalize ((List.range (xs.length - (y + 1))).map fun k => cz xs x y (y + 1 + k)).map D.bl = B at *
  generalize nI xs = X at *
  by_cases q : gx xs x = gx xs y
  · refine .inr ⟨by rw [hcy, decide_eq_true q]; rfl, ?_⟩
    simp [-List.map_map, fnF, en0, seqS, passS, noS, exprS, retS, retN, retM, putE, setS, iteS, vOfE, eOfV, oOfV, kI, kB, kS, kN, nmV, nmO, op1, op2, opC, tst, tru, truD, notT, andT, orT, blV, vbl, andV, orV, notV, iteE, aNil, aCons, lNil, lCons, tupE, lstE, dicE, Opd.get, callF, frR, callI, callL, own1, addD, subD, negD, cmpD, lenD, intD, tupD, lisD, absD, isiD, tyD, min2D, max2D, Pv.R.of, raiseS, asgS, nameG, nilG, consG, tupG, isD, nisD, isNB, opS, pNone, pSome, seqI', itsD, sItS, putD, wipeE, backE, h1, h2, neD, q]
  · cases b with
    | true => exact .inl ⟨by rw [hcy, decide_eq_false q]; rfl, _, by simp [-List.map_map, fnF, en0, seqS, passS, noS, exprS, retS, retN, retM, putE, setS, iteS, vOfE, eOfV, oOfV, kI, kB, kS, kN, nmV, nmO, op1, op2, opC, tst, tru, truD, notT, andT, orT, blV, vbl, andV, orV, notV, iteE, aNil, aCons, lNil, lCons, tupE, lstE, dicE, Opd.get, callF, frR, callI, callL, own1, addD, subD, negD, cmpD, lenD, intD, tupD, lisD, absD, isiD, tyD, min2D, max2D, Pv.R.of, raiseS, asgS, nameG, nilG, consG, tupG, isD, nisD, isNB, opS, pNone, pSome, seqI', itsD, sItS, putD, wipeE, backE, h1, h2, neD, q, hc, ha]; rfl⟩
    | false => exact .inr ⟨by rw [hcy, decide_eq_false q]; rfl, by simp [-List.map_map, fnF, en0, seqS, passS, noS, exprS, retS, retN, retM, putE, setS, iteS, vOfE, eOfV, oOfV, kI, kB, kS, kN, nmV, nmO, op1, op2, opC, tst, tru, truD, notT, andT, orT, blV, vbl, andV, orV, notV, iteE, aNil, aCons, lNil, lCons, tupE, lstE, dicE, Opd.get, callF, frR, callI, callL, own1, addD, subD, negD, cmpD, lenD, intD, tupD, lisD, absD, isiD, tyD, min2D, max2D, Pv.R.of, raiseS, asgS, nameG, nilG, consG, tupG, isD, nisD, isNB, opS, pNone, pSome, seqI', itsD, sItS, putD, wipeE, backE, h1, h2, neD, q, hc, ha]⟩
theorem cr_l2 {xs : List Int} (hl : xs.length ≤ 1000) (x : Nat) (hx : x < xs.length) (y : Sl) : (cx xs x = true ∧ ∃ e, lb__law_crosses_2 (ce (.tup (nI xs)) (some (.int xs.length, 0)) (some (.int x, 0)) y) = .ret (.bl true, 0) e) ∨ (cx xs x = false ∧ ∃ e, lb__law_crosses_2 (ce (.tup (nI xs)) (some (.int xs.length, 0)) (some (.int x, 0)) y) = .nx e ∧ ∃ y', e = ce (.tup (nI xs)) (some (.int xs.length, 0)) (some (.int x, 0)) y') := by
  have hf : lb__law_crosses_2 (ce (.tup (nI xs)) (some (.int xs.length, 0)) (some (.int x, 0)) y) = _ := forS_ok (rg2_ok (l := x + 1) (n := xs.length) (env1 := ce (.tup (nI xs)) (some (.int xs.length, 0)) (some (.int x, 0)) y) (by generalize nI xs = X; simp [-List.map_map, fnF, en0, seqS, passS, noS, exprS, retS, retN, retM, putE, setS, iteS, vOfE, eOfV, oOfV, kI, kB, kS, kN, nmV, nmO, op1, op2, opC, tst, tru, truD, notT, andT, orT, blV, vbl, andV, orV, notV, iteE, aNil, aCons, lNil, lCons, tupE, lstE, dicE, Opd.get, callF, frR, callI, callL, own1, addD, subD, negD, cmpD, lenD, intD, tupD, lisD, absD, isiD, tyD, min2D, max2D, Pv.R.of, raiseS, asgS, nameG, nilG, consG, tupG, isD, nisD, isNB, opS, pNone, pSome, seqI', itsD, sItS, putD, wipeE, backE]) (by omega) (by omega))
  rw [hf]
  exact loopS_find (fun k : Nat => D.int (x + 1 + k : Nat)) (fun k => cy xs x (x + 1 + k)) (fun e => ∃ y', e = ce (.tup (nI xs)) (some (.int xs.length, 0)) (some (.int x, 0)) y') (.bl true, 0) (List.range (xs.length - (x + 1))) _ ⟨y, rfl⟩ fun k hk env hP => by
    obtain ⟨y', rfl⟩ := hP
    have hk := List.mem_range.mp hk
    refine ⟨ce (.tup (nI xs)) (some (.int xs.length, 0)) (some (.int x, 0)) (some (.int (x + 1 + k : Nat), 0)), by generalize nI xs = X; simp [-List.map_map, fnF, en0, seqS, passS, noS, exprS, retS, retN, retM, putE, setS, iteS, vOfE, eOfV, oOfV, kI, kB, kS, kN, nmV, nmO, op1, op2, opC, tst, tru, truD, notT, andT, orT, blV, vbl, andV, orV, notV, iteE, aNil, aCons, lNil, lCons, tupE, lstE, dicE, Opd.get, callF, frR, callI, callL, own1, addD, subD, negD, cmpD, lenD, intD, tupD, lisD, absD, isiD, tyD, min2D, max2D, Pv.R.of, raiseS, asgS, nameG, nilG, consG, tupG, isD, nisD, isNB, opS, pNone, pSome, seqI', itsD, sItS, putD, wipeE, backE], ?_⟩
    rcases cr_l1 hl x (x + 1 + k) hx (by omega) with h | ⟨h1, h2⟩
    · exact .inl h
    · exact .inr ⟨h1, _, h2, _, rfl⟩
theorem crB_iff (xs : List Int) : crB xs = true ↔ ¬ NC (pf xs) xs.length := by
  constructor
  · intro h hN
    unfold crB cx cy cz at h
    simp only [List.any_eq_true, List.mem_range, Bool.and_eq_true, decide_eq_true_eq, Bool.not_eq_true', decide_eq_false_iff_not] at h
    obtain ⟨x, hx, k, hk, hne, j, hj, he, hm⟩ := h
    obtain ⟨i, hi, hg⟩ := List.getElem_of_mem hm
    rw [List.length_drop] at hi
    rw [List.getElem_drop] at hg
    have := hN x (x + 1 + k) (x + 1 + k + 1 + j) (x + 1 + k + 1 + j + 1 + i) (by omega) (by omega) (by omega) (by omega) ((gx_eq hx (by omega)).mpr he.symm) (by
      rw [pf, pf, gx_pf (by omega), List.getElem?_eq_getElem (by omega), hg])
    exact hne ((gx_eq hx (by omega)).mp this)
  · intro h
    apply Classical.byContradiction
    intro q
    apply h
    intro a b c d hab hbc hcd hd h1 h2
    apply Classical.byContradiction
    intro hne
    apply q
    unfold crB cx cy cz
    simp only [List.any_eq_true, List.mem_range, Bool.and_eq_true, decide_eq_true_eq, Bool.not_eq_true', decide_eq_false_iff_not]
    refine ⟨a, by omega, b - (a + 1), by omega, ?_, c - (b + 1), ?_, ?_, ?_⟩
    · rw [show a + 1 + (b - (a + 1)) = b by omega]
      exact fun z => hne ((gx_eq (by omega) (by omega)).mpr z)
    · omega
    · rw [show a + 1 + (b - (a + 1)) + 1 + (c - (b + 1)) = c by omega]
      exact ((gx_eq (by omega) (by omega)).mp h1).symm
    · rw [show a + 1 + (b - (a + 1)) + 1 + (c - (b + 1)) = c by omega, show a + 1 + (b - (a + 1)) = b by omega]
      have e := gx_pf (xs := xs) (i := b) (by omega)
      have e2 : xs[d]? = some (gx xs b) := by rw [← e]; exact h2.symm
      refine List.mem_of_getElem? (i := d - (c + 1)) ?_
      rw [List.getElem?_drop, show c + 1 + (d - (c + 1)) = d by omega, e2]
theorem crosses_ok {xs : List Int} (hl : xs.length ≤ 1000) : F__law_crosses none [.tup (nI xs)] = .ok (.bl (crB xs), 0) none := by
  have a1 : g__law_crosses_1 (en0 5 none [.tup (nI xs)]) = .nx (ce (.tup (nI xs)) (some (.int xs.length, 0)) none none) := by
    have h1 := len_tup xs
    generalize nI xs = X at *
    simp [setS, op1, nmO, en0, Opd.get, h1, Pv.R.of, putE]
  have hf : g__law_crosses_2 (ce (.tup (nI xs)) (some (.int xs.length, 0)) none none) = _ := forS_ok (rg1_ok (n := xs.length) (env1 := ce (.tup (nI xs)) (some (.int xs.length, 0)) none none) (by generalize nI xs = X; simp [-List.map_map, fnF, en0, seqS, passS, noS, exprS, retS, retN, retM, putE, setS, iteS, vOfE, eOfV, oOfV, kI, kB, kS, kN, nmV, nmO, op1, op2, opC, tst, tru, truD, notT, andT, orT, blV, vbl, andV, orV, notV, iteE, aNil, aCons, lNil, lCons, tupE, lstE, dicE, Opd.get, callF, frR, callI, callL, own1, addD, subD, negD, cmpD, lenD, intD, tupD, lisD, absD, isiD, tyD, min2D, max2D, Pv.R.of, raiseS, asgS, nameG, nilG, consG, tupG, isD, nisD, isNB, opS, pNone, pSome, seqI', itsD, sItS, putD, wipeE, backE]) (by omega))
  have := loopS_find (g := nameG 2) (body := lb__law_crosses_2) (fun k : Nat => D.int (k : Nat)) (cx xs) (fun e => ∃ x y', e = ce (.tup (nI xs)) (some (.int xs.length, 0)) x y') (.bl true, 0) (List.range xs.length) (ce (.tup (nI xs)) (some (.int xs.length, 0)) none none) ⟨none, none, rfl⟩ fun k hk env hP => by
    obtain ⟨x, y', rfl⟩ := hP
    have hk := List.mem_range.mp hk
    refine ⟨ce (.tup (nI xs)) (some (.int xs.length, 0)) (some (.int (k : Nat), 0)) y', by generalize nI xs = X; simp [-List.map_map, fnF, en0, seqS, passS, noS, exprS, retS, retN, retM, putE, setS, iteS, vOfE, eOfV, oOfV, kI, kB, kS, kN, nmV, nmO, op1, op2, opC, tst, tru, truD, notT, andT, orT, blV, vbl, andV, orV, notV, iteE, aNil, aCons, lNil, lCons, tupE, lstE, dicE, Opd.get, callF, frR, callI, callL, own1, addD, subD, negD, cmpD, lenD, intD, tupD, lisD, absD, isiD, tyD, min2D, max2D, Pv.R.of, raiseS, asgS, nameG, nilG, consG, tupG, isD, nisD, isNB, opS, pNone, pSome, seqI', itsD, sItS, putD, wipeE, backE], ?_⟩
    rcases cr_l2 hl k hk y' with h | ⟨h1, e, h2, y2, h3⟩
    · exact .inl h
    · exact .inr ⟨h1, e, h2, _, y2, h3⟩
  rw [← hf] at this
  rcases this with ⟨h1, e, h2⟩ | ⟨h1, e, h2, x, y', rfl⟩
  · rw [show crB xs = true from h1]
    exact fnF_ret ((seqS_nx a1).trans (seqS_ret h2))
  · rw [show crB xs = false from h1]
    have a3 : g__law_crosses_3 (ce (.tup (nI xs)) (some (.int xs.length, 0)) x y') = .ret (.bl false, 0) (ce (.tup (nI xs)) (some (.int xs.length, 0)) x y') := by
      generalize nI xs = X
      simp [-List.map_map, fnF, en0, seqS, passS, noS, exprS, retS, retN, retM, putE, setS, iteS, vOfE, eOfV, oOfV, kI, kB, kS, kN, nmV, nmO, op1, op2, opC, tst, tru, truD, notT, andT, orT, blV, vbl, andV, orV, notV, iteE, aNil, aCons, lNil, lCons, tupE, lstE, dicE, Opd.get, callF, frR, callI, callL, own1, addD, subD, negD, cmpD, lenD, intD, tupD, lisD, absD, isiD, tyD, min2D, max2D, Pv.R.of, raiseS, asgS, nameG, nilG, consG, tupG, isD, nisD, isNB, opS, pNone, pSome, seqI', itsD, sItS, putD, wipeE, backE]
    exact fnF_ret ((seqS_nx a1).trans ((seqS_nx h2).trans a3))
end L17
end

section
open Pv PySem PM KR
set_option Elab.async false
set_option linter.all false
set_option maxRecDepth 100000
namespace L17
theorem max_rg' {K : Nat} {xs : List Int} (h : RG K xs) : maxD1 (.tup (.int (-1) :: nI xs)) = some (.int ((K : Int) - 1), 0) := by
  have e : D.int (-1) :: nI xs = nI (-1 :: xs) := rfl
  rw [e]
  unfold maxD1 seqI
  simp only [ints_nI, Option.bind_some]
  rw [maxI_eq (m := (K : Int) - 1)]
  · rfl
  · by_cases hk : K = 0
    · subst hk; simp
    · exact List.mem_cons_of_mem _ ((rg_mem h _).mpr ⟨by omega, by omega⟩)
  · intro x hx
    rcases List.mem_cons.mp hx with hx | hx
    · rw [hx]; omega
    · have := (rg_mem h x).mp hx; omega
theorem at_last {xs : List Int} (h : 0 < xs.length) : idxD (.tup (nI xs)) (.int (-1)) = some (.int (gx xs (xs.length - 1)), 0) := by
  have h1 : (nI xs).length = xs.length := by simp [nI]
  have h2 : L2.ixN (nI xs).length (-1) = some (xs.length - 1) := by
    have : -(xs.length : Int) ≤ -1 := by omega
    rw [h1]
    simp [L2.ixN, this]
    omega
  show (L2.atI (nI xs) (-1)).map (·, 0) = _
  unfold L2.atI
  rw [h2]
  have h3 : xs.length - 1 < xs.length := by omega
  simp [nI, gx, List.getElem?_eq_getElem h3]
theorem nc_nil : NC (pf []) 0 := fun a b c d _ _ _ hd => by omega
theorem nc_small {xs : List Int} (h : xs.length ≤ 3) : NC (pf xs) xs.length := fun a b c d _ _ _ hd => by omega
theorem nc_pre {xs : List Int} {c : Int} (h : NC (pf (xs ++ [c])) (xs ++ [c]).length) : NC (pf xs) xs.length := fun a b c' d hab hbc hcd hd h1 h2 => by
  have := h a b c' d hab hbc hcd (by simp; omega)
  rw [pf_snoc (by omega), pf_snoc (by omega), pf_snoc (by omega), pf_snoc (by omega)] at this
  exact this h1 h2
theorem nc_last {xs : List Int} (h0 : 0 < xs.length) (h : NC (pf xs) xs.length) : NC (pf (xs ++ [gx xs (xs.length - 1)])) (xs ++ [gx xs (xs.length - 1)]).length := by
  intro a b c d hab hbc hcd hd h1 h2
  simp only [List.length_append, List.length_singleton] at hd
  by_cases q : d < xs.length
  · rw [pf_snoc (by omega), pf_snoc (by omega)] at h1 h2 ⊢
    exact h a b c d hab hbc hcd q h1 h2
  · have e : d = xs.length := by omega
    subst e
    rw [pf_snoc (by omega), pf_snoc (by omega)] at h1
    rw [pf_snoc (by omega), pf_last, ← gx_pf (by omega)] at h2
    rw [pf_snoc (by omega), pf_snoc (by omega)]
    by_cases r : c = xs.length - 1
    · subst r
      rw [h1]
      exact h2.symm
    · exact h a b c (xs.length - 1) hab hbc (by omega) (by omega) h1 h2
theorem take_eq : F__law_take = lawTake := rfl
abbrev sN : Str := PySem.Str.ofString "noncrossing"
theorem s_ni : eqD (.str sN) (.str (PySem.Str.ofString "interval")) = some (.bl false, 0) := by kernel_rfl
theorem s_nn : eqD (.str sN) (.str (PySem.Str.ofString "noncrossing")) = some (.bl true, 0) := by kernel_rfl
theorem dr_step (a b : Int) (n x t1 t2 : Sl) {K : Nat} {xs : List Int} (hK : RG K xs) (hN : NC (pf xs) xs.length) (hl : xs.length ≤ 12) : ∃ a' b' K' c t3, lb__law_drawn_1 [stt a b, some (.str sN, 0), n, some (.tup (nI xs), 0), x, t1, t2] = .nx [stt a' b', some (.str sN, 0), n, some (.tup (nI (xs ++ [c])), 0), x, t3, some (.int c, 0)] ∧ RG K' (xs ++ [c]) ∧ NC (pf (xs ++ [c])) (xs ++ [c]).length := by
  have hm := max_rg' hK
  have hKl := rg_le hK
  obtain ⟨v, a1, b1, h1, h2⟩ := take_nat a b (K + 1) (by omega) (by omega)
  rw [← take_eq] at h1
  have h1 : F__law_take (some (.lst [.int a, .int b], 1)) [.int ((K : Int) - 1 + 2)] = .ok (.int v, 0) (some (.lst [.int a1, .int b1], 1)) := by
    have e : (K : Int) - 1 + 2 = ((K + 1 : Nat) : Int) := by omega
    rw [e]; exact h1
  have l1 : (nI xs).length + 1 ≤ lim := le_lim (by simp [nI]; omega)
  have l2 : 1 + (nI xs).length ≤ lim := by omega
  have hr : ∃ K', RG K' (xs ++ [(v : Int)]) := by
    by_cases q : v < K
    · exact ⟨K, rg_old hK q⟩
    · have : v = K := by omega
      subst this
      exact ⟨v + 1, rg_new hK⟩
  have hc := crosses_ok (xs := xs ++ [(v : Int)]) (by simp; omega)
  have he := fun c => nI_app xs [c]
  have e1 : ∀ c : Int, nI [c] = [.int c] := fun c => rfl
  have ev := he v
  rw [e1] at ev
  rw [ev] at hc
  have s1 := s_ni
  have s2 := s_nn
  cases hb : crB (xs ++ [(v : Int)]) with
  | false =>
    obtain ⟨K', hK'⟩ := hr
    refine ⟨a1, b1, K', v, some (.int ((K : Int) - 1 + 2), 0), ?_, hK', ?_⟩
    · rw [hb] at hc
      rw [ev]
      generalize nI xs = X at *
      generalize sN = S at *
      simp [-List.map_map, fnF, en0, seqS, passS, noS, exprS, retS, retN, retM, putE, setS, iteS, vOfE, eOfV, oOfV, kI, kB, kS, kN, nmV, nmO, op1, op2, opC, tst, tru, truD, notT, andT, orT, blV, vbl, andV, orV, notV, iteE, aNil, aCons, lNil, lCons, tupE, lstE, dicE, Opd.get, callF, frR, callI, callL, own1, addD, subD, negD, cmpD, lenD, intD, tupD, lisD, absD, isiD, tyD, min2D, max2D, Pv.R.of, raiseS, asgS, nameG, nilG, consG, tupG, isD, nisD, isNB, opS, pNone, pSome, seqI', itsD, sItS, putD, wipeE, backE, hm, h1, l1, l2, hc, s1, s2]
    · apply Classical.byContradiction
      intro q
      have := (crB_iff _).mpr q
      rw [this] at hb
      cases hb
  | true =>
    have h0 : 0 < xs.length := by
      apply Classical.byContradiction
      intro q
      have : xs = [] := List.eq_nil_of_length_eq_zero (by omega)
      subst this
      exact ((crB_iff _).mp hb) (nc_small (by simp))
    have hg := at_last h0
    have hgm := (rg_mem hK (gx xs (xs.length - 1))).mp (by
      have := gx_pf (xs := xs) (i := xs.length - 1) (by omega)
      exact List.mem_of_getElem? this)
    have hl := nc_last h0 hN
    have ec := he (gx xs (xs.length - 1))
    rw [e1] at ec
    generalize hgc : gx xs (xs.length - 1) = c at *
    obtain ⟨k, rfl⟩ : ∃ k : Nat, c = k := ⟨c.toNat, by omega⟩
    refine ⟨a1, b1, K, k, some (.int ((K : Int) - 1 + 2), 0), ?_, rg_old hK (by omega), hl⟩
    rw [hb] at hc
    rw [ec]
    generalize nI xs = X at *
    generalize sN = S at *
    simp [-List.map_map, fnF, en0, seqS, passS, noS, exprS, retS, retN, retM, putE, setS, iteS, vOfE, eOfV, oOfV, kI, kB, kS, kN, nmV, nmO, op1, op2, opC, tst, tru, truD, notT, andT, orT, blV, vbl, andV, orV, notV, iteE, aNil, aCons, lNil, lCons, tupE, lstE, dicE, Opd.get, callF, frR, callI, callL, own1, addD, subD, negD, cmpD, lenD, intD, tupD, lisD, absD, isiD, tyD, min2D, max2D, Pv.R.of, raiseS, asgS, nameG, nilG, consG, tupG, isD, nisD, isNB, opS, pNone, pSome, seqI', itsD, sItS, putD, wipeE, backE, hm, h1, l1, l2, hc, s1, s2, hg]
theorem drawn_ok (a b : Int) (n : Nat) (hn : n ≤ 12) : ∃ (K : Nat) (xs : List Int) (a' b' : Int), F__law_drawn (stt a b) [.str sN, .int n] = .ok (.tup (nI xs), 0) (stt a' b') ∧ RG K xs ∧ NC (pf xs) xs.length ∧ xs.length = n := by
  obtain ⟨e, he, a1, b1, K, xs, x, t1, t2, rfl, hK, hN, hx⟩ := loopS_ex (g := nameG 4) (body := lb__law_drawn_1) (fun i : Nat => .int i) (List.range n) (fun i env => ∃ a b K xs x t1 t2, env = [stt a b, some (.str sN, 0), some (.int n, 0), some (.tup (nI xs), 0), x, t1, t2] ∧ RG K xs ∧ NC (pf xs) xs.length ∧ xs.length = i)
    [stt a b, some (.str sN, 0), some (.int n, 0), some (.tup (nI []), 0), none, none, none] ⟨a, b, 0, [], none, none, none, rfl, rg_nil, nc_nil, rfl⟩ (fun i hi env hP => by
      obtain ⟨a, b, K, xs, x, t1, t2, rfl, hK, hN, hx⟩ := hP
      simp only [List.length_range] at hi
      obtain ⟨a1, b1, K', c, t3, h1, h2, h3⟩ := dr_step a b (some (.int n, 0)) (some (.int i, 0)) t1 t2 hK hN (by omega)
      refine ⟨[stt a b, some (.str sN, 0), some (.int n, 0), some (.tup (nI xs), 0), some (.int i, 0), t1, t2], _, ?_, h1, a1, b1, K', xs ++ [c], _, _, _, rfl, h2, h3, by simp [hx]⟩
      generalize nI xs = X
      simp [-List.map_map, fnF, en0, seqS, passS, noS, exprS, retS, retN, retM, putE, setS, iteS, vOfE, eOfV, oOfV, kI, kB, kS, kN, nmV, nmO, op1, op2, opC, tst, tru, truD, notT, andT, orT, blV, vbl, andV, orV, notV, iteE, aNil, aCons, lNil, lCons, tupE, lstE, dicE, Opd.get, callF, frR, callI, callL, own1, addD, subD, negD, cmpD, lenD, intD, tupD, lisD, absD, isiD, tyD, min2D, max2D, Pv.R.of, raiseS, asgS, nameG, nilG, consG, tupG, isD, nisD, isNB, opS, pNone, pSome, seqI', itsD, sItS, putD, wipeE, backE, List.getElem_range])
  simp only [List.length_range] at hx
  have a1' : g__law_drawn_1 (en0 7 (stt a b) [.str sN, .int n]) = .nx [stt a b, some (.str sN, 0), some (.int n, 0), some (.tup (nI []), 0), none, none, none] := by
    generalize sN = S
    simp [-List.map_map, fnF, en0, seqS, passS, noS, exprS, retS, retN, retM, putE, setS, iteS, vOfE, eOfV, oOfV, kI, kB, kS, kN, nmV, nmO, op1, op2, opC, tst, tru, truD, notT, andT, orT, blV, vbl, andV, orV, notV, iteE, aNil, aCons, lNil, lCons, tupE, lstE, dicE, Opd.get, callF, frR, callI, callL, own1, addD, subD, negD, cmpD, lenD, intD, tupD, lisD, absD, isiD, tyD, min2D, max2D, Pv.R.of, raiseS, asgS, nameG, nilG, consG, tupG, isD, nisD, isNB, opS, pNone, pSome, seqI', itsD, sItS, putD, wipeE, backE]; rfl
  have a2 : g__law_drawn_2 [stt a b, some (.str sN, 0), some (.int n, 0), some (.tup (nI []), 0), none, none, none] = .nx _ :=
    (forS_ok (rg1_ok (n := n) (env1 := [stt a b, some (.str sN, 0), some (.int n, 0), some (.tup (nI []), 0), none, none, none]) (by simp [-List.map_map, fnF, en0, seqS, passS, noS, exprS, retS, retN, retM, putE, setS, iteS, vOfE, eOfV, oOfV, kI, kB, kS, kN, nmV, nmO, op1, op2, opC, tst, tru, truD, notT, andT, orT, blV, vbl, andV, orV, notV, iteE, aNil, aCons, lNil, lCons, tupE, lstE, dicE, Opd.get, callF, frR, callI, callL, own1, addD, subD, negD, cmpD, lenD, intD, tupD, lisD, absD, isiD, tyD, min2D, max2D, Pv.R.of, raiseS, asgS, nameG, nilG, consG, tupG, isD, nisD, isNB, opS, pNone, pSome, seqI', itsD, sItS, putD, wipeE, backE]) (by omega))).trans he
  have a3 : g__law_drawn_3 [stt a1 b1, some (.str sN, 0), some (.int n, 0), some (.tup (nI xs), 0), x, t1, t2] = .ret (.tup (nI xs), 0) [stt a1 b1, some (.str sN, 0), some (.int n, 0), none, x, t1, t2] := by simp [-List.map_map, fnF, en0, seqS, passS, noS, exprS, retS, retN, retM, putE, setS, iteS, vOfE, eOfV, oOfV, kI, kB, kS, kN, nmV, nmO, op1, op2, opC, tst, tru, truD, notT, andT, orT, blV, vbl, andV, orV, notV, iteE, aNil, aCons, lNil, lCons, tupE, lstE, dicE, Opd.get, callF, frR, callI, callL, own1, addD, subD, negD, cmpD, lenD, intD, tupD, lisD, absD, isiD, tyD, min2D, max2D, Pv.R.of, raiseS, asgS, nameG, nilG, consG, tupG, isD, nisD, isNB, opS, pNone, pSome, seqI', itsD, sItS, putD, wipeE, backE]
  refine ⟨K, xs, a1, b1, ?_, hK, hN, hx⟩
  show fnF 7 true g__law_drawn _ _ = _
  unfold fnF
  unfold g__law_drawn
  rw [(seqS_nx a1').trans ((seqS_nx a2).trans a3)]
  rfl
/-! turned -/
/-- the place x - s round about -/
def tn (n : Nat) (s : Int) (x : Nat) : Nat := (((x : Int) - s) % (n : Int)).toNat
theorem fmod_nat (i : Int) {n : Nat} (hn : 0 < n) : i.fmod n = i % (n : Int) := Int.fmod_eq_emod_of_nonneg i (by omega)
theorem tn_lt {n : Nat} {s : Int} {x : Nat} (hn : 0 < n) : tn n s x < n := by
  unfold tn
  have h1 := Int.emod_nonneg ((x : Int) - s) (b := (n : Int)) (by omega)
  have h2 := Int.emod_lt_of_pos ((x : Int) - s) (b := (n : Int)) (by omega)
  omega
theorem tn_int {n : Nat} {s : Int} {x : Nat} (hn : 0 < n) : ((x : Int) - s).fmod n = (tn n s x : Nat) := by
  rw [fmod_nat _ hn]
  unfold tn
  have h1 := Int.emod_nonneg ((x : Int) - s) (b := (n : Int)) (by omega)
  exact (Int.toNat_of_nonneg h1).symm
def turnL (xs : List Int) (s : Int) : List Int := (List.range xs.length).map fun x => gx xs (tn xs.length s x)
theorem turnL_len (xs : List Int) (s : Int) : (turnL xs s).length = xs.length := by simp [turnL]
theorem turned_ok {xs : List Int} (hl : xs.length ≤ 1000) (s : Int) : F_turned none [.tup (nI xs), .int s] = .ok (.tup (nI (fnum (turnL xs s))), 0) none := by
  have h1 := len_tup xs
  have hc : cp_turned_1 [some (.tup (nI xs), 0), some (.int s, 0), some (.int xs.length, 0), none] = .ok (.lst (nI (turnL xs s)), 1) [some (.tup (nI xs), 0), some (.int s, 0), some (.int xs.length, 0), none] := by
    have h3 := fun z (hz : z < xs.length) => at_gx hz
    unfold turnL
    have e : nI ((List.range xs.length).map fun x => gx xs (tn xs.length s x)) = (List.range xs.length).map fun x => D.int (gx xs (tn xs.length s x)) := by
      unfold nI
      rw [List.map_map]
      rfl
    rw [e]
    generalize hX : nI xs = X at *
    refine comp_map1 (fun k : Nat => .int k) _ (rg1_ok (n := xs.length) (env1 := [some (.tup X, 0), some (.int s, 0), some (.int xs.length, 0), none]) (by simp [-List.map_map, fnF, en0, seqS, passS, noS, exprS, retS, retN, retM, putE, setS, iteS, vOfE, eOfV, oOfV, kI, kB, kS, kN, nmV, nmO, op1, op2, opC, tst, tru, truD, notT, andT, orT, blV, vbl, andV, orV, notV, iteE, aNil, aCons, lNil, lCons, tupE, lstE, dicE, Opd.get, callF, frR, callI, callL, own1, addD, subD, negD, cmpD, lenD, intD, tupD, lisD, absD, isiD, tyD, min2D, max2D, Pv.R.of, raiseS, asgS, nameG, nilG, consG, tupG, isD, nisD, isNB, opS, pNone, pSome, seqI', itsD, sItS, putD, wipeE, backE]) (by omega)) rfl (by simp; omega) fun k hk => ?_
    have hk := List.mem_range.mp hk
    have hn : xs.length ≠ 0 := by omega
    have := tn_int (n := xs.length) (s := s) (x := k) (by omega)
    have h3 := h3 _ (tn_lt (n := xs.length) (s := s) (x := k) (by omega))
    generalize tn xs.length s k = z at *
    have hm : modD (.int ((k : Int) - s)) (.int xs.length) = some (.int z, 0) := by
      unfold modD
      simp only [this]
      rw [if_pos (by omega)]
    simp [-List.map_map, fnF, en0, seqS, passS, noS, exprS, retS, retN, retM, putE, setS, iteS, vOfE, eOfV, oOfV, kI, kB, kS, kN, nmV, nmO, op1, op2, opC, tst, tru, truD, notT, andT, orT, blV, vbl, andV, orV, notV, iteE, aNil, aCons, lNil, lCons, tupE, lstE, dicE, Opd.get, callF, frR, callI, callL, own1, addD, subD, negD, cmpD, lenD, intD, tupD, lisD, absD, isiD, tyD, min2D, max2D, Pv.R.of, raiseS, asgS, nameG, nilG, consG, tupG, isD, nisD, isNB, opS, pNone, pSome, seqI', itsD, sItS, putD, wipeE, backE, hm, h3]
  have hn := num_any (.lst (nI (turnL xs s))) (turnL xs s) (by rw [turnL_len]; exact hl) rfl
  have hXl : (nI xs).length = xs.length := by simp [nI]
  generalize nI (turnL xs s) = T at *
  generalize nI xs = X at *
  unfold F_turned g_turned
  simp [-List.map_map, fnF, en0, seqS, passS, noS, exprS, retS, retN, retM, putE, setS, iteS, vOfE, eOfV, oOfV, kI, kB, kS, kN, nmV, nmO, op1, op2, opC, tst, tru, truD, notT, andT, orT, blV, vbl, andV, orV, notV, iteE, aNil, aCons, lNil, lCons, tupE, lstE, dicE, Opd.get, callF, frR, callI, callL, own1, addD, subD, negD, cmpD, lenD, intD, tupD, lisD, absD, isiD, tyD, min2D, max2D, Pv.R.of, raiseS, asgS, nameG, nilG, consG, tupG, isD, nisD, isNB, opS, pNone, pSome, seqI', itsD, sItS, putD, wipeE, backE, hXl, hc, hn]
theorem emod_back {n : Nat} {s : Int} {x : Nat} (hx : x < n) : (((tn n s x : Nat) : Int) + s) % (n : Int) = x := by
  have h1 := Int.emod_nonneg ((x : Int) - s) (b := (n : Int)) (by omega)
  unfold tn
  rw [Int.toNat_of_nonneg h1]
  rw [Int.emod_add_emod]
  rw [show (x : Int) - s + s = x by omega]
  exact Int.emod_eq_of_lt (by omega) (by omega)
theorem tn_back {n : Nat} {s : Int} {x y : Nat} (hx : x < n) (h : ((x : Int) + s) % (n : Int) = y) : tn n s y = x := by
  unfold tn
  rw [← h]
  rw [Int.emod_sub_emod]
  rw [show (x : Int) + s - s = x by omega, Int.emod_eq_of_lt (by omega) (by omega)]
  exact Int.toNat_natCast x
/-! the law's own turn -/
abbrev te (xs : List Int) (s : Int) (f : List Int) (x : Sl) : En := [some (.tup (nI xs), 0), some (.int s, 0), some (.int xs.length, 0), some (.lst (nI f), 1), x]
theorem put_nI {f : List Int} {y : Nat} (v : Int) (h : y < f.length) : putD (.lst (nI f)) (.int y) (.int v) = some (.lst (nI (f.set y v))) := by
  have h1 : (nI f).length = f.length := by simp [nI]
  have h2 : L2.ixN (nI f).length y = some y := by
    rw [h1]
    have a : (0 : Int) ≤ y := by omega
    have b : (y : Int) < f.length := by omega
    simp [L2.ixN, a, b]
  show (L2.ixN (nI f).length y).map _ = _
  rw [h2]
  simp [nI, List.map_set]
theorem tu_step (xs f : List Int) (s : Int) (x : Nat) (hx : x < xs.length) (hf : f.length = xs.length) : ∃ y : Nat, y < xs.length ∧ ((x : Int) + s) % (xs.length : Int) = y ∧ lb__law_turned_1 (te xs s f (some (.int x, 0))) = .nx (te xs s (f.set y (gx xs x)) (some (.int x, 0))) := by
  have h1 := Int.emod_nonneg ((x : Int) + s) (b := (xs.length : Int)) (by omega)
  have h2 := Int.emod_lt_of_pos ((x : Int) + s) (b := (xs.length : Int)) (by omega)
  have h3 : (((x : Int) + s) % (xs.length : Int)) = ((((x : Int) + s) % (xs.length : Int)).toNat : Nat) := (Int.toNat_of_nonneg h1).symm
  generalize ((((x : Int) + s) % (xs.length : Int)).toNat : Nat) = y at h3
  have hy : y < xs.length := by omega
  refine ⟨y, hy, h3, ?_⟩
  have ha := at_gx hx
  have hm : modD (.int ((x : Int) + s)) (.int xs.length) = some (.int y, 0) := by
    show (if (xs.length : Int) ≠ 0 then some (D.int (((x : Int) + s).fmod xs.length), 0) else none) = _
    rw [if_pos (by omega), fmod_nat _ (by omega), h3]
  have hp := put_nI (gx xs x) (hf ▸ hy : y < f.length)
  show lb__law_turned_1 [some (.tup (nI xs), 0), some (.int s, 0), some (.int xs.length, 0), some (.lst (nI f), 1), some (.int x, 0)] = .nx [some (.tup (nI xs), 0), some (.int s, 0), some (.int xs.length, 0), some (.lst (nI (f.set y (gx xs x))), 1), some (.int x, 0)]
  generalize nI (f.set y (gx xs x)) = F' at *
  generalize nI f = F at *
  generalize nI xs = X at *
  simp [-List.map_map, sItS, vOfE, op2, op1, nmO, Opd.get, oOfV, ha, hm, intD, addD, hp, Pv.R.of]
theorem lawturned_ok {xs : List Int} (hl : xs.length ≤ 1000) (s : Int) : F__law_turned none [.tup (nI xs), .int s] = .ok (.tup (nI (fnum (turnL xs s))), 0) none := by
  have h1 := len_tup xs
  have a1 : g__law_turned_1 (en0 5 none [.tup (nI xs), .int s]) = .nx [some (.tup (nI xs), 0), some (.int s, 0), some (.int xs.length, 0), none, none] := by
    generalize nI xs = X at *
    simp [setS, op1, nmO, en0, Opd.get, h1, Pv.R.of, putE]
  have c1 : cp__law_turned_1 [some (.tup (nI xs), 0), some (.int s, 0), some (.int xs.length, 0), none, none] = .ok (.lst (nI (xs.map fun _ => 0)), 1) [some (.tup (nI xs), 0), some (.int s, 0), some (.int xs.length, 0), none, none] := by
    have e : nI (xs.map fun _ => 0) = xs.map fun _ => D.int 0 := by simp [nI]
    rw [e]
    refine comp_map1 D.int _ (env1 := [some (.tup (nI xs), 0), some (.int s, 0), some (.int xs.length, 0), none, none]) ?_ rfl (by omega) fun j _ => ?_
    · show seqI' (nmV 0) _ = .ok (nI xs) _
      generalize nI xs = X
      simp [-List.map_map, fnF, en0, seqS, passS, noS, exprS, retS, retN, retM, putE, setS, iteS, vOfE, eOfV, oOfV, kI, kB, kS, kN, nmV, nmO, op1, op2, opC, tst, tru, truD, notT, andT, orT, blV, vbl, andV, orV, notV, iteE, aNil, aCons, lNil, lCons, tupE, lstE, dicE, Opd.get, callF, frR, callI, callL, own1, addD, subD, negD, cmpD, lenD, intD, tupD, lisD, absD, isiD, tyD, min2D, max2D, Pv.R.of, raiseS, asgS, nameG, nilG, consG, tupG, isD, nisD, isNB, opS, pNone, pSome, seqI', itsD, sItS, putD, wipeE, backE]
    · generalize nI xs = X
      simp [-List.map_map, fnF, en0, seqS, passS, noS, exprS, retS, retN, retM, putE, setS, iteS, vOfE, eOfV, oOfV, kI, kB, kS, kN, nmV, nmO, op1, op2, opC, tst, tru, truD, notT, andT, orT, blV, vbl, andV, orV, notV, iteE, aNil, aCons, lNil, lCons, tupE, lstE, dicE, Opd.get, callF, frR, callI, callL, own1, addD, subD, negD, cmpD, lenD, intD, tupD, lisD, absD, isiD, tyD, min2D, max2D, Pv.R.of, raiseS, asgS, nameG, nilG, consG, tupG, isD, nisD, isNB, opS, pNone, pSome, seqI', itsD, sItS, putD, wipeE, backE]
  have a2 : g__law_turned_2 [some (.tup (nI xs), 0), some (.int s, 0), some (.int xs.length, 0), none, none] = .nx (te xs s (xs.map fun _ => 0) none) := by
    show g__law_turned_2 [some (.tup (nI xs), 0), some (.int s, 0), some (.int xs.length, 0), none, none] = .nx [some (.tup (nI xs), 0), some (.int s, 0), some (.int xs.length, 0), some (.lst (nI (xs.map fun _ => 0)), 1), none]
    generalize nI (xs.map fun _ => (0 : Int)) = Z at *
    generalize nI xs = X at *
    simp [-List.map_map, fnF, en0, seqS, passS, noS, exprS, retS, retN, retM, putE, setS, iteS, vOfE, eOfV, oOfV, kI, kB, kS, kN, nmV, nmO, op1, op2, opC, tst, tru, truD, notT, andT, orT, blV, vbl, andV, orV, notV, iteE, aNil, aCons, lNil, lCons, tupE, lstE, dicE, Opd.get, callF, frR, callI, callL, own1, addD, subD, negD, cmpD, lenD, intD, tupD, lisD, absD, isiD, tyD, min2D, max2D, Pv.R.of, raiseS, asgS, nameG, nilG, consG, tupG, isD, nisD, isNB, opS, pNone, pSome, seqI', itsD, sItS, putD, wipeE, backE, c1]
  obtain ⟨e, he, x, f, rfl, hf1, hf2⟩ := loopS_ex (g := nameG 4) (body := lb__law_turned_1) (fun i : Nat => .int i) (List.range xs.length) (fun i env => ∃ x f, env = te xs s f x ∧ f.length = xs.length ∧ ∀ y, y < xs.length → tn xs.length s y < i → gx f y = gx xs (tn xs.length s y))
    (te xs s (xs.map fun _ => 0) none) ⟨none, _, rfl, by simp, fun y _ h => by omega⟩ (fun i hi env hP => by
      obtain ⟨x, f, rfl, hf1, hf2⟩ := hP
      simp only [List.length_range] at hi
      obtain ⟨y, hy, h3, h4⟩ := tu_step xs f s i hi hf1
      refine ⟨te xs s f (some (.int i, 0)), _, ?_, h4, _, _, rfl, by simp [hf1], fun y' hy' ht => ?_⟩
      · generalize nI xs = X
        generalize nI f = F
        simp [-List.map_map, fnF, en0, seqS, passS, noS, exprS, retS, retN, retM, putE, setS, iteS, vOfE, eOfV, oOfV, kI, kB, kS, kN, nmV, nmO, op1, op2, opC, tst, tru, truD, notT, andT, orT, blV, vbl, andV, orV, notV, iteE, aNil, aCons, lNil, lCons, tupE, lstE, dicE, Opd.get, callF, frR, callI, callL, own1, addD, subD, negD, cmpD, lenD, intD, tupD, lisD, absD, isiD, tyD, min2D, max2D, Pv.R.of, raiseS, asgS, nameG, nilG, consG, tupG, isD, nisD, isNB, opS, pNone, pSome, seqI', itsD, sItS, putD, wipeE, backE, List.getElem_range]
      · by_cases q : y' = y
        · subst q
          have := tn_back hi h3
          rw [this]
          unfold gx
          rw [List.getD_eq_getElem?_getD, List.getElem?_set_self (by omega)]
          rfl
        · have hne : tn xs.length s y' ≠ i := fun z => by
            have := emod_back (n := xs.length) (s := s) hy'
            rw [z, h3] at this
            omega
          have := hf2 y' hy' (by omega)
          rw [← this]
          simp only [gx, List.getD_eq_getElem?_getD]
          rw [List.getElem?_set_ne (by omega)])
  have a3 : g__law_turned_3 (te xs s (xs.map fun _ => 0) none) = .nx (te xs s f x) :=
    (forS_ok (rg1_ok (n := xs.length) (env1 := te xs s (xs.map fun _ => 0) none) (by generalize nI xs = X; simp [-List.map_map, fnF, en0, seqS, passS, noS, exprS, retS, retN, retM, putE, setS, iteS, vOfE, eOfV, oOfV, kI, kB, kS, kN, nmV, nmO, op1, op2, opC, tst, tru, truD, notT, andT, orT, blV, vbl, andV, orV, notV, iteE, aNil, aCons, lNil, lCons, tupE, lstE, dicE, Opd.get, callF, frR, callI, callL, own1, addD, subD, negD, cmpD, lenD, intD, tupD, lisD, absD, isiD, tyD, min2D, max2D, Pv.R.of, raiseS, asgS, nameG, nilG, consG, tupG, isD, nisD, isNB, opS, pNone, pSome, seqI', itsD, sItS, putD, wipeE, backE]) (by omega))).trans he
  have ef : f = turnL xs s := by
    apply List.ext_getElem?
    intro i
    by_cases hi : i < xs.length
    · rw [gx_pf (by omega), gx_pf (by rw [turnL_len]; exact hi)]
      simp only [List.length_range] at hf2
      rw [hf2 i hi (tn_lt (by omega))]
      congr 1
      unfold gx turnL
      simp [hi, gx]
    · rw [List.getElem?_eq_none (by omega), List.getElem?_eq_none (by rw [turnL_len]; omega)]
  subst ef
  have hn := num_any (.lst (nI (turnL xs s))) (turnL xs s) (by rw [turnL_len]; exact hl) rfl
  have hn' : F__law_numbered none [.lst (nI (turnL xs s))] = .ok (.tup (nI (fnum (turnL xs s))), 0) none := hn
  have a4 : g__law_turned_4 (te xs s (turnL xs s) x) = .ret (.tup (nI (fnum (turnL xs s))), 0) [some (.tup (nI xs), 0), some (.int s, 0), some (.int xs.length, 0), some (.lst (nI (turnL xs s)), 0), x] := by
    show g__law_turned_4 [some (.tup (nI xs), 0), some (.int s, 0), some (.int xs.length, 0), some (.lst (nI (turnL xs s)), 1), x] = .ret _ [some (.tup (nI xs), 0), some (.int s, 0), some (.int xs.length, 0), some (.lst (nI (turnL xs s)), 0), x]
    generalize nI (turnL xs s) = T at *
    generalize nI xs = X at *
    simp [-List.map_map, fnF, en0, seqS, passS, noS, exprS, retS, retN, retM, putE, setS, iteS, vOfE, eOfV, oOfV, kI, kB, kS, kN, nmV, nmO, op1, op2, opC, tst, tru, truD, notT, andT, orT, blV, vbl, andV, orV, notV, iteE, aNil, aCons, lNil, lCons, tupE, lstE, dicE, Opd.get, callF, frR, callI, callL, own1, addD, subD, negD, cmpD, lenD, intD, tupD, lisD, absD, isiD, tyD, min2D, max2D, Pv.R.of, raiseS, asgS, nameG, nilG, consG, tupG, isD, nisD, isNB, opS, pNone, pSome, seqI', itsD, sItS, putD, wipeE, backE, hn']
  exact fnF_ret ((seqS_nx a1).trans ((seqS_nx a2).trans ((seqS_nx a3).trans a4)))
end L17
end

section
open Pv PySem PM KR
set_option Elab.async false
set_option linter.all false
set_option maxRecDepth 100000
namespace L17
/-! finer -/
def fi1 (p q : List Int) (x : Nat) : Bool := (((List.range x).filter fun y => decide (gx p x = gx p y)).map fun y => decide (gx q x = gx q y)).all id
def finB (p q : List Int) : Bool := ((List.range p.length).map (fi1 p q)).all id
theorem fi_c1 {p q : List Int} (hl : p.length ≤ 1000) (hq : q.length = p.length) (x : Nat) (hx : x < p.length) : cp__law_finer_1 [some (.tup (nI p), 0), some (.tup (nI q), 0), some (.int x, 0), none] = .ok (.lst ((((List.range x).filter fun y => decide (gx p x = gx p y)).map fun y => decide (gx q x = gx q y)).map D.bl), 1) [some (.tup (nI p), 0), some (.tup (nI q), 0), some (.int x, 0), none] := by
  have h1 := fun z (hz : z < p.length) => at_gx hz
  have h2 := fun z (hz : z < q.length) => at_gx hz
  rw [List.map_map]
  generalize nI p = X at *
  generalize nI q = Y at *
  refine comp_filter1 (fun k : Nat => .int k) _ (fun y => decide (gx p x = gx p y)) (rg1_ok (n := x) (env1 := [some (.tup X, 0), some (.tup Y, 0), some (.int x, 0), none]) (by simp [-List.map_map, fnF, en0, seqS, passS, noS, exprS, retS, retN, retM, putE, setS, iteS, vOfE, eOfV, oOfV, kI, kB, kS, kN, nmV, nmO, op1, op2, opC, tst, tru, truD, notT, andT, orT, blV, vbl, andV, orV, notV, iteE, aNil, aCons, lNil, lCons, tupE, lstE, dicE, Opd.get, callF, frR, callI, callL, own1, addD, subD, negD, cmpD, lenD, intD, tupD, lisD, absD, isiD, tyD, min2D, max2D, Pv.R.of, raiseS, asgS, nameG, nilG, consG, tupG, isD, nisD, isNB, opS, pNone, pSome, seqI', itsD, sItS, putD, wipeE, backE]) (by omega)) rfl (by simp; omega) fun y hy => ?_
  have hy := List.mem_range.mp hy
  have a1 := h1 x hx
  have a2 := h1 y (by omega)
  have a3 := h2 x (by omega)
  have a4 := h2 y (by omega)
  refine ⟨?_, fun _ => ?_⟩
  · simp [-List.map_map, fnF, en0, seqS, passS, noS, exprS, retS, retN, retM, putE, setS, iteS, vOfE, eOfV, oOfV, kI, kB, kS, kN, nmV, nmO, op1, op2, opC, tst, tru, truD, notT, andT, orT, blV, vbl, andV, orV, notV, iteE, aNil, aCons, lNil, lCons, tupE, lstE, dicE, Opd.get, callF, frR, callI, callL, own1, addD, subD, negD, cmpD, lenD, intD, tupD, lisD, absD, isiD, tyD, min2D, max2D, Pv.R.of, raiseS, asgS, nameG, nilG, consG, tupG, isD, nisD, isNB, opS, pNone, pSome, seqI', itsD, sItS, putD, wipeE, backE, a1, a2, eqD]
  · simp [-List.map_map, fnF, en0, seqS, passS, noS, exprS, retS, retN, retM, putE, setS, iteS, vOfE, eOfV, oOfV, kI, kB, kS, kN, nmV, nmO, op1, op2, opC, tst, tru, truD, notT, andT, orT, blV, vbl, andV, orV, notV, iteE, aNil, aCons, lNil, lCons, tupE, lstE, dicE, Opd.get, callF, frR, callI, callL, own1, addD, subD, negD, cmpD, lenD, intD, tupD, lisD, absD, isiD, tyD, min2D, max2D, Pv.R.of, raiseS, asgS, nameG, nilG, consG, tupG, isD, nisD, isNB, opS, pNone, pSome, seqI', itsD, sItS, putD, wipeE, backE, a3, a4, eqD]
theorem finer_ok {p q : List Int} (hl : p.length ≤ 1000) (hq : q.length = p.length) : F__law_finer none [.tup (nI p), .tup (nI q)] = .ok (.bl (finB p q), 0) none := by
  have c2 : cp__law_finer_2 [some (.tup (nI p), 0), some (.tup (nI q), 0), none, none] = .ok (.lst (((List.range p.length).map (fi1 p q)).map D.bl), 1) [some (.tup (nI p), 0), some (.tup (nI q), 0), none, none] := by
    have hXl : (nI p).length = p.length := by simp [nI]
    have hc := fun x hx => fi_c1 hl hq x hx
    rw [List.map_map]
    generalize hX : nI p = X at *
    generalize hY : nI q = Y at *
    refine comp_map1 (fun k : Nat => .int k) _ (rg1_ok (n := p.length) (env1 := [some (.tup X, 0), some (.tup Y, 0), none, none]) (by simp [-List.map_map, fnF, en0, seqS, passS, noS, exprS, retS, retN, retM, putE, setS, iteS, vOfE, eOfV, oOfV, kI, kB, kS, kN, nmV, nmO, op1, op2, opC, tst, tru, truD, notT, andT, orT, blV, vbl, andV, orV, notV, iteE, aNil, aCons, lNil, lCons, tupE, lstE, dicE, Opd.get, callF, frR, callI, callL, own1, addD, subD, negD, cmpD, lenD, intD, tupD, lisD, absD, isiD, tyD, min2D, max2D, Pv.R.of, raiseS, asgS, nameG, nilG, consG, tupG, isD, nisD, isNB, opS, pNone, pSome, seqI', itsD, sItS, putD, wipeE, backE, hXl]) (by omega)) rfl (by simp; omega) fun x hx => ?_
    have hx := List.mem_range.mp hx
    have h1 := hc x hx
    have h2 := allD_bl (((List.range x).filter fun y => decide (gx p x = gx p y)).map fun y => decide (gx q x = gx q y))
    have h3 : fi1 p q x = ((((List.range x).filter fun y => decide (gx p x = gx p y)).map fun y => decide (gx q x = gx q y)).all id) := rfl
    rw [← h3] at h2
    show (eOfV _) _ = .ok ((D.bl (fi1 p q x)), 0) _
    generalize ((((List.range x).filter fun y => decide (gx p x = gx p y)).map fun y => decide (gx q x = gx q y)).map D.bl) = B at *
    simp [-List.map_map, fnF, en0, seqS, passS, noS, exprS, retS, retN, retM, putE, setS, iteS, vOfE, eOfV, oOfV, kI, kB, kS, kN, nmV, nmO, op1, op2, opC, tst, tru, truD, notT, andT, orT, blV, vbl, andV, orV, notV, iteE, aNil, aCons, lNil, lCons, tupE, lstE, dicE, Opd.get, callF, frR, callI, callL, own1, addD, subD, negD, cmpD, lenD, intD, tupD, lisD, absD, isiD, tyD, min2D, max2D, Pv.R.of, raiseS, asgS, nameG, nilG, consG, tupG, isD, nisD, isNB, opS, pNone, pSome, seqI', itsD, sItS, putD, wipeE, backE, h1, h2]
  have h2 := allD_bl ((List.range p.length).map (fi1 p q))
  have h3 : finB p q = (((List.range p.length).map (fi1 p q)).all id) := rfl
  rw [← h3] at h2
  generalize (((List.range p.length).map (fi1 p q)).map D.bl) = B at *
  generalize nI p = X at *
  generalize nI q = Y at *
  unfold F__law_finer g__law_finer
  simp [-List.map_map, fnF, en0, seqS, passS, noS, exprS, retS, retN, retM, putE, setS, iteS, vOfE, eOfV, oOfV, kI, kB, kS, kN, nmV, nmO, op1, op2, opC, tst, tru, truD, notT, andT, orT, blV, vbl, andV, orV, notV, iteE, aNil, aCons, lNil, lCons, tupE, lstE, dicE, Opd.get, callF, frR, callI, callL, own1, addD, subD, negD, cmpD, lenD, intD, tupD, lisD, absD, isiD, tyD, min2D, max2D, Pv.R.of, raiseS, asgS, nameG, nilG, consG, tupG, isD, nisD, isNB, opS, pNone, pSome, seqI', itsD, sItS, putD, wipeE, backE, c2, h2]
theorem finB_iff {p q : List Int} (hq : q.length = p.length) : finB p q = true ↔ fin (pf p) (pf q) p.length := by
  have key : finB p q = true ↔ ∀ x, x < p.length → ∀ y, y < x → gx p x = gx p y → gx q x = gx q y := by
    unfold finB fi1
    simp only [List.all_map, List.all_eq_true, List.mem_range, List.mem_filter, Function.comp, id, decide_eq_true_eq, and_imp]
  rw [key]
  constructor
  · intro h x y hx hy he
    rcases Nat.lt_trichotomy x y with r | r | r
    · have := h y hy x r ((gx_eq hx hy).mp he).symm
      exact (gx_eq (by omega) (by omega)).mpr this.symm
    · subst r; rfl
    · have := h x hx y r ((gx_eq hx hy).mp he)
      exact (gx_eq (by omega) (by omega)).mpr this
  · intro h x hx y hy he
    exact (gx_eq (by omega) (by omega)).mp (h x y hx (by omega) ((gx_eq hx (by omega)).mpr he))
/-! the law's complement -/
def inn (p : List Int) (x y : Nat) : List Int := (p.drop (x + 1)).take (y - x)
def out (p : List Int) (x y : Nat) : List Int := p.take (x + 1) ++ p.drop (y + 1)
def relB (p : List Int) (x y : Nat) : Bool := !(((inn p x y).map fun c => decide (c ∈ out p x y)).any id)
theorem mem_inn {p : List Int} {x y : Nat} {c : Int} (hy : y < p.length) : c ∈ inn p x y ↔ ∃ i, x < i ∧ i ≤ y ∧ p[i]? = some c := by
  unfold inn
  rw [List.mem_iff_getElem?]
  constructor
  · rintro ⟨i, hi⟩
    rw [List.getElem?_take] at hi
    split at hi
    · rw [List.getElem?_drop] at hi
      exact ⟨x + 1 + i, by omega, by omega, hi⟩
    · cases hi
  · rintro ⟨i, h1, h2, h3⟩
    refine ⟨i - (x + 1), ?_⟩
    rw [List.getElem?_take, if_pos (by omega), List.getElem?_drop, show x + 1 + (i - (x + 1)) = i by omega, h3]
theorem mem_out {p : List Int} {x y : Nat} {c : Int} : c ∈ out p x y ↔ ∃ i, (i ≤ x ∨ y < i) ∧ p[i]? = some c := by
  unfold out
  rw [List.mem_append, List.mem_iff_getElem?, List.mem_iff_getElem?]
  constructor
  · rintro (⟨i, hi⟩ | ⟨i, hi⟩)
    · rw [List.getElem?_take] at hi
      split at hi
      · exact ⟨i, .inl (by omega), hi⟩
      · cases hi
    · rw [List.getElem?_drop] at hi
      exact ⟨y + 1 + i, .inr (by omega), hi⟩
  · rintro ⟨i, h | h, h3⟩
    · exact .inl ⟨i, by rw [List.getElem?_take, if_pos (by omega), h3]⟩
    · exact .inr ⟨i - (y + 1), by rw [List.getElem?_drop, show y + 1 + (i - (y + 1)) = i by omega, h3]⟩
theorem relB_iff {p : List Int} {x y : Nat} (hxy : x < y) (hy : y < p.length) : relB p x y = true ↔ Rel (pf p) p.length x y := by
  have key : relB p x y = true ↔ ∀ c, c ∈ inn p x y → c ∉ out p x y := by
    unfold relB
    simp only [Bool.not_eq_true', List.any_map]
    rw [List.any_eq_false]
    simp [Function.comp]
  rw [key]
  constructor
  · intro h i j hij hj hf
    have e1 := gx_pf (xs := p) (i := i) (by omega)
    have e2 := gx_pf hj
    have e3 : gx p i = gx p j := (gx_eq (by omega) hj).mp hf
    constructor
    · rintro ⟨h1, h2⟩
      refine ⟨by omega, ?_⟩
      apply Decidable.byContradiction
      intro q
      exact h (gx p j) ((mem_inn hy).mpr ⟨j, h2, by omega, e2⟩) (mem_out.mpr ⟨i, .inl h1, by rw [e1, e3]⟩)
    · rintro ⟨h1, h2⟩
      refine ⟨?_, by omega⟩
      apply Decidable.byContradiction
      intro q
      exact h (gx p i) ((mem_inn hy).mpr ⟨i, by omega, h1, e1⟩) (mem_out.mpr ⟨j, .inr h2, by rw [e2, e3]⟩)
  · intro h c h1 h2
    obtain ⟨i, a1, a2, a3⟩ := (mem_inn hy).mp h1
    obtain ⟨j, b1, b2⟩ := mem_out.mp h2
    have hjl : j < p.length := by
      apply Decidable.byContradiction
      intro q
      rw [List.getElem?_eq_none (by omega)] at b2
      cases b2
    rcases b1 with b1 | b1
    · have := h j i (by omega) (by omega) (by rw [pf, pf, a3, b2])
      omega
    · have := h i j (by omega) (by omega) (by rw [pf, pf, a3, b2])
      omega
/-- two classes put together -/
def mrg (M : List Int) (x y : Nat) : List Int := M.map fun c => if c = gx M y then gx M x else c
theorem gx_map {M : List Int} {f : Int → Int} {i : Nat} (h : i < M.length) : gx (M.map f) i = f (gx M i) := by
  simp [gx, h]
structure Mk (p M : List Int) (y x : Nat) : Prop where
  len : M.length = p.length
  snd : ∀ a b, a < p.length → b < p.length → gx M a = gx M b → Rel (pf p) p.length a b
  cpl : ∀ a b, a < b → b < p.length → (b < y ∨ (b = y ∧ a < x)) → Rel (pf p) p.length a b → gx M a = gx M b
theorem Mk.step {p M : List Int} {y x : Nat} (h : Mk p M y x) (hxy : x < y) (hy : y < p.length) : Mk p (if relB p x y = true then mrg M x y else M) y (x + 1) := by
  have hl := h.len
  by_cases q : relB p x y = true
  · rw [if_pos q]
    have hr := (relB_iff hxy hy).mp q
    have hg : ∀ a, a < p.length → gx (mrg M x y) a = if gx M a = gx M y then gx M x else gx M a := fun a ha => by
      unfold mrg
      rw [gx_map (by omega)]
    refine ⟨by simp [mrg, hl], fun a b ha hb he => ?_, fun a b hab hb hd hR => ?_⟩
    · rw [hg a ha, hg b hb] at he
      by_cases e1 : gx M a = gx M y <;> by_cases e2 : gx M b = gx M y
      · exact h.snd a b ha hb (by rw [e1, e2])
      · rw [if_pos e1, if_neg e2] at he
        exact (h.snd a y ha hy e1).trans (hr.symm.trans (h.snd x b (by omega) hb he))
      · rw [if_neg e1, if_pos e2] at he
        exact (h.snd a x ha (by omega) he).trans (hr.trans (h.snd y b hy hb e2.symm))
      · rw [if_neg e1, if_neg e2] at he
        exact h.snd a b ha hb he
    · rw [hg a (by omega), hg b hb]
      by_cases e : b = y ∧ a = x
      · obtain ⟨rfl, rfl⟩ := e
        rw [if_pos (rfl : gx M b = gx M b)]
        split <;> rfl
      · have := h.cpl a b hab hb (by omega) hR
        rw [this]
  · rw [if_neg q]
    refine ⟨hl, h.snd, fun a b hab hb hd hR => ?_⟩
    by_cases e : b = y ∧ a = x
    · obtain ⟨rfl, rfl⟩ := e
      exact (q ((relB_iff hab hb).mpr hR)).elim
    · exact h.cpl a b hab hb (by omega) hR
theorem Mk.fin' {p M : List Int} (h : Mk p M p.length 0) : KL p (fnum M) := by
  have hl := h.len
  refine ⟨by rw [len_fnum, hl], fnum_idem M, fun a b ha hb => ?_⟩
  rw [show (pf (fnum M) a = pf (fnum M) b) = ((fnum M)[a]? = (fnum M)[b]?) from rfl, fnum_at (by omega) (by omega), gx_eq (by omega) (by omega)]
  refine ⟨h.snd a b ha hb, fun hR => ?_⟩
  rcases Nat.lt_trichotomy a b with r | r | r
  · exact h.cpl a b r hb (.inl hb) hR
  · rw [r]
  · exact (h.cpl b a r ha (.inl ha) hR.symm).symm
abbrev ke (p M : List Int) (y x i o : Sl) : En := [some (.tup (nI p), 0), some (.int p.length, 0), some (.lst (nI M), 1), y, x, i, o, none]
theorem cut_mid {α : Type} {xs : List α} {a b : Nat} (h : b ≤ xs.length) (hab : a ≤ b) : cutD xs (some (a : Int)) (some (b : Int)) = (xs.drop a).take (b - a) := by
  have h0 : HT.sIx xs.length 0 (some (a : Int)) = a := by
    rw [HT.sIx_nat]
    omega
  have h1 : HT.sIx xs.length xs.length (some (b : Int)) = b := by
    rw [HT.sIx_nat]
    omega
  unfold cutD
  rw [h0, h1]
theorem mid_tup {xs : List Int} {a b : Nat} (h : b ≤ xs.length) (hab : a ≤ b) : slD (.tup (nI xs)) (some (a : Int)) (some (b : Int)) = some (.tup (nI ((xs.drop a).take (b - a))), 0) := by
  unfold slD
  simp only [nI]
  rw [cut_mid (by simpa using h) hab, ← List.map_drop, ← List.map_take]
theorem kr_a1 {p : List Int} (M : List Int) (x y : Nat) (hl : p.length ≤ 1000) (hxy : x < y) (hy : y < p.length) (i o : Sl) : (asgS (tupG 2 (consG (nameG 5) (consG (nameG 6) nilG))) ((tupE (aCons ((vOfE (opS (nmO 0) (pSome ((vOfE (op2 addD (nmO 4) (oOfV (kI 1)))))) (pSome ((vOfE (op2 addD (nmO 3) (oOfV (kI 1))))))))) (aCons ((vOfE (op2 addD (oOfV ((vOfE (opS (nmO 0) pNone (pSome ((vOfE (op2 addD (nmO 4) (oOfV (kI 1)))))))))) (oOfV ((vOfE (opS (nmO 0) (pSome ((vOfE (op2 addD (nmO 3) (oOfV (kI 1)))))) pNone))))))) aNil))))) (ke p M (some (.int y, 0)) (some (.int x, 0)) i o) = .nx (ke p M (some (.int y, 0)) (some (.int x, 0)) (some (.tup (nI (inn p x y)), 0)) (some (.tup (nI (out p x y)), 0))) := by
  have h1 := mid_tup (xs := p) (a := x + 1) (b := y + 1) (by omega) (by omega)
  have h2 := to_tup (xs := p) (k := x + 1) (by omega)
  have h3 := from_tup (xs := p) (k := y + 1) (by omega)
  have e1 : inn p x y = (p.drop (x + 1)).take (y + 1 - (x + 1)) := by
    unfold inn
    congr 1
    omega
  have e2 : nI (out p x y) = nI (p.take (x + 1)) ++ nI (p.drop (y + 1)) := nI_app _ _
  rw [show ((x + 1 : Nat) : Int) = (x : Int) + 1 by omega] at h1 h2
  rw [show ((y + 1 : Nat) : Int) = (y : Int) + 1 by omega] at h1 h3
  have l1 : (nI (p.take (x + 1))).length + (nI (p.drop (y + 1))).length ≤ lim := le_lim (by simp [nI]; omega)
  show asgS _ _ [some (.tup (nI p), 0), some (.int p.length, 0), some (.lst (nI M), 1), _, _, i, o, none] = .nx [some (.tup (nI p), 0), some (.int p.length, 0), some (.lst (nI M), 1), _, _, some (.tup (nI (inn p x y)), 0), some (.tup (nI (out p x y)), 0), none]
  rw [e1, e2]
  generalize nI ((p.drop (x + 1)).take (y + 1 - (x + 1))) = A at *
  generalize nI (p.take (x + 1)) = B at *
  generalize nI (p.drop (y + 1)) = C at *
  generalize nI M = Y at *
  generalize nI p = X at *
  simp [-List.map_map, fnF, en0, seqS, passS, noS, exprS, retS, retN, retM, putE, setS, iteS, vOfE, eOfV, oOfV, kI, kB, kS, kN, nmV, nmO, op1, op2, opC, tst, tru, truD, notT, andT, orT, blV, vbl, andV, orV, notV, iteE, aNil, aCons, lNil, lCons, tupE, lstE, dicE, Opd.get, callF, frR, callI, callL, own1, addD, subD, negD, cmpD, lenD, intD, tupD, lisD, absD, isiD, tyD, min2D, max2D, Pv.R.of, raiseS, asgS, nameG, nilG, consG, tupG, isD, nisD, isNB, opS, pNone, pSome, seqI', itsD, sItS, putD, wipeE, backE, h1, h2, h3, l1]
theorem kr_c1 (X Y : D) (n y x : Sl) (I O : List Int) (hl : I.length ≤ 1000) : cp__law_kreweras_1 [some (X, 0), n, some (Y, 1), y, x, some (.tup (nI I), 0), some (.tup (nI O), 0), none] = .ok (.lst ((I.map fun c => decide (c ∈ O)).map D.bl), 1) [some (X, 0), n, some (Y, 1), y, x, some (.tup (nI I), 0), some (.tup (nI O), 0), none] := by
  have h1 := fun c => in_tup c O
  rw [List.map_map]
  generalize nI O = O' at *
  refine comp_map1 D.int _ (env1 := [some (X, 0), n, some (Y, 1), y, x, some (.tup (nI I), 0), some (.tup O', 0), none]) ?_ rfl (by omega) fun c _ => ?_
  · show seqI' (nmV 5) _ = .ok (nI I) _
    generalize nI I = I'
    simp [-List.map_map, fnF, en0, seqS, passS, noS, exprS, retS, retN, retM, putE, setS, iteS, vOfE, eOfV, oOfV, kI, kB, kS, kN, nmV, nmO, op1, op2, opC, tst, tru, truD, notT, andT, orT, blV, vbl, andV, orV, notV, iteE, aNil, aCons, lNil, lCons, tupE, lstE, dicE, Opd.get, callF, frR, callI, callL, own1, addD, subD, negD, cmpD, lenD, intD, tupD, lisD, absD, isiD, tyD, min2D, max2D, Pv.R.of, raiseS, asgS, nameG, nilG, consG, tupG, isD, nisD, isNB, opS, pNone, pSome, seqI', itsD, sItS, putD, wipeE, backE]
  · have := h1 c
    generalize nI I = I'
    simp [-List.map_map, fnF, en0, seqS, passS, noS, exprS, retS, retN, retM, putE, setS, iteS, vOfE, eOfV, oOfV, kI, kB, kS, kN, nmV, nmO, op1, op2, opC, tst, tru, truD, notT, andT, orT, blV, vbl, andV, orV, notV, iteE, aNil, aCons, lNil, lCons, tupE, lstE, dicE, Opd.get, callF, frR, callI, callL, own1, addD, subD, negD, cmpD, lenD, intD, tupD, lisD, absD, isiD, tyD, min2D, max2D, Pv.R.of, raiseS, asgS, nameG, nilG, consG, tupG, isD, nisD, isNB, opS, pNone, pSome, seqI', itsD, sItS, putD, wipeE, backE, this]
theorem kr_c2 (X : D) (n i o : Sl) (M : List Int) (x y : Nat) (hl : M.length ≤ 1000) (hx : x < M.length) (hy : y < M.length) : cp__law_kreweras_2 [some (X, 0), n, some (.lst (nI M), 1), some (.int y, 0), some (.int x, 0), i, o, none] = .ok (.lst (nI (mrg M x y)), 1) [some (X, 0), n, some (.lst (nI M), 0), some (.int y, 0), some (.int x, 0), i, o, none] := by
  have h1 := atl_gx hx
  have h2 := atl_gx hy
  have e : nI (mrg M x y) = M.map fun c => D.int (if c = gx M y then gx M x else c) := by
    unfold nI mrg
    rw [List.map_map]
    rfl
  rw [e]
  refine comp_map1 D.int _ (env1 := [some (X, 0), n, some (.lst (nI M), 0), some (.int y, 0), some (.int x, 0), i, o, none]) ?_ rfl (by omega) fun c _ => ?_
  · show seqI' (nmV 2) _ = .ok (nI M) _
    generalize nI M = I'
    simp [-List.map_map, fnF, en0, seqS, passS, noS, exprS, retS, retN, retM, putE, setS, iteS, vOfE, eOfV, oOfV, kI, kB, kS, kN, nmV, nmO, op1, op2, opC, tst, tru, truD, notT, andT, orT, blV, vbl, andV, orV, notV, iteE, aNil, aCons, lNil, lCons, tupE, lstE, dicE, Opd.get, callF, frR, callI, callL, own1, addD, subD, negD, cmpD, lenD, intD, tupD, lisD, absD, isiD, tyD, min2D, max2D, Pv.R.of, raiseS, asgS, nameG, nilG, consG, tupG, isD, nisD, isNB, opS, pNone, pSome, seqI', itsD, sItS, putD, wipeE, backE]
  · generalize nI M = I' at *
    by_cases q : c = gx M y
    · simp [-List.map_map, fnF, en0, seqS, passS, noS, exprS, retS, retN, retM, putE, setS, iteS, vOfE, eOfV, oOfV, kI, kB, kS, kN, nmV, nmO, op1, op2, opC, tst, tru, truD, notT, andT, orT, blV, vbl, andV, orV, notV, iteE, aNil, aCons, lNil, lCons, tupE, lstE, dicE, Opd.get, callF, frR, callI, callL, own1, addD, subD, negD, cmpD, lenD, intD, tupD, lisD, absD, isiD, tyD, min2D, max2D, Pv.R.of, raiseS, asgS, nameG, nilG, consG, tupG, isD, nisD, isNB, opS, pNone, pSome, seqI', itsD, sItS, putD, wipeE, backE, h1, h2, eqD, q]
    · simp [-List.map_map, fnF, en0, seqS, passS, noS, exprS, retS, retN, retM, putE, setS, iteS, vOfE, eOfV, oOfV, kI, kB, kS, kN, nmV, nmO, op1, op2, opC, tst, tru, truD, notT, andT, orT, blV, vbl, andV, orV, notV, iteE, aNil, aCons, lNil, lCons, tupE, lstE, dicE, Opd.get, callF, frR, callI, callL, own1, addD, subD, negD, cmpD, lenD, intD, tupD, lisD, absD, isiD, tyD, min2D, max2D, Pv.R.of, raiseS, asgS, nameG, nilG, consG, tupG, isD, nisD, isNB, opS, pNone, pSome, seqI', itsD, sItS, putD, wipeE, backE, h1, h2, eqD, q]
theorem kr_l1 {p M : List Int} (x y : Nat) (hl : p.length ≤ 1000) (hM : M.length = p.length) (hxy : x < y) (hy : y < p.length) (i o : Sl) : ∃ i' o', lb__law_kreweras_1 (ke p M (some (.int y, 0)) (some (.int x, 0)) i o) = .nx (ke p (if relB p x y = true then mrg M x y else M) (some (.int y, 0)) (some (.int x, 0)) i' o') := by
  have a1 := kr_a1 M x y hl hxy hy i o
  have c1 := kr_c1 (.tup (nI p)) (.lst (nI M)) (some (.int p.length, 0)) (some (.int y, 0)) (some (.int x, 0)) (inn p x y) (out p x y) (by
    unfold inn
    simp
    omega)
  have c2 := kr_c2 (.tup (nI p)) (some (.int p.length, 0)) (some (.tup (nI (inn p x y)), 0)) (some (.tup (nI (out p x y)), 0)) M x y (by omega) (by omega) (by omega)
  have h1 := anyD_bl ((inn p x y).map fun c => decide (c ∈ out p x y))
  have hr : relB p x y = !(((inn p x y).map fun c => decide (c ∈ out p x y)).any id) := rfl
  refine ⟨some (.tup (nI (inn p x y)), 0), some (.tup (nI (out p x y)), 0), (seqS_nx a1).trans ?_⟩
  show iteS _ _ _ [some (.tup (nI p), 0), some (.int p.length, 0), some (.lst (nI M), 1), some (.int y, 0), some (.int x, 0), some (.tup (nI (inn p x y)), 0), some (.tup (nI (out p x y)), 0), none] = .nx [some (.tup (nI p), 0), some (.int p.length, 0), some (.lst (nI (if relB p x y = true then mrg M x y else M)), 1), some (.int y, 0), some (.int x, 0), some (.tup (nI (inn p x y)), 0), some (.tup (nI (out p x y)), 0), none]
  rw [hr]
  generalize ((inn p x y).map fun c => decide (c ∈ out p x y)).any id = b at *
  generalize ((inn p x y).map fun c => decide (c ∈ out p x y)).map D.bl = B at *
  generalize nI (inn p x y) = I' at *
  generalize nI (out p x y) = O' at *
  cases b with
  | true =>
    rw [if_neg (by simp)]
    generalize nI M = Y at *
    generalize nI p = X at *
    simp [-List.map_map, fnF, en0, seqS, passS, noS, exprS, retS, retN, retM, putE, setS, iteS, vOfE, eOfV, oOfV, kI, kB, kS, kN, nmV, nmO, op1, op2, opC, tst, tru, truD, notT, andT, orT, blV, vbl, andV, orV, notV, iteE, aNil, aCons, lNil, lCons, tupE, lstE, dicE, Opd.get, callF, frR, callI, callL, own1, addD, subD, negD, cmpD, lenD, intD, tupD, lisD, absD, isiD, tyD, min2D, max2D, Pv.R.of, raiseS, asgS, nameG, nilG, consG, tupG, isD, nisD, isNB, opS, pNone, pSome, seqI', itsD, sItS, putD, wipeE, backE, c1, h1]
  | false =>
    rw [if_pos (by simp)]
    generalize nI (mrg M x y) = Z at *
    generalize nI M = Y at *
    generalize nI p = X at *
    simp [-List.map_map, fnF, en0, seqS, passS, noS, exprS, retS, retN, retM, putE, setS, iteS, vOfE, eOfV, oOfV, kI, kB, kS, kN, nmV, nmO, op1, op2, opC, tst, tru, truD, notT, andT, orT, blV, vbl, andV, orV, notV, iteE, aNil, aCons, lNil, lCons, tupE, lstE, dicE, Opd.get, callF, frR, callI, callL, own1, addD, subD, negD, cmpD, lenD, intD, tupD, lisD, absD, isiD, tyD, min2D, max2D, Pv.R.of, raiseS, asgS, nameG, nilG, consG, tupG, isD, nisD, isNB, opS, pNone, pSome, seqI', itsD, sItS, putD, wipeE, backE, c1, c2, h1]
theorem kr_l2 {p M : List Int} (y : Nat) (hl : p.length ≤ 1000) (h : Mk p M y 0) (hy : y < p.length) (x i o : Sl) : ∃ M' x' i' o', lb__law_kreweras_2 (ke p M (some (.int y, 0)) x i o) = .nx (ke p M' (some (.int y, 0)) x' i' o') ∧ Mk p M' (y + 1) 0 := by
  have hf : lb__law_kreweras_2 (ke p M (some (.int y, 0)) x i o) = _ := forS_ok (rg1_ok (n := y) (env1 := ke p M (some (.int y, 0)) x i o) (by
    show aCons (nmV 3) aNil [some (.tup (nI p), 0), some (.int p.length, 0), some (.lst (nI M), 1), some (.int y, 0), x, i, o, none] = .ok _ [some (.tup (nI p), 0), some (.int p.length, 0), some (.lst (nI M), 1), some (.int y, 0), x, i, o, none]
    generalize nI p = X
    generalize nI M = Y
    simp [-List.map_map, fnF, en0, seqS, passS, noS, exprS, retS, retN, retM, putE, setS, iteS, vOfE, eOfV, oOfV, kI, kB, kS, kN, nmV, nmO, op1, op2, opC, tst, tru, truD, notT, andT, orT, blV, vbl, andV, orV, notV, iteE, aNil, aCons, lNil, lCons, tupE, lstE, dicE, Opd.get, callF, frR, callI, callL, own1, addD, subD, negD, cmpD, lenD, intD, tupD, lisD, absD, isiD, tyD, min2D, max2D, Pv.R.of, raiseS, asgS, nameG, nilG, consG, tupG, isD, nisD, isNB, opS, pNone, pSome, seqI', itsD, sItS, putD, wipeE, backE]) (by omega))
  rw [hf]
  obtain ⟨e, he, M', x', i', o', rfl, hm⟩ := loopS_ex (g := nameG 4) (body := lb__law_kreweras_1) (fun k : Nat => D.int k) (List.range y) (fun k env => ∃ M' x' i' o', env = ke p M' (some (.int y, 0)) x' i' o' ∧ Mk p M' y k) (ke p M (some (.int y, 0)) x i o) ⟨M, x, i, o, rfl, h⟩ fun k hk env hP => by
    obtain ⟨M', x', i', o', rfl, hm⟩ := hP
    simp only [List.length_range] at hk
    obtain ⟨i2, o2, h2⟩ := kr_l1 k y hl hm.len hk hy i' o'
    refine ⟨ke p M' (some (.int y, 0)) (some (.int k, 0)) i' o', _, ?_, h2, _, _, i2, o2, rfl, hm.step hk hy⟩
    show nameG 4 _ [some (.tup (nI p), 0), some (.int p.length, 0), some (.lst (nI M'), 1), some (.int y, 0), x', i', o', none] = some [some (.tup (nI p), 0), some (.int p.length, 0), some (.lst (nI M'), 1), some (.int y, 0), some (.int k, 0), i', o', none]
    generalize nI p = X
    generalize nI M' = Y
    simp [-List.map_map, fnF, en0, seqS, passS, noS, exprS, retS, retN, retM, putE, setS, iteS, vOfE, eOfV, oOfV, kI, kB, kS, kN, nmV, nmO, op1, op2, opC, tst, tru, truD, notT, andT, orT, blV, vbl, andV, orV, notV, iteE, aNil, aCons, lNil, lCons, tupE, lstE, dicE, Opd.get, callF, frR, callI, callL, own1, addD, subD, negD, cmpD, lenD, intD, tupD, lisD, absD, isiD, tyD, min2D, max2D, Pv.R.of, raiseS, asgS, nameG, nilG, consG, tupG, isD, nisD, isNB, opS, pNone, pSome, seqI', itsD, sItS, putD, wipeE, backE, List.getElem_range]
  rw [List.length_range] at hm
  exact ⟨M', x', i', o', he, hm.len, hm.snd, fun a b hab hb hd hR => hm.cpl a b hab hb (by omega) hR⟩
theorem iota_gx {n i : Nat} (h : i < n) : gx ((List.range n).map fun k : Nat => (k : Int)) i = i := by
  simp [gx, h]
theorem kreweras_ok {p : List Int} (hl : p.length ≤ 1000) : ∃ q, F__law_kreweras none [.tup (nI p)] = .ok (.tup (nI q), 0) none ∧ KL p q := by
  have h1 := len_tup p
  have a1 : g__law_kreweras_1 (en0 8 none [.tup (nI p)]) = .nx [some (.tup (nI p), 0), some (.int p.length, 0), none, none, none, none, none, none] := by
    generalize nI p = X at *
    simp [setS, op1, nmO, en0, Opd.get, h1, Pv.R.of, putE]
  have a2 : g__law_kreweras_2 [some (.tup (nI p), 0), some (.int p.length, 0), none, none, none, none, none, none] = .nx (ke p ((List.range p.length).map fun k : Nat => (k : Int)) none none none none) := by
    show _ = SR.nx [some (.tup (nI p), 0), some (.int p.length, 0), some (.lst (nI ((List.range p.length).map fun k : Nat => (k : Int))), 1), none, none, none, none, none]
    have h2 : lrg1D (.int p.length) = some (.lst (nI ((List.range p.length).map fun k : Nat => (k : Int))), 1) := by
      show (if rgOkB 0 p.length = true then some (D.lst ((rgL 0 p.length).map D.int), 1) else none) = _
      rw [if_pos (rgOkB_nat (by omega)), rgL_nat]
      rfl
    generalize nI ((List.range p.length).map fun k : Nat => (k : Int)) = Z at *
    generalize nI p = X at *
    simp [-List.map_map, fnF, en0, seqS, passS, noS, exprS, retS, retN, retM, putE, setS, iteS, vOfE, eOfV, oOfV, kI, kB, kS, kN, nmV, nmO, op1, op2, opC, tst, tru, truD, notT, andT, orT, blV, vbl, andV, orV, notV, iteE, aNil, aCons, lNil, lCons, tupE, lstE, dicE, Opd.get, callF, frR, callI, callL, own1, addD, subD, negD, cmpD, lenD, intD, tupD, lisD, absD, isiD, tyD, min2D, max2D, Pv.R.of, raiseS, asgS, nameG, nilG, consG, tupG, isD, nisD, isNB, opS, pNone, pSome, seqI', itsD, sItS, putD, wipeE, backE, h2]
  obtain ⟨e, he, M, y, x, i, o, rfl, hm⟩ := loopS_ex (g := nameG 3) (body := lb__law_kreweras_2) (fun k : Nat => D.int k) (List.range p.length) (fun k env => ∃ M y x i o, env = ke p M y x i o ∧ Mk p M k 0) (ke p ((List.range p.length).map fun k : Nat => (k : Int)) none none none none) ⟨_, none, none, none, none, rfl, by simp, fun a b ha hb he => by
      rw [iota_gx ha, iota_gx hb] at he
      have : a = b := by omega
      rw [this]
      exact Rel.rfl' b, fun a b hab hb hd hR => by omega⟩ fun k hk env hP => by
    obtain ⟨M, y, x, i, o, rfl, hm⟩ := hP
    simp only [List.length_range] at hk
    obtain ⟨M', x', i', o', h2, h3⟩ := kr_l2 k hl hm hk x i o
    refine ⟨ke p M (some (.int k, 0)) x i o, _, ?_, h2, _, _, _, _, _, rfl, h3⟩
    show nameG 3 _ [some (.tup (nI p), 0), some (.int p.length, 0), some (.lst (nI M), 1), y, x, i, o, none] = some [some (.tup (nI p), 0), some (.int p.length, 0), some (.lst (nI M), 1), some (.int k, 0), x, i, o, none]
    generalize nI p = X
    generalize nI M = Y
    simp [-List.map_map, fnF, en0, seqS, passS, noS, exprS, retS, retN, retM, putE, setS, iteS, vOfE, eOfV, oOfV, kI, kB, kS, kN, nmV, nmO, op1, op2, opC, tst, tru, truD, notT, andT, orT, blV, vbl, andV, orV, notV, iteE, aNil, aCons, lNil, lCons, tupE, lstE, dicE, Opd.get, callF, frR, callI, callL, own1, addD, subD, negD, cmpD, lenD, intD, tupD, lisD, absD, isiD, tyD, min2D, max2D, Pv.R.of, raiseS, asgS, nameG, nilG, consG, tupG, isD, nisD, isNB, opS, pNone, pSome, seqI', itsD, sItS, putD, wipeE, backE, List.getElem_range]
  rw [List.length_range] at hm
  have a3 : g__law_kreweras_3 (ke p ((List.range p.length).map fun k : Nat => (k : Int)) none none none none) = .nx (ke p M y x i o) :=
    (forS_ok (rg1_ok (n := p.length) (env1 := ke p ((List.range p.length).map fun k : Nat => (k : Int)) none none none none) (by
      show aCons (nmV 1) aNil [some (.tup (nI p), 0), some (.int p.length, 0), some (.lst (nI ((List.range p.length).map fun k : Nat => (k : Int))), 1), none, none, none, none, none] = .ok _ [some (.tup (nI p), 0), some (.int p.length, 0), some (.lst (nI ((List.range p.length).map fun k : Nat => (k : Int))), 1), none, none, none, none, none]
      generalize nI ((List.range p.length).map fun k : Nat => (k : Int)) = Z
      generalize nI p = X
      simp [-List.map_map, fnF, en0, seqS, passS, noS, exprS, retS, retN, retM, putE, setS, iteS, vOfE, eOfV, oOfV, kI, kB, kS, kN, nmV, nmO, op1, op2, opC, tst, tru, truD, notT, andT, orT, blV, vbl, andV, orV, notV, iteE, aNil, aCons, lNil, lCons, tupE, lstE, dicE, Opd.get, callF, frR, callI, callL, own1, addD, subD, negD, cmpD, lenD, intD, tupD, lisD, absD, isiD, tyD, min2D, max2D, Pv.R.of, raiseS, asgS, nameG, nilG, consG, tupG, isD, nisD, isNB, opS, pNone, pSome, seqI', itsD, sItS, putD, wipeE, backE]) (by omega))).trans he
  have hn := num_any (.lst (nI M)) M (by rw [hm.len]; exact hl) rfl
  have hn' : F__law_numbered none [.lst (nI M)] = .ok (.tup (nI (fnum M)), 0) none := hn
  have a4 : g__law_kreweras_4 (ke p M y x i o) = .ret (.tup (nI (fnum M)), 0) [some (.tup (nI p), 0), some (.int p.length, 0), some (.lst (nI M), 0), y, x, i, o, none] := by
    show g__law_kreweras_4 [some (.tup (nI p), 0), some (.int p.length, 0), some (.lst (nI M), 1), y, x, i, o, none] = _
    generalize nI (fnum M) = Z at *
    generalize nI M = Y at *
    generalize nI p = X at *
    simp [-List.map_map, fnF, en0, seqS, passS, noS, exprS, retS, retN, retM, putE, setS, iteS, vOfE, eOfV, oOfV, kI, kB, kS, kN, nmV, nmO, op1, op2, opC, tst, tru, truD, notT, andT, orT, blV, vbl, andV, orV, notV, iteE, aNil, aCons, lNil, lCons, tupE, lstE, dicE, Opd.get, callF, frR, callI, callL, own1, addD, subD, negD, cmpD, lenD, intD, tupD, lisD, absD, isiD, tyD, min2D, max2D, Pv.R.of, raiseS, asgS, nameG, nilG, consG, tupG, isD, nisD, isNB, opS, pNone, pSome, seqI', itsD, sItS, putD, wipeE, backE, hn']
  exact ⟨fnum M, fnF_ret ((seqS_nx a1).trans ((seqS_nx a2).trans ((seqS_nx a3).trans a4))), hm.fin'⟩
end L17
end

section
open Pv PySem PM KR
set_option Elab.async false
set_option linter.all false
set_option maxRecDepth 100000
namespace L17
theorem idxOf_snoc_old {ks : List Int} {c m : Int} (h : c ∈ ks) : (ks ++ [m]).idxOf c = ks.idxOf c := by
  rw [List.idxOf_append, if_pos h]
theorem put_any {ks : List Int} {vs : List D} (m : Int) (v : D) (hl : ks.length = vs.length) (h1 : ks.length < 100000) : ∃ ks' vs', putD (dicI ks vs) (.int m) v = some (dicI ks' vs') ∧ ks'.length = vs'.length ∧ ks'.length ≤ ks.length + 1 ∧ (∀ c, c ∈ ks' ↔ c ∈ ks ∨ c = m) ∧ ∀ c, c ∈ ks' → vs'[ks'.idxOf c]? = if c = m then some v else vs[ks.idxOf c]? := by
  by_cases h : m ∈ ks
  · refine ⟨ks, putVs (ks.map Sum.inl) vs (Sum.inl m) v, ?_, by simp [putVs, hl], by omega, fun c => ⟨.inl, fun z => z.elim id fun e => e ▸ h⟩, fun c hc => ?_⟩
    · show ((keyD (.int m)).bind fun k => if (ks.map (Sum.inl : Int → L2.Key)).length < lim then some (if hasK (ks.map Sum.inl) k then D.dic (ks.map Sum.inl) (putVs (ks.map Sum.inl) vs k v) else D.dic (ks.map Sum.inl ++ [k]) (vs ++ [v])) else none) = _
      have h2 : (ks.map (Sum.inl : Int → L2.Key)).length < lim := by rw [List.length_map]; exact lt_lim h1
      have h3 : decide (m ∈ ks) = true := decide_eq_true h
      simp only [keyD, Option.bind_some, h2, if_true, hasK_int, h3]
      rfl
    · have hi := List.idxOf_lt_length_of_mem hc
      have e1 : ks[ks.idxOf c]? = some c := by rw [List.getElem?_eq_getElem hi, List.getElem_idxOf]
      have e2 : vs[ks.idxOf c]? = some vs[ks.idxOf c] := List.getElem?_eq_getElem (by omega)
      unfold putVs
      have hz : ((ks.map (Sum.inl : Int → L2.Key)).zip vs)[ks.idxOf c]? = some (Sum.inl c, vs[ks.idxOf c]) := List.getElem?_zip_eq_some.mpr ⟨by rw [List.getElem?_map, e1]; rfl, e2⟩
      rw [List.getElem?_map, hz, Option.map_some, e2]
      by_cases q : c = m
      · rw [if_pos q, if_pos (show Sum.inl c = Sum.inl m from congrArg Sum.inl q)]
      · rw [if_neg q, if_neg (fun z => q (Sum.inl.inj z))]
  · refine ⟨ks ++ [m], vs ++ [v], put_dicI h h1, by simp [hl], by simp, fun c => by simp, fun c hc => ?_⟩
    by_cases q : c = m
    · subst q
      rw [if_pos rfl, List.idxOf_append, if_neg h, List.getElem?_append_right (by omega)]
      simp [hl]
    · have hc' : c ∈ ks := by
        rcases List.mem_append.mp hc with z | z
        · exact z
        · exact (q (List.mem_singleton.mp z)).elim
      have hi := List.idxOf_lt_length_of_mem hc'
      rw [if_neg q, idxOf_snoc_old hc', List.getElem?_append_left (by omega)]
/-- the last places of the colours of the first places -/
def LD (xs : List Int) (i : Nat) (d : D) : Prop := ∃ ks vs, d = dicI ks vs ∧ ks.length = vs.length ∧ ks.length ≤ i ∧ ∀ c, (∃ j, j < i ∧ xs[j]? = some c) → c ∈ ks ∧ ∃ l : Nat, l < i ∧ vs[ks.idxOf c]? = some (.int l) ∧ xs[l]? = some c ∧ ∀ j, l < j → j < i → xs[j]? ≠ some c
theorem LD.step {xs : List Int} {i : Nat} {d : D} {c : Int} (h : LD xs i d) (hc : xs[i]? = some c) (hi : i ≤ 1000) : ∃ d', putD d (.int c) (.int i) = some d' ∧ LD xs (i + 1) d' := by
  obtain ⟨ks, vs, rfl, h1, h2, h3⟩ := h
  obtain ⟨ks', vs', p1, p2, p3, p4, p5⟩ := put_any (ks := ks) (vs := vs) c (.int i) h1 (by omega)
  refine ⟨_, p1, ks', vs', rfl, p2, by omega, fun e he => ?_⟩
  by_cases q : e = c
  · subst q
    have hm : e ∈ ks' := (p4 e).mpr (.inr rfl)
    exact ⟨hm, i, by omega, by rw [p5 e hm, if_pos rfl], hc, fun j a b => by omega⟩
  · obtain ⟨j, hj, hx⟩ := he
    have hj' : j < i := by
      apply Decidable.byContradiction
      intro z
      have : j = i := by omega
      subst this
      rw [hc] at hx
      exact q (Option.some.inj hx).symm
    obtain ⟨a1, l, a2, a3, a4, a5⟩ := h3 e ⟨j, hj', hx⟩
    have hm : e ∈ ks' := (p4 e).mpr (.inl a1)
    refine ⟨hm, l, by omega, by rw [p5 e hm, if_neg q, a3], a4, fun j' b1 b2 hb => ?_⟩
    by_cases z : j' = i
    · subst z
      rw [hc] at hb
      exact q (Option.some.inj hb).symm
    · exact a5 j' b1 (by omega) hb
theorem LD.get {xs : List Int} {i : Nat} {d : D} {c : Int} (h : LD xs i d) (hc : ∃ j, j < i ∧ xs[j]? = some c) : ∃ l : Nat, idxD d (.int c) = some (.int l, 0) ∧ xs[l]? = some c ∧ ∀ j, l < j → j < i → xs[j]? ≠ some c := by
  obtain ⟨ks, vs, rfl, h1, h2, h3⟩ := h
  obtain ⟨a1, l, a2, a3, a4, a5⟩ := h3 c hc
  exact ⟨l, idx_dicI h1 a1 a3, a4, a5⟩
abbrev he (X : D) (d o x c : Sl) : En := [some (X, 0), d, o, x, c]
theorem enum_ints (xs : List Int) : enumL (nI xs) = (xs.zipIdx).map fun q => .tup [.int (q.2 : Nat), .int q.1] := by
  unfold enumL nI
  rw [List.zipIdx_map]
  simp [List.map_map, Function.comp]
theorem nc_last_ok {xs : List Int} (hl : xs.length ≤ 1000) : ∃ d x c, g_has_no_crossing_2 (he (.tup (nI xs)) (some (dicI [] [], 1)) none none none) = .nx (he (.tup (nI xs)) (some (d, 1)) none x c) ∧ LD xs xs.length d := by
  obtain ⟨e, h1, d, x, c, rfl, h2⟩ := loopS_ex (g := tupG 2 (consG (nameG 3) (consG (nameG 4) nilG))) (body := lb_has_no_crossing_1) (fun q : Int × Nat => D.tup [.int (q.2 : Nat), .int q.1]) xs.zipIdx (fun i env => ∃ d x c, env = he (.tup (nI xs)) (some (d, 1)) none x c ∧ LD xs i d)
    (he (.tup (nI xs)) (some (dicI [] [], 1)) none none none) ⟨_, _, _, rfl, [], [], rfl, rfl, by simp, fun c ⟨j, hj, _⟩ => by omega⟩ (fun i hi env hP => by
      obtain ⟨d, x, c, rfl, hd⟩ := hP
      have hi' : i < xs.length := by simpa using hi
      have hx : xs[i]? = some xs[i] := List.getElem?_eq_getElem hi'
      obtain ⟨d', p1, p2⟩ := hd.step hx (by omega)
      have hq : xs.zipIdx[i] = (xs[i], i) := by simp
      rw [hq]
      generalize xs[i] = m at *
      generalize nI xs = X at *
      exact ⟨he (.tup X) (some (d, 1)) none (some (.int i, 0)) (some (.int m, 0)), he (.tup X) (some (d', 1)) none (some (.int i, 0)) (some (.int m, 0)), by simp [-List.map_map, fnF, en0, seqS, passS, noS, exprS, retS, retN, retM, putE, setS, iteS, vOfE, eOfV, oOfV, kI, kB, kS, kN, nmV, nmO, op1, op2, opC, tst, tru, truD, notT, andT, orT, blV, vbl, andV, orV, notV, iteE, aNil, aCons, lNil, lCons, tupE, lstE, dicE, Opd.get, callF, frR, callI, callL, own1, addD, subD, negD, cmpD, lenD, intD, tupD, lisD, absD, isiD, tyD, min2D, max2D, Pv.R.of, raiseS, asgS, nameG, nilG, consG, tupG, isD, nisD, isNB, opS, pNone, pSome, seqI', itsD, sItS, putD, wipeE, backE], by
        simp [-List.map_map, sItS, vOfE, nmV, p1, Pv.R.of], _, _, _, rfl, p2⟩)
  have hz : xs.zipIdx.length = xs.length := by simp
  rw [hz] at h2
  refine ⟨d, x, c, ?_, h2⟩
  rw [← enum_ints] at h1
  refine (forS_ok (ds := enumL (nI xs)) (env1 := he (.tup (nI xs)) (some (dicI [] [], 1)) none none none) ?_).trans h1
  generalize nI xs = X
  simp [-List.map_map, fnF, en0, seqS, passS, noS, exprS, retS, retN, retM, putE, setS, iteS, vOfE, eOfV, oOfV, kI, kB, kS, kN, nmV, nmO, op1, op2, opC, tst, tru, truD, notT, andT, orT, blV, vbl, andV, orV, notV, iteE, aNil, aCons, lNil, lCons, tupE, lstE, dicE, Opd.get, callF, frR, callI, callL, own1, addD, subD, negD, cmpD, lenD, intD, tupD, lisD, absD, isiD, tyD, min2D, max2D, Pv.R.of, raiseS, asgS, nameG, nilG, consG, tupG, isD, nisD, isNB, opS, pNone, pSome, seqI', itsD, sItS, putD, wipeE, backE, enumI, enumD]
/-- the open colours -/
structure Op (xs O : List Int) (i : Nat) : Prop where
  nd : O.Nodup
  ab : ∀ d, d ∈ O → (∃ a, a < i ∧ xs[a]? = some d) ∧ ∃ b, i ≤ b ∧ xs[b]? = some d
  pw : O.Pairwise fun d e => ∃ a b, a < b ∧ b < i ∧ xs[a]? = some d ∧ xs[b]? = some e
theorem Op.top {xs O : List Int} {t c : Int} {i : Nat} (hN : NC (pf xs) xs.length) (h : Op xs (O ++ [t]) i) (hc : xs[i]? = some c) (hm : c ∈ O ++ [t]) : t = c := by
  apply Decidable.byContradiction
  intro q
  rcases List.mem_append.mp hm with hm | hm
  · obtain ⟨a, b, h1, h2, h3, h4⟩ := (List.pairwise_append.mp h.pw).2.2 c hm t (by simp)
    obtain ⟨_, b', h5, h6⟩ := h.ab t (by simp)
    have hb : b' < xs.length := by
      apply Decidable.byContradiction
      intro z
      rw [List.getElem?_eq_none (by omega)] at h6
      cases h6
    have hne : b' ≠ i := fun z => by
      subst z
      rw [hc] at h6
      exact q (Option.some.inj h6).symm
    have := hN a b i b' h1 h2 (by omega) hb (by rw [pf, pf, h3, hc]) (by rw [pf, pf, h4, h6])
    rw [pf, pf, h3, h4] at this
    exact q (Option.some.inj this).symm
  · exact q (List.mem_singleton.mp hm).symm
theorem Op.push {xs O : List Int} {c : Int} {i : Nat} (hN : NC (pf xs) xs.length) (h : Op xs O i) (hc : xs[i]? = some c) : ∃ O2, (if c ∈ O then O else O ++ [c]) = O2 ++ [c] ∧ (O2 ++ [c]).Nodup ∧ (∀ d, d ∈ O2 → (∃ a, a < i + 1 ∧ xs[a]? = some d) ∧ ∃ b, i + 1 ≤ b ∧ xs[b]? = some d) ∧ (O2 ++ [c]).Pairwise fun d e => ∃ a b, a < b ∧ b < i + 1 ∧ xs[a]? = some d ∧ xs[b]? = some e := by
  have step : ∀ d, d ∈ O → d ≠ c → (∃ a, a < i + 1 ∧ xs[a]? = some d) ∧ ∃ b, i + 1 ≤ b ∧ xs[b]? = some d := fun d hd hne => by
    obtain ⟨⟨a, h1, h2⟩, b, h3, h4⟩ := h.ab d hd
    have : b ≠ i := fun z => by
      subst z
      rw [hc] at h4
      exact hne (Option.some.inj h4).symm
    exact ⟨⟨a, by omega, h2⟩, b, by omega, h4⟩
  have pw : O.Pairwise fun d e => ∃ a b, a < b ∧ b < i + 1 ∧ xs[a]? = some d ∧ xs[b]? = some e := h.pw.imp fun ⟨a, b, h1, h2, h3, h4⟩ => ⟨a, b, h1, by omega, h3, h4⟩
  by_cases hm : c ∈ O
  · rw [if_pos hm]
    obtain ⟨O2, t, e⟩ : ∃ O2 t, O = O2 ++ [t] := by
      rcases List.eq_nil_or_concat O with z | ⟨L, b, z⟩
      · rw [z] at hm; cases hm
      · exact ⟨L, b, by rw [z]; simp⟩
    subst e
    have := h.top hN hc hm
    subst this
    refine ⟨O2, rfl, h.nd, fun d hd => step d (List.mem_append_left _ hd) fun z => ?_, pw⟩
    subst z
    exact ((List.nodup_append.mp h.nd).2.2 d hd d (by simp)) rfl
  · rw [if_neg hm]
    refine ⟨O, rfl, ?_, fun d hd => step d hd fun z => hm (z ▸ hd), ?_⟩
    · rw [List.nodup_append]
      exact ⟨h.nd, by simp, fun a ha b hb z => hm (by rw [List.mem_singleton.mp hb] at z; exact z ▸ ha)⟩
    · rw [List.pairwise_append]
      refine ⟨pw, by simp, fun a ha b hb => ?_⟩
      rw [List.mem_singleton.mp hb]
      obtain ⟨⟨a', h1, h2⟩, _⟩ := h.ab a ha
      exact ⟨a', i, h1, by omega, h2, hc⟩
theorem lt_last {O : List Int} {c : Int} : idxD (.lst (nI (O ++ [c]))) (.int (-1)) = some (.int c, 0) := by
  have h2 : L2.ixN (nI (O ++ [c])).length (-1) = some O.length := by
    have e : (nI (O ++ [c])).length = O.length + 1 := by simp [nI]
    have : -((O.length + 1 : Nat) : Int) ≤ -1 := by omega
    rw [e]
    simp [L2.ixN, this]
    omega
  show (L2.atI (nI (O ++ [c])) (-1)).map (·, 0) = _
  unfold L2.atI
  rw [h2]
  simp [nI]
theorem hn_step {xs O : List Int} {d : D} {c : Int} {i : Nat} (hN : NC (pf xs) xs.length) (hd : LD xs xs.length d) (h : Op xs O i) (hO : O.length ≤ i) (hi : i ≤ 1000) (hil : i < xs.length) (hc : xs[i]? = some c) : ∃ O', lb_has_no_crossing_2 (he (.tup (nI xs)) (some (d, 1)) (some (.lst (nI O), 1)) (some (.int i, 0)) (some (.int c, 0))) = .nx (he (.tup (nI xs)) (some (d, 1)) (some (.lst (nI O'), 1)) (some (.int i, 0)) (some (.int c, 0))) ∧ Op xs O' (i + 1) ∧ O'.length ≤ i + 1 := by
  obtain ⟨O2, e1, e2, e3, e4⟩ := h.push hN hc
  have a1 : (iteS (tst (op2 inD (nmO 4) (nmO 2))) (iteS (tst (op2 neD (oOfV ((vOfE (op2 idxD (nmO 2) (oOfV ((vOfE (op1 negD (oOfV (kI 1)))))))))) (nmO 4))) (retS ((eOfV (kB false)))) passS) (appS 2 ((nmV 4)))) (he (.tup (nI xs)) (some (d, 1)) (some (.lst (nI O), 1)) (some (.int i, 0)) (some (.int c, 0))) = .nx (he (.tup (nI xs)) (some (d, 1)) (some (.lst (nI (O2 ++ [c])), 1)) (some (.int i, 0)) (some (.int c, 0))) := by
    have hin := in_lst c O
    by_cases hm : c ∈ O
    · rw [if_pos hm] at e1
      have hlast := lt_last (O := O2) (c := c)
      rw [← e1] at hlast ⊢
      rw [decide_eq_true hm] at hin
      generalize nI xs = X at *
      generalize nI O = Y at *
      simp [-List.map_map, fnF, en0, seqS, passS, noS, exprS, retS, retN, retM, putE, setS, iteS, vOfE, eOfV, oOfV, kI, kB, kS, kN, nmV, nmO, op1, op2, opC, tst, tru, truD, notT, andT, orT, blV, vbl, andV, orV, notV, iteE, aNil, aCons, lNil, lCons, tupE, lstE, dicE, Opd.get, callF, frR, callI, callL, own1, addD, subD, negD, cmpD, lenD, intD, tupD, lisD, absD, isiD, tyD, min2D, max2D, Pv.R.of, raiseS, asgS, nameG, nilG, consG, tupG, isD, nisD, isNB, opS, pNone, pSome, seqI', itsD, sItS, putD, wipeE, backE, hin, hlast, neD]
    · rw [if_neg hm] at e1
      rw [← e1, nI_app]
      rw [decide_eq_false hm] at hin
      have hll : (nI O).length < lim := lt_lim (by simp [nI]; omega)
      rw [show nI [c] = [.int c] from rfl]
      generalize nI xs = X at *
      generalize nI O = Y at *
      have : tst (op2 inD (nmO 4) (nmO 2)) (he (.tup X) (some (d, 1)) (some (.lst Y, 1)) (some (.int i, 0)) (some (.int c, 0))) = .ok false (he (.tup X) (some (d, 1)) (some (.lst Y, 1)) (some (.int i, 0)) (some (.int c, 0))) := by
        simp [-List.map_map, fnF, en0, seqS, passS, noS, exprS, retS, retN, retM, putE, setS, iteS, vOfE, eOfV, oOfV, kI, kB, kS, kN, nmV, nmO, op1, op2, opC, tst, tru, truD, notT, andT, orT, blV, vbl, andV, orV, notV, iteE, aNil, aCons, lNil, lCons, tupE, lstE, dicE, Opd.get, callF, frR, callI, callL, own1, addD, subD, negD, cmpD, lenD, intD, tupD, lisD, absD, isiD, tyD, min2D, max2D, Pv.R.of, raiseS, asgS, nameG, nilG, consG, tupG, isD, nisD, isNB, opS, pNone, pSome, seqI', itsD, sItS, putD, wipeE, backE, hin]
      refine (iteS_f this).trans ?_
      unfold appS
      rw [if_pos (by rfl)]
      simp [-List.map_map, fnF, en0, seqS, passS, noS, exprS, retS, retN, retM, putE, setS, iteS, vOfE, eOfV, oOfV, kI, kB, kS, kN, nmV, nmO, op1, op2, opC, tst, tru, truD, notT, andT, orT, blV, vbl, andV, orV, notV, iteE, aNil, aCons, lNil, lCons, tupE, lstE, dicE, Opd.get, callF, frR, callI, callL, own1, addD, subD, negD, cmpD, lenD, intD, tupD, lisD, absD, isiD, tyD, min2D, max2D, Pv.R.of, raiseS, asgS, nameG, nilG, consG, tupG, isD, nisD, isNB, opS, pNone, pSome, seqI', itsD, sItS, putD, wipeE, backE, hll]
  have hlen : (O2 ++ [c]).length ≤ i + 1 := by
    rw [← e1]
    split
    · omega
    · simp; omega
  obtain ⟨l, b1, b2, b3⟩ := hd.get ⟨i, hil, hc⟩
  have hle : i ≤ l := by
    apply Decidable.byContradiction
    intro z
    exact b3 i (by omega) hil hc
  by_cases hli : l = i
  · refine ⟨O2, (seqS_nx a1).trans ?_, ⟨(List.nodup_append.mp e2).1, e3, (List.pairwise_append.mp e4).1⟩, by simp at hlen; omega⟩
    rw [hli] at b1
    have hp : popV 2 (he (.tup (nI xs)) (some (d, 1)) (some (.lst (nI (O2 ++ [c])), 1)) (some (.int i, 0)) (some (.int c, 0))) = .ok (.int c) (he (.tup (nI xs)) (some (d, 1)) (some (.lst (nI O2), 1)) (some (.int i, 0)) (some (.int c, 0))) := by
      rw [nI_app, show nI [c] = [.int c] from rfl]
      unfold popV
      simp
    have hb : tst (op2 eqD (oOfV ((vOfE (op2 idxD (nmO 1) (nmO 4))))) (nmO 3)) (he (.tup (nI xs)) (some (d, 1)) (some (.lst (nI (O2 ++ [c])), 1)) (some (.int i, 0)) (some (.int c, 0))) = .ok true (he (.tup (nI xs)) (some (d, 1)) (some (.lst (nI (O2 ++ [c])), 1)) (some (.int i, 0)) (some (.int c, 0))) := by
      generalize nI xs = X
      generalize nI (O2 ++ [c]) = Y
      simp [-List.map_map, fnF, en0, seqS, passS, noS, exprS, retS, retN, retM, putE, setS, iteS, vOfE, eOfV, oOfV, kI, kB, kS, kN, nmV, nmO, op1, op2, opC, tst, tru, truD, notT, andT, orT, blV, vbl, andV, orV, notV, iteE, aNil, aCons, lNil, lCons, tupE, lstE, dicE, Opd.get, callF, frR, callI, callL, own1, addD, subD, negD, cmpD, lenD, intD, tupD, lisD, absD, isiD, tyD, min2D, max2D, Pv.R.of, raiseS, asgS, nameG, nilG, consG, tupG, isD, nisD, isNB, opS, pNone, pSome, seqI', itsD, sItS, putD, wipeE, backE, b1, eqD]
    refine (iteS_t hb).trans ?_
    unfold exprS eOfV
    rw [hp]
    rfl
  · refine ⟨O2 ++ [c], (seqS_nx a1).trans ?_, ⟨e2, fun e he => ?_, e4⟩, hlen⟩
    · have hne : ¬ (l : Int) = (i : Int) := by omega
      generalize nI xs = X
      generalize nI (O2 ++ [c]) = Y
      simp [-List.map_map, fnF, en0, seqS, passS, noS, exprS, retS, retN, retM, putE, setS, iteS, vOfE, eOfV, oOfV, kI, kB, kS, kN, nmV, nmO, op1, op2, opC, tst, tru, truD, notT, andT, orT, blV, vbl, andV, orV, notV, iteE, aNil, aCons, lNil, lCons, tupE, lstE, dicE, Opd.get, callF, frR, callI, callL, own1, addD, subD, negD, cmpD, lenD, intD, tupD, lisD, absD, isiD, tyD, min2D, max2D, Pv.R.of, raiseS, asgS, nameG, nilG, consG, tupG, isD, nisD, isNB, opS, pNone, pSome, seqI', itsD, sItS, putD, wipeE, backE, b1, eqD, hne, hli]
    · rcases List.mem_append.mp he with z | z
      · exact e3 e z
      · rw [List.mem_singleton.mp z]
        exact ⟨⟨i, by omega, hc⟩, l, by omega, b2⟩
theorem hnc_ok {xs : List Int} (hl : xs.length ≤ 1000) (hN : NC (pf xs) xs.length) : F_has_no_crossing none [.tup (nI xs)] = .ok (.bl true, 0) none := by
  have a1 : g_has_no_crossing_1 (en0 5 none [.tup (nI xs)]) = .nx (he (.tup (nI xs)) (some (dicI [] [], 1)) none none none) := by
    generalize nI xs = X
    simp [-List.map_map, fnF, en0, seqS, passS, noS, exprS, retS, retN, retM, putE, setS, iteS, vOfE, eOfV, oOfV, kI, kB, kS, kN, nmV, nmO, op1, op2, opC, tst, tru, truD, notT, andT, orT, blV, vbl, andV, orV, notV, iteE, aNil, aCons, lNil, lCons, tupE, lstE, dicE, Opd.get, callF, frR, callI, callL, own1, addD, subD, negD, cmpD, lenD, intD, tupD, lisD, absD, isiD, tyD, min2D, max2D, Pv.R.of, raiseS, asgS, nameG, nilG, consG, tupG, isD, nisD, isNB, opS, pNone, pSome, seqI', itsD, sItS, putD, wipeE, backE]
    rfl
  obtain ⟨d, x, c, a2, hd⟩ := nc_last_ok hl
  have a3 : g_has_no_crossing_3 (he (.tup (nI xs)) (some (d, 1)) none x c) = .nx (he (.tup (nI xs)) (some (d, 1)) (some (.lst (nI []), 1)) x c) := by
    generalize nI xs = X
    simp [-List.map_map, fnF, en0, seqS, passS, noS, exprS, retS, retN, retM, putE, setS, iteS, vOfE, eOfV, oOfV, kI, kB, kS, kN, nmV, nmO, op1, op2, opC, tst, tru, truD, notT, andT, orT, blV, vbl, andV, orV, notV, iteE, aNil, aCons, lNil, lCons, tupE, lstE, dicE, Opd.get, callF, frR, callI, callL, own1, addD, subD, negD, cmpD, lenD, intD, tupD, lisD, absD, isiD, tyD, min2D, max2D, Pv.R.of, raiseS, asgS, nameG, nilG, consG, tupG, isD, nisD, isNB, opS, pNone, pSome, seqI', itsD, sItS, putD, wipeE, backE]
    rfl
  obtain ⟨e, h1, O, x', c', rfl, h2, h3⟩ := loopS_ex (g := tupG 2 (consG (nameG 3) (consG (nameG 4) nilG))) (body := lb_has_no_crossing_2) (fun q : Int × Nat => D.tup [.int (q.2 : Nat), .int q.1]) xs.zipIdx (fun i env => ∃ O x c, env = he (.tup (nI xs)) (some (d, 1)) (some (.lst (nI O), 1)) x c ∧ Op xs O i ∧ O.length ≤ i)
    (he (.tup (nI xs)) (some (d, 1)) (some (.lst (nI []), 1)) x c) ⟨[], x, c, rfl, ⟨List.nodup_nil, (fun d hd => by cases hd), List.Pairwise.nil⟩, Nat.le_refl _⟩ (fun i hi env hP => by
      obtain ⟨O, x, c, rfl, h2, h3⟩ := hP
      have hi' : i < xs.length := by simpa using hi
      have hx : xs[i]? = some xs[i] := List.getElem?_eq_getElem hi'
      obtain ⟨O', p1, p2, p3⟩ := hn_step hN hd h2 h3 (by omega) hi' hx
      have hq : xs.zipIdx[i] = (xs[i], i) := by simp
      rw [hq]
      refine ⟨he (.tup (nI xs)) (some (d, 1)) (some (.lst (nI O), 1)) (some (.int i, 0)) (some (.int xs[i], 0)), _, ?_, p1, O', _, _, rfl, p2, p3⟩
      generalize xs[i] = m at *
      generalize nI xs = X at *
      generalize nI O = Y at *
      simp [-List.map_map, fnF, en0, seqS, passS, noS, exprS, retS, retN, retM, putE, setS, iteS, vOfE, eOfV, oOfV, kI, kB, kS, kN, nmV, nmO, op1, op2, opC, tst, tru, truD, notT, andT, orT, blV, vbl, andV, orV, notV, iteE, aNil, aCons, lNil, lCons, tupE, lstE, dicE, Opd.get, callF, frR, callI, callL, own1, addD, subD, negD, cmpD, lenD, intD, tupD, lisD, absD, isiD, tyD, min2D, max2D, Pv.R.of, raiseS, asgS, nameG, nilG, consG, tupG, isD, nisD, isNB, opS, pNone, pSome, seqI', itsD, sItS, putD, wipeE, backE])
  rw [← enum_ints] at h1
  have a4 : g_has_no_crossing_4 (he (.tup (nI xs)) (some (d, 1)) (some (.lst (nI []), 1)) x c) = .nx (he (.tup (nI xs)) (some (d, 1)) (some (.lst (nI O), 1)) x' c') := by
    refine (forS_ok (ds := enumL (nI xs)) (env1 := he (.tup (nI xs)) (some (d, 1)) (some (.lst (nI []), 1)) x c) ?_).trans h1
    generalize nI xs = X
    simp [-List.map_map, fnF, en0, seqS, passS, noS, exprS, retS, retN, retM, putE, setS, iteS, vOfE, eOfV, oOfV, kI, kB, kS, kN, nmV, nmO, op1, op2, opC, tst, tru, truD, notT, andT, orT, blV, vbl, andV, orV, notV, iteE, aNil, aCons, lNil, lCons, tupE, lstE, dicE, Opd.get, callF, frR, callI, callL, own1, addD, subD, negD, cmpD, lenD, intD, tupD, lisD, absD, isiD, tyD, min2D, max2D, Pv.R.of, raiseS, asgS, nameG, nilG, consG, tupG, isD, nisD, isNB, opS, pNone, pSome, seqI', itsD, sItS, putD, wipeE, backE, enumI, enumD]
  have a5 : g_has_no_crossing_5 (he (.tup (nI xs)) (some (d, 1)) (some (.lst (nI O), 1)) x' c') = .ret (.bl true, 0) (he (.tup (nI xs)) (some (d, 1)) (some (.lst (nI O), 1)) x' c') := by
    generalize nI xs = X
    generalize nI O = Y
    simp [-List.map_map, fnF, en0, seqS, passS, noS, exprS, retS, retN, retM, putE, setS, iteS, vOfE, eOfV, oOfV, kI, kB, kS, kN, nmV, nmO, op1, op2, opC, tst, tru, truD, notT, andT, orT, blV, vbl, andV, orV, notV, iteE, aNil, aCons, lNil, lCons, tupE, lstE, dicE, Opd.get, callF, frR, callI, callL, own1, addD, subD, negD, cmpD, lenD, intD, tupD, lisD, absD, isiD, tyD, min2D, max2D, Pv.R.of, raiseS, asgS, nameG, nilG, consG, tupG, isD, nisD, isNB, opS, pNone, pSome, seqI', itsD, sItS, putD, wipeE, backE]
  exact fnF_ret ((seqS_nx a1).trans ((seqS_nx a2).trans ((seqS_nx a3).trans ((seqS_nx a4).trans a5))))
end L17
end

section
open Pv PySem PM KR
set_option Elab.async false
set_option linter.all false
set_option maxRecDepth 100000
namespace L17
/-! blocks as lists of places -/
theorem mem_blk {xs : List Int} {c i : Nat} : i ∈ blk xs c ↔ xs[i]? = some (c : Int) := by
  unfold blk blkU
  rw [List.mem_filter, List.mem_range, decide_eq_true_eq]
  exact ⟨fun h => h.2, fun h => ⟨(List.getElem?_eq_some_iff.mp h).1, h⟩⟩
theorem blk_asc (xs : List Int) (c : Nat) : (blk xs c).Pairwise (· < ·) := List.pairwise_lt_range.filter _
theorem blk_prev {xs : List Int} {c k : Nat} (hk : k < (blk xs c).length) : ∃ w : Nat, Prev (pf xs) xs.length (blk xs c)[k] w ∧ idxD (bD (blk xs c)) (.int ((k : Int) - 1)) = some (.int w, 0) := by
  have hmono := List.pairwise_iff_getElem.mp (blk_asc xs c)
  have hm : ∀ j (hj : j < (blk xs c).length), xs[(blk xs c)[j]]? = some (c : Int) := fun j hj => mem_blk.mp (List.getElem_mem hj)
  have hlt : ∀ j (hj : j < (blk xs c).length), (blk xs c)[j] < xs.length := fun j hj => (List.getElem?_eq_some_iff.mp (hm j hj)).1
  have hin : ∀ i, pf xs i = some (c : Int) → ∃ j, ∃ hj : j < (blk xs c).length, (blk xs c)[j] = i := fun i hi => List.getElem_of_mem (mem_blk.mpr hi)
  have le : ∀ i j (hi : i < (blk xs c).length) (hj : j < (blk xs c).length), (blk xs c)[i] < (blk xs c)[j] → i < j := fun i j hi hj h => by
    apply Decidable.byContradiction
    intro q
    by_cases e : i = j
    · subst e; omega
    · have := hmono j i hj hi (by omega)
      omega
  by_cases h0 : k = 0
  · subst h0
    refine ⟨(blk xs c)[(blk xs c).length - 1], ⟨hlt _ (by omega), by rw [pf, pf, hm _ (by omega), hm 0 hk], .inr ⟨?_, fun i hi he => ?_, fun i hi hin' he => ?_⟩⟩, ?_⟩
    · by_cases e : (blk xs c).length - 1 = 0
      · simp only [e]; exact Nat.le_refl _
      · exact Nat.le_of_lt (hmono 0 ((blk xs c).length - 1) hk (by omega) (by omega))
    · rw [show pf xs (blk xs c)[0] = _ from hm 0 hk] at he
      obtain ⟨j, hj, rfl⟩ := hin i he
      have := le j 0 hj hk hi
      omega
    · rw [show pf xs (blk xs c)[0] = _ from hm 0 hk] at he
      obtain ⟨j, hj, rfl⟩ := hin i he
      have := le ((blk xs c).length - 1) j (by omega) hj hi
      omega
    · have e1 : ((0 : Nat) : Int) - 1 = -1 := by omega
      rw [e1]
      have h2 : L2.ixN ((blk xs c).map nD).length (-1) = some ((blk xs c).length - 1) := by
        have : -((blk xs c).length : Int) ≤ -1 := by omega
        rw [List.length_map]
        simp [L2.ixN, this]
        omega
      show (L2.atI ((blk xs c).map nD) (-1)).map (·, 0) = _
      unfold L2.atI
      rw [h2]
      have h3 : (blk xs c).length - 1 < (blk xs c).length := by omega
      simp [nD, List.getElem?_eq_getElem h3]
  · refine ⟨(blk xs c)[k - 1], ⟨hlt _ (by omega), by rw [pf, pf, hm _ (by omega), hm k hk], .inl ⟨hmono (k - 1) k (by omega) hk (by omega), fun i hi1 hi2 he => ?_⟩⟩, ?_⟩
    · rw [show pf xs (blk xs c)[k] = _ from hm k hk] at he
      obtain ⟨j, hj, rfl⟩ := hin i he
      have a1 := le (k - 1) j (by omega) hj hi1
      have a2 := le j k hj hk hi2
      omega
    · have e1 : (k : Int) - 1 = ((k - 1 : Nat) : Int) := by omega
      rw [e1]
      have h3 : k - 1 < ((blk xs c).map nD).length := by simp; omega
      have := idx_tup h3
      unfold bD
      rw [this]
      simp [nD]
abbrev oe (p B : List Int) (b m s k x : Sl) : En := [some (.tup (nI p), 0), some (.int p.length, 0), some (.lst (nI B), 1), b, m, s, k, x]
/-- before: what is known of a place -/
def Bf (p B : List Int) (z : Nat) : Prop := ∃ w : Nat, gx B z = w ∧ Prev (pf p) p.length z w
theorem gx_set {M : List Int} {y : Nat} {v : Int} (h : y < M.length) (i : Nat) : gx (M.set y v) i = if i = y then v else gx M i := by
  by_cases q : i = y
  · subst q
    rw [if_pos rfl]
    simp only [gx, List.getD_eq_getElem?_getD]
    rw [List.getElem?_set_self h]
    rfl
  · rw [if_neg q]
    simp only [gx, List.getD_eq_getElem?_getD]
    rw [List.getElem?_set_ne (fun z => q z.symm)]
theorem bf_step {p B : List Int} {c k : Nat} (hB : B.length = p.length) (hk : k < (blk p c).length) (m s x : Sl) : ∃ B', lb_complement_of_1 (oe p B (some (bD (blk p c), 0)) m s (some (.int k, 0)) x) = .nx (oe p B' (some (bD (blk p c), 0)) m s (some (.int k, 0)) x) ∧ B'.length = p.length ∧ Bf p B' (blk p c)[k] ∧ ∀ z, Bf p B z → Bf p B' z := by
  obtain ⟨w, h1, h2⟩ := blk_prev hk
  have hz : (blk p c)[k] < p.length := (List.getElem?_eq_some_iff.mp (mem_blk.mp (List.getElem_mem hk))).1
  have h3 : idxD (bD (blk p c)) (.int k) = some (.int (blk p c)[k], 0) := by
    unfold bD
    rw [idx_tup (by simpa using hk)]
    simp [nD]
  have hp := put_nI (f := B) (y := (blk p c)[k]) (w : Int) (by omega)
  generalize (blk p c)[k] = y at *
  have hb : Bf p (B.set y w) y := ⟨w, by rw [gx_set (by omega), if_pos rfl], h1⟩
  refine ⟨B.set y w, ?_, by simp [hB], hb, fun z hz' => ?_⟩
  · show lb_complement_of_1 [some (.tup (nI p), 0), some (.int p.length, 0), some (.lst (nI B), 1), some (bD (blk p c), 0), m, s, some (.int k, 0), x] = .nx [some (.tup (nI p), 0), some (.int p.length, 0), some (.lst (nI (B.set y w)), 1), some (bD (blk p c), 0), m, s, some (.int k, 0), x]
    generalize bD (blk p c) = Q at *
    generalize nI (B.set y w) = Z at *
    generalize nI B = Y at *
    generalize nI p = X at *
    simp [-List.map_map, sItS, vOfE, op2, nmO, Opd.get, oOfV, kI, eOfV, subD, h2, h3, hp, Pv.R.of]
  · by_cases q : z = y
    · subst q; exact hb
    · obtain ⟨w', a1, a2⟩ := hz'
      exact ⟨w', by rw [gx_set (by omega), if_neg q, a1], a2⟩
theorem bf_block {p B : List Int} {c : Nat} (hl : p.length ≤ 1000) (hB : B.length = p.length) (m s k x : Sl) : ∃ B' k', lb_complement_of_2 (oe p B (some (bD (blk p c), 0)) m s k x) = .nx (oe p B' (some (bD (blk p c), 0)) m s k' x) ∧ B'.length = p.length ∧ (∀ z, Bf p B z → Bf p B' z) ∧ ∀ z, z ∈ blk p c → Bf p B' z := by
  have hbl : (blk p c).length ≤ p.length := blkU_len p p.length c
  have hf : lb_complement_of_2 (oe p B (some (bD (blk p c), 0)) m s k x) = _ := forS_ok (rg1_ok (n := (blk p c).length) (env1 := oe p B (some (bD (blk p c), 0)) m s k x) (by
    have : lenD (bD (blk p c)) = some (.int (blk p c).length, 0) := by simp [lenD, bD]
    show aCons _ aNil [some (.tup (nI p), 0), some (.int p.length, 0), some (.lst (nI B), 1), some (bD (blk p c), 0), m, s, k, x] = .ok _ [some (.tup (nI p), 0), some (.int p.length, 0), some (.lst (nI B), 1), some (bD (blk p c), 0), m, s, k, x]
    generalize bD (blk p c) = Q at *
    generalize nI B = Y
    generalize nI p = X
    simp [aCons, aNil, vOfE, op1, nmO, Opd.get, this, Pv.R.of]) (by omega))
  rw [hf]
  obtain ⟨e, h1, B', k', rfl, h2, h3, h4⟩ := loopS_ex (g := nameG 6) (body := lb_complement_of_1) (fun k : Nat => D.int k) (List.range (blk p c).length) (fun i env => ∃ B' k', env = oe p B' (some (bD (blk p c), 0)) m s k' x ∧ B'.length = p.length ∧ (∀ z, Bf p B z → Bf p B' z) ∧ ∀ j (hj : j < (blk p c).length), j < i → Bf p B' (blk p c)[j])
    (oe p B (some (bD (blk p c), 0)) m s k x) ⟨B, k, rfl, hB, fun z h => h, fun j _ h => by omega⟩ fun i hi env hP => by
      obtain ⟨B', k', rfl, h2, h3, h4⟩ := hP
      simp only [List.length_range] at hi
      obtain ⟨B2, q1, q2, q3, q4⟩ := bf_step (c := c) h2 hi m s x
      refine ⟨oe p B' (some (bD (blk p c), 0)) m s (some (.int i, 0)) x, _, ?_, q1, B2, _, rfl, q2, fun z hz => q4 z (h3 z hz), fun j hj hji => ?_⟩
      · show nameG 6 _ [some (.tup (nI p), 0), some (.int p.length, 0), some (.lst (nI B'), 1), some (bD (blk p c), 0), m, s, k', x] = some [some (.tup (nI p), 0), some (.int p.length, 0), some (.lst (nI B'), 1), some (bD (blk p c), 0), m, s, some (.int i, 0), x]
        generalize bD (blk p c) = Q
        generalize nI B' = Y
        generalize nI p = X
        simp [-List.map_map, fnF, en0, seqS, passS, noS, exprS, retS, retN, retM, putE, setS, iteS, vOfE, eOfV, oOfV, kI, kB, kS, kN, nmV, nmO, op1, op2, opC, tst, tru, truD, notT, andT, orT, blV, vbl, andV, orV, notV, iteE, aNil, aCons, lNil, lCons, tupE, lstE, dicE, Opd.get, callF, frR, callI, callL, own1, addD, subD, negD, cmpD, lenD, intD, tupD, lisD, absD, isiD, tyD, min2D, max2D, Pv.R.of, raiseS, asgS, nameG, nilG, consG, tupG, isD, nisD, isNB, opS, pNone, pSome, seqI', itsD, sItS, putD, wipeE, backE, List.getElem_range]
      · by_cases e : j = i
        · subst e; exact q3
        · exact q4 _ (h4 j hj (by omega))
  refine ⟨B', k', h1, h2, h3, fun z hz => ?_⟩
  obtain ⟨j, hj, rfl⟩ := List.getElem_of_mem hz
  exact h4 j hj (by simpa using hj)
theorem bf_all {K : Nat} {p B : List Int} (hK : RG K p) (hl : p.length ≤ 12) (hB : B.length = p.length) : ∃ B' b k, g_complement_of_3 (oe p B none none none none none) = .nx (oe p B' b none none k none) ∧ B'.length = p.length ∧ ∀ z, z < p.length → Bf p B' z := by
  have hKl := rg_le hK
  have hb := blocks_ok hK hl
  have hf : g_complement_of_3 (oe p B none none none none none) = _ := forS_ok (ds := bks K p) (env1 := oe p B none none none none none) (by
    show seqI' _ [some (.tup (nI p), 0), some (.int p.length, 0), some (.lst (nI B), 1), none, none, none, none, none] = .ok _ [some (.tup (nI p), 0), some (.int p.length, 0), some (.lst (nI B), 1), none, none, none, none, none]
    generalize bks K p = Q at *
    generalize nI B = Y
    generalize nI p = X at *
    simp [-List.map_map, fnF, en0, seqS, passS, noS, exprS, retS, retN, retM, putE, setS, iteS, vOfE, eOfV, oOfV, kI, kB, kS, kN, nmV, nmO, op1, op2, opC, tst, tru, truD, notT, andT, orT, blV, vbl, andV, orV, notV, iteE, aNil, aCons, lNil, lCons, tupE, lstE, dicE, Opd.get, callF, frR, callI, callL, own1, addD, subD, negD, cmpD, lenD, intD, tupD, lisD, absD, isiD, tyD, min2D, max2D, Pv.R.of, raiseS, asgS, nameG, nilG, consG, tupG, isD, nisD, isNB, opS, pNone, pSome, seqI', itsD, sItS, putD, wipeE, backE, hb])
  rw [hf]
  unfold bks
  obtain ⟨e, h1, B', b, k, rfl, h2, h3⟩ := loopS_ex (g := nameG 3) (body := lb_complement_of_2) (fun c => bD (blk p c)) (List.range K) (fun i env => ∃ B' b k, env = oe p B' b none none k none ∧ B'.length = p.length ∧ ∀ c, c < i → ∀ z, z ∈ blk p c → Bf p B' z)
    (oe p B none none none none none) ⟨B, none, none, rfl, hB, fun c h => by omega⟩ fun i hi env hP => by
      obtain ⟨B', b, k, rfl, h2, h3⟩ := hP
      obtain ⟨B2, k', q1, q2, q3, q4⟩ := bf_block (p := p) (c := i) (by omega) h2 none none k none
      refine ⟨oe p B' (some (bD (blk p i), 0)) none none k none, _, ?_, q1, B2, _, _, rfl, q2, fun c hc z hz => ?_⟩
      · show nameG 3 _ [some (.tup (nI p), 0), some (.int p.length, 0), some (.lst (nI B'), 1), b, none, none, k, none] = some [some (.tup (nI p), 0), some (.int p.length, 0), some (.lst (nI B'), 1), some (bD (blk p i), 0), none, none, k, none]
        have e : (List.range K)[i] = i := List.getElem_range hi
        rw [e]
        generalize bD (blk p i) = Q
        generalize nI B' = Y
        generalize nI p = X
        simp [-List.map_map, fnF, en0, seqS, passS, noS, exprS, retS, retN, retM, putE, setS, iteS, vOfE, eOfV, oOfV, kI, kB, kS, kN, nmV, nmO, op1, op2, opC, tst, tru, truD, notT, andT, orT, blV, vbl, andV, orV, notV, iteE, aNil, aCons, lNil, lCons, tupE, lstE, dicE, Opd.get, callF, frR, callI, callL, own1, addD, subD, negD, cmpD, lenD, intD, tupD, lisD, absD, isiD, tyD, min2D, max2D, Pv.R.of, raiseS, asgS, nameG, nilG, consG, tupG, isD, nisD, isNB, opS, pNone, pSome, seqI', itsD, sItS, putD, wipeE, backE]
      · by_cases e : c = i
        · subst e; exact q4 z hz
        · exact q3 z (h3 c (by omega) z hz)
  rw [List.length_range] at h3
  refine ⟨B', b, k, h1, h2, fun z hz => ?_⟩
  have e := gx_pf hz
  have hm := (rg_mem hK (gx p z)).mp (List.mem_of_getElem? e)
  exact h3 (gx p z).toNat (by omega) z (mem_blk.mpr (by rw [e]; congr 1; omega))
end L17
end

section
open Pv PySem PM KR
set_option Elab.async false
set_option linter.all false
set_option maxRecDepth 100000
namespace L17
/-! orbits -/
def mD : Option Nat → D
  | none => .non
  | some s => .int s
def mx (M : List (Option Nat)) (v : Nat) : Option Nat := M.getD v none
theorem mx_set {M : List (Option Nat)} {y : Nat} {o : Option Nat} (h : y < M.length) (i : Nat) : mx (M.set y o) i = if i = y then o else mx M i := by
  by_cases q : i = y
  · subst q
    rw [if_pos rfl]
    simp only [mx, List.getD_eq_getElem?_getD]
    rw [List.getElem?_set_self h]
    rfl
  · rw [if_neg q]
    simp only [mx, List.getD_eq_getElem?_getD]
    rw [List.getElem?_set_ne (fun z => q z.symm)]
theorem mx_lt {M : List (Option Nat)} {v t : Nat} (h : mx M v = some t) : v < M.length := by
  apply Decidable.byContradiction
  intro q
  simp only [mx, List.getD_eq_getElem?_getD] at h
  rw [List.getElem?_eq_none (by omega)] at h
  cases h
/-- the unmarked places' number -/
def nn (M : List (Option Nat)) : Nat := M.countP fun o => o.isNone
theorem nn_set : ∀ {M : List (Option Nat)} {y s : Nat}, y < M.length → mx M y = none → nn (M.set y (some s)) + 1 = nn M
  | [], _, _, h, _ => by simp at h
  | o :: M, 0, s, _, h => by
    have : o = none := h
    subst this
    simp [nn]
  | o :: M, y + 1, s, h, hm => by
    have ih := nn_set (M := M) (y := y) (s := s) (by simpa using h) hm
    unfold nn at ih ⊢
    rw [List.set_cons_succ, List.countP_cons, List.countP_cons]
    omega
section
variable {n : Nat} {f : Nat → Option Int} {sg : Nat → Nat}
/-- on the way from s -/
structure Way (f : Nat → Option Int) (n : Nat) (sg : Nat → Nat) (M0 M : List (Option Nat)) (s x : Nat) : Prop where
  len : M.length = n
  hx : x < n
  rx : Rel f n s x
  old : ∀ v t, mx M0 v = some t → mx M v = some t
  new : ∀ v t, mx M v = some t → mx M0 v = some t ∨ (t = s ∧ v < n ∧ Rel f n s v)
  nxt : ∀ v, mx M v = some s → sg v = x ∨ mx M (sg v) ≠ none
  st : x = s ∨ mx M s = some s
theorem Way.step {M0 M : List (Option Nat)} {s x : Nat} (h : Way f n sg M0 M s x) (hr : ∀ v, v < n → Rel f n v (sg v)) (hs : ∀ v, v < n → sg v < n) (hm : mx M x = none) : Way f n sg M0 (M.set x (some s)) s (sg x) := by
  have hl := h.len
  have hx := h.hx
  refine ⟨by simp [hl], hs x hx, h.rx.trans (hr x hx), fun v t hv => ?_, fun v t hv => ?_, fun v hv => ?_, ?_⟩
  · rw [mx_set (by omega)]
    split
    · rename_i e
      subst e
      rw [h.old v t hv] at hm
      cases hm
    · exact h.old v t hv
  · rw [mx_set (by omega)] at hv
    split at hv
    · rename_i e
      subst e
      exact .inr ⟨(Option.some.inj hv).symm, hx, h.rx⟩
    · exact h.new v t hv
  · rw [mx_set (by omega)] at hv
    split at hv
    · rename_i e
      subst e
      exact .inl rfl
    · right
      rw [mx_set (by omega)]
      by_cases q : sg v = x
      · rw [if_pos q]
        exact fun z => by cases z
      · rw [if_neg q]
        rcases h.nxt v hv with e | e
        · exact (q e).elim
        · exact e
  · right
    rw [mx_set (by omega)]
    split
    · rfl
    · rename_i q
      rcases h.st with e | e
      · exact (q e.symm).elim
      · exact e
structure Cl (f : Nat → Option Int) (n : Nat) (M : List (Option Nat)) (s : Nat) : Prop where
  len : M.length = n
  rel : ∀ v t, mx M v = some t → Rel f n t v ∧ t < s
  uni : ∀ v t u, mx M v = some t → u < n → Rel f n v u → mx M u = some t
  all : ∀ v, v < s → v < n → mx M v ≠ none
theorem Cl.skip {M : List (Option Nat)} {s : Nat} (h : Cl f n M s) (hm : mx M s ≠ none) : Cl f n M (s + 1) :=
  ⟨h.len, fun v t hv => ⟨(h.rel v t hv).1, by have := (h.rel v t hv).2; omega⟩, h.uni, fun v hv hn => by
    by_cases e : v = s
    · subst e; exact hm
    · exact h.all v (by omega) hn⟩
theorem Cl.way {M0 M : List (Option Nat)} {s x : Nat} (hN : NC f n) (hp : ∀ x, x < n → Prev f n ((x + 1) % n) (sg x)) (h : Cl f n M0 s) (hs : s < n) (h0 : mx M0 s = none) (w : Way f n sg M0 M s x) (hm : mx M x ≠ none) : Cl f n M (s + 1) := by
  have hr : ∀ v, v < n → Rel f n v (sg v) := fun v hv => rel_prevM hN hv (hp v hv)
  have hnos : ∀ v, mx M0 v ≠ some s := fun v hv => by have := (h.rel v s hv).2; omega
  have hss : mx M s = some s := by
    rcases w.st with e | e
    · subst e
      cases q : mx M x with
      | none => exact (hm q).elim
      | some t =>
        rcases w.new x t q with z | ⟨z, _⟩
        · rw [h0] at z; cases z
        · rw [z]
    · exact e
  have hrs : ∀ v, mx M v = some s → v < n ∧ Rel f n s v := fun v hv => by
    rcases w.new v s hv with z | ⟨_, z⟩
    · exact (hnos v z).elim
    · exact z
  have hcl : ∀ v, mx M v = some s → mx M (sg v) = some s := fun v hv => by
    obtain ⟨hvn, hvr⟩ := hrs v hv
    have : mx M (sg v) ≠ none := by
      rcases w.nxt v hv with e | e
      · rw [e]; exact hm
      · exact e
    cases q : mx M (sg v) with
    | none => exact (this q).elim
    | some t =>
      rcases w.new _ t q with z | ⟨z, _⟩
      · have := h.uni _ t s z hs ((hvr.trans (hr v hvn)).symm)
        rw [h0] at this; cases this
      · rw [z]
  have hreach : ∀ u, u < n → Rel f n s u → mx M u = some s := fun u hu hR => by
    by_cases q : u < s
    · have hn := h.all u q hu
      cases e : mx M0 u with
      | none => exact (hn e).elim
      | some t =>
        have := h.uni u t s e hs hR.symm
        rw [h0] at this; cases this
    · exact reach hN hp s u (by omega) hu hR (fun v => mx M v = some s) hss fun v hv hT _ => hcl v hT
  refine ⟨w.len, fun v t hv => ?_, fun v t u hv hu hR => ?_, fun v hv hn => ?_⟩
  · rcases w.new v t hv with z | ⟨z, _, r⟩
    · exact ⟨(h.rel v t z).1, by have := (h.rel v t z).2; omega⟩
    · rw [z]; exact ⟨r, by omega⟩
  · rcases w.new v t hv with z | ⟨z, hvn, r⟩
    · exact w.old u t (h.uni v t u z hu hR)
    · rw [z]; exact hreach u hu (r.trans hR)
  · by_cases e : v = s
    · subst e
      rw [hss]; exact fun z => by cases z
    · have := h.all v (by omega) hn
      cases q : mx M0 v with
      | none => exact (this q).elim
      | some t => rw [w.old v t q]; exact fun z => by cases z
end
abbrev pe (p B : List Int) (M : List (Option Nat)) (b k s x : Sl) : En := [some (.tup (nI p), 0), some (.int p.length, 0), some (.lst (nI B), 1), b, some (.lst (M.map mD), 1), s, k, x]
theorem at_mx {M : List (Option Nat)} {x : Nat} (h : x < M.length) : idxD (.lst (M.map mD)) (.int x) = some (mD (mx M x), 0) := by
  rw [idx_lst (by simpa using h)]
  simp [mx, List.getElem?_eq_getElem h]
theorem put_mx {M : List (Option Nat)} {x s : Nat} (h : x < M.length) : putD (.lst (M.map mD)) (.int x) (.int s) = some (.lst ((M.set x (some s)).map mD)) := by
  have h2 : L2.ixN (M.map mD).length x = some x := by
    rw [List.length_map]
    have a : (0 : Int) ≤ x := by omega
    have b : (x : Int) < M.length := by omega
    simp [L2.ixN, a, b]
  show (L2.ixN (M.map mD).length x).map _ = _
  rw [h2]
  simp [List.map_set, mD]
theorem or_cond {p B : List Int} {M : List (Option Nat)} {x s : Nat} (b k : Sl) (h : x < M.length) : (tst (op2 isD (oOfV ((vOfE (op2 idxD (nmO 4) (nmO 7))))) (oOfV (kN)))) (pe p B M b k (some (.int s, 0)) (some (.int x, 0))) = .ok (mx M x).isNone (pe p B M b k (some (.int s, 0)) (some (.int x, 0))) := by
  have h1 := at_mx h
  show tst _ [some (.tup (nI p), 0), some (.int p.length, 0), some (.lst (nI B), 1), b, some (.lst (M.map mD), 1), some (.int s, 0), k, some (.int x, 0)] = R.ok _ [some (.tup (nI p), 0), some (.int p.length, 0), some (.lst (nI B), 1), b, some (.lst (M.map mD), 1), some (.int s, 0), k, some (.int x, 0)]
  generalize M.map mD = Y at *
  generalize nI B = Z at *
  generalize nI p = X at *
  cases hq : mx M x with
  | none =>
    rw [hq] at h1
    simp [-List.map_map, fnF, en0, seqS, passS, noS, exprS, retS, retN, retM, putE, setS, iteS, vOfE, eOfV, oOfV, kI, kB, kS, kN, nmV, nmO, op1, op2, opC, tst, tru, truD, notT, andT, orT, blV, vbl, andV, orV, notV, iteE, aNil, aCons, lNil, lCons, tupE, lstE, dicE, Opd.get, callF, frR, callI, callL, own1, addD, subD, negD, cmpD, lenD, intD, tupD, lisD, absD, isiD, tyD, min2D, max2D, Pv.R.of, raiseS, asgS, nameG, nilG, consG, tupG, isD, nisD, isNB, opS, pNone, pSome, seqI', itsD, sItS, putD, wipeE, backE, h1, mD]
  | some t =>
    rw [hq] at h1
    simp [-List.map_map, fnF, en0, seqS, passS, noS, exprS, retS, retN, retM, putE, setS, iteS, vOfE, eOfV, oOfV, kI, kB, kS, kN, nmV, nmO, op1, op2, opC, tst, tru, truD, notT, andT, orT, blV, vbl, andV, orV, notV, iteE, aNil, aCons, lNil, lCons, tupE, lstE, dicE, Opd.get, callF, frR, callI, callL, own1, addD, subD, negD, cmpD, lenD, intD, tupD, lisD, absD, isiD, tyD, min2D, max2D, Pv.R.of, raiseS, asgS, nameG, nilG, consG, tupG, isD, nisD, isNB, opS, pNone, pSome, seqI', itsD, sItS, putD, wipeE, backE, h1, mD]
theorem or_step {p B : List Int} {M : List (Option Nat)} {x s w : Nat} (b k : Sl) (h : x < M.length) (hM : M.length = p.length) (hB : B.length = p.length) (hw : gx B ((x + 1) % p.length) = w) : lb_complement_of_3 (pe p B M b k (some (.int s, 0)) (some (.int x, 0))) = .nx (pe p B (M.set x (some s)) b k (some (.int s, 0)) (some (.int w, 0))) := by
  have h1 := put_mx (s := s) h
  have h2 := atl_gx (xs := B) (i := (x + 1) % p.length) (by rw [hB]; exact Nat.mod_lt _ (by omega))
  rw [hw] at h2
  have hm : modD (.int ((x : Int) + 1)) (.int p.length) = some (.int ((x + 1) % p.length : Nat), 0) := by
    show (if (p.length : Int) ≠ 0 then some (D.int (((x : Int) + 1).fmod p.length), 0) else none) = _
    rw [if_pos (by omega), fmod_nat _ (by omega)]
    rw [show (x : Int) + 1 = ((x + 1 : Nat) : Int) by omega]
    rfl
  show lb_complement_of_3 [some (.tup (nI p), 0), some (.int p.length, 0), some (.lst (nI B), 1), b, some (.lst (M.map mD), 1), some (.int s, 0), k, some (.int x, 0)] = .nx [some (.tup (nI p), 0), some (.int p.length, 0), some (.lst (nI B), 1), b, some (.lst ((M.set x (some s)).map mD), 1), some (.int s, 0), k, some (.int w, 0)]
  generalize (x + 1) % p.length = y at *
  generalize (M.set x (some s)).map mD = Y' at *
  generalize M.map mD = Y at *
  generalize nI B = Z at *
  generalize nI p = X at *
  simp [-List.map_map, seqS, setS, putE, addD, sItS, vOfE, op2, nmO, nmV, Opd.get, oOfV, kI, eOfV, h1, h2, hm, Pv.R.of]
theorem or_loop {p B : List Int} (hN : NC (pf p) p.length) (hB : B.length = p.length) {sg : Nat → Nat} (hb : ∀ x, x < p.length → gx B ((x + 1) % p.length) = sg x) (hp : ∀ x, x < p.length → Prev (pf p) p.length ((x + 1) % p.length) (sg x)) (b k : Sl) {M0 : List (Option Nat)} {s : Nat} : ∀ (m : Nat) (M : List (Option Nat)) (x : Nat), nn M < m → Way (pf p) p.length sg M0 M s x → ∃ (M' : List (Option Nat)) (x' : Nat), whileS (tst (op2 isD (oOfV ((vOfE (op2 idxD (nmO 4) (nmO 7))))) (oOfV (kN)))) lb_complement_of_3 m (pe p B M b k (some (.int s, 0)) (some (.int x, 0))) = .nx (pe p B M' b k (some (.int s, 0)) (some (.int x', 0))) ∧ Way (pf p) p.length sg M0 M' s x' ∧ mx M' x' ≠ none
  | 0, M, x, h, _ => by omega
  | m + 1, M, x, h, w => by
    have hl := w.len
    have hx := w.hx
    have hc := or_cond (p := p) (B := B) (s := s) b k (M := M) (x := x) (by omega)
    unfold whileS
    rw [hc]
    cases q : mx M x with
    | some t => exact ⟨M, x, rfl, w, by rw [q]; exact fun z => by cases z⟩
    | none =>
      have hs := or_step (p := p) (B := B) (s := s) b k (M := M) (x := x) (w := sg x) (by omega) hl hB (hb x hx)
      have hw := w.step (fun v hv => rel_prevM hN hv (hp v hv)) (fun v hv => (hp v hv).1) q
      have hn := nn_set (s := s) (show x < M.length by omega) q
      obtain ⟨M', x', i1, i2, i3⟩ := or_loop hN hB hb hp b k m (M.set x (some s)) (sg x) (by omega) hw
      refine ⟨M', x', ?_, i2, i3⟩
      simp only [Option.isNone, R.then, if_true, hs]
      exact i1
theorem nn_le (M : List (Option Nat)) : nn M ≤ M.length := List.countP_le_length
theorem or_start {p B : List Int} (hl : p.length ≤ 12) (hN : NC (pf p) p.length) (hB : B.length = p.length) {sg : Nat → Nat} (hb : ∀ x, x < p.length → gx B ((x + 1) % p.length) = sg x) (hp : ∀ x, x < p.length → Prev (pf p) p.length ((x + 1) % p.length) (sg x)) (b k x : Sl) {M : List (Option Nat)} {s : Nat} (hs : s < p.length) (h : Cl (pf p) p.length M s) : ∃ M' x', lb_complement_of_4 (pe p B M b k (some (.int s, 0)) x) = .nx (pe p B M' b k (some (.int s, 0)) x') ∧ Cl (pf p) p.length M' (s + 1) := by
  have hM := h.len
  have a1 : (setS 7 ((eOfV ((nmV 5))))) (pe p B M b k (some (.int s, 0)) x) = .nx (pe p B M b k (some (.int s, 0)) (some (.int s, 0))) := by
    show setS 7 _ [some (.tup (nI p), 0), some (.int p.length, 0), some (.lst (nI B), 1), b, some (.lst (M.map mD), 1), some (.int s, 0), k, x] = SR.nx [some (.tup (nI p), 0), some (.int p.length, 0), some (.lst (nI B), 1), b, some (.lst (M.map mD), 1), some (.int s, 0), k, some (.int s, 0)]
    generalize M.map mD = Y at *
    generalize nI B = Z at *
    generalize nI p = X at *
    simp [-List.map_map, fnF, en0, seqS, passS, noS, exprS, retS, retN, retM, putE, setS, iteS, vOfE, eOfV, oOfV, kI, kB, kS, kN, nmV, nmO, op1, op2, opC, tst, tru, truD, notT, andT, orT, blV, vbl, andV, orV, notV, iteE, aNil, aCons, lNil, lCons, tupE, lstE, dicE, Opd.get, callF, frR, callI, callL, own1, addD, subD, negD, cmpD, lenD, intD, tupD, lisD, absD, isiD, tyD, min2D, max2D, Pv.R.of, raiseS, asgS, nameG, nilG, consG, tupG, isD, nisD, isNB, opS, pNone, pSome, seqI', itsD, sItS, putD, wipeE, backE]
  have hnn := nn_le M
  by_cases q : mx M s = none
  · obtain ⟨M', x', i1, i2, i3⟩ := or_loop hN hB hb hp b k (M0 := M) (s := s) 100 M s (by omega) ⟨hM, hs, Rel.rfl' s, fun v t hv => hv, fun v t hv => .inl hv, fun v hv => (by have := (h.rel v s hv).2; omega), .inl rfl⟩
    exact ⟨M', _, (seqS_nx a1).trans i1, h.way hN hp hs q i2 i3⟩
  · have hc := or_cond (p := p) (B := B) (s := s) b k (M := M) (x := s) (by omega)
    refine ⟨M, some (.int s, 0), (seqS_nx a1).trans ?_, h.skip q⟩
    show whileS _ _ (99 + 1) _ = _
    unfold whileS
    rw [hc]
    cases e : mx M s with
    | none => exact (q e).elim
    | some t => rfl
theorem mx_nones {n v : Nat} : mx (List.replicate n (none : Option Nat)) v = none := by
  simp only [mx, List.getD_eq_getElem?_getD, List.getElem?_replicate]
  split <;> rfl
theorem rep_one {α : Type} (n : Nat) (d : α) : (List.replicate n [d]).flatten = List.replicate n d := by
  induction n with
  | zero => rfl
  | succ n ih => rw [List.replicate_succ, List.flatten_cons, ih, List.replicate_succ]; rfl
theorem mul_rep (n : Nat) (d : D) (h : n ≤ 1000) : mulD (.lst [d]) (.int n) = some (.lst (List.replicate n d), 1) := by
  show (if [d].length * (n : Int).toNat ≤ lim ∧ -(2 ^ 63) ≤ (n : Int) ∧ (n : Int) < 2 ^ 63 then some (D.lst (List.replicate (n : Int).toNat [d]).flatten, 1) else none) = _
  rw [if_pos ⟨le_lim (by simp; omega), by omega, by omega⟩, Int.toNat_natCast, rep_one]
theorem complement_ok {K : Nat} {p : List Int} (hK : RG K p) (hl : p.length ≤ 12) (hN : NC (pf p) p.length) : ∃ q, F_complement_of none [.tup (nI p)] = .ok (.tup (nI q), 0) none ∧ KL p q := by
  have h1 := len_tup p
  have a1 : g_complement_of_1 (en0 8 none [.tup (nI p)]) = .nx [some (.tup (nI p), 0), some (.int p.length, 0), none, none, none, none, none, none] := by
    generalize nI p = X at *
    simp [setS, op1, nmO, en0, Opd.get, h1, Pv.R.of, putE]
  have a2 : g_complement_of_2 [some (.tup (nI p), 0), some (.int p.length, 0), none, none, none, none, none, none] = .nx (oe p (List.replicate p.length 0) none none none none none) := by
    have h2 := mul_rep p.length (.int 0) (by omega)
    have e : nI (List.replicate p.length 0) = List.replicate p.length (D.int 0) := by simp [nI]
    show _ = SR.nx [some (.tup (nI p), 0), some (.int p.length, 0), some (.lst (nI (List.replicate p.length 0)), 1), none, none, none, none, none]
    rw [e]
    generalize List.replicate p.length (D.int 0) = Z at *
    generalize nI p = X at *
    simp [-List.map_map, fnF, en0, seqS, passS, noS, exprS, retS, retN, retM, putE, setS, iteS, vOfE, eOfV, oOfV, kI, kB, kS, kN, nmV, nmO, op1, op2, opC, tst, tru, truD, notT, andT, orT, blV, vbl, andV, orV, notV, iteE, aNil, aCons, lNil, lCons, tupE, lstE, dicE, Opd.get, callF, frR, callI, callL, own1, addD, subD, negD, cmpD, lenD, intD, tupD, lisD, absD, isiD, tyD, min2D, max2D, Pv.R.of, raiseS, asgS, nameG, nilG, consG, tupG, isD, nisD, isNB, opS, pNone, pSome, seqI', itsD, sItS, putD, wipeE, backE, h2]
  obtain ⟨B, b, k, a3, hB, hbf⟩ := bf_all hK hl (B := List.replicate p.length 0) (by simp)
  obtain ⟨sg, hsg⟩ : ∃ sg : Nat → Nat, ∀ x, x < p.length → gx B ((x + 1) % p.length) = sg x ∧ Prev (pf p) p.length ((x + 1) % p.length) (sg x) := by
    refine ⟨fun x => (gx B ((x + 1) % p.length)).toNat, fun x hx => ?_⟩
    obtain ⟨w, h1, h2⟩ := hbf ((x + 1) % p.length) (Nat.mod_lt _ (by omega))
    have e : (gx B ((x + 1) % p.length)).toNat = w := by rw [h1]; exact Int.toNat_natCast w
    show gx B ((x + 1) % p.length) = ((gx B ((x + 1) % p.length)).toNat : Nat) ∧ Prev (pf p) p.length ((x + 1) % p.length) (gx B ((x + 1) % p.length)).toNat
    rw [e]
    exact ⟨h1, h2⟩
  have hb := fun x hx => (hsg x hx).1
  have hp := fun x hx => (hsg x hx).2
  have a4 : g_complement_of_4 (oe p B b none none k none) = .nx (pe p B (List.replicate p.length none) b k none none) := by
    have h2 := mul_rep p.length .non (by omega)
    have e : (List.replicate p.length (none : Option Nat)).map mD = List.replicate p.length D.non := by simp [mD]
    show g_complement_of_4 [some (.tup (nI p), 0), some (.int p.length, 0), some (.lst (nI B), 1), b, none, none, k, none] = SR.nx [some (.tup (nI p), 0), some (.int p.length, 0), some (.lst (nI B), 1), b, some (.lst ((List.replicate p.length (none : Option Nat)).map mD), 1), none, k, none]
    rw [e]
    generalize List.replicate p.length D.non = Z at *
    generalize nI B = Y at *
    generalize nI p = X at *
    simp [-List.map_map, fnF, en0, seqS, passS, noS, exprS, retS, retN, retM, putE, setS, iteS, vOfE, eOfV, oOfV, kI, kB, kS, kN, nmV, nmO, op1, op2, opC, tst, tru, truD, notT, andT, orT, blV, vbl, andV, orV, notV, iteE, aNil, aCons, lNil, lCons, tupE, lstE, dicE, Opd.get, callF, frR, callI, callL, own1, addD, subD, negD, cmpD, lenD, intD, tupD, lisD, absD, isiD, tyD, min2D, max2D, Pv.R.of, raiseS, asgS, nameG, nilG, consG, tupG, isD, nisD, isNB, opS, pNone, pSome, seqI', itsD, sItS, putD, wipeE, backE, h2]
  obtain ⟨e, he, M, s, x, rfl, hc⟩ := loopS_ex (g := nameG 5) (body := lb_complement_of_4) (fun k : Nat => D.int k) (List.range p.length) (fun i env => ∃ M s x, env = pe p B M b k s x ∧ Cl (pf p) p.length M i)
    (pe p B (List.replicate p.length none) b k none none) ⟨_, none, none, rfl, by simp, (fun v t hv => by rw [mx_nones] at hv; cases hv), (fun v t u hv => by rw [mx_nones] at hv; cases hv), (fun v hv => by omega)⟩ fun i hi env hP => by
      obtain ⟨M, s, x, rfl, hc⟩ := hP
      simp only [List.length_range] at hi
      obtain ⟨M', x', q1, q2⟩ := or_start hl hN hB hb hp b k x hi hc
      refine ⟨pe p B M b k (some (.int i, 0)) x, _, ?_, q1, M', _, _, rfl, q2⟩
      show nameG 5 _ [some (.tup (nI p), 0), some (.int p.length, 0), some (.lst (nI B), 1), b, some (.lst (M.map mD), 1), s, k, x] = some [some (.tup (nI p), 0), some (.int p.length, 0), some (.lst (nI B), 1), b, some (.lst (M.map mD), 1), some (.int i, 0), k, x]
      generalize M.map mD = Z
      generalize nI B = Y
      generalize nI p = X
      simp [-List.map_map, fnF, en0, seqS, passS, noS, exprS, retS, retN, retM, putE, setS, iteS, vOfE, eOfV, oOfV, kI, kB, kS, kN, nmV, nmO, op1, op2, opC, tst, tru, truD, notT, andT, orT, blV, vbl, andV, orV, notV, iteE, aNil, aCons, lNil, lCons, tupE, lstE, dicE, Opd.get, callF, frR, callI, callL, own1, addD, subD, negD, cmpD, lenD, intD, tupD, lisD, absD, isiD, tyD, min2D, max2D, Pv.R.of, raiseS, asgS, nameG, nilG, consG, tupG, isD, nisD, isNB, opS, pNone, pSome, seqI', itsD, sItS, putD, wipeE, backE, List.getElem_range]
  rw [List.length_range] at hc
  have a5 : g_complement_of_5 (pe p B (List.replicate p.length none) b k none none) = .nx (pe p B M b k s x) :=
    (forS_ok (rg1_ok (n := p.length) (env1 := pe p B (List.replicate p.length none) b k none none) (by
      show aCons (nmV 1) aNil [some (.tup (nI p), 0), some (.int p.length, 0), some (.lst (nI B), 1), b, some (.lst ((List.replicate p.length (none : Option Nat)).map mD), 1), none, k, none] = .ok _ [some (.tup (nI p), 0), some (.int p.length, 0), some (.lst (nI B), 1), b, some (.lst ((List.replicate p.length (none : Option Nat)).map mD), 1), none, k, none]
      generalize (List.replicate p.length (none : Option Nat)).map mD = Z
      generalize nI B = Y
      generalize nI p = X
      simp [-List.map_map, fnF, en0, seqS, passS, noS, exprS, retS, retN, retM, putE, setS, iteS, vOfE, eOfV, oOfV, kI, kB, kS, kN, nmV, nmO, op1, op2, opC, tst, tru, truD, notT, andT, orT, blV, vbl, andV, orV, notV, iteE, aNil, aCons, lNil, lCons, tupE, lstE, dicE, Opd.get, callF, frR, callI, callL, own1, addD, subD, negD, cmpD, lenD, intD, tupD, lisD, absD, isiD, tyD, min2D, max2D, Pv.R.of, raiseS, asgS, nameG, nilG, consG, tupG, isD, nisD, isNB, opS, pNone, pSome, seqI', itsD, sItS, putD, wipeE, backE]) (by omega))).trans he
  have hMl := hc.len
  have hL : M.map mD = nI (M.map fun o => ((o.getD 0 : Nat) : Int)) := by
    unfold nI
    rw [List.map_map]
    refine List.map_congr_left fun o ho => ?_
    obtain ⟨v, hv, rfl⟩ := List.getElem_of_mem ho
    have := hc.all v (by omega) (by omega)
    have e : mx M v = M[v] := by simp [mx, hv]
    rw [e] at this
    cases q : M[v] with
    | none => exact (this q).elim
    | some t => rfl
  have hg : ∀ v, v < p.length → ∃ t, mx M v = some t ∧ gx (M.map fun o => ((o.getD 0 : Nat) : Int)) v = t := fun v hv => by
    have := hc.all v hv hv
    have hv' : v < M.length := by omega
    have e : mx M v = M[v] := by simp [mx, hv']
    cases q : mx M v with
    | none => exact (this q).elim
    | some t =>
      refine ⟨t, rfl, ?_⟩
      rw [e] at q
      simp [gx, hv', q]
  generalize (M.map fun o => ((o.getD 0 : Nat) : Int)) = L at hL hg
  have hLl : L.length = p.length := by
    have := congrArg List.length hL
    simp only [List.length_map, nI] at this
    omega
  have hn := num_any (.lst (nI L)) L (by omega) rfl
  have a6 : g_complement_of_6 (pe p B M b k s x) = .ret (.tup (nI (fnum L)), 0) [some (.tup (nI p), 0), some (.int p.length, 0), some (.lst (nI B), 1), b, some (.lst (nI L), 0), s, k, x] := by
    show g_complement_of_6 [some (.tup (nI p), 0), some (.int p.length, 0), some (.lst (nI B), 1), b, some (.lst (M.map mD), 1), s, k, x] = _
    rw [hL]
    generalize nI (fnum L) = W at *
    generalize nI L = Z at *
    generalize nI B = Y at *
    generalize nI p = X at *
    simp [-List.map_map, fnF, en0, seqS, passS, noS, exprS, retS, retN, retM, putE, setS, iteS, vOfE, eOfV, oOfV, kI, kB, kS, kN, nmV, nmO, op1, op2, opC, tst, tru, truD, notT, andT, orT, blV, vbl, andV, orV, notV, iteE, aNil, aCons, lNil, lCons, tupE, lstE, dicE, Opd.get, callF, frR, callI, callL, own1, addD, subD, negD, cmpD, lenD, intD, tupD, lisD, absD, isiD, tyD, min2D, max2D, Pv.R.of, raiseS, asgS, nameG, nilG, consG, tupG, isD, nisD, isNB, opS, pNone, pSome, seqI', itsD, sItS, putD, wipeE, backE, hn]
  refine ⟨fnum L, fnF_ret ((seqS_nx a1).trans ((seqS_nx a2).trans ((seqS_nx a3).trans ((seqS_nx a4).trans ((seqS_nx a5).trans a6))))), by rw [len_fnum, hLl], fnum_idem L, fun a c ha hc' => ?_⟩
  rw [show (pf (fnum L) a = pf (fnum L) c) = ((fnum L)[a]? = (fnum L)[c]?) from rfl, fnum_at (by omega) (by omega), gx_eq (by omega) (by omega)]
  obtain ⟨t, t1, t2⟩ := hg a ha
  obtain ⟨u, u1, u2⟩ := hg c hc'
  rw [t2, u2]
  constructor
  · intro e
    have : t = u := by omega
    subst this
    exact (hc.rel a t t1).1.symm.trans (hc.rel c t u1).1
  · intro hR
    have := hc.uni a t c t1 hc' hR
    rw [u1] at this
    exact congrArg Int.ofNat (Option.some.inj this).symm
end L17
end

section
open Pv PySem PM KR
set_option Elab.async false
set_option linter.all false
set_option maxRecDepth 100000
namespace L17
theorem pl_odd : PlD (.str (PySem.Str.ofString "a word that nothing else is")) := ⟨by decide +kernel, by decide +kernel⟩
theorem pl_int (i : Int) : PlD (.int i) := ⟨by simp [plD], by simp [dpD]⟩
theorem odd_int (k : Nat) (i : Int) : F__law_odd (k + 1) none [.int i] = .ok (.bl false, 0) none := by
  have h1 := eqD_diff (pl_int i) pl_odd (by intro h; cases h)
  show fnF 2 false (g__law_odd (F__law_odd k)) none [.int i] = _
  unfold g__law_odd
  have h2 : isi2D "tuple" "list" (.int i) = some (.bl false, 0) := rfl
  simp [-List.map_map, fnF, en0, seqS, passS, noS, exprS, retS, retN, retM, putE, setS, iteS, vOfE, eOfV, oOfV, kI, kB, kS, kN, nmV, nmO, op1, op2, opC, tst, tru, truD, notT, andT, orT, blV, vbl, andV, orV, notV, iteE, aNil, aCons, lNil, lCons, tupE, lstE, dicE, Opd.get, callF, frR, callI, callL, own1, addD, subD, negD, cmpD, lenD, intD, tupD, lisD, absD, isiD, tyD, min2D, max2D, Pv.R.of, raiseS, asgS, nameG, nilG, consG, tupG, isD, nisD, isNB, opS, pNone, pSome, seqI', itsD, sItS, putD, wipeE, backE, h1, h2]
theorem odd_tup (k : Nat) (xs : List Int) (hl : xs.length ≤ 1000) : F__law_odd (k + 2) none [.tup (nI xs)] = .ok (.bl false, 0) none := by
  have h1 := eqD_diff (pl_nI xs) pl_odd (by intro h; cases h)
  have h2 : isi2D "tuple" "list" (.tup (nI xs)) = some (.bl true, 0) := rfl
  have c1 : cp__law_odd_1 (F__law_odd (k + 1)) [some (.tup (nI xs), 0), none] = .ok (.lst [], 1) [some (.tup (nI xs), 0), none] := by
    have e : ([] : List D) = (xs.filter fun _ => false).map D.int := by simp
    rw [e]
    refine comp_filter1 D.int D.int (fun _ => false) (env1 := [some (.tup (nI xs), 0), none]) ?_ rfl (by omega) fun c _ => ⟨?_, fun h => by cases h⟩
    · show seqI' (nmV 0) _ = .ok (nI xs) _
      generalize nI xs = X
      simp [-List.map_map, fnF, en0, seqS, passS, noS, exprS, retS, retN, retM, putE, setS, iteS, vOfE, eOfV, oOfV, kI, kB, kS, kN, nmV, nmO, op1, op2, opC, tst, tru, truD, notT, andT, orT, blV, vbl, andV, orV, notV, iteE, aNil, aCons, lNil, lCons, tupE, lstE, dicE, Opd.get, callF, frR, callI, callL, own1, addD, subD, negD, cmpD, lenD, intD, tupD, lisD, absD, isiD, tyD, min2D, max2D, Pv.R.of, raiseS, asgS, nameG, nilG, consG, tupG, isD, nisD, isNB, opS, pNone, pSome, seqI', itsD, sItS, putD, wipeE, backE]
    · have := odd_int k c
      generalize nI xs = X
      simp [-List.map_map, fnF, en0, seqS, passS, noS, exprS, retS, retN, retM, putE, setS, iteS, vOfE, eOfV, oOfV, kI, kB, kS, kN, nmV, nmO, op1, op2, opC, tst, tru, truD, notT, andT, orT, blV, vbl, andV, orV, notV, iteE, aNil, aCons, lNil, lCons, tupE, lstE, dicE, Opd.get, callF, frR, callI, callL, own1, addD, subD, negD, cmpD, lenD, intD, tupD, lisD, absD, isiD, tyD, min2D, max2D, Pv.R.of, raiseS, asgS, nameG, nilG, consG, tupG, isD, nisD, isNB, opS, pNone, pSome, seqI', itsD, sItS, putD, wipeE, backE, this]
  show fnF 2 false (g__law_odd (F__law_odd (k + 1))) none [.tup (nI xs)] = _
  unfold g__law_odd
  generalize nI xs = X at *
  simp [-List.map_map, fnF, en0, seqS, passS, noS, exprS, retS, retN, retM, putE, setS, iteS, vOfE, eOfV, oOfV, kI, kB, kS, kN, nmV, nmO, op1, op2, opC, tst, tru, truD, notT, andT, orT, blV, vbl, andV, orV, notV, iteE, aNil, aCons, lNil, lCons, tupE, lstE, dicE, Opd.get, callF, frR, callI, callL, own1, addD, subD, negD, cmpD, lenD, intD, tupD, lisD, absD, isiD, tyD, min2D, max2D, Pv.R.of, raiseS, asgS, nameG, nilG, consG, tupG, isD, nisD, isNB, opS, pNone, pSome, seqI', itsD, sItS, putD, wipeE, backE, h1, h2, c1]
theorem honest_tup (xs : List Int) (hl : xs.length ≤ 1000) : F__law_honest none [.tup (nI xs)] = .ok (.tup (nI xs), 0) none := by
  have h1 := odd_tup 4 xs hl
  generalize nI xs = X at *
  unfold F__law_honest g__law_honest
  simp [-List.map_map, fnF, en0, seqS, passS, noS, exprS, retS, retN, retM, putE, setS, iteS, vOfE, eOfV, oOfV, kI, kB, kS, kN, nmV, nmO, op1, op2, opC, tst, tru, truD, notT, andT, orT, blV, vbl, andV, orV, notV, iteE, aNil, aCons, lNil, lCons, tupE, lstE, dicE, Opd.get, callF, frR, callI, callL, own1, addD, subD, negD, cmpD, lenD, intD, tupD, lisD, absD, isiD, tyD, min2D, max2D, Pv.R.of, raiseS, asgS, nameG, nilG, consG, tupG, isD, nisD, isNB, opS, pNone, pSome, seqI', itsD, sItS, putD, wipeE, backE, h1]
theorem same_int (k : Nat) (i : Int) : F__law_same (k + 1) none [.int i, .int i] = .ok (.bl true, 0) none := by
  have h1 := isint_any (.int i) (by simp [tyD])
  have h2 : F__law_is_whole none [.int i] = .ok (.bl true, 0) none := h1
  show fnF 3 false (g__law_same (F__law_same k)) none [.int i, .int i] = _
  unfold g__law_same
  simp [-List.map_map, fnF, en0, seqS, passS, noS, exprS, retS, retN, retM, putE, setS, iteS, vOfE, eOfV, oOfV, kI, kB, kS, kN, nmV, nmO, op1, op2, opC, tst, tru, truD, notT, andT, orT, blV, vbl, andV, orV, notV, iteE, aNil, aCons, lNil, lCons, tupE, lstE, dicE, Opd.get, callF, frR, callI, callL, own1, addD, subD, negD, cmpD, lenD, intD, tupD, lisD, absD, isiD, tyD, min2D, max2D, Pv.R.of, raiseS, asgS, nameG, nilG, consG, tupG, isD, nisD, isNB, opS, pNone, pSome, seqI', itsD, sItS, putD, wipeE, backE, h2, eqD]
theorem same_tup (k : Nat) (xs : List Int) (hl : xs.length ≤ 1000) : F__law_same (k + 2) none [.tup (nI xs), .tup (nI xs)] = .ok (.bl true, 0) none := by
  have hXl : (nI xs).length = xs.length := by simp [nI]
  have c1 : cp__law_same_1 (F__law_same (k + 1)) [some (.tup (nI xs), 0), some (.tup (nI xs), 0), none] = .ok (.lst (((List.range xs.length).map fun _ => true).map D.bl), 1) [some (.tup (nI xs), 0), some (.tup (nI xs), 0), none] := by
    have h1 := fun z (hz : z < xs.length) => at_gx hz
    rw [List.map_map]
    generalize nI xs = X at *
    refine comp_map1 (fun k : Nat => .int k) _ (rg1_ok (n := xs.length) (env1 := [some (.tup X, 0), some (.tup X, 0), none]) (by simp [-List.map_map, fnF, en0, seqS, passS, noS, exprS, retS, retN, retM, putE, setS, iteS, vOfE, eOfV, oOfV, kI, kB, kS, kN, nmV, nmO, op1, op2, opC, tst, tru, truD, notT, andT, orT, blV, vbl, andV, orV, notV, iteE, aNil, aCons, lNil, lCons, tupE, lstE, dicE, Opd.get, callF, frR, callI, callL, own1, addD, subD, negD, cmpD, lenD, intD, tupD, lisD, absD, isiD, tyD, min2D, max2D, Pv.R.of, raiseS, asgS, nameG, nilG, consG, tupG, isD, nisD, isNB, opS, pNone, pSome, seqI', itsD, sItS, putD, wipeE, backE, hXl]) (by omega)) rfl (by simp; omega) fun j hj => ?_
    have h2 := h1 j (List.mem_range.mp hj)
    have h3 := same_int k (gx xs j)
    simp [-List.map_map, fnF, en0, seqS, passS, noS, exprS, retS, retN, retM, putE, setS, iteS, vOfE, eOfV, oOfV, kI, kB, kS, kN, nmV, nmO, op1, op2, opC, tst, tru, truD, notT, andT, orT, blV, vbl, andV, orV, notV, iteE, aNil, aCons, lNil, lCons, tupE, lstE, dicE, Opd.get, callF, frR, callI, callL, own1, addD, subD, negD, cmpD, lenD, intD, tupD, lisD, absD, isiD, tyD, min2D, max2D, Pv.R.of, raiseS, asgS, nameG, nilG, consG, tupG, isD, nisD, isNB, opS, pNone, pSome, seqI', itsD, sItS, putD, wipeE, backE, h2, h3]
  have h2 := allD_bl ((List.range xs.length).map fun _ => true)
  have h3 : ((List.range xs.length).map fun _ => true).all id = true := by simp
  rw [h3] at h2
  show fnF 3 false (g__law_same (F__law_same (k + 1))) none [.tup (nI xs), .tup (nI xs)] = _
  unfold g__law_same
  generalize ((List.range xs.length).map fun _ => true).map D.bl = B at *
  generalize nI xs = X at *
  simp [-List.map_map, fnF, en0, seqS, passS, noS, exprS, retS, retN, retM, putE, setS, iteS, vOfE, eOfV, oOfV, kI, kB, kS, kN, nmV, nmO, op1, op2, opC, tst, tru, truD, notT, andT, orT, blV, vbl, andV, orV, notV, iteE, aNil, aCons, lNil, lCons, tupE, lstE, dicE, Opd.get, callF, frR, callI, callL, own1, addD, subD, negD, cmpD, lenD, intD, tupD, lisD, absD, isiD, tyD, min2D, max2D, Pv.R.of, raiseS, asgS, nameG, nilG, consG, tupG, isD, nisD, isNB, opS, pNone, pSome, seqI', itsD, sItS, putD, wipeE, backE, c1, h2, eqD]
/-! what is told -/
/-- a noncrossing parting of at most twelve places -/
structure Pn (xs : List Int) : Prop where
  l : xs.length ≤ 12
  r : fnum xs = xs
  n : NC (pf xs) xs.length
theorem Pn.is {xs : List Int} (h : Pn xs) : F_is_parting none [.tup (nI xs)] = .ok (.bl true, 0) none := by
  rw [isp_ints xs h.l, decide_eq_true h.r]
theorem Pn.ck {xs : List Int} (h : Pn xs) : F_check_noncrossing none [.tup (nI xs)] = .ok (.non, 0) none := by
  have h1 := h.is
  have h2 := hnc_ok (by have := h.l; omega) h.n
  generalize nI xs = X at *
  unfold F_check_noncrossing g_check_noncrossing
  simp [-List.map_map, fnF, en0, seqS, passS, noS, exprS, retS, retN, retM, putE, setS, iteS, vOfE, eOfV, oOfV, kI, kB, kS, kN, nmV, nmO, op1, op2, opC, tst, tru, truD, notT, andT, orT, blV, vbl, andV, orV, notV, iteE, aNil, aCons, lNil, lCons, tupE, lstE, dicE, Opd.get, callF, frR, callI, callL, own1, addD, subD, negD, cmpD, lenD, intD, tupD, lisD, absD, isiD, tyD, min2D, max2D, Pv.R.of, raiseS, asgS, nameG, nilG, consG, tupG, isD, nisD, isNB, opS, pNone, pSome, seqI', itsD, sItS, putD, wipeE, backE, h1, h2]
theorem KL.pn {xs ys : List Int} (h : KL xs ys) (hl : xs.length ≤ 12) : Pn ys := ⟨by rw [h.1]; exact hl, h.2.1, by rw [h.1]; exact h.2.2.nc⟩
theorem Pn.kr {xs : List Int} (h : Pn xs) : ∃ q, F_complement_of none [.tup (nI xs)] = .ok (.tup (nI q), 0) none ∧ KL xs q := by
  obtain ⟨K, hK⟩ := rg_of h.r
  exact complement_ok hK h.l h.n
theorem Pn.told0 {xs q : List Int} (h : Pn xs) (hq : KL xs q) (s : D) : F__law_told none [.int 0, .tup (nI xs), s] = .ok (.tup (nI q), 0) none := by
  obtain ⟨q', h1, h2⟩ := h.kr
  have e := hq.uniq h2
  subst e
  have hc := h.ck
  have hh := honest_tup q (by rw [hq.1]; have := h.l; omega)
  generalize nI q = Q at *
  generalize nI xs = X at *
  have hk : F_kreweras none [.tup X] = .ok (.tup Q, 0) none := by
    unfold F_kreweras g_kreweras
    simp [-List.map_map, fnF, en0, seqS, passS, noS, exprS, retS, retN, retM, putE, setS, iteS, vOfE, eOfV, oOfV, kI, kB, kS, kN, nmV, nmO, op1, op2, opC, tst, tru, truD, notT, andT, orT, blV, vbl, andV, orV, notV, iteE, aNil, aCons, lNil, lCons, tupE, lstE, dicE, Opd.get, callF, frR, callI, callL, own1, addD, subD, negD, cmpD, lenD, intD, tupD, lisD, absD, isiD, tyD, min2D, max2D, Pv.R.of, raiseS, asgS, nameG, nilG, consG, tupG, isD, nisD, isNB, opS, pNone, pSome, seqI', itsD, sItS, putD, wipeE, backE, hc, h1]
  unfold F__law_told g__law_told
  simp [-List.map_map, fnF, en0, seqS, passS, noS, exprS, retS, retN, retM, putE, setS, iteS, vOfE, eOfV, oOfV, kI, kB, kS, kN, nmV, nmO, op1, op2, opC, tst, tru, truD, notT, andT, orT, blV, vbl, andV, orV, notV, iteE, aNil, aCons, lNil, lCons, tupE, lstE, dicE, Opd.get, callF, frR, callI, callL, own1, addD, subD, negD, cmpD, lenD, intD, tupD, lisD, absD, isiD, tyD, min2D, max2D, Pv.R.of, raiseS, asgS, nameG, nilG, consG, tupG, isD, nisD, isNB, opS, pNone, pSome, seqI', itsD, sItS, putD, wipeE, backE, tryS, hk, hh, eqD]
theorem Pn.told1 {xs q : List Int} (h : Pn xs) (hq : KL xs q) (s : D) : F__law_told none [.int 1, .tup (nI xs), s] = .ok (.tup (nI (fnum (turnL q 1))), 0) none := by
  obtain ⟨q', h1, h2⟩ := h.kr
  have e := hq.uniq h2
  subst e
  have hl := h.l
  have hc := h.ck
  have ht := turned_ok (xs := q) (by rw [hq.1]; omega) 1
  have hh := honest_tup (fnum (turnL q 1)) (by rw [len_fnum, turnL_len, hq.1]; omega)
  generalize nI (fnum (turnL q 1)) = T at *
  generalize nI q = Q at *
  generalize nI xs = X at *
  have hk : F_kreweras_back none [.tup X] = .ok (.tup T, 0) none := by
    unfold F_kreweras_back g_kreweras_back
    simp [-List.map_map, fnF, en0, seqS, passS, noS, exprS, retS, retN, retM, putE, setS, iteS, vOfE, eOfV, oOfV, kI, kB, kS, kN, nmV, nmO, op1, op2, opC, tst, tru, truD, notT, andT, orT, blV, vbl, andV, orV, notV, iteE, aNil, aCons, lNil, lCons, tupE, lstE, dicE, Opd.get, callF, frR, callI, callL, own1, addD, subD, negD, cmpD, lenD, intD, tupD, lisD, absD, isiD, tyD, min2D, max2D, Pv.R.of, raiseS, asgS, nameG, nilG, consG, tupG, isD, nisD, isNB, opS, pNone, pSome, seqI', itsD, sItS, putD, wipeE, backE, hc, h1, ht]
  unfold F__law_told g__law_told
  simp [-List.map_map, fnF, en0, seqS, passS, noS, exprS, retS, retN, retM, putE, setS, iteS, vOfE, eOfV, oOfV, kI, kB, kS, kN, nmV, nmO, op1, op2, opC, tst, tru, truD, notT, andT, orT, blV, vbl, andV, orV, notV, iteE, aNil, aCons, lNil, lCons, tupE, lstE, dicE, Opd.get, callF, frR, callI, callL, own1, addD, subD, negD, cmpD, lenD, intD, tupD, lisD, absD, isiD, tyD, min2D, max2D, Pv.R.of, raiseS, asgS, nameG, nilG, consG, tupG, isD, nisD, isNB, opS, pNone, pSome, seqI', itsD, sItS, putD, wipeE, backE, tryS, hk, hh, eqD]
theorem Pn.told2 {xs : List Int} (h : Pn xs) (s : Int) (h1 : -12 ≤ s) (h2 : s ≤ 12) : F__law_told none [.int 2, .tup (nI xs), .int s] = .ok (.tup (nI (fnum (turnL xs s))), 0) none := by
  have hl := h.l
  have hc := h.ck
  have ht := turned_ok (xs := xs) (by omega) s
  have hh := honest_tup (fnum (turnL xs s)) (by rw [len_fnum, turnL_len]; omega)
  have hi := isint_any (.int s) (by simp [tyD])
  generalize nI (fnum (turnL xs s)) = T at *
  generalize nI xs = X at *
  have hk : F_turned_parting none [.tup X, .int s] = .ok (.tup T, 0) none := by
    unfold F_turned_parting g_turned_parting
    simp [-List.map_map, fnF, en0, seqS, passS, noS, exprS, retS, retN, retM, putE, setS, iteS, vOfE, eOfV, oOfV, kI, kB, kS, kN, nmV, nmO, op1, op2, opC, tst, tru, truD, notT, andT, orT, blV, vbl, andV, orV, notV, iteE, aNil, aCons, lNil, lCons, tupE, lstE, dicE, Opd.get, callF, frR, callI, callL, own1, addD, subD, negD, cmpD, lenD, intD, tupD, lisD, absD, isiD, tyD, min2D, max2D, Pv.R.of, raiseS, asgS, nameG, nilG, consG, tupG, isD, nisD, isNB, opS, pNone, pSome, seqI', itsD, sItS, putD, wipeE, backE, hc, ht, hi, isI, h1, h2]
  unfold F__law_told g__law_told
  simp [-List.map_map, fnF, en0, seqS, passS, noS, exprS, retS, retN, retM, putE, setS, iteS, vOfE, eOfV, oOfV, kI, kB, kS, kN, nmV, nmO, op1, op2, opC, tst, tru, truD, notT, andT, orT, blV, vbl, andV, orV, notV, iteE, aNil, aCons, lNil, lCons, tupE, lstE, dicE, Opd.get, callF, frR, callI, callL, own1, addD, subD, negD, cmpD, lenD, intD, tupD, lisD, absD, isiD, tyD, min2D, max2D, Pv.R.of, raiseS, asgS, nameG, nilG, consG, tupG, isD, nisD, isNB, opS, pNone, pSome, seqI', itsD, sItS, putD, wipeE, backE, tryS, hk, hh, eqD]
abbrev malD : D := .str (PySem.Str.ofString "malformed")
theorem told_bad {v : D} (h : F_check_noncrossing none [v] = .ex (.mk 1 [])) (k s : D) (hk : k = .int 0 ∨ k = .int 1 ∨ k = .int 2) : F__law_told none [k, v, s] = .ok (malD, 0) none := by
  have h0 : F_kreweras none [v] = .ex (.mk 1 []) := by
    unfold F_kreweras g_kreweras
    simp [-List.map_map, fnF, en0, seqS, passS, noS, exprS, retS, retN, retM, putE, setS, iteS, vOfE, eOfV, oOfV, kI, kB, kS, kN, nmV, nmO, op1, op2, opC, tst, tru, truD, notT, andT, orT, blV, vbl, andV, orV, notV, iteE, aNil, aCons, lNil, lCons, tupE, lstE, dicE, Opd.get, callF, frR, callI, callL, own1, addD, subD, negD, cmpD, lenD, intD, tupD, lisD, absD, isiD, tyD, min2D, max2D, Pv.R.of, raiseS, asgS, nameG, nilG, consG, tupG, isD, nisD, isNB, opS, pNone, pSome, seqI', itsD, sItS, putD, wipeE, backE, h]
  have h1 : F_kreweras_back none [v] = .ex (.mk 1 []) := by
    unfold F_kreweras_back g_kreweras_back
    simp [-List.map_map, fnF, en0, seqS, passS, noS, exprS, retS, retN, retM, putE, setS, iteS, vOfE, eOfV, oOfV, kI, kB, kS, kN, nmV, nmO, op1, op2, opC, tst, tru, truD, notT, andT, orT, blV, vbl, andV, orV, notV, iteE, aNil, aCons, lNil, lCons, tupE, lstE, dicE, Opd.get, callF, frR, callI, callL, own1, addD, subD, negD, cmpD, lenD, intD, tupD, lisD, absD, isiD, tyD, min2D, max2D, Pv.R.of, raiseS, asgS, nameG, nilG, consG, tupG, isD, nisD, isNB, opS, pNone, pSome, seqI', itsD, sItS, putD, wipeE, backE, h]
  have h2 : F_turned_parting none [v, s] = .ex (.mk 1 []) := by
    unfold F_turned_parting g_turned_parting
    simp [-List.map_map, fnF, en0, seqS, passS, noS, exprS, retS, retN, retM, putE, setS, iteS, vOfE, eOfV, oOfV, kI, kB, kS, kN, nmV, nmO, op1, op2, opC, tst, tru, truD, notT, andT, orT, blV, vbl, andV, orV, notV, iteE, aNil, aCons, lNil, lCons, tupE, lstE, dicE, Opd.get, callF, frR, callI, callL, own1, addD, subD, negD, cmpD, lenD, intD, tupD, lisD, absD, isiD, tyD, min2D, max2D, Pv.R.of, raiseS, asgS, nameG, nilG, consG, tupG, isD, nisD, isNB, opS, pNone, pSome, seqI', itsD, sItS, putD, wipeE, backE, h]
  unfold F__law_told g__law_told
  rcases hk with rfl | rfl | rfl
  · simp [-List.map_map, fnF, en0, seqS, passS, noS, exprS, retS, retN, retM, putE, setS, iteS, vOfE, eOfV, oOfV, kI, kB, kS, kN, nmV, nmO, op1, op2, opC, tst, tru, truD, notT, andT, orT, blV, vbl, andV, orV, notV, iteE, aNil, aCons, lNil, lCons, tupE, lstE, dicE, Opd.get, callF, frR, callI, callL, own1, addD, subD, negD, cmpD, lenD, intD, tupD, lisD, absD, isiD, tyD, min2D, max2D, Pv.R.of, raiseS, asgS, nameG, nilG, consG, tupG, isD, nisD, isNB, opS, pNone, pSome, seqI', itsD, sItS, putD, wipeE, backE, tryS, h0, h1, h2, malD, SR.noX, eqD]
  · simp [-List.map_map, fnF, en0, seqS, passS, noS, exprS, retS, retN, retM, putE, setS, iteS, vOfE, eOfV, oOfV, kI, kB, kS, kN, nmV, nmO, op1, op2, opC, tst, tru, truD, notT, andT, orT, blV, vbl, andV, orV, notV, iteE, aNil, aCons, lNil, lCons, tupE, lstE, dicE, Opd.get, callF, frR, callI, callL, own1, addD, subD, negD, cmpD, lenD, intD, tupD, lisD, absD, isiD, tyD, min2D, max2D, Pv.R.of, raiseS, asgS, nameG, nilG, consG, tupG, isD, nisD, isNB, opS, pNone, pSome, seqI', itsD, sItS, putD, wipeE, backE, tryS, h0, h1, h2, malD, SR.noX, eqD]
  · simp [-List.map_map, fnF, en0, seqS, passS, noS, exprS, retS, retN, retM, putE, setS, iteS, vOfE, eOfV, oOfV, kI, kB, kS, kN, nmV, nmO, op1, op2, opC, tst, tru, truD, notT, andT, orT, blV, vbl, andV, orV, notV, iteE, aNil, aCons, lNil, lCons, tupE, lstE, dicE, Opd.get, callF, frR, callI, callL, own1, addD, subD, negD, cmpD, lenD, intD, tupD, lisD, absD, isiD, tyD, min2D, max2D, Pv.R.of, raiseS, asgS, nameG, nilG, consG, tupG, isD, nisD, isNB, opS, pNone, pSome, seqI', itsD, sItS, putD, wipeE, backE, tryS, h0, h1, h2, malD, SR.noX, eqD]
theorem told2_bad {xs : List Int} (h : Pn xs) (s : D) (ht : tyD s ≠ none) (hs : ∀ i, s = .int i → i < -12 ∨ 12 < i) : F__law_told none [.int 2, .tup (nI xs), s] = .ok (malD, 0) none := by
  have hc := h.ck
  have hi := isint_any s ht
  generalize nI xs = X at *
  have h2 : F_turned_parting none [.tup X, s] = .ex (.mk 1 []) := by
    unfold F_turned_parting g_turned_parting
    by_cases q : ∃ i, s = .int i
    · obtain ⟨i, rfl⟩ := q
      rcases hs i rfl with a | a
      · have : ¬ (-12 : Int) ≤ i := by omega
        simp [-List.map_map, fnF, en0, seqS, passS, noS, exprS, retS, retN, retM, putE, setS, iteS, vOfE, eOfV, oOfV, kI, kB, kS, kN, nmV, nmO, op1, op2, opC, tst, tru, truD, notT, andT, orT, blV, vbl, andV, orV, notV, iteE, aNil, aCons, lNil, lCons, tupE, lstE, dicE, Opd.get, callF, frR, callI, callL, own1, addD, subD, negD, cmpD, lenD, intD, tupD, lisD, absD, isiD, tyD, min2D, max2D, Pv.R.of, raiseS, asgS, nameG, nilG, consG, tupG, isD, nisD, isNB, opS, pNone, pSome, seqI', itsD, sItS, putD, wipeE, backE, hc, hi, isI, this]
      · have h3 : (-12 : Int) ≤ i := by omega
        have h4 : ¬ i ≤ 12 := by omega
        simp [-List.map_map, fnF, en0, seqS, passS, noS, exprS, retS, retN, retM, putE, setS, iteS, vOfE, eOfV, oOfV, kI, kB, kS, kN, nmV, nmO, op1, op2, opC, tst, tru, truD, notT, andT, orT, blV, vbl, andV, orV, notV, iteE, aNil, aCons, lNil, lCons, tupE, lstE, dicE, Opd.get, callF, frR, callI, callL, own1, addD, subD, negD, cmpD, lenD, intD, tupD, lisD, absD, isiD, tyD, min2D, max2D, Pv.R.of, raiseS, asgS, nameG, nilG, consG, tupG, isD, nisD, isNB, opS, pNone, pSome, seqI', itsD, sItS, putD, wipeE, backE, hc, hi, isI, h3, h4]
    · have : isI s = false := by
        cases s with
        | int i => exact (q ⟨i, rfl⟩).elim
        | _ => rfl
      rw [this] at hi
      simp [-List.map_map, fnF, en0, seqS, passS, noS, exprS, retS, retN, retM, putE, setS, iteS, vOfE, eOfV, oOfV, kI, kB, kS, kN, nmV, nmO, op1, op2, opC, tst, tru, truD, notT, andT, orT, blV, vbl, andV, orV, notV, iteE, aNil, aCons, lNil, lCons, tupE, lstE, dicE, Opd.get, callF, frR, callI, callL, own1, addD, subD, negD, cmpD, lenD, intD, tupD, lisD, absD, isiD, tyD, min2D, max2D, Pv.R.of, raiseS, asgS, nameG, nilG, consG, tupG, isD, nisD, isNB, opS, pNone, pSome, seqI', itsD, sItS, putD, wipeE, backE, hc, hi]
  unfold F__law_told g__law_told
  simp [-List.map_map, fnF, en0, seqS, passS, noS, exprS, retS, retN, retM, putE, setS, iteS, vOfE, eOfV, oOfV, kI, kB, kS, kN, nmV, nmO, op1, op2, opC, tst, tru, truD, notT, andT, orT, blV, vbl, andV, orV, notV, iteE, aNil, aCons, lNil, lCons, tupE, lstE, dicE, Opd.get, callF, frR, callI, callL, own1, addD, subD, negD, cmpD, lenD, intD, tupD, lisD, absD, isiD, tyD, min2D, max2D, Pv.R.of, raiseS, asgS, nameG, nilG, consG, tupG, isD, nisD, isNB, opS, pNone, pSome, seqI', itsD, sItS, putD, wipeE, backE, tryS, h2, malD, SR.noX, eqD]
theorem ck_no {v : D} (h : F_is_parting none [v] = .ok (.bl false, 0) none) : F_check_noncrossing none [v] = .ex (.mk 1 []) := by
  unfold F_check_noncrossing g_check_noncrossing
  simp [-List.map_map, fnF, en0, seqS, passS, noS, exprS, retS, retN, retM, putE, setS, iteS, vOfE, eOfV, oOfV, kI, kB, kS, kN, nmV, nmO, op1, op2, opC, tst, tru, truD, notT, andT, orT, blV, vbl, andV, orV, notV, iteE, aNil, aCons, lNil, lCons, tupE, lstE, dicE, Opd.get, callF, frR, callI, callL, own1, addD, subD, negD, cmpD, lenD, intD, tupD, lisD, absD, isiD, tyD, min2D, max2D, Pv.R.of, raiseS, asgS, nameG, nilG, consG, tupG, isD, nisD, isNB, opS, pNone, pSome, seqI', itsD, sItS, putD, wipeE, backE, h]
theorem ck_cross {v : D} (h : F_is_parting none [v] = .ok (.bl true, 0) none) (h2 : F_has_no_crossing none [v] = .ok (.bl false, 0) none) : F_check_noncrossing none [v] = .ex (.mk 1 []) := by
  unfold F_check_noncrossing g_check_noncrossing
  simp [-List.map_map, fnF, en0, seqS, passS, noS, exprS, retS, retN, retM, putE, setS, iteS, vOfE, eOfV, oOfV, kI, kB, kS, kN, nmV, nmO, op1, op2, opC, tst, tru, truD, notT, andT, orT, blV, vbl, andV, orV, notV, iteE, aNil, aCons, lNil, lCons, tupE, lstE, dicE, Opd.get, callF, frR, callI, callL, own1, addD, subD, negD, cmpD, lenD, intD, tupD, lisD, absD, isiD, tyD, min2D, max2D, Pv.R.of, raiseS, asgS, nameG, nilG, consG, tupG, isD, nisD, isNB, opS, pNone, pSome, seqI', itsD, sItS, putD, wipeE, backE, h, h2]
end L17
end

section
open Pv PySem PM KR
set_option Elab.async false
set_option linter.all false
set_option maxRecDepth 100000
namespace L17
/-! woven -/
def kk (p : List Int) : Nat := (stN p).1.length
theorem kk_rg {K : Nat} {p : List Int} (h : RG K p) : kk p = K := by
  unfold kk
  rw [h, rgI_len]
def wR (p q : List Int) (i : Nat) : List Int := (List.range i).flatMap fun x => [gx p x, (kk p : Int) + gx q x]
theorem wR_succ (p q : List Int) (i : Nat) : wR p q (i + 1) = wR p q i ++ [gx p i, (kk p : Int) + gx q i] := by
  unfold wR
  rw [List.range_succ, List.flatMap_append]
  simp
theorem wR_len (p q : List Int) : ∀ i, (wR p q i).length = 2 * i
  | 0 => rfl
  | i + 1 => by rw [wR_succ, List.length_append, wR_len p q i]; simp; omega
theorem wR_at (p q : List Int) : ∀ i x, x < i → (wR p q i)[2 * x]? = some (gx p x) ∧ (wR p q i)[2 * x + 1]? = some ((kk p : Int) + gx q x)
  | 0, x, h => by omega
  | i + 1, x, h => by
    have hl := wR_len p q i
    rw [wR_succ]
    by_cases e : x = i
    · subst e
      rw [List.getElem?_append_right (by omega), List.getElem?_append_right (by omega), hl]
      simp
    · rw [List.getElem?_append_left (by omega), List.getElem?_append_left (by omega)]
      exact wR_at p q i x (by omega)
def wov (p q : List Int) : List Int := fnum (wR p q p.length)
theorem wov_len (p q : List Int) : (wov p q).length = 2 * p.length := by
  unfold wov
  rw [len_fnum, wR_len]
theorem wov_Wo {p q : List Int} (hp : fnum p = p) (hq : fnum q = q) (hl : q.length = p.length) : Wo (pf p) (pf q) (pf (wov p q)) p.length := by
  obtain ⟨K, hK⟩ := rg_of hp
  obtain ⟨K', hK'⟩ := rg_of hq
  have hw := wR_len p q p.length
  have at' : ∀ i j, i < 2 * p.length → j < 2 * p.length → (pf (wov p q) i = pf (wov p q) j ↔ (wR p q p.length)[i]? = (wR p q p.length)[j]?) := fun i j hi hj => fnum_at (by omega) (by omega)
  intro x y hx hy
  obtain ⟨a1, a2⟩ := wR_at p q p.length x hx
  obtain ⟨b1, b2⟩ := wR_at p q p.length y hy
  have gp : ∀ z, z < p.length → 0 ≤ gx p z ∧ gx p z < K := fun z hz => (rg_mem hK _).mp (List.mem_of_getElem? (gx_pf hz))
  have gq : ∀ z, z < p.length → 0 ≤ gx q z := fun z hz => ((rg_mem hK' _).mp (List.mem_of_getElem? (gx_pf (by omega)))).1
  refine ⟨?_, ?_, ?_⟩
  · rw [at' _ _ (by omega) (by omega), a1, b1, Option.some.injEq]
    exact (gx_eq hx hy).symm
  · rw [at' _ _ (by omega) (by omega), a2, b2, Option.some.injEq]
    have := gx_eq (xs := q) (i := x) (j := y) (by omega) (by omega)
    rw [pf, pf, this]
    omega
  · intro h
    rw [at' _ _ (by omega) (by omega), a1, b2, Option.some.injEq] at h
    have := kk_rg hK
    have h1 := gp x hx
    have h2 := gq y hy
    omega
abbrev we (p q : List Int) (x : Sl) (W : List Int) : En := [some (.tup (nI p), 0), some (.tup (nI q), 0), x, some (.tup (nI W), 0), some (.int (kk p), 0)]
theorem woven_ok {p q : List Int} (hp : fnum p = p) (hl : p.length ≤ 12) (hq : q.length = p.length) : F__law_woven none [.tup (nI p), .tup (nI q)] = .ok (.tup (nI (wov p q)), 0) none := by
  obtain ⟨K, hK⟩ := rg_of hp
  have hm := max_rg' hK
  have hkk := kk_rg hK
  have hXl : (nI p).length = p.length := by simp [nI]
  have a1 : g__law_woven_1 (en0 5 none [.tup (nI p), .tup (nI q)]) = .nx (we p q none (wR p q 0)) := by
    have l2 : 1 + (nI p).length ≤ lim := le_lim (by omega)
    have e : (K : Int) - 1 + 1 = kk p := by omega
    show _ = SR.nx [some (.tup (nI p), 0), some (.tup (nI q), 0), none, some (.tup [], 0), some (.int (kk p), 0)]
    generalize nI p = X at *
    generalize nI q = Y at *
    rw [← e]
    simp [-List.map_map, fnF, en0, seqS, passS, noS, exprS, retS, retN, retM, putE, setS, iteS, vOfE, eOfV, oOfV, kI, kB, kS, kN, nmV, nmO, op1, op2, opC, tst, tru, truD, notT, andT, orT, blV, vbl, andV, orV, notV, iteE, aNil, aCons, lNil, lCons, tupE, lstE, dicE, Opd.get, callF, frR, callI, callL, own1, addD, subD, negD, cmpD, lenD, intD, tupD, lisD, absD, isiD, tyD, min2D, max2D, Pv.R.of, raiseS, asgS, nameG, nilG, consG, tupG, isD, nisD, isNB, opS, pNone, pSome, seqI', itsD, sItS, putD, wipeE, backE, hm, l2, parS]
  obtain ⟨e, he, x, rfl⟩ := loopS_ex (g := nameG 2) (body := lb__law_woven_1) (fun k : Nat => D.int k) (List.range p.length) (fun i env => ∃ x, env = we p q x (wR p q i)) (we p q none (wR p q 0)) ⟨none, rfl⟩ fun i hi env hP => by
    obtain ⟨x, rfl⟩ := hP
    simp only [List.length_range] at hi
    have h1 := at_gx (xs := p) (i := i) hi
    have h2 := at_gx (xs := q) (i := i) (by omega)
    have hw := wR_len p q i
    have l1 : (nI (wR p q i)).length + 2 ≤ lim := le_lim (by simp [nI]; omega)
    refine ⟨we p q (some (.int i, 0)) (wR p q i), we p q (some (.int i, 0)) (wR p q (i + 1)), ?_, ?_, _, rfl⟩
    · show nameG 2 _ [some (.tup (nI p), 0), some (.tup (nI q), 0), x, some (.tup (nI (wR p q i)), 0), some (.int (kk p), 0)] = some [some (.tup (nI p), 0), some (.tup (nI q), 0), some (.int i, 0), some (.tup (nI (wR p q i)), 0), some (.int (kk p), 0)]
      generalize nI (wR p q i) = Z at *
      generalize nI p = X at *
      generalize nI q = Y at *
      simp [-List.map_map, fnF, en0, seqS, passS, noS, exprS, retS, retN, retM, putE, setS, iteS, vOfE, eOfV, oOfV, kI, kB, kS, kN, nmV, nmO, op1, op2, opC, tst, tru, truD, notT, andT, orT, blV, vbl, andV, orV, notV, iteE, aNil, aCons, lNil, lCons, tupE, lstE, dicE, Opd.get, callF, frR, callI, callL, own1, addD, subD, negD, cmpD, lenD, intD, tupD, lisD, absD, isiD, tyD, min2D, max2D, Pv.R.of, raiseS, asgS, nameG, nilG, consG, tupG, isD, nisD, isNB, opS, pNone, pSome, seqI', itsD, sItS, putD, wipeE, backE, List.getElem_range]
    · show lb__law_woven_1 [some (.tup (nI p), 0), some (.tup (nI q), 0), some (.int i, 0), some (.tup (nI (wR p q i)), 0), some (.int (kk p), 0)] = .nx [some (.tup (nI p), 0), some (.tup (nI q), 0), some (.int i, 0), some (.tup (nI (wR p q (i + 1))), 0), some (.int (kk p), 0)]
      rw [wR_succ, nI_app]
      show _ = SR.nx [_, _, _, some (.tup (nI (wR p q i) ++ [.int (gx p i), .int ((kk p : Int) + gx q i)]), 0), _]
      generalize nI (wR p q i) = Z at *
      generalize nI p = X at *
      generalize nI q = Y at *
      simp [-List.map_map, fnF, en0, seqS, passS, noS, exprS, retS, retN, retM, putE, setS, iteS, vOfE, eOfV, oOfV, kI, kB, kS, kN, nmV, nmO, op1, op2, opC, tst, tru, truD, notT, andT, orT, blV, vbl, andV, orV, notV, iteE, aNil, aCons, lNil, lCons, tupE, lstE, dicE, Opd.get, callF, frR, callI, callL, own1, addD, subD, negD, cmpD, lenD, intD, tupD, lisD, absD, isiD, tyD, min2D, max2D, Pv.R.of, raiseS, asgS, nameG, nilG, consG, tupG, isD, nisD, isNB, opS, pNone, pSome, seqI', itsD, sItS, putD, wipeE, backE, h1, h2, l1]
  have a2 : g__law_woven_2 (we p q none (wR p q 0)) = .nx (we p q x (wR p q p.length)) := by
    have := he
    refine (forS_ok (rg1_ok (n := p.length) (env1 := we p q none (wR p q 0)) (by
      show aCons _ aNil [some (.tup (nI p), 0), some (.tup (nI q), 0), none, some (.tup (nI (wR p q 0)), 0), some (.int (kk p), 0)] = .ok _ [some (.tup (nI p), 0), some (.tup (nI q), 0), none, some (.tup (nI (wR p q 0)), 0), some (.int (kk p), 0)]
      generalize nI (wR p q 0) = Z at *
      generalize nI p = X at *
      generalize nI q = Y at *
      simp [-List.map_map, fnF, en0, seqS, passS, noS, exprS, retS, retN, retM, putE, setS, iteS, vOfE, eOfV, oOfV, kI, kB, kS, kN, nmV, nmO, op1, op2, opC, tst, tru, truD, notT, andT, orT, blV, vbl, andV, orV, notV, iteE, aNil, aCons, lNil, lCons, tupE, lstE, dicE, Opd.get, callF, frR, callI, callL, own1, addD, subD, negD, cmpD, lenD, intD, tupD, lisD, absD, isiD, tyD, min2D, max2D, Pv.R.of, raiseS, asgS, nameG, nilG, consG, tupG, isD, nisD, isNB, opS, pNone, pSome, seqI', itsD, sItS, putD, wipeE, backE, hXl]) (by omega))).trans ?_
    rw [List.length_range] at this
    exact this
  have hn := num_any (.tup (nI (wR p q p.length))) (wR p q p.length) (by rw [wR_len]; omega) rfl
  have hn' : F__law_numbered none [.tup (nI (wR p q p.length))] = .ok (.tup (nI (wov p q)), 0) none := hn
  have a3 : g__law_woven_3 (we p q x (wR p q p.length)) = .ret (.tup (nI (wov p q)), 0) (we p q x (wR p q p.length)) := by
    show g__law_woven_3 [some (.tup (nI p), 0), some (.tup (nI q), 0), x, some (.tup (nI (wR p q p.length)), 0), some (.int (kk p), 0)] = .ret _ [some (.tup (nI p), 0), some (.tup (nI q), 0), x, some (.tup (nI (wR p q p.length)), 0), some (.int (kk p), 0)]
    generalize nI (wov p q) = W at *
    generalize nI (wR p q p.length) = Z at *
    generalize nI p = X at *
    generalize nI q = Y at *
    simp [-List.map_map, fnF, en0, seqS, passS, noS, exprS, retS, retN, retM, putE, setS, iteS, vOfE, eOfV, oOfV, kI, kB, kS, kN, nmV, nmO, op1, op2, opC, tst, tru, truD, notT, andT, orT, blV, vbl, andV, orV, notV, iteE, aNil, aCons, lNil, lCons, tupE, lstE, dicE, Opd.get, callF, frR, callI, callL, own1, addD, subD, negD, cmpD, lenD, intD, tupD, lisD, absD, isiD, tyD, min2D, max2D, Pv.R.of, raiseS, asgS, nameG, nilG, consG, tupG, isD, nisD, isNB, opS, pNone, pSome, seqI', itsD, sItS, putD, wipeE, backE, hn']
  exact fnF_ret ((seqS_nx a1).trans ((seqS_nx a2).trans a3))
/-! all noncrossing partings of a few places -/
def tD (xs : List Int) : D := .tup (nI xs)
def nxt (p : List Int) : List (List Int) := (List.range (kk p + 1)).map fun c : Nat => p ++ [(c : Int)]
def gr (p : List Int) : List (List Int) := (nxt p).filter fun q => !crB q
def grL : Nat → List (List Int)
  | 0 => [[]]
  | i + 1 => (grL i).flatMap gr
theorem not_cr {q : List Int} : (!crB q) = true ↔ NC (pf q) q.length := by
  rw [Bool.not_eq_true']
  constructor
  · intro h
    apply Classical.byContradiction
    intro z
    rw [(crB_iff q).mpr z] at h
    cases h
  · intro h
    cases e : crB q with
    | false => rfl
    | true => exact ((crB_iff q).mp e h).elim
theorem mem_grL : ∀ (i : Nat) (p : List Int), p ∈ grL i ↔ p.length = i ∧ fnum p = p ∧ NC (pf p) p.length
  | 0, p => by
    show p ∈ [[]] ↔ _
    rw [List.mem_singleton]
    constructor
    · rintro rfl
      exact ⟨rfl, rfl, nc_nil⟩
    · rintro ⟨h, _⟩
      exact List.eq_nil_of_length_eq_zero h
  | i + 1, p => by
    have ih := mem_grL i
    show p ∈ (grL i).flatMap gr ↔ _
    rw [List.mem_flatMap]
    constructor
    · rintro ⟨r, hr, hp⟩
      obtain ⟨h1, h2, h3⟩ := (ih r).mp hr
      obtain ⟨hp, hN⟩ := List.mem_filter.mp hp
      obtain ⟨c, hc, rfl⟩ := List.mem_map.mp hp
      have hc := List.mem_range.mp hc
      obtain ⟨K, hK⟩ := rg_of h2
      have hk := kk_rg hK
      refine ⟨by simp [h1], ?_, not_cr.mp hN⟩
      by_cases q : c < K
      · exact rg_fnum (rg_old hK q)
      · have : c = K := by omega
        subst this
        exact rg_fnum (rg_new hK)
    · rintro ⟨h1, h2, h3⟩
      rcases List.eq_nil_or_concat p with e | ⟨r, c, e⟩
      · subst e; simp at h1
      · have e : p = r ++ [c] := by rw [e]; simp
        subst e
        obtain ⟨K, hK⟩ := rg_of h2
        have hrl : r.length = i := by simpa using h1
        rcases rg_snoc hK with ⟨q1, q2, q3⟩ | ⟨k, q1, q2, q3⟩
        · refine ⟨r, (ih r).mpr ⟨hrl, rg_fnum q3, nc_pre h3⟩, List.mem_filter.mpr ⟨List.mem_map.mpr ⟨c.toNat, List.mem_range.mpr (by rw [kk_rg q3]; omega), by congr 2; omega⟩, not_cr.mpr h3⟩⟩
        · refine ⟨r, (ih r).mpr ⟨hrl, rg_fnum q3, nc_pre h3⟩, List.mem_filter.mpr ⟨List.mem_map.mpr ⟨k, List.mem_range.mpr (by rw [kk_rg q3]; omega), by rw [q2]⟩, not_cr.mpr h3⟩⟩
theorem grL_len : ∀ k, k < 6 → 0 < (grL k).length ∧ (grL k).length ≤ 42 := by decide +kernel
abbrev ge (n : Nat) (L : List (List Int)) (d : Nat) (x : Sl) (lo p : Sl) : En := [some (.int n, 0), some (.lst (L.map tD), d), x, lo, p, none, none]
theorem gr_c1 (n L x lo : Sl) {p : List Int} (hp : fnum p = p) (hl : p.length ≤ 12) : cp__law_grown_1 [n, L, x, lo, some (tD p, 0), none, none] = .ok (.lst ((nxt p).map tD), 1) [n, L, x, lo, some (tD p, 0), none, none] := by
  obtain ⟨K, hK⟩ := rg_of hp
  have hKl := rg_le hK
  have hm := max_rg' hK
  have hk := kk_rg hK
  unfold nxt
  rw [List.map_map, hk]
  have l1 : (nI p).length + 1 ≤ lim := le_lim (by simp [nI]; omega)
  have l2 : 1 + (nI p).length ≤ lim := le_lim (by simp [nI]; omega)
  have e1 : (K : Int) - 1 + 2 = ((K + 1 : Nat) : Int) := by omega
  have e2 : ∀ c : Nat, (tD ∘ fun c : Nat => p ++ [(c : Int)]) c = .tup (nI p ++ [.int c]) := fun c => by
    show D.tup (nI (p ++ [(c : Int)])) = _
    rw [nI_app]
    rfl
  show comp _ _ _ _ _ _ [n, L, x, lo, some (.tup (nI p), 0), none, none] = .ok _ [n, L, x, lo, some (.tup (nI p), 0), none, none]
  generalize nI p = X at *
  refine comp_map1 (fun k : Nat => .int k) _ (rg1_ok (n := K + 1) (env1 := [n, L, x, lo, some (.tup X, 0), none, none]) (by rw [← e1]; simp [-List.map_map, fnF, en0, seqS, passS, noS, exprS, retS, retN, retM, putE, setS, iteS, vOfE, eOfV, oOfV, kI, kB, kS, kN, nmV, nmO, op1, op2, opC, tst, tru, truD, notT, andT, orT, blV, vbl, andV, orV, notV, iteE, aNil, aCons, lNil, lCons, tupE, lstE, dicE, Opd.get, callF, frR, callI, callL, own1, addD, subD, negD, cmpD, lenD, intD, tupD, lisD, absD, isiD, tyD, min2D, max2D, Pv.R.of, raiseS, asgS, nameG, nilG, consG, tupG, isD, nisD, isNB, opS, pNone, pSome, seqI', itsD, sItS, putD, wipeE, backE, hm, l2]) (by omega)) rfl (by simp; omega) fun c _ => ?_
  rw [e2]
  simp [-List.map_map, fnF, en0, seqS, passS, noS, exprS, retS, retN, retM, putE, setS, iteS, vOfE, eOfV, oOfV, kI, kB, kS, kN, nmV, nmO, op1, op2, opC, tst, tru, truD, notT, andT, orT, blV, vbl, andV, orV, notV, iteE, aNil, aCons, lNil, lCons, tupE, lstE, dicE, Opd.get, callF, frR, callI, callL, own1, addD, subD, negD, cmpD, lenD, intD, tupD, lisD, absD, isiD, tyD, min2D, max2D, Pv.R.of, raiseS, asgS, nameG, nilG, consG, tupG, isD, nisD, isNB, opS, pNone, pSome, seqI', itsD, sItS, putD, wipeE, backE, l1]
theorem gr_c2 (n L x lo : Sl) {p : List Int} (hp : fnum p = p) (hl : p.length ≤ 12) : cp__law_grown_2 [n, L, x, lo, some (tD p, 0), none, none] = .ok (.lst ((gr p).map tD), 1) [n, L, x, lo, some (tD p, 0), none, none] := by
  have h1 := gr_c1 n L x lo hp hl
  have hb : (nxt p).length ≤ 1000 := by
    have := len_stN1 p
    simp [nxt, kk]
    omega
  unfold gr
  refine comp_filter1 tD tD (fun q => !crB q) (env1 := [n, L, x, lo, some (tD p, 0), none, none]) ?_ rfl (by omega) fun q hq => ?_
  · generalize (nxt p).map tD = A at *
    generalize tD p = Q at *
    simp [-List.map_map, fnF, en0, seqS, passS, noS, exprS, retS, retN, retM, putE, setS, iteS, vOfE, eOfV, oOfV, kI, kB, kS, kN, nmV, nmO, op1, op2, opC, tst, tru, truD, notT, andT, orT, blV, vbl, andV, orV, notV, iteE, aNil, aCons, lNil, lCons, tupE, lstE, dicE, Opd.get, callF, frR, callI, callL, own1, addD, subD, negD, cmpD, lenD, intD, tupD, lisD, absD, isiD, tyD, min2D, max2D, Pv.R.of, raiseS, asgS, nameG, nilG, consG, tupG, isD, nisD, isNB, opS, pNone, pSome, seqI', itsD, sItS, putD, wipeE, backE, h1]
  · obtain ⟨c, _, rfl⟩ := List.mem_map.mp hq
    have h2 := crosses_ok (xs := p ++ [(c : Int)]) (by simp; omega)
    have h2 : F__law_crosses none [tD (p ++ [(c : Int)])] = .ok (.bl (crB (p ++ [(c : Int)])), 0) none := h2
    refine ⟨?_, fun _ => ?_⟩
    · generalize tD (p ++ [(c : Int)]) = C at *
      generalize tD p = Q at *
      simp [-List.map_map, fnF, en0, seqS, passS, noS, exprS, retS, retN, retM, putE, setS, iteS, vOfE, eOfV, oOfV, kI, kB, kS, kN, nmV, nmO, op1, op2, opC, tst, tru, truD, notT, andT, orT, blV, vbl, andV, orV, notV, iteE, aNil, aCons, lNil, lCons, tupE, lstE, dicE, Opd.get, callF, frR, callI, callL, own1, addD, subD, negD, cmpD, lenD, intD, tupD, lisD, absD, isiD, tyD, min2D, max2D, Pv.R.of, raiseS, asgS, nameG, nilG, consG, tupG, isD, nisD, isNB, opS, pNone, pSome, seqI', itsD, sItS, putD, wipeE, backE, h2]
    · generalize tD (p ++ [(c : Int)]) = C at *
      generalize tD p = Q at *
      simp [-List.map_map, fnF, en0, seqS, passS, noS, exprS, retS, retN, retM, putE, setS, iteS, vOfE, eOfV, oOfV, kI, kB, kS, kN, nmV, nmO, op1, op2, opC, tst, tru, truD, notT, andT, orT, blV, vbl, andV, orV, notV, iteE, aNil, aCons, lNil, lCons, tupE, lstE, dicE, Opd.get, callF, frR, callI, callL, own1, addD, subD, negD, cmpD, lenD, intD, tupD, lisD, absD, isiD, tyD, min2D, max2D, Pv.R.of, raiseS, asgS, nameG, nilG, consG, tupG, isD, nisD, isNB, opS, pNone, pSome, seqI', itsD, sItS, putD, wipeE, backE]
theorem fm_len {L : List (List Int)} {b : Nat} (h : ∀ p ∈ L, (gr p).length ≤ b) : (L.flatMap gr).length ≤ L.length * b := by
  induction L with
  | nil => simp
  | cons p L ih =>
    rw [List.flatMap_cons, List.length_append, List.length_cons, Nat.add_one_mul]
    have := h p List.mem_cons_self
    have := ih fun q hq => h q (List.mem_cons_of_mem _ hq)
    omega
theorem gr_len {p : List Int} : (gr p).length ≤ p.length + 1 := by
  have := len_stN1 p
  have h := List.length_filter_le (fun q => !crB q) (nxt p)
  unfold gr
  have e : (nxt p).length = kk p + 1 := by simp [nxt]
  unfold kk at e
  omega
theorem gr_step (n i : Nat) (hi : i < 6) (x lo p : Sl) : ∃ lo' p', lb__law_grown_2 (ge n (grL i) 1 x lo p) = .nx (ge n (grL (i + 1)) 1 x lo' p') := by
  have hLl := (grL_len i hi).2
  have a1 : setS 3 (lstE aNil) (ge n (grL i) 1 x lo p) = .nx (ge n (grL i) 1 x (some (.lst (([] : List (List Int)).map tD), 1)) p) := by
    show setS 3 (lstE aNil) [some (.int n, 0), some (.lst ((grL i).map tD), 1), x, lo, p, none, none] = .nx [some (.int n, 0), some (.lst ((grL i).map tD), 1), x, some (.lst [], 1), p, none, none]
    generalize (grL i).map tD = A
    simp [-List.map_map, fnF, en0, seqS, passS, noS, exprS, retS, retN, retM, putE, setS, iteS, vOfE, eOfV, oOfV, kI, kB, kS, kN, nmV, nmO, op1, op2, opC, tst, tru, truD, notT, andT, orT, blV, vbl, andV, orV, notV, iteE, aNil, aCons, lNil, lCons, tupE, lstE, dicE, Opd.get, callF, frR, callI, callL, own1, addD, subD, negD, cmpD, lenD, intD, tupD, lisD, absD, isiD, tyD, min2D, max2D, Pv.R.of, raiseS, asgS, nameG, nilG, consG, tupG, isD, nisD, isNB, opS, pNone, pSome, seqI', itsD, sItS, putD, wipeE, backE]
  have hlen : ∀ j, j ≤ (grL i).length → (((grL i).take j).flatMap gr).length ≤ j * 7 := fun j hj => by
    have := fm_len (L := (grL i).take j) (b := 7) fun p hp => by
      have := (mem_grL i p).mp (List.mem_of_mem_take hp)
      have h2 := gr_len (p := p)
      omega
    rw [List.length_take, Nat.min_eq_left hj] at this
    exact this
  obtain ⟨e, he, p', rfl⟩ := loopS_ex (g := nameG 4) (body := lb__law_grown_1) tD (grL i) (fun j env => ∃ p', env = ge n (grL i) 0 x (some (.lst ((((grL i).take j).flatMap gr).map tD), 1)) p') (ge n (grL i) 0 x (some (.lst (([] : List (List Int)).map tD), 1)) p) ⟨p, rfl⟩ fun j hj env hP => by
    obtain ⟨p', rfl⟩ := hP
    have hm := (mem_grL i (grL i)[j]).mp (List.getElem_mem hj)
    have hc := gr_c2 (some (.int n, 0)) (some (.lst ((grL i).map tD), 0)) x (some (.lst ((((grL i).take j).flatMap gr).map tD), 1)) hm.2.1 (by omega)
    have h7 := hlen j (by omega)
    have h8 := gr_len (p := (grL i)[j])
    have l1 : ((((grL i).take j).flatMap gr).map tD).length + ((gr (grL i)[j]).map tD).length ≤ lim := le_lim (by simp only [List.length_map]; omega)
    refine ⟨ge n (grL i) 0 x (some (.lst ((((grL i).take j).flatMap gr).map tD), 1)) (some (tD (grL i)[j], 0)), ge n (grL i) 0 x (some (.lst ((((grL i).take (j + 1)).flatMap gr).map tD), 1)) (some (tD (grL i)[j], 0)), ?_, ?_, some (tD (grL i)[j], 0), rfl⟩
    · show nameG 4 _ [some (.int n, 0), some (.lst ((grL i).map tD), 0), x, some (.lst ((((grL i).take j).flatMap gr).map tD), 1), p', none, none] = some [some (.int n, 0), some (.lst ((grL i).map tD), 0), x, some (.lst ((((grL i).take j).flatMap gr).map tD), 1), some (tD (grL i)[j], 0), none, none]
      generalize (((grL i).take j).flatMap gr).map tD = B at *
      generalize tD (grL i)[j] = C at *
      generalize (grL i).map tD = A at *
      simp [-List.map_map, fnF, en0, seqS, passS, noS, exprS, retS, retN, retM, putE, setS, iteS, vOfE, eOfV, oOfV, kI, kB, kS, kN, nmV, nmO, op1, op2, opC, tst, tru, truD, notT, andT, orT, blV, vbl, andV, orV, notV, iteE, aNil, aCons, lNil, lCons, tupE, lstE, dicE, Opd.get, callF, frR, callI, callL, own1, addD, subD, negD, cmpD, lenD, intD, tupD, lisD, absD, isiD, tyD, min2D, max2D, Pv.R.of, raiseS, asgS, nameG, nilG, consG, tupG, isD, nisD, isNB, opS, pNone, pSome, seqI', itsD, sItS, putD, wipeE, backE]
    · have e : ((grL i).take (j + 1)).flatMap gr = ((grL i).take j).flatMap gr ++ gr (grL i)[j] := by
        rw [List.take_succ_eq_append_getElem hj, List.flatMap_append]
        simp
      rw [e, List.map_append]
      show lb__law_grown_1 [some (.int n, 0), some (.lst ((grL i).map tD), 0), x, some (.lst ((((grL i).take j).flatMap gr).map tD), 1), some (tD (grL i)[j], 0), none, none] = .nx [some (.int n, 0), some (.lst ((grL i).map tD), 0), x, some (.lst ((((grL i).take j).flatMap gr).map tD ++ (gr (grL i)[j]).map tD), 1), some (tD (grL i)[j], 0), none, none]
      generalize (gr (grL i)[j]).map tD = G at *
      generalize (((grL i).take j).flatMap gr).map tD = B at *
      generalize tD (grL i)[j] = C at *
      generalize (grL i).map tD = A at *
      simp [-List.map_map, fnF, en0, seqS, passS, noS, exprS, retS, retN, retM, putE, setS, iteS, vOfE, eOfV, oOfV, kI, kB, kS, kN, nmV, nmO, op1, op2, opC, tst, tru, truD, notT, andT, orT, blV, vbl, andV, orV, notV, iteE, aNil, aCons, lNil, lCons, tupE, lstE, dicE, Opd.get, callF, frR, callI, callL, own1, addD, subD, negD, cmpD, lenD, intD, tupD, lisD, absD, isiD, tyD, min2D, max2D, Pv.R.of, raiseS, asgS, nameG, nilG, consG, tupG, isD, nisD, isNB, opS, pNone, pSome, seqI', itsD, sItS, putD, wipeE, backE, hc, l1]
  have a2 : (forS (seqI' ((nmV 1))) (nameG 4) lb__law_grown_1) (ge n (grL i) 1 x (some (.lst (([] : List (List Int)).map tD), 1)) p) = .nx (ge n (grL i) 0 x (some (.lst ((grL (i + 1)).map tD), 1)) p') := by
    rw [List.take_length] at he
    refine (forS_ok (ds := (grL i).map tD) (env1 := ge n (grL i) 0 x (some (.lst (([] : List (List Int)).map tD), 1)) p) ?_).trans he
    show seqI' (nmV 1) [some (.int n, 0), some (.lst ((grL i).map tD), 1), x, some (.lst [], 1), p, none, none] = .ok _ [some (.int n, 0), some (.lst ((grL i).map tD), 0), x, some (.lst [], 1), p, none, none]
    generalize (grL i).map tD = A at *
    simp [-List.map_map, fnF, en0, seqS, passS, noS, exprS, retS, retN, retM, putE, setS, iteS, vOfE, eOfV, oOfV, kI, kB, kS, kN, nmV, nmO, op1, op2, opC, tst, tru, truD, notT, andT, orT, blV, vbl, andV, orV, notV, iteE, aNil, aCons, lNil, lCons, tupE, lstE, dicE, Opd.get, callF, frR, callI, callL, own1, addD, subD, negD, cmpD, lenD, intD, tupD, lisD, absD, isiD, tyD, min2D, max2D, Pv.R.of, raiseS, asgS, nameG, nilG, consG, tupG, isD, nisD, isNB, opS, pNone, pSome, seqI', itsD, sItS, putD, wipeE, backE]
  have a3 : (setS 1 ((op1 lisD (nmO 3)))) (ge n (grL i) 0 x (some (.lst ((grL (i + 1)).map tD), 1)) p') = .nx (ge n (grL (i + 1)) 1 x (some (.lst ((grL (i + 1)).map tD), 1)) p') := by
    show setS 1 _ [some (.int n, 0), some (.lst ((grL i).map tD), 0), x, some (.lst ((grL (i + 1)).map tD), 1), p', none, none] = SR.nx [some (.int n, 0), some (.lst ((grL (i + 1)).map tD), 1), x, some (.lst ((grL (i + 1)).map tD), 1), p', none, none]
    generalize (grL (i + 1)).map tD = B at *
    generalize (grL i).map tD = A at *
    simp [-List.map_map, fnF, en0, seqS, passS, noS, exprS, retS, retN, retM, putE, setS, iteS, vOfE, eOfV, oOfV, kI, kB, kS, kN, nmV, nmO, op1, op2, opC, tst, tru, truD, notT, andT, orT, blV, vbl, andV, orV, notV, iteE, aNil, aCons, lNil, lCons, tupE, lstE, dicE, Opd.get, callF, frR, callI, callL, own1, addD, subD, negD, cmpD, lenD, intD, tupD, lisD, absD, isiD, tyD, min2D, max2D, Pv.R.of, raiseS, asgS, nameG, nilG, consG, tupG, isD, nisD, isNB, opS, pNone, pSome, seqI', itsD, sItS, putD, wipeE, backE]
  exact ⟨_, _, (seqS_nx a1).trans ((seqS_nx a2).trans a3)⟩
theorem grown_ok (n : Nat) (hn : n < 6) : F__law_grown none [.int n] = .ok (.lst ((grL n).map tD), 1) none := by
  have a1 : g__law_grown_1 (en0 7 none [.int n]) = .nx (ge n (grL 0) 1 none none none) := by
    simp [-List.map_map, fnF, en0, seqS, passS, noS, exprS, retS, retN, retM, putE, setS, iteS, vOfE, eOfV, oOfV, kI, kB, kS, kN, nmV, nmO, op1, op2, opC, tst, tru, truD, notT, andT, orT, blV, vbl, andV, orV, notV, iteE, aNil, aCons, lNil, lCons, tupE, lstE, dicE, Opd.get, callF, frR, callI, callL, own1, addD, subD, negD, cmpD, lenD, intD, tupD, lisD, absD, isiD, tyD, min2D, max2D, Pv.R.of, raiseS, asgS, nameG, nilG, consG, tupG, isD, nisD, isNB, opS, pNone, pSome, seqI', itsD, sItS, putD, wipeE, backE]
    rfl
  obtain ⟨e, he, x, lo, p, rfl⟩ := loopS_ex (g := nameG 2) (body := lb__law_grown_2) (fun k : Nat => D.int k) (List.range n) (fun i env => ∃ x lo p, env = ge n (grL i) 1 x lo p) (ge n (grL 0) 1 none none none) ⟨none, none, none, rfl⟩ fun i hi env hP => by
    obtain ⟨x, lo, p, rfl⟩ := hP
    simp only [List.length_range] at hi
    obtain ⟨lo', p', h⟩ := gr_step n i (by omega) (some (.int i, 0)) lo p
    refine ⟨ge n (grL i) 1 (some (.int i, 0)) lo p, _, ?_, h, _, _, _, rfl⟩
    show nameG 2 _ [some (.int n, 0), some (.lst ((grL i).map tD), 1), x, lo, p, none, none] = some [some (.int n, 0), some (.lst ((grL i).map tD), 1), some (.int i, 0), lo, p, none, none]
    generalize (grL i).map tD = A at *
    simp [-List.map_map, fnF, en0, seqS, passS, noS, exprS, retS, retN, retM, putE, setS, iteS, vOfE, eOfV, oOfV, kI, kB, kS, kN, nmV, nmO, op1, op2, opC, tst, tru, truD, notT, andT, orT, blV, vbl, andV, orV, notV, iteE, aNil, aCons, lNil, lCons, tupE, lstE, dicE, Opd.get, callF, frR, callI, callL, own1, addD, subD, negD, cmpD, lenD, intD, tupD, lisD, absD, isiD, tyD, min2D, max2D, Pv.R.of, raiseS, asgS, nameG, nilG, consG, tupG, isD, nisD, isNB, opS, pNone, pSome, seqI', itsD, sItS, putD, wipeE, backE, List.getElem_range]
  rw [List.length_range] at he
  have a2 : g__law_grown_2 (ge n (grL 0) 1 none none none) = .nx (ge n (grL n) 1 x lo p) := (forS_ok (rg1_ok (n := n) (env1 := ge n (grL 0) 1 none none none) (by
    show aCons (nmV 0) aNil [some (.int n, 0), some (.lst ((grL 0).map tD), 1), none, none, none, none, none] = .ok _ [some (.int n, 0), some (.lst ((grL 0).map tD), 1), none, none, none, none, none]
    generalize (grL 0).map tD = A
    simp [-List.map_map, fnF, en0, seqS, passS, noS, exprS, retS, retN, retM, putE, setS, iteS, vOfE, eOfV, oOfV, kI, kB, kS, kN, nmV, nmO, op1, op2, opC, tst, tru, truD, notT, andT, orT, blV, vbl, andV, orV, notV, iteE, aNil, aCons, lNil, lCons, tupE, lstE, dicE, Opd.get, callF, frR, callI, callL, own1, addD, subD, negD, cmpD, lenD, intD, tupD, lisD, absD, isiD, tyD, min2D, max2D, Pv.R.of, raiseS, asgS, nameG, nilG, consG, tupG, isD, nisD, isNB, opS, pNone, pSome, seqI', itsD, sItS, putD, wipeE, backE]) (by omega))).trans he
  have a3 : g__law_grown_3 (ge n (grL n) 1 x lo p) = .ret (.lst ((grL n).map tD), 1) [some (.int n, 0), none, x, lo, p, none, none] := by
    show g__law_grown_3 [some (.int n, 0), some (.lst ((grL n).map tD), 1), x, lo, p, none, none] = _
    generalize (grL n).map tD = A
    simp [-List.map_map, fnF, en0, seqS, passS, noS, exprS, retS, retN, retM, putE, setS, iteS, vOfE, eOfV, oOfV, kI, kB, kS, kN, nmV, nmO, op1, op2, opC, tst, tru, truD, notT, andT, orT, blV, vbl, andV, orV, notV, iteE, aNil, aCons, lNil, lCons, tupE, lstE, dicE, Opd.get, callF, frR, callI, callL, own1, addD, subD, negD, cmpD, lenD, intD, tupD, lisD, absD, isiD, tyD, min2D, max2D, Pv.R.of, raiseS, asgS, nameG, nilG, consG, tupG, isD, nisD, isNB, opS, pNone, pSome, seqI', itsD, sItS, putD, wipeE, backE]
  exact fnF_ret ((seqS_nx a1).trans ((seqS_nx a2).trans a3))
end L17
end

section
open Pv PySem PM KR
set_option Elab.async false
set_option linter.all false
set_option maxRecDepth 100000
namespace L17
theorem any_eqv {d : D} (h0 : plD d = true) : ∀ (ds : List D), plL ds = true → ((enPL ds).any (fun q => PyData.eqv q (enP d)) = true ↔ d ∈ ds)
  | [], _ => by simp [enPL]
  | e :: ds, h => by
    rw [plL, Bool.and_eq_true] at h
    rw [enPL, List.any_cons, Bool.or_eq_true, any_eqv h0 ds h.2, eqv_enP e d h.1 h0, List.mem_cons]
    constructor
    · rintro (z | z)
      · exact .inl z.symm
      · exact .inr z
    · rintro (z | z)
      · exact .inl z.symm
      · exact .inr z
theorem nin_lst {d : D} {ds : List D} (h0 : PlD d) (h : PlD (.lst ds)) (hf : d.flat = false) (hm : d ∈ ds) : ninD d (.lst ds) = some (.bl false, 0) := by
  have hl : plL ds = true := by have := h.p; rwa [plD] at this
  have s0 : SeqAt.shaped (enP d) = true := by
    unfold SeqAt.shaped
    rw [lay_enP d h0.p, dep_enP, Bool.true_and]
    exact decide_eq_true h0.d
  have s1 : SeqAt.shaped (.list (enPL ds)) = true := by
    have e : PyData.list (enPL ds) = enP (.lst ds) := by rw [enP]
    rw [e]
    unfold SeqAt.shaped
    rw [lay_enP _ h.p, dep_enP, Bool.true_and]
    exact decide_eq_true h.d
  unfold ninD inB
  simp only [hf, Bool.false_and, Bool.false_eq_true, if_false, py_enP d h0.p, pyL_enP ds hl, s0, s1, Bool.and_self, if_true]
  rw [(any_eqv h0.p ds hl).mpr hm]
  rfl
theorem pl_L (L : List (List Int)) : PlD (.lst (L.map tD)) := PlD.lst (k := 1) (fun d hd => by
  obtain ⟨p, _, rfl⟩ := List.mem_map.mp hd
  have h := pl_nI p
  refine ⟨h.p, ?_⟩
  unfold tD
  rw [dpD]
  have := dpL_le (ds := nI p) (k := 0) fun d hd => by
    obtain ⟨i, _, rfl⟩ := List.mem_map.mp hd
    simp [dpD]
  omega) (by omega)
def fh (s : Sl) (L : List (List Int)) (d : Nat) (p du ne q : Sl) : En := [s, some (.lst (L.map tD), d), p, du, ne, q]
def nr (L : List (List Int)) (p : List Int) : List (List Int) := L.filter fun q => !crB (wov p q)
theorem fh_c1 (s : Sl) {i : Nat} (hi : i < 6) {p : List Int} (hp : p ∈ grL i) (du : Sl) : cp__law_few_hold_1 [s, some (.lst ((grL i).map tD), 1), some (tD p, 0), du, none, none] = .ok (.lst ((nr (grL i) p).map tD), 1) [s, some (.lst ((grL i).map tD), 0), some (tD p, 0), du, none, none] := by
  obtain ⟨p1, p2, p3⟩ := (mem_grL i p).mp hp
  have hL := (grL_len i hi).2
  unfold nr
  refine comp_filter1 tD tD (fun q => !crB (wov p q)) (env1 := [s, some (.lst ((grL i).map tD), 0), some (tD p, 0), du, none, none]) ?_ rfl (by omega) fun q hq => ?_
  · generalize (grL i).map tD = A at *
    generalize tD p = Q at *
    simp [-List.map_map, fnF, en0, seqS, passS, noS, exprS, retS, retN, retM, putE, setS, iteS, vOfE, eOfV, oOfV, kI, kB, kS, kN, nmV, nmO, op1, op2, opC, tst, tru, truD, notT, andT, orT, blV, vbl, andV, orV, notV, iteE, aNil, aCons, lNil, lCons, tupE, lstE, dicE, Opd.get, callF, frR, callI, callL, own1, addD, subD, negD, cmpD, lenD, intD, tupD, lisD, absD, isiD, tyD, min2D, max2D, Pv.R.of, raiseS, asgS, nameG, nilG, consG, tupG, isD, nisD, isNB, opS, pNone, pSome, seqI', itsD, sItS, putD, wipeE, backE]
  · obtain ⟨q1, q2, q3⟩ := (mem_grL i q).mp hq
    have h1 : F__law_woven none [tD p, tD q] = .ok (.tup (nI (wov p q)), 0) none := woven_ok p2 (by omega) (by omega)
    have h2 := crosses_ok (xs := wov p q) (by rw [wov_len]; omega)
    generalize nI (wov p q) = W at *
    generalize (grL i).map tD = A at *
    generalize tD p = Q at *
    generalize tD q = R' at *
    refine ⟨?_, fun _ => ?_⟩
    · simp [-List.map_map, fnF, en0, seqS, passS, noS, exprS, retS, retN, retM, putE, setS, iteS, vOfE, eOfV, oOfV, kI, kB, kS, kN, nmV, nmO, op1, op2, opC, tst, tru, truD, notT, andT, orT, blV, vbl, andV, orV, notV, iteE, aNil, aCons, lNil, lCons, tupE, lstE, dicE, Opd.get, callF, frR, callI, callL, own1, addD, subD, negD, cmpD, lenD, intD, tupD, lisD, absD, isiD, tyD, min2D, max2D, Pv.R.of, raiseS, asgS, nameG, nilG, consG, tupG, isD, nisD, isNB, opS, pNone, pSome, seqI', itsD, sItS, putD, wipeE, backE, h1, h2]
    · simp [-List.map_map, fnF, en0, seqS, passS, noS, exprS, retS, retN, retM, putE, setS, iteS, vOfE, eOfV, oOfV, kI, kB, kS, kN, nmV, nmO, op1, op2, opC, tst, tru, truD, notT, andT, orT, blV, vbl, andV, orV, notV, iteE, aNil, aCons, lNil, lCons, tupE, lstE, dicE, Opd.get, callF, frR, callI, callL, own1, addD, subD, negD, cmpD, lenD, intD, tupD, lisD, absD, isiD, tyD, min2D, max2D, Pv.R.of, raiseS, asgS, nameG, nilG, consG, tupG, isD, nisD, isNB, opS, pNone, pSome, seqI', itsD, sItS, putD, wipeE, backE]
theorem nr_fin {i : Nat} {p q du : List Int} (hp : p ∈ grL i) (hd : KL p du) (hq : q ∈ nr (grL i) p) : q ∈ grL i ∧ finB q du = true := by
  obtain ⟨h1, h2⟩ := List.mem_filter.mp hq
  obtain ⟨p1, p2, p3⟩ := (mem_grL i p).mp hp
  obtain ⟨q1, q2, q3⟩ := (mem_grL i q).mp h1
  refine ⟨h1, (finB_iff (by rw [hd.1]; omega)).mpr fun x y hx hy he => ?_⟩
  have hN := not_cr.mp h2
  rw [wov_len] at hN
  have hw := wov_Wo p2 q2 (by omega)
  exact (hd.2.2 x y (by omega) (by omega)).mpr (woven_rel hw hN (by omega) (by omega) he)
theorem nr_due {i : Nat} {p du : List Int} (hp : p ∈ grL i) (hd : KL p du) : du ∈ nr (grL i) p := by
  obtain ⟨p1, p2, p3⟩ := (mem_grL i p).mp hp
  have hn : NC (pf du) p.length := hd.2.2.nc
  have hm : du ∈ grL i := (mem_grL i du).mpr ⟨by rw [hd.1, p1], hd.2.1, by rw [hd.1]; exact hn⟩
  refine List.mem_filter.mpr ⟨hm, not_cr.mpr ?_⟩
  rw [wov_len]
  exact nc_woven (wov_Wo p2 hd.2.1 hd.1) p3 hn fun x y hx hy he => (hd.2.2 x y hx hy).mp he
theorem fh_c2 (s : Sl) {i : Nat} (hi : i < 6) {p du : List Int} (hp : p ∈ grL i) (hd : KL p du) (ev pp : Sl) : cp__law_few_hold_2 [s, ev, pp, some (tD du, 0), some (.lst ((nr (grL i) p).map tD), 1), none] = .ok (.lst (((nr (grL i) p).map fun _ => false).map D.bl), 1) [s, ev, pp, some (tD du, 0), some (.lst ((nr (grL i) p).map tD), 0), none] := by
  have hL := (grL_len i hi).2
  have hN : (nr (grL i) p).length ≤ 42 := by
    have := List.length_filter_le (fun q => !crB (wov p q)) (grL i)
    unfold nr
    omega
  obtain ⟨p1, p2, p3⟩ := (mem_grL i p).mp hp
  rw [List.map_map]
  refine comp_map1 tD _ (env1 := [s, ev, pp, some (tD du, 0), some (.lst ((nr (grL i) p).map tD), 0), none]) ?_ rfl (by omega) fun q hq => ?_
  · generalize (nr (grL i) p).map tD = A at *
    generalize tD du = Q at *
    simp [-List.map_map, fnF, en0, seqS, passS, noS, exprS, retS, retN, retM, putE, setS, iteS, vOfE, eOfV, oOfV, kI, kB, kS, kN, nmV, nmO, op1, op2, opC, tst, tru, truD, notT, andT, orT, blV, vbl, andV, orV, notV, iteE, aNil, aCons, lNil, lCons, tupE, lstE, dicE, Opd.get, callF, frR, callI, callL, own1, addD, subD, negD, cmpD, lenD, intD, tupD, lisD, absD, isiD, tyD, min2D, max2D, Pv.R.of, raiseS, asgS, nameG, nilG, consG, tupG, isD, nisD, isNB, opS, pNone, pSome, seqI', itsD, sItS, putD, wipeE, backE]
  · obtain ⟨h1, h2⟩ := nr_fin hp hd hq
    obtain ⟨q1, _⟩ := (mem_grL i q).mp h1
    have h3 : F__law_finer none [tD q, tD du] = .ok (.bl (finB q du), 0) none := finer_ok (by omega) (by rw [hd.1]; omega)
    rw [h2] at h3
    generalize (nr (grL i) p).map tD = A at *
    generalize tD q = Q at *
    generalize tD du = R' at *
    simp [-List.map_map, fnF, en0, seqS, passS, noS, exprS, retS, retN, retM, putE, setS, iteS, vOfE, eOfV, oOfV, kI, kB, kS, kN, nmV, nmO, op1, op2, opC, tst, tru, truD, notT, andT, orT, blV, vbl, andV, orV, notV, iteE, aNil, aCons, lNil, lCons, tupE, lstE, dicE, Opd.get, callF, frR, callI, callL, own1, addD, subD, negD, cmpD, lenD, intD, tupD, lisD, absD, isiD, tyD, min2D, max2D, Pv.R.of, raiseS, asgS, nameG, nilG, consG, tupG, isD, nisD, isNB, opS, pNone, pSome, seqI', itsD, sItS, putD, wipeE, backE, h3]
theorem eq_bl (b : Bool) : eqD (.bl b) (.bl b) = some (.bl true, 0) := by cases b <;> kernel_rfl
theorem at_L {L : List (List Int)} {v : Nat} (h : v < L.length) : idxD (.lst (L.map tD)) (.int v) = some (tD L[v], 0) := by
  rw [idx_lst (by simpa using h)]
  simp
theorem few_ok (a b : Int) : ∃ a' b', F__law_few_hold (stt a b) [] = .ok (.bl true, 0) (stt a' b') := by
  obtain ⟨n, a1, b1, t1, hn⟩ := take_nat a b 6 (by omega) (by omega)
  obtain ⟨hL0, hL1⟩ := grL_len n hn
  obtain ⟨i, a2, b2, t2, hi⟩ := take_nat a1 b1 (grL n).length hL0 (by omega)
  obtain ⟨j, a3, b3, t3, hj⟩ := take_nat a2 b2 (grL n).length hL0 (by omega)
  rw [← take_eq] at t1 t2 t3
  have t1 : F__law_take (some (.lst [.int a, .int b], 1)) [.int 6] = .ok (.int n, 0) (some (.lst [.int a1, .int b1], 1)) := t1
  have hg := grown_ok n hn
  have hp := List.getElem_mem hi
  have hq := List.getElem_mem hj
  have i1 := at_L hi
  have i2 := at_L hj
  generalize (grL n)[i] = p at *
  generalize (grL n)[j] = q at *
  obtain ⟨p1, p2, p3⟩ := (mem_grL n p).mp hp
  obtain ⟨q1, q2, q3⟩ := (mem_grL n q).mp hq
  have hP : Pn p := ⟨by omega, p2, p3⟩
  have hQ : Pn q := ⟨by omega, q2, q3⟩
  obtain ⟨du, _, hd⟩ := hP.kr
  obtain ⟨dq, _, hdq⟩ := hQ.kr
  have w1 : F__law_told none [.int 0, tD p, .int 0] = .ok (tD du, 0) none := hP.told0 hd (.int 0)
  have w2 : F__law_told none [.int 0, tD q, .int 0] = .ok (tD dq, 0) none := hQ.told0 hdq (.int 0)
  have f1 : F__law_finer none [tD p, tD q] = .ok (.bl (finB p q), 0) none := finer_ok (by omega) (by omega)
  have f2 : F__law_finer none [tD dq, tD du] = .ok (.bl (finB dq du), 0) none := finer_ok (by rw [hdq.1]; omega) (by rw [hd.1, hdq.1]; omega)
  have fe : finB p q = finB dq du := by
    have e1 := finB_iff (p := p) (q := q) (by omega)
    have e2 := finB_iff (p := dq) (q := du) (by rw [hd.1, hdq.1]; omega)
    have hl : dq.length = p.length := by rw [hdq.1]; omega
    have hk := hdq.2.2
    rw [show q.length = p.length by omega] at hk q3
    rw [hl] at e2
    have := fin_turns p3 q3 hd.2.2 hk
    rw [Bool.eq_iff_iff, e1, e2, this]
  rw [← fe] at f2
  have c1 := fun s => fh_c1 s hn hp (some (tD du, 0))
  have c2 := fun s ev pp => fh_c2 s hn hp hd ev pp
  have nn := nin_lst (d := tD du) (ds := (nr (grL n) p).map tD) (pl_nI du) (pl_L _) rfl (List.mem_map.mpr ⟨du, nr_due hp hd, rfl⟩)
  have an := anyD_bl ((nr (grL n) p).map fun _ => false)
  have an0 : ((nr (grL n) p).map fun _ => false).any id = false := by simp
  rw [an0] at an
  have hE : ((grL n).map tD).length = (grL n).length := by simp
  have eb := eq_bl (finB p q)
  generalize ((nr (grL n) p).map fun _ => false).map D.bl = B at *
  generalize (nr (grL n) p).map tD = N at *
  generalize (grL n).map tD = E at *
  generalize (grL n).length = m at *
  generalize tD p = P at *
  generalize tD q = Q at *
  generalize tD du = U at *
  generalize tD dq = V at *
  generalize finB p q = fb at *
  have s1 : g__law_few_hold_1 (en0 6 (stt a b) []) = .nx [stt a1 b1, some (.lst E, 1), none, none, none, none] := by simp [-List.map_map, fnF, en0, seqS, passS, noS, exprS, retS, retN, retM, putE, setS, iteS, vOfE, eOfV, oOfV, kI, kB, kS, kN, nmV, nmO, op1, op2, opC, tst, tru, truD, notT, andT, orT, blV, vbl, andV, orV, notV, iteE, aNil, aCons, lNil, lCons, tupE, lstE, dicE, Opd.get, callF, frR, callI, callL, own1, addD, subD, negD, cmpD, lenD, intD, tupD, lisD, absD, isiD, tyD, min2D, max2D, Pv.R.of, raiseS, asgS, nameG, nilG, consG, tupG, isD, nisD, isNB, opS, pNone, pSome, seqI', itsD, sItS, putD, wipeE, backE, t1, hg]
  have s2 : g__law_few_hold_2 [stt a1 b1, some (.lst E, 1), none, none, none, none] = .nx [stt a2 b2, some (.lst E, 1), some (P, 0), none, none, none] := by simp [-List.map_map, fnF, en0, seqS, passS, noS, exprS, retS, retN, retM, putE, setS, iteS, vOfE, eOfV, oOfV, kI, kB, kS, kN, nmV, nmO, op1, op2, opC, tst, tru, truD, notT, andT, orT, blV, vbl, andV, orV, notV, iteE, aNil, aCons, lNil, lCons, tupE, lstE, dicE, Opd.get, callF, frR, callI, callL, own1, addD, subD, negD, cmpD, lenD, intD, tupD, lisD, absD, isiD, tyD, min2D, max2D, Pv.R.of, raiseS, asgS, nameG, nilG, consG, tupG, isD, nisD, isNB, opS, pNone, pSome, seqI', itsD, sItS, putD, wipeE, backE, t2, i1, hE]
  have s3 : g__law_few_hold_3 [stt a2 b2, some (.lst E, 1), some (P, 0), none, none, none] = .nx [stt a2 b2, some (.lst E, 1), some (P, 0), some (U, 0), none, none] := by simp [-List.map_map, fnF, en0, seqS, passS, noS, exprS, retS, retN, retM, putE, setS, iteS, vOfE, eOfV, oOfV, kI, kB, kS, kN, nmV, nmO, op1, op2, opC, tst, tru, truD, notT, andT, orT, blV, vbl, andV, orV, notV, iteE, aNil, aCons, lNil, lCons, tupE, lstE, dicE, Opd.get, callF, frR, callI, callL, own1, addD, subD, negD, cmpD, lenD, intD, tupD, lisD, absD, isiD, tyD, min2D, max2D, Pv.R.of, raiseS, asgS, nameG, nilG, consG, tupG, isD, nisD, isNB, opS, pNone, pSome, seqI', itsD, sItS, putD, wipeE, backE, w1]
  have s4 : g__law_few_hold_4 [stt a2 b2, some (.lst E, 1), some (P, 0), some (U, 0), none, none] = .nx [stt a2 b2, some (.lst E, 0), some (P, 0), some (U, 0), some (.lst N, 1), none] := by simp [-List.map_map, fnF, en0, seqS, passS, noS, exprS, retS, retN, retM, putE, setS, iteS, vOfE, eOfV, oOfV, kI, kB, kS, kN, nmV, nmO, op1, op2, opC, tst, tru, truD, notT, andT, orT, blV, vbl, andV, orV, notV, iteE, aNil, aCons, lNil, lCons, tupE, lstE, dicE, Opd.get, callF, frR, callI, callL, own1, addD, subD, negD, cmpD, lenD, intD, tupD, lisD, absD, isiD, tyD, min2D, max2D, Pv.R.of, raiseS, asgS, nameG, nilG, consG, tupG, isD, nisD, isNB, opS, pNone, pSome, seqI', itsD, sItS, putD, wipeE, backE, c1 (stt a2 b2)]
  have s5 : g__law_few_hold_5 [stt a2 b2, some (.lst E, 0), some (P, 0), some (U, 0), some (.lst N, 1), none] = .nx [stt a2 b2, some (.lst E, 0), some (P, 0), some (U, 0), some (.lst N, 0), none] := by simp [-List.map_map, fnF, en0, seqS, passS, noS, exprS, retS, retN, retM, putE, setS, iteS, vOfE, eOfV, oOfV, kI, kB, kS, kN, nmV, nmO, op1, op2, opC, tst, tru, truD, notT, andT, orT, blV, vbl, andV, orV, notV, iteE, aNil, aCons, lNil, lCons, tupE, lstE, dicE, Opd.get, callF, frR, callI, callL, own1, addD, subD, negD, cmpD, lenD, intD, tupD, lisD, absD, isiD, tyD, min2D, max2D, Pv.R.of, raiseS, asgS, nameG, nilG, consG, tupG, isD, nisD, isNB, opS, pNone, pSome, seqI', itsD, sItS, putD, wipeE, backE, nn, c2 (stt a2 b2) (some (.lst E, 0)) (some (P, 0)), an]
  have s6 : g__law_few_hold_6 [stt a2 b2, some (.lst E, 0), some (P, 0), some (U, 0), some (.lst N, 0), none] = .nx [stt a3 b3, some (.lst E, 0), some (P, 0), some (U, 0), some (.lst N, 0), some (Q, 0)] := by simp [-List.map_map, fnF, en0, seqS, passS, noS, exprS, retS, retN, retM, putE, setS, iteS, vOfE, eOfV, oOfV, kI, kB, kS, kN, nmV, nmO, op1, op2, opC, tst, tru, truD, notT, andT, orT, blV, vbl, andV, orV, notV, iteE, aNil, aCons, lNil, lCons, tupE, lstE, dicE, Opd.get, callF, frR, callI, callL, own1, addD, subD, negD, cmpD, lenD, intD, tupD, lisD, absD, isiD, tyD, min2D, max2D, Pv.R.of, raiseS, asgS, nameG, nilG, consG, tupG, isD, nisD, isNB, opS, pNone, pSome, seqI', itsD, sItS, putD, wipeE, backE, t3, i2, hE]
  have s7 : g__law_few_hold_7 [stt a3 b3, some (.lst E, 0), some (P, 0), some (U, 0), some (.lst N, 0), some (Q, 0)] = .ret (.bl true, 0) [stt a3 b3, some (.lst E, 0), some (P, 0), some (U, 0), some (.lst N, 0), some (Q, 0)] := by simp [-List.map_map, fnF, en0, seqS, passS, noS, exprS, retS, retN, retM, putE, setS, iteS, vOfE, eOfV, oOfV, kI, kB, kS, kN, nmV, nmO, op1, op2, opC, tst, tru, truD, notT, andT, orT, blV, vbl, andV, orV, notV, iteE, aNil, aCons, lNil, lCons, tupE, lstE, dicE, Opd.get, callF, frR, callI, callL, own1, addD, subD, negD, cmpD, lenD, intD, tupD, lisD, absD, isiD, tyD, min2D, max2D, Pv.R.of, raiseS, asgS, nameG, nilG, consG, tupG, isD, nisD, isNB, opS, pNone, pSome, seqI', itsD, sItS, putD, wipeE, backE, f1, f2, w2, eb]
  refine ⟨a3, b3, ?_⟩
  show fnF 6 true g__law_few_hold _ _ = _
  unfold fnF
  unfold g__law_few_hold
  rw [(seqS_nx s1).trans ((seqS_nx s2).trans ((seqS_nx s3).trans ((seqS_nx s4).trans ((seqS_nx s5).trans ((seqS_nx s6).trans s7)))))]
  rfl
end L17
end

section
open Pv PySem PM KR
set_option Elab.async false
set_option linter.all false
set_option maxRecDepth 100000
namespace L17
/-! the law's blocks: their number -/
theorem lb_c1 (xs : List Int) (f : Sl) (c : Nat) (hl : xs.length ≤ 12) : cp__law_blocks_1 [some (.tup (nI xs), 0), f, some (.int c, 0), none] = .ok (.lst ((blk xs c).map nD), 1) [some (.tup (nI xs), 0), f, some (.int c, 0), none] := by
  have hXl : (nI xs).length = xs.length := by simp [nI]
  have hi := fun z (hz : z < xs.length) => at_gx hz
  generalize hX : nI xs = X at *
  refine comp_filter1 (fun i : Nat => .int i) _ (fun x => decide (xs[x]? = some (c : Int))) (rg1_ok (n := xs.length) (env1 := [some (.tup X, 0), f, some (.int c, 0), none]) (by simp [-List.map_map, fnF, en0, seqS, passS, noS, exprS, retS, retN, retM, putE, setS, iteS, vOfE, eOfV, oOfV, kI, kB, kS, kN, nmV, nmO, op1, op2, opC, tst, tru, truD, notT, andT, orT, blV, vbl, andV, orV, notV, iteE, aNil, aCons, lNil, lCons, tupE, lstE, dicE, Opd.get, callF, frR, callI, callL, own1, addD, subD, negD, cmpD, lenD, intD, tupD, lisD, absD, isiD, tyD, min2D, max2D, Pv.R.of, raiseS, asgS, nameG, nilG, consG, tupG, isD, nisD, isNB, opS, pNone, pSome, seqI', itsD, sItS, putD, wipeE, backE, hXl]) (by omega)) rfl (by simp; omega) fun x hx => ?_
  have hx := List.mem_range.mp hx
  have h1 := hi x hx
  rw [gx_pf hx]
  refine ⟨?_, fun _ => by simp [-List.map_map, fnF, en0, seqS, passS, noS, exprS, retS, retN, retM, putE, setS, iteS, vOfE, eOfV, oOfV, kI, kB, kS, kN, nmV, nmO, op1, op2, opC, tst, tru, truD, notT, andT, orT, blV, vbl, andV, orV, notV, iteE, aNil, aCons, lNil, lCons, tupE, lstE, dicE, Opd.get, callF, frR, callI, callL, own1, addD, subD, negD, cmpD, lenD, intD, tupD, lisD, absD, isiD, tyD, min2D, max2D, Pv.R.of, raiseS, asgS, nameG, nilG, consG, tupG, isD, nisD, isNB, opS, pNone, pSome, seqI', itsD, sItS, putD, wipeE, backE, nD]⟩
  by_cases q : gx xs x = (c : Int)
  · rw [decide_eq_true (by rw [q])]
    simp [-List.map_map, fnF, en0, seqS, passS, noS, exprS, retS, retN, retM, putE, setS, iteS, vOfE, eOfV, oOfV, kI, kB, kS, kN, nmV, nmO, op1, op2, opC, tst, tru, truD, notT, andT, orT, blV, vbl, andV, orV, notV, iteE, aNil, aCons, lNil, lCons, tupE, lstE, dicE, Opd.get, callF, frR, callI, callL, own1, addD, subD, negD, cmpD, lenD, intD, tupD, lisD, absD, isiD, tyD, min2D, max2D, Pv.R.of, raiseS, asgS, nameG, nilG, consG, tupG, isD, nisD, isNB, opS, pNone, pSome, seqI', itsD, sItS, putD, wipeE, backE, h1, q, eqD]
  · rw [decide_eq_false (fun z => q (Option.some.inj z))]
    simp [-List.map_map, fnF, en0, seqS, passS, noS, exprS, retS, retN, retM, putE, setS, iteS, vOfE, eOfV, oOfV, kI, kB, kS, kN, nmV, nmO, op1, op2, opC, tst, tru, truD, notT, andT, orT, blV, vbl, andV, orV, notV, iteE, aNil, aCons, lNil, lCons, tupE, lstE, dicE, Opd.get, callF, frR, callI, callL, own1, addD, subD, negD, cmpD, lenD, intD, tupD, lisD, absD, isiD, tyD, min2D, max2D, Pv.R.of, raiseS, asgS, nameG, nilG, consG, tupG, isD, nisD, isNB, opS, pNone, pSome, seqI', itsD, sItS, putD, wipeE, backE, h1, q, eqD]
theorem lblocks_ok {K : Nat} {xs : List Int} (h : RG K xs) (hl : xs.length ≤ 12) : ∃ B, F__law_blocks none [.tup (nI xs)] = .ok (.lst B, 1) none ∧ B.length = K := by
  have hK := rg_le h
  have hm := max_rg' h
  have l2 : 1 + (nI xs).length ≤ lim := le_lim (by simp [nI]; omega)
  have a1 : g__law_blocks_1 (en0 4 none [.tup (nI xs)]) = .nx [some (.tup (nI xs), 0), some (.lst [], 1), none, none] := by
    generalize nI xs = X
    simp [-List.map_map, fnF, en0, seqS, passS, noS, exprS, retS, retN, retM, putE, setS, iteS, vOfE, eOfV, oOfV, kI, kB, kS, kN, nmV, nmO, op1, op2, opC, tst, tru, truD, notT, andT, orT, blV, vbl, andV, orV, notV, iteE, aNil, aCons, lNil, lCons, tupE, lstE, dicE, Opd.get, callF, frR, callI, callL, own1, addD, subD, negD, cmpD, lenD, intD, tupD, lisD, absD, isiD, tyD, min2D, max2D, Pv.R.of, raiseS, asgS, nameG, nilG, consG, tupG, isD, nisD, isNB, opS, pNone, pSome, seqI', itsD, sItS, putD, wipeE, backE]
  obtain ⟨e, he, B, c, rfl, hB⟩ := loopS_ex (g := nameG 2) (body := lb__law_blocks_1) (fun k : Nat => D.int k) (List.range K) (fun i env => ∃ B c, env = [some (.tup (nI xs), 0), some (.lst B, 1), c, none] ∧ B.length = i) [some (.tup (nI xs), 0), some (.lst [], 1), none, none] ⟨[], none, rfl, rfl⟩ fun i hi env hP => by
    obtain ⟨B, c, rfl, hB⟩ := hP
    simp only [List.length_range] at hi
    have h1 := lb_c1 xs (some (.lst B, 1)) i hl
    have h2 : B.length < lim := lt_lim (by omega)
    refine ⟨[some (.tup (nI xs), 0), some (.lst B, 1), some (.int i, 0), none], [some (.tup (nI xs), 0), some (.lst (B ++ [.tup ((blk xs i).map nD)]), 1), some (.int i, 0), none], ?_, ?_, _, _, rfl, by simp [hB]⟩
    · generalize nI xs = X
      simp [-List.map_map, fnF, en0, seqS, passS, noS, exprS, retS, retN, retM, putE, setS, iteS, vOfE, eOfV, oOfV, kI, kB, kS, kN, nmV, nmO, op1, op2, opC, tst, tru, truD, notT, andT, orT, blV, vbl, andV, orV, notV, iteE, aNil, aCons, lNil, lCons, tupE, lstE, dicE, Opd.get, callF, frR, callI, callL, own1, addD, subD, negD, cmpD, lenD, intD, tupD, lisD, absD, isiD, tyD, min2D, max2D, Pv.R.of, raiseS, asgS, nameG, nilG, consG, tupG, isD, nisD, isNB, opS, pNone, pSome, seqI', itsD, sItS, putD, wipeE, backE, List.getElem_range]
    · generalize nI xs = X at *
      unfold lb__law_blocks_1 appS
      rw [if_pos (by rfl)]
      simp [-List.map_map, fnF, en0, seqS, passS, noS, exprS, retS, retN, retM, putE, setS, iteS, vOfE, eOfV, oOfV, kI, kB, kS, kN, nmV, nmO, op1, op2, opC, tst, tru, truD, notT, andT, orT, blV, vbl, andV, orV, notV, iteE, aNil, aCons, lNil, lCons, tupE, lstE, dicE, Opd.get, callF, frR, callI, callL, own1, addD, subD, negD, cmpD, lenD, intD, tupD, lisD, absD, isiD, tyD, min2D, max2D, Pv.R.of, raiseS, asgS, nameG, nilG, consG, tupG, isD, nisD, isNB, opS, pNone, pSome, seqI', itsD, sItS, putD, wipeE, backE, h1, h2]
  rw [List.length_range] at hB
  have a2 : g__law_blocks_2 [some (.tup (nI xs), 0), some (.lst [], 1), none, none] = .nx [some (.tup (nI xs), 0), some (.lst B, 1), c, none] := (forS_ok (rg1_ok (n := K) (env1 := [some (.tup (nI xs), 0), some (.lst [], 1), none, none]) (by
    have e : (K : Int) = (K : Int) - 1 + 1 := by omega
    rw [e]
    generalize nI xs = X at *
    simp [-List.map_map, fnF, en0, seqS, passS, noS, exprS, retS, retN, retM, putE, setS, iteS, vOfE, eOfV, oOfV, kI, kB, kS, kN, nmV, nmO, op1, op2, opC, tst, tru, truD, notT, andT, orT, blV, vbl, andV, orV, notV, iteE, aNil, aCons, lNil, lCons, tupE, lstE, dicE, Opd.get, callF, frR, callI, callL, own1, addD, subD, negD, cmpD, lenD, intD, tupD, lisD, absD, isiD, tyD, min2D, max2D, Pv.R.of, raiseS, asgS, nameG, nilG, consG, tupG, isD, nisD, isNB, opS, pNone, pSome, seqI', itsD, sItS, putD, wipeE, backE, hm, l2]) (by omega))).trans he
  have a3 : g__law_blocks_3 [some (.tup (nI xs), 0), some (.lst B, 1), c, none] = .ret (.lst B, 1) [some (.tup (nI xs), 0), none, c, none] := by
    generalize nI xs = X
    simp [-List.map_map, fnF, en0, seqS, passS, noS, exprS, retS, retN, retM, putE, setS, iteS, vOfE, eOfV, oOfV, kI, kB, kS, kN, nmV, nmO, op1, op2, opC, tst, tru, truD, notT, andT, orT, blV, vbl, andV, orV, notV, iteE, aNil, aCons, lNil, lCons, tupE, lstE, dicE, Opd.get, callF, frR, callI, callL, own1, addD, subD, negD, cmpD, lenD, intD, tupD, lisD, absD, isiD, tyD, min2D, max2D, Pv.R.of, raiseS, asgS, nameG, nilG, consG, tupG, isD, nisD, isNB, opS, pNone, pSome, seqI', itsD, sItS, putD, wipeE, backE]
  exact ⟨B, fnF_ret ((seqS_nx a1).trans ((seqS_nx a2).trans a3)), hB⟩
/-! complements and turns -/
theorem tn_succ {n x : Nat} (hx : x < n) : tn n 1 ((x + 1) % n) = x := tn_back hx (by
  rw [show (x : Int) + 1 = ((x + 1 : Nat) : Int) by omega]
  rfl)
theorem tn_neg {n x : Nat} (hx : x < n) : tn n (-1) x = (x + 1) % n := by
  unfold tn
  rw [show (x : Int) - -1 = ((x + 1 : Nat) : Int) by omega]
  rw [← Int.natCast_emod]
  exact Int.toNat_natCast _
theorem turn_at {q : List Int} {s : Int} {x : Nat} (hx : x < q.length) : (turnL q s)[x]? = some (gx q (tn q.length s x)) := by
  unfold turnL
  rw [List.getElem?_map, List.getElem?_range hx]
  rfl
theorem tu_turn (q : List Int) : Tu (pf q) (pf (fnum (turnL q 1))) q.length := by
  intro x y hx hy
  have hp : 0 < q.length := by omega
  have h1 := Nat.mod_lt (x + 1) hp
  have h2 := Nat.mod_lt (y + 1) hp
  have hl := turnL_len q 1
  rw [show (pf (fnum (turnL q 1)) ((x + 1) % q.length) = pf (fnum (turnL q 1)) ((y + 1) % q.length)) = ((fnum (turnL q 1))[(x + 1) % q.length]? = (fnum (turnL q 1))[(y + 1) % q.length]?) from rfl, fnum_at (by omega) (by omega), turn_at h1, turn_at h2, tn_succ hx, tn_succ hy, Option.some.injEq]
  exact (gx_eq hx hy).symm
/-- back again -/
theorem back_eq {p due q : List Int} (hp : Pn p) (h1 : KL p due) (h2 : KL due q) : fnum (turnL q 1) = p := by
  have hl1 := h1.1
  have hl2 := h2.1
  have hq : q.length = p.length := by omega
  refine ker_uniq (by rw [len_fnum, turnL_len, hq]) (fnum_idem _) hp.r fun i j hi hj => ?_
  rw [len_fnum, turnL_len, hq] at hi hj
  obtain ⟨x, hx, rfl⟩ := pred_mod hi
  obtain ⟨y, hy, rfl⟩ := pred_mod hj
  have ht := tu_turn q x y (by omega) (by omega)
  rw [hq] at ht
  have hk := h2.2.2
  rw [hl1] at hk
  exact ht.trans ((hk x y hx hy).trans (h1.2.2.twice' hp.n hx hy))
theorem back_KL {p due : List Int} (hp : Pn p) (h1 : KL p due) : Pn (fnum (turnL due 1)) ∧ KL (fnum (turnL due 1)) p := by
  have hl := h1.1
  have hb : (fnum (turnL due 1)).length = p.length := by rw [len_fnum, turnL_len, hl]
  have ht := tu_turn due
  rw [hl] at ht
  have ht2 := tu_turn p
  refine ⟨⟨by rw [hb]; exact hp.l, fnum_idem _, ?_⟩, hb.symm, hp.r, ?_⟩
  · rw [hb]
    have hk : IsK (pf (fnum (turnL p 1))) (pf (fnum (turnL due 1))) p.length := fun x y hx hy => by
      obtain ⟨x', hx', rfl⟩ := pred_mod hx
      obtain ⟨y', hy', rfl⟩ := pred_mod hy
      exact (ht x' y' hx' hy').trans ((h1.2.2 x' y' hx' hy').trans (rel_turn ht2 hx' hy').symm)
    exact hk.nc
  · rw [hb]
    intro x y hx hy
    obtain ⟨x', hx', rfl⟩ := pred_mod hx
    obtain ⟨y', hy', rfl⟩ := pred_mod hy
    exact ((rel_turn ht hx' hy').trans (h1.2.2.twice' hp.n hx' hy')).symm
theorem twice_eq {p due q : List Int} (hp : Pn p) (h1 : KL p due) (h2 : KL due q) : q = fnum (turnL p (-1)) := by
  have hl1 := h1.1
  have hl2 := h2.1
  have hq : q.length = p.length := by omega
  refine ker_uniq (by rw [len_fnum, turnL_len, hq]) h2.2.1 (fnum_idem _) fun i j hi hj => ?_
  rw [hq] at hi hj
  have hk := h2.2.2
  rw [hl1] at hk
  have ht := turnL_len p (-1)
  have hp0 : 0 < p.length := by omega
  rw [fnum_at (by omega) (by omega), turn_at hi, turn_at hj, tn_neg hi, tn_neg hj, Option.some.injEq, ← gx_eq (Nat.mod_lt _ hp0) (Nat.mod_lt _ hp0)]
  exact (hk i j hi hj).trans (h1.2.2.twice' hp.n hi hj)
theorem block_sum {p due : List Int} {K K' : Nat} (hp : Pn p) (h1 : KL p due) (hK : RG K p) (hK' : RG K' due) (h0 : 0 < p.length) : K + K' = p.length + 1 := by
  have c1 := rg_cnt p K hK
  have c2 := rg_cnt due K' hK'
  rw [h1.1] at c2
  rw [← c1, ← c2]
  exact h1.2.2.count hp.n h0
end L17
end

section
open Pv PySem PM KR
set_option Elab.async false
set_option linter.all false
set_option maxRecDepth 100000
namespace L17
abbrev le (sc st n p du bk s bad wh : Sl) : En := [sc, st, n, p, du, bk, s, bad, wh]
abbrev tS (xs : List Int) : Sl := some (tD xs, 0)
theorem w1 (ns : List Int) : ∃ a b, g_law_1 (en0 9 none [.scr ns]) = .nx (le (some (.scr ns, 0)) (stt a b) none none none none none none none) := by
  obtain ⟨a, b, h⟩ := lawState_ok ns
  have h' : F__law_state none [.scr ns] = .ok (.lst [.int a, .int b], 1) none := h
  exact ⟨a, b, by simp [-List.map_map, fnF, en0, seqS, passS, noS, exprS, retS, retN, retM, putE, setS, iteS, vOfE, eOfV, oOfV, kI, kB, kS, kN, nmV, nmO, op1, op2, opC, tst, tru, truD, notT, andT, orT, blV, vbl, andV, orV, notV, iteE, aNil, aCons, lNil, lCons, tupE, lstE, dicE, Opd.get, callF, frR, callI, callL, own1, addD, subD, negD, cmpD, lenD, intD, tupD, lisD, absD, isiD, tyD, min2D, max2D, Pv.R.of, raiseS, asgS, nameG, nilG, consG, tupG, isD, nisD, isNB, opS, pNone, pSome, seqI', itsD, sItS, putD, wipeE, backE, h']⟩
theorem w2 (sc : Sl) (a b : Int) : ∃ a' b', g_law_2 (le sc (stt a b) none none none none none none none) = .nx (le sc (stt a' b') none none none none none none none) := by
  obtain ⟨a1, b1, h⟩ := few_ok a b
  have h1 : F__law_few_hold (some (.lst [.int a, .int b], 1)) [] = .ok (.bl true, 0) (some (.lst [.int a1, .int b1], 1)) := h
  exact ⟨a1, b1, by simp [-List.map_map, fnF, en0, seqS, passS, noS, exprS, retS, retN, retM, putE, setS, iteS, vOfE, eOfV, oOfV, kI, kB, kS, kN, nmV, nmO, op1, op2, opC, tst, tru, truD, notT, andT, orT, blV, vbl, andV, orV, notV, iteE, aNil, aCons, lNil, lCons, tupE, lstE, dicE, Opd.get, callF, frR, callI, callL, own1, addD, subD, negD, cmpD, lenD, intD, tupD, lisD, absD, isiD, tyD, min2D, max2D, Pv.R.of, raiseS, asgS, nameG, nilG, consG, tupG, isD, nisD, isNB, opS, pNone, pSome, seqI', itsD, sItS, putD, wipeE, backE, h1]⟩
theorem w3 (sc : Sl) (a b : Int) : ∃ (n : Nat) (a' b' : Int), g_law_3 (le sc (stt a b) none none none none none none none) = .nx (le sc (stt a' b') (some (.int n, 0)) none none none none none none) ∧ n ≤ 12 := by
  obtain ⟨v, a1, b1, h1, h2⟩ := take_nat a b 13 (by omega) (by omega)
  rw [← take_eq] at h1
  have h1 : F__law_take (some (.lst [.int a, .int b], 1)) [.int 13] = .ok (.int v, 0) (some (.lst [.int a1, .int b1], 1)) := h1
  exact ⟨v, a1, b1, by simp [-List.map_map, fnF, en0, seqS, passS, noS, exprS, retS, retN, retM, putE, setS, iteS, vOfE, eOfV, oOfV, kI, kB, kS, kN, nmV, nmO, op1, op2, opC, tst, tru, truD, notT, andT, orT, blV, vbl, andV, orV, notV, iteE, aNil, aCons, lNil, lCons, tupE, lstE, dicE, Opd.get, callF, frR, callI, callL, own1, addD, subD, negD, cmpD, lenD, intD, tupD, lisD, absD, isiD, tyD, min2D, max2D, Pv.R.of, raiseS, asgS, nameG, nilG, consG, tupG, isD, nisD, isNB, opS, pNone, pSome, seqI', itsD, sItS, putD, wipeE, backE, h1], by omega⟩
theorem w4 (sc : Sl) (a b : Int) (n : Nat) (hn : n ≤ 12) : ∃ (K : Nat) (xs : List Int) (a' b' : Int), g_law_4 (le sc (stt a b) (some (.int n, 0)) none none none none none none) = .nx (le sc (stt a' b') (some (.int n, 0)) (tS xs) none none none none none) ∧ RG K xs ∧ NC (pf xs) xs.length ∧ xs.length = n := by
  obtain ⟨K, xs, a1, b1, h1, h2, h3, h4⟩ := drawn_ok a b n hn
  have h1 : F__law_drawn (some (.lst [.int a, .int b], 1)) [.str (PySem.Str.ofString "noncrossing"), .int n] = .ok (tD xs, 0) (some (.lst [.int a1, .int b1], 1)) := h1
  refine ⟨K, xs, a1, b1, ?_, h2, h3, h4⟩
  show _ = SR.nx [sc, stt a1 b1, some (.int n, 0), some (tD xs, 0), none, none, none, none, none]
  generalize tD xs = X at *
  simp [-List.map_map, fnF, en0, seqS, passS, noS, exprS, retS, retN, retM, putE, setS, iteS, vOfE, eOfV, oOfV, kI, kB, kS, kN, nmV, nmO, op1, op2, opC, tst, tru, truD, notT, andT, orT, blV, vbl, andV, orV, notV, iteE, aNil, aCons, lNil, lCons, tupE, lstE, dicE, Opd.get, callF, frR, callI, callL, own1, addD, subD, negD, cmpD, lenD, intD, tupD, lisD, absD, isiD, tyD, min2D, max2D, Pv.R.of, raiseS, asgS, nameG, nilG, consG, tupG, isD, nisD, isNB, opS, pNone, pSome, seqI', itsD, sItS, putD, wipeE, backE, h1]
theorem kreweras_eq {p du : List Int} (hp : Pn p) (h : KL p du) : F__law_kreweras none [tD p] = .ok (tD du, 0) none := by
  obtain ⟨q, h1, h2⟩ := kreweras_ok (p := p) (by have := hp.l; omega)
  rw [h.uniq h2]
  exact h1
theorem w5 (sc st n : Sl) {p du : List Int} (hp : Pn p) (h : KL p du) : g_law_5 (le sc st n (tS p) none none none none none) = .nx (le sc st n (tS p) (tS du) none none none none) := by
  have h1 := kreweras_eq hp h
  show g_law_5 [sc, st, n, some (tD p, 0), none, none, none, none, none] = .nx [sc, st, n, some (tD p, 0), some (tD du, 0), none, none, none, none]
  generalize tD p = P at *
  generalize tD du = U at *
  simp [-List.map_map, fnF, en0, seqS, passS, noS, exprS, retS, retN, retM, putE, setS, iteS, vOfE, eOfV, oOfV, kI, kB, kS, kN, nmV, nmO, op1, op2, opC, tst, tru, truD, notT, andT, orT, blV, vbl, andV, orV, notV, iteE, aNil, aCons, lNil, lCons, tupE, lstE, dicE, Opd.get, callF, frR, callI, callL, own1, addD, subD, negD, cmpD, lenD, intD, tupD, lisD, absD, isiD, tyD, min2D, max2D, Pv.R.of, raiseS, asgS, nameG, nilG, consG, tupG, isD, nisD, isNB, opS, pNone, pSome, seqI', itsD, sItS, putD, wipeE, backE, h1]
theorem same_D (xs : List Int) (hl : xs.length ≤ 12) : F__law_same 6 none [tD xs, tD xs] = .ok (.bl true, 0) none := same_tup 4 xs (by omega)
theorem w6 (sc st n : Sl) {p du : List Int} (hp : Pn p) (h : KL p du) : g_law_6 (le sc st n (tS p) (tS du) none none none none) = .nx (le sc st n (tS p) (tS du) none none none none) := by
  have hd := L17.KL.pn h hp.l
  obtain ⟨q, _, hq⟩ := hd.kr
  have t0 : F__law_told none [.int 0, tD p, .int 0] = .ok (tD du, 0) none := hp.told0 h (.int 0)
  have t1 : F__law_told none [.int 1, tD du, .int 0] = .ok (tD p, 0) none := by
    have := hd.told1 hq (.int 0)
    rw [back_eq hp h hq] at this
    exact this
  have s1 := same_D du hd.l
  have s2 := same_D p hp.l
  have c1 : F__law_crosses none [tD du] = .ok (.bl false, 0) none := by
    have := crosses_ok (xs := du) (by have := hd.l; omega)
    have e := not_cr.mpr hd.n
    rw [Bool.not_eq_true'] at e
    rw [e] at this
    exact this
  show g_law_6 [sc, st, n, some (tD p, 0), some (tD du, 0), none, none, none, none] = .nx [sc, st, n, some (tD p, 0), some (tD du, 0), none, none, none, none]
  generalize tD p = P at *
  generalize tD du = U at *
  simp [-List.map_map, fnF, en0, seqS, passS, noS, exprS, retS, retN, retM, putE, setS, iteS, vOfE, eOfV, oOfV, kI, kB, kS, kN, nmV, nmO, op1, op2, opC, tst, tru, truD, notT, andT, orT, blV, vbl, andV, orV, notV, iteE, aNil, aCons, lNil, lCons, tupE, lstE, dicE, Opd.get, callF, frR, callI, callL, own1, addD, subD, negD, cmpD, lenD, intD, tupD, lisD, absD, isiD, tyD, min2D, max2D, Pv.R.of, raiseS, asgS, nameG, nilG, consG, tupG, isD, nisD, isNB, opS, pNone, pSome, seqI', itsD, sItS, putD, wipeE, backE, t0, t1, s1, s2, c1]
theorem w7 (sc st n : Sl) {p du : List Int} (hp : Pn p) (h : KL p du) : g_law_7 (le sc st n (tS p) (tS du) none none none none) = .nx (le sc st n (tS p) (tS du) (tS (fnum (turnL du 1))) none none none) := by
  have t1 : F__law_told none [.int 1, tD p, .int 0] = .ok (tD (fnum (turnL du 1)), 0) none := hp.told1 h (.int 0)
  show g_law_7 [sc, st, n, some (tD p, 0), some (tD du, 0), none, none, none, none] = .nx [sc, st, n, some (tD p, 0), some (tD du, 0), some (tD (fnum (turnL du 1)), 0), none, none, none]
  generalize tD (fnum (turnL du 1)) = B at *
  generalize tD p = P at *
  generalize tD du = U at *
  simp [-List.map_map, fnF, en0, seqS, passS, noS, exprS, retS, retN, retM, putE, setS, iteS, vOfE, eOfV, oOfV, kI, kB, kS, kN, nmV, nmO, op1, op2, opC, tst, tru, truD, notT, andT, orT, blV, vbl, andV, orV, notV, iteE, aNil, aCons, lNil, lCons, tupE, lstE, dicE, Opd.get, callF, frR, callI, callL, own1, addD, subD, negD, cmpD, lenD, intD, tupD, lisD, absD, isiD, tyD, min2D, max2D, Pv.R.of, raiseS, asgS, nameG, nilG, consG, tupG, isD, nisD, isNB, opS, pNone, pSome, seqI', itsD, sItS, putD, wipeE, backE, t1]
theorem w8 (sc st n : Sl) {p du : List Int} (hp : Pn p) (h : KL p du) : g_law_8 (le sc st n (tS p) (tS du) (tS (fnum (turnL du 1))) none none none) = .nx (le sc st n (tS p) (tS du) (tS (fnum (turnL du 1))) none none none) := by
  obtain ⟨hb, hk⟩ := back_KL hp h
  have t0 : F__law_told none [.int 0, tD (fnum (turnL du 1)), .int 0] = .ok (tD p, 0) none := hb.told0 hk (.int 0)
  have s1 := same_D p hp.l
  have k1 := kreweras_eq hb hk
  have e1 : neD (tD p) (tD p) = some (.bl false, 0) := neD_same (pl_nI p)
  show g_law_8 [sc, st, n, some (tD p, 0), some (tD du, 0), some (tD (fnum (turnL du 1)), 0), none, none, none] = .nx [sc, st, n, some (tD p, 0), some (tD du, 0), some (tD (fnum (turnL du 1)), 0), none, none, none]
  generalize tD (fnum (turnL du 1)) = B at *
  generalize tD p = P at *
  generalize tD du = U at *
  simp [-List.map_map, fnF, en0, seqS, passS, noS, exprS, retS, retN, retM, putE, setS, iteS, vOfE, eOfV, oOfV, kI, kB, kS, kN, nmV, nmO, op1, op2, opC, tst, tru, truD, notT, andT, orT, blV, vbl, andV, orV, notV, iteE, aNil, aCons, lNil, lCons, tupE, lstE, dicE, Opd.get, callF, frR, callI, callL, own1, addD, subD, negD, cmpD, lenD, intD, tupD, lisD, absD, isiD, tyD, min2D, max2D, Pv.R.of, raiseS, asgS, nameG, nilG, consG, tupG, isD, nisD, isNB, opS, pNone, pSome, seqI', itsD, sItS, putD, wipeE, backE, t0, s1, k1, e1]
theorem w9 (sc st b : Sl) {p du : List Int} (hp : Pn p) (h : KL p du) : g_law_9 (le sc st (some (.int p.length, 0)) (tS p) (tS du) b none none none) = .nx (le sc st (some (.int p.length, 0)) (tS p) (tS du) b none none none) := by
  obtain ⟨K, hK⟩ := rg_of hp.r
  obtain ⟨K', hK'⟩ := rg_of h.2.1
  obtain ⟨B, b1, b2⟩ := lblocks_ok hK hp.l
  obtain ⟨B', b3, b4⟩ := lblocks_ok hK' (by rw [h.1]; exact hp.l)
  have b1 : F__law_blocks none [tD p] = .ok (.lst B, 1) none := b1
  have b3 : F__law_blocks none [tD du] = .ok (.lst B', 1) none := b3
  show g_law_9 [sc, st, some (.int p.length, 0), some (tD p, 0), some (tD du, 0), b, none, none, none] = .nx [sc, st, some (.int p.length, 0), some (tD p, 0), some (tD du, 0), b, none, none, none]
  have hsum := block_sum hp h hK hK'
  generalize tD p = P at *
  generalize tD du = U at *
  generalize p.length = m at *
  by_cases q : 0 < m
  · have h1 : ((B.length : Nat) : Int) + (B'.length : Nat) = (m : Int) + 1 := by
      have := hsum q
      omega
    have q' : (0 : Int) < (m : Int) := by omega
    simp [-List.map_map, fnF, en0, seqS, passS, noS, exprS, retS, retN, retM, putE, setS, iteS, vOfE, eOfV, oOfV, kI, kB, kS, kN, nmV, nmO, op1, op2, opC, tst, tru, truD, notT, andT, orT, blV, vbl, andV, orV, notV, iteE, aNil, aCons, lNil, lCons, tupE, lstE, dicE, Opd.get, callF, frR, callI, callL, own1, addD, subD, negD, cmpD, lenD, intD, tupD, lisD, absD, isiD, tyD, min2D, max2D, Pv.R.of, raiseS, asgS, nameG, nilG, consG, tupG, isD, nisD, isNB, opS, pNone, pSome, seqI', itsD, sItS, putD, wipeE, backE, b1, b3, q, q', h1, neD]
  · have q' : ¬ (0 : Int) < (m : Int) := by omega
    have q0 : m = 0 := by omega
    simp [-List.map_map, fnF, en0, seqS, passS, noS, exprS, retS, retN, retM, putE, setS, iteS, vOfE, eOfV, oOfV, kI, kB, kS, kN, nmV, nmO, op1, op2, opC, tst, tru, truD, notT, andT, orT, blV, vbl, andV, orV, notV, iteE, aNil, aCons, lNil, lCons, tupE, lstE, dicE, Opd.get, callF, frR, callI, callL, own1, addD, subD, negD, cmpD, lenD, intD, tupD, lisD, absD, isiD, tyD, min2D, max2D, Pv.R.of, raiseS, asgS, nameG, nilG, consG, tupG, isD, nisD, isNB, opS, pNone, pSome, seqI', itsD, sItS, putD, wipeE, backE, q, q', q0]
theorem turn_nil {p : List Int} (h : p.length = 0) (s : Int) : fnum (turnL p s) = [] := by
  have : (fnum (turnL p s)).length = 0 := by rw [len_fnum, turnL_len, h]
  exact List.eq_nil_of_length_eq_zero this
theorem l1_ok (sc st b : Sl) (du : Sl) {p : List Int} (hp : Pn p) (s : Int) (h1 : -12 ≤ s) (h2 : s ≤ 12) : lb_law_1 (le sc st (some (.int p.length, 0)) (tS p) du b (some (.int s, 0)) none none) = .nx (le sc st (some (.int p.length, 0)) (tS p) du b (some (.int s, 0)) none none) := by
  have t2 : F__law_told none [.int 2, tD p, .int s] = .ok (tD (fnum (turnL p s)), 0) none := hp.told2 s h1 h2
  have lt : F__law_turned none [tD p, .int s] = .ok (tD (fnum (turnL p s)), 0) none := lawturned_ok (by have := hp.l; omega) s
  have s1 := same_D (fnum (turnL p s)) (by rw [len_fnum, turnL_len]; exact hp.l)
  have hnil := fun z => turn_nil (p := p) z s
  show lb_law_1 [sc, st, some (.int p.length, 0), some (tD p, 0), du, b, some (.int s, 0), none, none] = .nx [sc, st, some (.int p.length, 0), some (tD p, 0), du, b, some (.int s, 0), none, none]
  by_cases q : 0 < p.length
  · have q' : (0 : Int) < (p.length : Int) := by omega
    generalize tD (fnum (turnL p s)) = T at *
    generalize tD p = P at *
    generalize p.length = m at *
    simp [-List.map_map, fnF, en0, seqS, passS, noS, exprS, retS, retN, retM, putE, setS, iteS, vOfE, eOfV, oOfV, kI, kB, kS, kN, nmV, nmO, op1, op2, opC, tst, tru, truD, notT, andT, orT, blV, vbl, andV, orV, notV, iteE, aNil, aCons, lNil, lCons, tupE, lstE, dicE, Opd.get, callF, frR, callI, callL, own1, addD, subD, negD, cmpD, lenD, intD, tupD, lisD, absD, isiD, tyD, min2D, max2D, Pv.R.of, raiseS, asgS, nameG, nilG, consG, tupG, isD, nisD, isNB, opS, pNone, pSome, seqI', itsD, sItS, putD, wipeE, backE, q, q', t2, lt, s1]
  · have q0 : p.length = 0 := by omega
    rw [hnil q0] at t2 s1
    have e : tD [] = .tup [] := rfl
    rw [e] at t2 s1
    rw [q0]
    generalize tD p = P at *
    simp [-List.map_map, fnF, en0, seqS, passS, noS, exprS, retS, retN, retM, putE, setS, iteS, vOfE, eOfV, oOfV, kI, kB, kS, kN, nmV, nmO, op1, op2, opC, tst, tru, truD, notT, andT, orT, blV, vbl, andV, orV, notV, iteE, aNil, aCons, lNil, lCons, tupE, lstE, dicE, Opd.get, callF, frR, callI, callL, own1, addD, subD, negD, cmpD, lenD, intD, tupD, lisD, absD, isiD, tyD, min2D, max2D, Pv.R.of, raiseS, asgS, nameG, nilG, consG, tupG, isD, nisD, isNB, opS, pNone, pSome, seqI', itsD, sItS, putD, wipeE, backE, t2, s1]
theorem w10 (sc b : Sl) (du : Sl) {p : List Int} (hp : Pn p) (a c : Int) : ∃ (a' c' : Int) (s : Sl), g_law_10 (le sc (stt a c) (some (.int p.length, 0)) (tS p) du b none none none) = .nx (le sc (stt a' c') (some (.int p.length, 0)) (tS p) du b s none none) := by
  obtain ⟨v, a1, c1, h1, h2⟩ := take_nat a c 25 (by omega) (by omega)
  rw [← take_eq] at h1
  have h1 : F__law_take (some (.lst [.int a, .int c], 1)) [.int 25] = .ok (.int v, 0) (some (.lst [.int a1, .int c1], 1)) := h1
  have hb := fun s h1 h2 => l1_ok sc (stt a1 c1) b du hp s h1 h2
  obtain ⟨e, he, s, rfl⟩ := loopS_inv (g := nameG 6) (body := lb_law_1) (fun env => ∃ s, env = le sc (stt a1 c1) (some (.int p.length, 0)) (tS p) du b s none none) [.int 0, .int 1, .int (-1), .int ((v : Int) - 12), .int 12, .int (-12)] (le sc (stt a1 c1) (some (.int p.length, 0)) (tS p) du b none none none) ⟨none, rfl⟩ fun d hd env hP => by
    obtain ⟨s, rfl⟩ := hP
    have : ∃ i : Int, d = .int i ∧ -12 ≤ i ∧ i ≤ 12 := by
      simp only [List.mem_cons, List.not_mem_nil, or_false] at hd
      rcases hd with rfl | rfl | rfl | rfl | rfl | rfl
      · exact ⟨0, rfl, by omega, by omega⟩
      · exact ⟨1, rfl, by omega, by omega⟩
      · exact ⟨-1, rfl, by omega, by omega⟩
      · exact ⟨(v : Int) - 12, rfl, by omega, by omega⟩
      · exact ⟨12, rfl, by omega, by omega⟩
      · exact ⟨-12, rfl, by omega, by omega⟩
    obtain ⟨i, rfl, i1, i2⟩ := this
    refine ⟨le sc (stt a1 c1) (some (.int p.length, 0)) (tS p) du b (some (.int i, 0)) none none, _, ?_, hb i i1 i2, _, rfl⟩
    show nameG 6 _ [sc, stt a1 c1, some (.int p.length, 0), some (tD p, 0), du, b, s, none, none] = some [sc, stt a1 c1, some (.int p.length, 0), some (tD p, 0), du, b, some (.int i, 0), none, none]
    generalize tD p = P
    simp [-List.map_map, fnF, en0, seqS, passS, noS, exprS, retS, retN, retM, putE, setS, iteS, vOfE, eOfV, oOfV, kI, kB, kS, kN, nmV, nmO, op1, op2, opC, tst, tru, truD, notT, andT, orT, blV, vbl, andV, orV, notV, iteE, aNil, aCons, lNil, lCons, tupE, lstE, dicE, Opd.get, callF, frR, callI, callL, own1, addD, subD, negD, cmpD, lenD, intD, tupD, lisD, absD, isiD, tyD, min2D, max2D, Pv.R.of, raiseS, asgS, nameG, nilG, consG, tupG, isD, nisD, isNB, opS, pNone, pSome, seqI', itsD, sItS, putD, wipeE, backE]
  refine ⟨a1, c1, s, (forS_ok (ds := [.int 0, .int 1, .int (-1), .int ((v : Int) - 12), .int 12, .int (-12)]) (env1 := le sc (stt a1 c1) (some (.int p.length, 0)) (tS p) du b none none none) ?_).trans he⟩
  show seqI' _ [sc, stt a c, some (.int p.length, 0), some (tD p, 0), du, b, none, none, none] = .ok _ [sc, stt a1 c1, some (.int p.length, 0), some (tD p, 0), du, b, none, none, none]
  generalize tD p = P
  simp [-List.map_map, fnF, en0, seqS, passS, noS, exprS, retS, retN, retM, putE, setS, iteS, vOfE, eOfV, oOfV, kI, kB, kS, kN, nmV, nmO, op1, op2, opC, tst, tru, truD, notT, andT, orT, blV, vbl, andV, orV, notV, iteE, aNil, aCons, lNil, lCons, tupE, lstE, dicE, Opd.get, callF, frR, callI, callL, own1, addD, subD, negD, cmpD, lenD, intD, tupD, lisD, absD, isiD, tyD, min2D, max2D, Pv.R.of, raiseS, asgS, nameG, nilG, consG, tupG, isD, nisD, isNB, opS, pNone, pSome, seqI', itsD, sItS, putD, wipeE, backE, h1]
theorem w11 (sc st b s : Sl) {p du : List Int} (hp : Pn p) (h : KL p du) : g_law_11 (le sc st (some (.int p.length, 0)) (tS p) (tS du) b s none none) = .nx (le sc st (some (.int p.length, 0)) (tS p) (tS du) b s none none) := by
  have hd := L17.KL.pn h hp.l
  obtain ⟨q, _, hq⟩ := hd.kr
  have t0 : F__law_told none [.int 0, tD du, .int 0] = .ok (tD q, 0) none := hd.told0 hq (.int 0)
  have lt : F__law_turned none [tD p, .int (-1)] = .ok (tD (fnum (turnL p (-1))), 0) none := lawturned_ok (by have := hp.l; omega) (-1)
  rw [← twice_eq hp h hq] at lt
  have s1 := same_D q (by rw [hq.1, h.1]; exact hp.l)
  show g_law_11 [sc, st, some (.int p.length, 0), some (tD p, 0), some (tD du, 0), b, s, none, none] = .nx [sc, st, some (.int p.length, 0), some (tD p, 0), some (tD du, 0), b, s, none, none]
  generalize tD q = Q at *
  generalize tD p = P at *
  generalize tD du = U at *
  generalize p.length = m at *
  by_cases z : 0 < m
  · have z' : (0 : Int) < (m : Int) := by omega
    simp [-List.map_map, fnF, en0, seqS, passS, noS, exprS, retS, retN, retM, putE, setS, iteS, vOfE, eOfV, oOfV, kI, kB, kS, kN, nmV, nmO, op1, op2, opC, tst, tru, truD, notT, andT, orT, blV, vbl, andV, orV, notV, iteE, aNil, aCons, lNil, lCons, tupE, lstE, dicE, Opd.get, callF, frR, callI, callL, own1, addD, subD, negD, cmpD, lenD, intD, tupD, lisD, absD, isiD, tyD, min2D, max2D, Pv.R.of, raiseS, asgS, nameG, nilG, consG, tupG, isD, nisD, isNB, opS, pNone, pSome, seqI', itsD, sItS, putD, wipeE, backE, z, z', t0, lt, s1]
  · have z' : ¬ (0 : Int) < (m : Int) := by omega
    have z0 : m = 0 := by omega
    simp [-List.map_map, fnF, en0, seqS, passS, noS, exprS, retS, retN, retM, putE, setS, iteS, vOfE, eOfV, oOfV, kI, kB, kS, kN, nmV, nmO, op1, op2, opC, tst, tru, truD, notT, andT, orT, blV, vbl, andV, orV, notV, iteE, aNil, aCons, lNil, lCons, tupE, lstE, dicE, Opd.get, callF, frR, callI, callL, own1, addD, subD, negD, cmpD, lenD, intD, tupD, lisD, absD, isiD, tyD, min2D, max2D, Pv.R.of, raiseS, asgS, nameG, nilG, consG, tupG, isD, nisD, isNB, opS, pNone, pSome, seqI', itsD, sItS, putD, wipeE, backE, z, z', z0]
/-! values that are taken by none -/
def bads (p : List Int) : List D := [.non, .int 5, .tup [.int 1], .tup [.int 0, .int 2], .lst (nI p), .tup [.int 0, .int 1, .int 0, .int 1], .tup [.int 0, .int 1, .int 2, .int 0, .int 1], .tup (List.replicate 13 (.int 0)), .tup [.bl true], .str (PySem.Str.ofString "0"), .tup [.int 0, .int 1, .int 1, .int 0, .int 2, .int 0, .int 2]]
theorem bads_ok (p : List Int) : ∀ d ∈ bads p, F_check_noncrossing none [d] = .ex (.mk 1 []) := by
  intro d hd
  simp only [bads, List.mem_cons, List.not_mem_nil, or_false] at hd
  rcases hd with rfl | rfl | rfl | rfl | rfl | rfl | rfl | rfl | rfl | rfl | rfl
  · kernel_rfl
  · kernel_rfl
  · kernel_rfl
  · kernel_rfl
  · exact ck_no (isp_no _ (fun ds h => by cases h) (by simp [tyD]))
  · kernel_rfl
  · kernel_rfl
  · kernel_rfl
  · kernel_rfl
  · kernel_rfl
  · kernel_rfl
theorem pl_mals (k : Nat) (h : k ≤ 5) : PlD (.lst (List.replicate k malD)) := by
  have : k = 0 ∨ k = 1 ∨ k = 2 ∨ k = 3 ∨ k = 4 ∨ k = 5 := by omega
  rcases this with rfl | rfl | rfl | rfl | rfl | rfl <;> exact ⟨by decide +kernel, by decide +kernel⟩
theorem l2_ok (sc st n p du b s : Sl) (d : D) (hd : F_check_noncrossing none [d] = .ex (.mk 1 [])) : lb_law_2 (le sc st n p du b s (some (d, 0)) none) = .nx (le sc st n p du b s (some (d, 0)) none) := by
  have c1 : cp_law_1 (le sc st n p du b s (some (d, 0)) none) = .ok (.lst (List.replicate 3 malD), 1) (le sc st n p du b s (some (d, 0)) none) := by
    have e : List.replicate 3 malD = (List.range 3).map fun _ => malD := rfl
    rw [e]
    refine comp_map1 (fun k : Nat => .int k) _ (rg1_ok (n := 3) (env1 := le sc st n p du b s (some (d, 0)) none) (by simp [-List.map_map, fnF, en0, seqS, passS, noS, exprS, retS, retN, retM, putE, setS, iteS, vOfE, eOfV, oOfV, kI, kB, kS, kN, nmV, nmO, op1, op2, opC, tst, tru, truD, notT, andT, orT, blV, vbl, andV, orV, notV, iteE, aNil, aCons, lNil, lCons, tupE, lstE, dicE, Opd.get, callF, frR, callI, callL, own1, addD, subD, negD, cmpD, lenD, intD, tupD, lisD, absD, isiD, tyD, min2D, max2D, Pv.R.of, raiseS, asgS, nameG, nilG, consG, tupG, isD, nisD, isNB, opS, pNone, pSome, seqI', itsD, sItS, putD, wipeE, backE]) (by omega)) rfl (by simp) fun k hk => ?_
    have hk := List.mem_range.mp hk
    have : k = 0 ∨ k = 1 ∨ k = 2 := by omega
    have h1 := told_bad hd (.int k) (.int 1) (by
      rcases this with rfl | rfl | rfl
      · exact .inl rfl
      · exact .inr (.inl rfl)
      · exact .inr (.inr rfl))
    generalize malD = M at *
    simp [-List.map_map, fnF, en0, seqS, passS, noS, exprS, retS, retN, retM, putE, setS, iteS, vOfE, eOfV, oOfV, kI, kB, kS, kN, nmV, nmO, op1, op2, opC, tst, tru, truD, notT, andT, orT, blV, vbl, andV, orV, notV, iteE, aNil, aCons, lNil, lCons, tupE, lstE, dicE, Opd.get, callF, frR, callI, callL, own1, addD, subD, negD, cmpD, lenD, intD, tupD, lisD, absD, isiD, tyD, min2D, max2D, Pv.R.of, raiseS, asgS, nameG, nilG, consG, tupG, isD, nisD, isNB, opS, pNone, pSome, seqI', itsD, sItS, putD, wipeE, backE, h1]
  have hm : mulD (.lst [malD]) (.int 3) = some (.lst (List.replicate 3 malD), 1) := by rfl
  have h1 := neD_same (pl_mals 3 (by omega))
  generalize List.replicate 3 malD = R3 at *
  simp [-List.map_map, fnF, en0, seqS, passS, noS, exprS, retS, retN, retM, putE, setS, iteS, vOfE, eOfV, oOfV, kI, kB, kS, kN, nmV, nmO, op1, op2, opC, tst, tru, truD, notT, andT, orT, blV, vbl, andV, orV, notV, iteE, aNil, aCons, lNil, lCons, tupE, lstE, dicE, Opd.get, callF, frR, callI, callL, own1, addD, subD, negD, cmpD, lenD, intD, tupD, lisD, absD, isiD, tyD, min2D, max2D, Pv.R.of, raiseS, asgS, nameG, nilG, consG, tupG, isD, nisD, isNB, opS, pNone, pSome, seqI', itsD, sItS, putD, wipeE, backE, c1, hm, h1]
theorem rep13 : repD (.tup [.int 0]) (.int 13) = some (.tup (List.replicate 13 (.int 0)), 0) := by kernel_rfl
theorem w12 (sc st n du b s : Sl) {p : List Int} : ∃ bd, g_law_12 (le sc st n (tS p) du b s none none) = .nx (le sc st n (tS p) du b s bd none) := by
  obtain ⟨e, he, bd, rfl⟩ := loopS_inv (g := nameG 7) (body := lb_law_2) (fun env => ∃ bd, env = le sc st n (tS p) du b s bd none) (bads p) (le sc st n (tS p) du b s none none) ⟨none, rfl⟩ fun d hd env hP => by
    obtain ⟨bd, rfl⟩ := hP
    exact ⟨le sc st n (tS p) du b s (some (d, 0)) none, _, rfl, l2_ok sc st n (tS p) du b s d (bads_ok p d hd), _, rfl⟩
  refine ⟨bd, (forS_ok (ds := bads p) (env1 := le sc st n (tS p) du b s none none) ?_).trans he⟩
  have r := rep13
  show seqI' _ [sc, st, n, some (.tup (nI p), 0), du, b, s, none, none] = .ok _ [sc, st, n, some (.tup (nI p), 0), du, b, s, none, none]
  unfold bads
  generalize List.replicate 13 (D.int 0) = Z at *
  generalize nI p = X at *
  simp [-List.map_map, fnF, en0, seqS, passS, noS, exprS, retS, retN, retM, putE, setS, iteS, vOfE, eOfV, oOfV, kI, kB, kS, kN, nmV, nmO, op1, op2, opC, tst, tru, truD, notT, andT, orT, blV, vbl, andV, orV, notV, iteE, aNil, aCons, lNil, lCons, tupE, lstE, dicE, Opd.get, callF, frR, callI, callL, own1, addD, subD, negD, cmpD, lenD, intD, tupD, lisD, absD, isiD, tyD, min2D, max2D, Pv.R.of, raiseS, asgS, nameG, nilG, consG, tupG, isD, nisD, isNB, opS, pNone, pSome, seqI', itsD, sItS, putD, wipeE, backE, r]
def szs : List D := [.non, .int 13, .int (-13), .bl true, .str (PySem.Str.ofString "1")]
theorem w13 (sc st n du b s bd : Sl) {p : List Int} (hp : Pn p) : ∃ e, g_law_13 (le sc st n (tS p) du b s bd none) = .ret (.bl true, 0) e := by
  have hz : ∀ d ∈ szs, F__law_told none [.int 2, tD p, d] = .ok (malD, 0) none := fun d hd => by
    refine told2_bad hp d ?_ fun i hi => ?_
    · simp only [szs, List.mem_cons, List.not_mem_nil, or_false] at hd
      rcases hd with rfl | rfl | rfl | rfl | rfl <;> simp [tyD]
    · simp only [szs, List.mem_cons, List.not_mem_nil, or_false] at hd
      rcases hd with rfl | rfl | rfl | rfl | rfl
      · cases hi
      · cases hi; omega
      · cases hi; omega
      · cases hi
      · cases hi
  have c2 : ∃ bd', cp_law_2 (le sc st n (tS p) du b s bd none) = .ok (.lst (List.replicate 5 malD), 1) (le sc st n (tS p) du b s bd' none) := by
    have e : List.replicate 5 malD = szs.map fun _ => malD := rfl
    rw [e]
    refine ⟨_, comp_mapT (fun d => d) (fun _ => malD) (le sc st n (tS p) du b s none none) (env1 := le sc st n (tS p) du b s bd none) (bs := szs) ?_ rfl rfl (by decide) fun d hd => ⟨le sc st n (tS p) du b s (some (d, 0)) none, le sc st n (tS p) du b s (some (d, 0)) none, le sc st n (tS p) du b s (some (d, 0)) none, rfl, rfl, ?_, rfl⟩⟩
    · show seqI' _ [sc, st, n, some (tD p, 0), du, b, s, bd, none] = .ok _ [sc, st, n, some (tD p, 0), du, b, s, bd, none]
      generalize tD p = P
      simp [-List.map_map, fnF, en0, seqS, passS, noS, exprS, retS, retN, retM, putE, setS, iteS, vOfE, eOfV, oOfV, kI, kB, kS, kN, nmV, nmO, op1, op2, opC, tst, tru, truD, notT, andT, orT, blV, vbl, andV, orV, notV, iteE, aNil, aCons, lNil, lCons, tupE, lstE, dicE, Opd.get, callF, frR, callI, callL, own1, addD, subD, negD, cmpD, lenD, intD, tupD, lisD, absD, isiD, tyD, min2D, max2D, Pv.R.of, raiseS, asgS, nameG, nilG, consG, tupG, isD, nisD, isNB, opS, pNone, pSome, seqI', itsD, sItS, putD, wipeE, backE, szs]
    · have h1 := hz d hd
      show (eOfV _) [sc, st, n, some (tD p, 0), du, b, s, some (d, 0), none] = R.ok _ [sc, st, n, some (tD p, 0), du, b, s, some (d, 0), none]
      generalize malD = M at *
      generalize tD p = P at *
      simp [-List.map_map, fnF, en0, seqS, passS, noS, exprS, retS, retN, retM, putE, setS, iteS, vOfE, eOfV, oOfV, kI, kB, kS, kN, nmV, nmO, op1, op2, opC, tst, tru, truD, notT, andT, orT, blV, vbl, andV, orV, notV, iteE, aNil, aCons, lNil, lCons, tupE, lstE, dicE, Opd.get, callF, frR, callI, callL, own1, addD, subD, negD, cmpD, lenD, intD, tupD, lisD, absD, isiD, tyD, min2D, max2D, Pv.R.of, raiseS, asgS, nameG, nilG, consG, tupG, isD, nisD, isNB, opS, pNone, pSome, seqI', itsD, sItS, putD, wipeE, backE, h1]
  obtain ⟨bd', c2⟩ := c2
  have hm : mulD (.lst [malD]) (.int 5) = some (.lst (List.replicate 5 malD), 1) := by rfl
  have h1 := eqD_same (pl_mals 5 (by omega))
  generalize List.replicate 5 malD = R5 at *
  exact ⟨_, by simp [-List.map_map, fnF, en0, seqS, passS, noS, exprS, retS, retN, retM, putE, setS, iteS, vOfE, eOfV, oOfV, kI, kB, kS, kN, nmV, nmO, op1, op2, opC, tst, tru, truD, notT, andT, orT, blV, vbl, andV, orV, notV, iteE, aNil, aCons, lNil, lCons, tupE, lstE, dicE, Opd.get, callF, frR, callI, callL, own1, addD, subD, negD, cmpD, lenD, intD, tupD, lisD, absD, isiD, tyD, min2D, max2D, Pv.R.of, raiseS, asgS, nameG, nilG, consG, tupG, isD, nisD, isNB, opS, pNone, pSome, seqI', itsD, sItS, putD, wipeE, backE, c2, hm, h1]; rfl⟩
theorem law_all (ns : List Int) (h : ns.length ≤ 63) : ∃ fin, F_law none [.scr ns] = .ok (.bl true, 0) fin := by
  obtain ⟨a1, b1, e1⟩ := w1 ns
  obtain ⟨a2, b2, e2⟩ := w2 (some (.scr ns, 0)) a1 b1
  obtain ⟨n, a3, b3, e3, hn⟩ := w3 (some (.scr ns, 0)) a2 b2
  obtain ⟨K, p, a4, b4, e4, hK, hN, hl⟩ := w4 (some (.scr ns, 0)) a3 b3 n hn
  subst hl
  have hp : Pn p := ⟨hn, rg_fnum hK, hN⟩
  obtain ⟨du, _, hd⟩ := hp.kr
  have e5 := w5 (some (.scr ns, 0)) (stt a4 b4) (some (.int p.length, 0)) hp hd
  have e6 := w6 (some (.scr ns, 0)) (stt a4 b4) (some (.int p.length, 0)) hp hd
  have e7 := w7 (some (.scr ns, 0)) (stt a4 b4) (some (.int p.length, 0)) hp hd
  have e8 := w8 (some (.scr ns, 0)) (stt a4 b4) (some (.int p.length, 0)) hp hd
  have e9 := w9 (some (.scr ns, 0)) (stt a4 b4) (tS (fnum (turnL du 1))) hp hd
  obtain ⟨a5, b5, s, e10⟩ := w10 (some (.scr ns, 0)) (tS (fnum (turnL du 1))) (tS du) hp a4 b4
  have e11 := w11 (some (.scr ns, 0)) (stt a5 b5) (tS (fnum (turnL du 1))) s hp hd
  obtain ⟨bd, e12⟩ := w12 (some (.scr ns, 0)) (stt a5 b5) (some (.int p.length, 0)) (tS du) (tS (fnum (turnL du 1))) s (p := p)
  obtain ⟨e, e13⟩ := w13 (some (.scr ns, 0)) (stt a5 b5) (some (.int p.length, 0)) (tS du) (tS (fnum (turnL du 1))) s bd hp
  exact ⟨none, fnF_ret (Eq.trans (seqS_nx e1) <| Eq.trans (seqS_nx e2) <| Eq.trans (seqS_nx e3) <| Eq.trans (seqS_nx e4) <| Eq.trans (seqS_nx e5) <| Eq.trans (seqS_nx e6) <| Eq.trans (seqS_nx e7) <| Eq.trans (seqS_nx e8) <| Eq.trans (seqS_nx e9) <| Eq.trans (seqS_nx e10) <| Eq.trans (seqS_nx e11) <| Eq.trans (seqS_nx e12) e13)⟩
end L17
end

namespace L17
open PySem PySem.Spec PyProof.Rows L2 Pv
theorem all_mk {l : PySem.W.OpenLaw} {w : World} {K : PySem.W.Frag} {h : Heap} {mg : Str → Option Value} {fa : Addr} (X : K.In h) (G : h.Ns mainGlobals mg) (hfa : mg "law" = some (.ref fa))
    {f0 : Addr} {oc0 : Value} {od0 an0 : Option Addr} {sl0 : Array (Option Value)} {kV0 dc0 pm0 cd0 ct0 : Value}
    {f1 : Addr} {oc1 : Value} {od1 an1 : Option Addr} {sl1 : Array (Option Value)} {kV1 dc1 pm1 cd1 ct1 : Value}
    {f2 : Addr} {oc2 : Value} {od2 an2 : Option Addr} {sl2 : Array (Option Value)} {kV2 dc2 pm2 cd2 ct2 : Value}
    {f3 : Addr} {oc3 : Value} {od3 an3 : Option Addr} {sl3 : Array (Option Value)} {kV3 dc3 pm3 cd3 ct3 : Value}
    {f4 : Addr} {oc4 : Value} {od4 an4 : Option Addr} {sl4 : Array (Option Value)} {kV4 dc4 pm4 cd4 ct4 : Value}
    {f5 : Addr} {oc5 : Value} {od5 an5 : Option Addr} {sl5 : Array (Option Value)} {kV5 dc5 pm5 cd5 ct5 : Value}
    {f6 : Addr} {oc6 : Value} {od6 an6 : Option Addr} {sl6 : Array (Option Value)} {kV6 dc6 pm6 cd6 ct6 : Value}
    {f7 : Addr} {oc7 : Value} {od7 an7 : Option Addr} {sl7 : Array (Option Value)} {kV7 dc7 pm7 cd7 ct7 : Value}
    {f8 : Addr} {oc8 : Value} {od8 an8 : Option Addr} {sl8 : Array (Option Value)} {kV8 dc8 pm8 cd8 ct8 : Value}
    {f9 : Addr} {oc9 : Value} {od9 an9 : Option Addr} {sl9 : Array (Option Value)} {kV9 dc9 pm9 cd9 ct9 : Value}
    {f10 : Addr} {oc10 : Value} {od10 an10 : Option Addr} {sl10 : Array (Option Value)} {kV10 dc10 pm10 cd10 ct10 : Value}
    {f11 : Addr} {oc11 : Value} {od11 an11 : Option Addr} {sl11 : Array (Option Value)} {kV11 dc11 pm11 cd11 ct11 : Value}
    {f12 : Addr} {oc12 : Value} {od12 an12 : Option Addr} {sl12 : Array (Option Value)} {kV12 dc12 pm12 cd12 ct12 : Value}
    {f13 : Addr} {oc13 : Value} {od13 an13 : Option Addr} {sl13 : Array (Option Value)} {kV13 dc13 pm13 cd13 ct13 : Value}
    {f14 : Addr} {oc14 : Value} {od14 an14 : Option Addr} {sl14 : Array (Option Value)} {kV14 dc14 pm14 cd14 ct14 : Value}
    {f15 : Addr} {oc15 : Value} {od15 an15 : Option Addr} {sl15 : Array (Option Value)} {kV15 dc15 pm15 cd15 ct15 : Value}
    {f16 : Addr} {oc16 : Value} {od16 an16 : Option Addr} {sl16 : Array (Option Value)} {kV16 dc16 pm16 cd16 ct16 : Value}
    {f17 : Addr} {oc17 : Value} {od17 an17 : Option Addr} {sl17 : Array (Option Value)} {kV17 dc17 pm17 cd17 ct17 : Value}
    {f18 : Addr} {oc18 : Value} {od18 an18 : Option Addr} {sl18 : Array (Option Value)} {kV18 dc18 pm18 cd18 ct18 : Value}
    {f19 : Addr} {oc19 : Value} {od19 an19 : Option Addr} {sl19 : Array (Option Value)} {kV19 dc19 pm19 cd19 ct19 : Value}
    {f20 : Addr} {oc20 : Value} {od20 an20 : Option Addr} {sl20 : Array (Option Value)} {kV20 dc20 pm20 cd20 ct20 : Value}
    {f21 : Addr} {oc21 : Value} {od21 an21 : Option Addr} {sl21 : Array (Option Value)} {kV21 dc21 pm21 cd21 ct21 : Value}
    {f22 : Addr} {oc22 : Value} {od22 an22 : Option Addr} {sl22 : Array (Option Value)} {kV22 dc22 pm22 cd22 ct22 : Value}
    {f23 : Addr} {oc23 : Value} {od23 an23 : Option Addr} {sl23 : Array (Option Value)} {kV23 dc23 pm23 cd23 ct23 : Value}
    {f24 : Addr} {oc24 : Value} {od24 an24 : Option Addr} {sl24 : Array (Option Value)} {kV24 dc24 pm24 cd24 ct24 : Value}
    {f25 : Addr} {oc25 : Value} {od25 an25 : Option Addr} {sl25 : Array (Option Value)} {kV25 dc25 pm25 cd25 ct25 : Value}
    {f26 : Addr} {oc26 : Value} {od26 an26 : Option Addr} {sl26 : Array (Option Value)} {kV26 dc26 pm26 cd26 ct26 : Value}
    {f27 : Addr} {oc27 : Value} {od27 an27 : Option Addr} {sl27 : Array (Option Value)} {kV27 dc27 pm27 cd27 ct27 : Value}
    {f28 : Addr} {oc28 : Value} {od28 an28 : Option Addr} {sl28 : Array (Option Value)} {kV28 dc28 pm28 cd28 ct28 : Value}
    {x_Malformed : Addr}
    {t_MOST_PLACES : Tok}
    {t_MOST_TURN : Tok}
    (a0 : PySem.W.nsIn K mainGlobals "_law_state" = some (some (.ref f0))) (l0 : K.lookup f0 = some ⟨oc0, od0, .func (PySem.W.fnOf "_law_state" "_law_state" (defArgs s__law_state) (defBody s__law_state) (defScope s__law_state) .none kV0 dc0 pm0 an0 cd0 ct0), sl0⟩) (e0 : PySem.W.codeIn K cd0 "_law_state" = true) (k0 : PySem.W.keepIn K (.ref f0) = true)
    (a1 : PySem.W.nsIn K mainGlobals "_law_take" = some (some (.ref f1))) (l1 : K.lookup f1 = some ⟨oc1, od1, .func (PySem.W.fnOf "_law_take" "_law_take" (defArgs s__law_take) (defBody s__law_take) (defScope s__law_take) .none kV1 dc1 pm1 an1 cd1 ct1), sl1⟩) (e1 : PySem.W.codeIn K cd1 "_law_take" = true) (k1 : PySem.W.keepIn K (.ref f1) = true)
    (a2 : PySem.W.nsIn K mainGlobals "_law_crosses" = some (some (.ref f2))) (l2 : K.lookup f2 = some ⟨oc2, od2, .func (PySem.W.fnOf "_law_crosses" "_law_crosses" (defArgs s__law_crosses) (defBody s__law_crosses) (defScope s__law_crosses) .none kV2 dc2 pm2 an2 cd2 ct2), sl2⟩) (e2 : PySem.W.codeIn K cd2 "_law_crosses" = true) (k2 : PySem.W.keepIn K (.ref f2) = true)
    (a3 : PySem.W.nsIn K mainGlobals "_law_numbered" = some (some (.ref f3))) (l3 : K.lookup f3 = some ⟨oc3, od3, .func (PySem.W.fnOf "_law_numbered" "_law_numbered" (defArgs s__law_numbered) (defBody s__law_numbered) (defScope s__law_numbered) .none kV3 dc3 pm3 an3 cd3 ct3), sl3⟩) (e3 : PySem.W.codeIn K cd3 "_law_numbered" = true) (k3 : PySem.W.keepIn K (.ref f3) = true)
    (a4 : PySem.W.nsIn K mainGlobals "first_numbering" = some (some (.ref f4))) (l4 : K.lookup f4 = some ⟨oc4, od4, .func (PySem.W.fnOf "first_numbering" "first_numbering" (defArgs s_first_numbering) (defBody s_first_numbering) (defScope s_first_numbering) .none kV4 dc4 pm4 an4 cd4 ct4), sl4⟩) (e4 : PySem.W.codeIn K cd4 "first_numbering" = true) (k4 : PySem.W.keepIn K (.ref f4) = true)
    (a5 : PySem.W.nsIn K mainGlobals "is_integer" = some (some (.ref f5))) (l5 : K.lookup f5 = some ⟨oc5, od5, .func (PySem.W.fnOf "is_integer" "is_integer" (defArgs s_is_integer) (defBody s_is_integer) (defScope s_is_integer) .none kV5 dc5 pm5 an5 cd5 ct5), sl5⟩) (e5 : PySem.W.codeIn K cd5 "is_integer" = true) (k5 : PySem.W.keepIn K (.ref f5) = true)
    (a6 : PySem.W.nsIn K mainGlobals "has_no_crossing" = some (some (.ref f6))) (l6 : K.lookup f6 = some ⟨oc6, od6, .func (PySem.W.fnOf "has_no_crossing" "has_no_crossing" (defArgs s_has_no_crossing) (defBody s_has_no_crossing) (defScope s_has_no_crossing) .none kV6 dc6 pm6 an6 cd6 ct6), sl6⟩) (e6 : PySem.W.codeIn K cd6 "has_no_crossing" = true) (k6 : PySem.W.keepIn K (.ref f6) = true)
    (a7 : PySem.W.nsIn K mainGlobals "blocks_of" = some (some (.ref f7))) (l7 : K.lookup f7 = some ⟨oc7, od7, .func (PySem.W.fnOf "blocks_of" "blocks_of" (defArgs s_blocks_of) (defBody s_blocks_of) (defScope s_blocks_of) .none kV7 dc7 pm7 an7 cd7 ct7), sl7⟩) (e7 : PySem.W.codeIn K cd7 "blocks_of" = true) (k7 : PySem.W.keepIn K (.ref f7) = true)
    (a8 : PySem.W.nsIn K mainGlobals "_law_finer" = some (some (.ref f8))) (l8 : K.lookup f8 = some ⟨oc8, od8, .func (PySem.W.fnOf "_law_finer" "_law_finer" (defArgs s__law_finer) (defBody s__law_finer) (defScope s__law_finer) .none kV8 dc8 pm8 an8 cd8 ct8), sl8⟩) (e8 : PySem.W.codeIn K cd8 "_law_finer" = true) (k8 : PySem.W.keepIn K (.ref f8) = true)
    (a9 : PySem.W.nsIn K mainGlobals "_law_is_whole" = some (some (.ref f9))) (l9 : K.lookup f9 = some ⟨oc9, od9, .func (PySem.W.fnOf "_law_is_whole" "_law_is_whole" (defArgs s__law_is_whole) (defBody s__law_is_whole) (defScope s__law_is_whole) .none kV9 dc9 pm9 an9 cd9 ct9), sl9⟩) (e9 : PySem.W.codeIn K cd9 "_law_is_whole" = true) (k9 : PySem.W.keepIn K (.ref f9) = true)
    (a10 : PySem.W.nsIn K mainGlobals "_law_blocks" = some (some (.ref f10))) (l10 : K.lookup f10 = some ⟨oc10, od10, .func (PySem.W.fnOf "_law_blocks" "_law_blocks" (defArgs s__law_blocks) (defBody s__law_blocks) (defScope s__law_blocks) .none kV10 dc10 pm10 an10 cd10 ct10), sl10⟩) (e10 : PySem.W.codeIn K cd10 "_law_blocks" = true) (k10 : PySem.W.keepIn K (.ref f10) = true)
    (a11 : PySem.W.nsIn K mainGlobals "_law_drawn" = some (some (.ref f11))) (l11 : K.lookup f11 = some ⟨oc11, od11, .func (PySem.W.fnOf "_law_drawn" "_law_drawn" (defArgs s__law_drawn) (defBody s__law_drawn) (defScope s__law_drawn) .none kV11 dc11 pm11 an11 cd11 ct11), sl11⟩) (e11 : PySem.W.codeIn K cd11 "_law_drawn" = true) (k11 : PySem.W.keepIn K (.ref f11) = true)
    (a12 : PySem.W.nsIn K mainGlobals "_law_kreweras" = some (some (.ref f12))) (l12 : K.lookup f12 = some ⟨oc12, od12, .func (PySem.W.fnOf "_law_kreweras" "_law_kreweras" (defArgs s__law_kreweras) (defBody s__law_kreweras) (defScope s__law_kreweras) .none kV12 dc12 pm12 an12 cd12 ct12), sl12⟩) (e12 : PySem.W.codeIn K cd12 "_law_kreweras" = true) (k12 : PySem.W.keepIn K (.ref f12) = true)
    (a13 : PySem.W.nsIn K mainGlobals "is_parting" = some (some (.ref f13))) (l13 : K.lookup f13 = some ⟨oc13, od13, .func (PySem.W.fnOf "is_parting" "is_parting" (defArgs s_is_parting) (defBody s_is_parting) (defScope s_is_parting) .none kV13 dc13 pm13 an13 cd13 ct13), sl13⟩) (e13 : PySem.W.codeIn K cd13 "is_parting" = true) (k13 : PySem.W.keepIn K (.ref f13) = true)
    (a14 : PySem.W.nsIn K mainGlobals "complement_of" = some (some (.ref f14))) (l14 : K.lookup f14 = some ⟨oc14, od14, .func (PySem.W.fnOf "complement_of" "complement_of" (defArgs s_complement_of) (defBody s_complement_of) (defScope s_complement_of) .none kV14 dc14 pm14 an14 cd14 ct14), sl14⟩) (e14 : PySem.W.codeIn K cd14 "complement_of" = true) (k14 : PySem.W.keepIn K (.ref f14) = true)
    (a15 : PySem.W.nsIn K mainGlobals "turned" = some (some (.ref f15))) (l15 : K.lookup f15 = some ⟨oc15, od15, .func (PySem.W.fnOf "turned" "turned" (defArgs s_turned) (defBody s_turned) (defScope s_turned) .none kV15 dc15 pm15 an15 cd15 ct15), sl15⟩) (e15 : PySem.W.codeIn K cd15 "turned" = true) (k15 : PySem.W.keepIn K (.ref f15) = true)
    (a16 : PySem.W.nsIn K mainGlobals "_law_grown" = some (some (.ref f16))) (l16 : K.lookup f16 = some ⟨oc16, od16, .func (PySem.W.fnOf "_law_grown" "_law_grown" (defArgs s__law_grown) (defBody s__law_grown) (defScope s__law_grown) .none kV16 dc16 pm16 an16 cd16 ct16), sl16⟩) (e16 : PySem.W.codeIn K cd16 "_law_grown" = true) (k16 : PySem.W.keepIn K (.ref f16) = true)
    (a17 : PySem.W.nsIn K mainGlobals "_law_woven" = some (some (.ref f17))) (l17 : K.lookup f17 = some ⟨oc17, od17, .func (PySem.W.fnOf "_law_woven" "_law_woven" (defArgs s__law_woven) (defBody s__law_woven) (defScope s__law_woven) .none kV17 dc17 pm17 an17 cd17 ct17), sl17⟩) (e17 : PySem.W.codeIn K cd17 "_law_woven" = true) (k17 : PySem.W.keepIn K (.ref f17) = true)
    (a18 : PySem.W.nsIn K mainGlobals "_law_turned" = some (some (.ref f18))) (l18 : K.lookup f18 = some ⟨oc18, od18, .func (PySem.W.fnOf "_law_turned" "_law_turned" (defArgs s__law_turned) (defBody s__law_turned) (defScope s__law_turned) .none kV18 dc18 pm18 an18 cd18 ct18), sl18⟩) (e18 : PySem.W.codeIn K cd18 "_law_turned" = true) (k18 : PySem.W.keepIn K (.ref f18) = true)
    (a19 : PySem.W.nsIn K mainGlobals "check_noncrossing" = some (some (.ref f19))) (l19 : K.lookup f19 = some ⟨oc19, od19, .func (PySem.W.fnOf "check_noncrossing" "check_noncrossing" (defArgs s_check_noncrossing) (defBody s_check_noncrossing) (defScope s_check_noncrossing) .none kV19 dc19 pm19 an19 cd19 ct19), sl19⟩) (e19 : PySem.W.codeIn K cd19 "check_noncrossing" = true) (k19 : PySem.W.keepIn K (.ref f19) = true)
    (a20 : PySem.W.nsIn K mainGlobals "kreweras" = some (some (.ref f20))) (l20 : K.lookup f20 = some ⟨oc20, od20, .func (PySem.W.fnOf "kreweras" "kreweras" (defArgs s_kreweras) (defBody s_kreweras) (defScope s_kreweras) .none kV20 dc20 pm20 an20 cd20 ct20), sl20⟩) (e20 : PySem.W.codeIn K cd20 "kreweras" = true) (k20 : PySem.W.keepIn K (.ref f20) = true)
    (a21 : PySem.W.nsIn K mainGlobals "kreweras_back" = some (some (.ref f21))) (l21 : K.lookup f21 = some ⟨oc21, od21, .func (PySem.W.fnOf "kreweras_back" "kreweras_back" (defArgs s_kreweras_back) (defBody s_kreweras_back) (defScope s_kreweras_back) .none kV21 dc21 pm21 an21 cd21 ct21), sl21⟩) (e21 : PySem.W.codeIn K cd21 "kreweras_back" = true) (k21 : PySem.W.keepIn K (.ref f21) = true)
    (a22 : PySem.W.nsIn K mainGlobals "turned_parting" = some (some (.ref f22))) (l22 : K.lookup f22 = some ⟨oc22, od22, .func (PySem.W.fnOf "turned_parting" "turned_parting" (defArgs s_turned_parting) (defBody s_turned_parting) (defScope s_turned_parting) .none kV22 dc22 pm22 an22 cd22 ct22), sl22⟩) (e22 : PySem.W.codeIn K cd22 "turned_parting" = true) (k22 : PySem.W.keepIn K (.ref f22) = true)
    (a23 : PySem.W.nsIn K mainGlobals "_law_odd" = some (some (.ref f23))) (l23 : K.lookup f23 = some ⟨oc23, od23, .func (PySem.W.fnOf "_law_odd" "_law_odd" (defArgs s__law_odd) (defBody s__law_odd) (defScope s__law_odd) .none kV23 dc23 pm23 an23 cd23 ct23), sl23⟩) (e23 : PySem.W.codeIn K cd23 "_law_odd" = true) (k23 : PySem.W.keepIn K (.ref f23) = true)
    (a24 : PySem.W.nsIn K mainGlobals "_law_honest" = some (some (.ref f24))) (l24 : K.lookup f24 = some ⟨oc24, od24, .func (PySem.W.fnOf "_law_honest" "_law_honest" (defArgs s__law_honest) (defBody s__law_honest) (defScope s__law_honest) .none kV24 dc24 pm24 an24 cd24 ct24), sl24⟩) (e24 : PySem.W.codeIn K cd24 "_law_honest" = true) (k24 : PySem.W.keepIn K (.ref f24) = true)
    (a25 : PySem.W.nsIn K mainGlobals "_law_same" = some (some (.ref f25))) (l25 : K.lookup f25 = some ⟨oc25, od25, .func (PySem.W.fnOf "_law_same" "_law_same" (defArgs s__law_same) (defBody s__law_same) (defScope s__law_same) .none kV25 dc25 pm25 an25 cd25 ct25), sl25⟩) (e25 : PySem.W.codeIn K cd25 "_law_same" = true) (k25 : PySem.W.keepIn K (.ref f25) = true)
    (a26 : PySem.W.nsIn K mainGlobals "_law_told" = some (some (.ref f26))) (l26 : K.lookup f26 = some ⟨oc26, od26, .func (PySem.W.fnOf "_law_told" "_law_told" (defArgs s__law_told) (defBody s__law_told) (defScope s__law_told) .none kV26 dc26 pm26 an26 cd26 ct26), sl26⟩) (e26 : PySem.W.codeIn K cd26 "_law_told" = true) (k26 : PySem.W.keepIn K (.ref f26) = true)
    (a27 : PySem.W.nsIn K mainGlobals "_law_few_hold" = some (some (.ref f27))) (l27 : K.lookup f27 = some ⟨oc27, od27, .func (PySem.W.fnOf "_law_few_hold" "_law_few_hold" (defArgs s__law_few_hold) (defBody s__law_few_hold) (defScope s__law_few_hold) .none kV27 dc27 pm27 an27 cd27 ct27), sl27⟩) (e27 : PySem.W.codeIn K cd27 "_law_few_hold" = true) (k27 : PySem.W.keepIn K (.ref f27) = true)
    (a28 : PySem.W.nsIn K mainGlobals "law" = some (some (.ref f28))) (l28 : K.lookup f28 = some ⟨oc28, od28, .func (PySem.W.fnOf "law" "law" (defArgs s_law) (defBody s_law) (defScope s_law) .none kV28 dc28 pm28 an28 cd28 ct28), sl28⟩) (e28 : PySem.W.codeIn K cd28 "law" = true) (k28 : PySem.W.keepIn K (.ref f28) = true)
    (xa_Malformed : PySem.W.nsIn K mainGlobals "Malformed" = some (some (.ref x_Malformed))) (xk_Malformed : PySem.W.keepIn K (.ref x_Malformed) = true) (xq_Malformed : PySem.W.excIn K x_Malformed [.type "ValueError", .type "Exception", .type "BaseException", .type "object"] "ValueError.__new__" = true) (xs_Malformed : PySem.W.subIn K (.ref x_Malformed) (.type "BaseException") = some true) (xt_Malformed : PySem.W.typeIn K (.ref x_Malformed) = some (.type "type")) (xi_Malformed : PySem.W.isClsIn K x_Malformed = true) (xf_Malformed : PySem.W.subIn K (.ref x_Malformed) (.ref x_Malformed) = some true)
    (c_MOST_PLACES : PySem.W.nsIn K mainGlobals "MOST_PLACES" = some (some (.int 12 t_MOST_PLACES)))
    (c_MOST_TURN : PySem.W.nsIn K mainGlobals "MOST_TURN" = some (some (.int 12 t_MOST_TURN)))
    (b_abs : PySem.W.nsIn K mainGlobals "abs" = some none)
    (b_all : PySem.W.nsIn K mainGlobals "all" = some none)
    (b_any : PySem.W.nsIn K mainGlobals "any" = some none)
    (b_bool : PySem.W.nsIn K mainGlobals "bool" = some none)
    (b_enumerate : PySem.W.nsIn K mainGlobals "enumerate" = some none)
    (b_int : PySem.W.nsIn K mainGlobals "int" = some none)
    (b_isinstance : PySem.W.nsIn K mainGlobals "isinstance" = some none)
    (b_len : PySem.W.nsIn K mainGlobals "len" = some none)
    (b_list : PySem.W.nsIn K mainGlobals "list" = some none)
    (b_max : PySem.W.nsIn K mainGlobals "max" = some none)
    (b_range : PySem.W.nsIn K mainGlobals "range" = some none)
    (b_set : PySem.W.nsIn K mainGlobals "set" = some none)
    (b_sorted : PySem.W.nsIn K mainGlobals "sorted" = some none)
    (b_str : PySem.W.nsIn K mainGlobals "str" = some none)
    (b_tuple : PySem.W.nsIn K mainGlobals "tuple" = some none) :
    ∃ fd : FuncData, (∀ (s : Shared) (v : Value), BindsTo s fd ⟨[v], []⟩ [("script", v)]) ∧ ∀ base : Heap, K.In base → base.Ns mainGlobals mg → FnOk l.prog w K mg base (L2.CX l.prog w) 11 fa fd ["script"] (lawSp K F_law) := by
  let E : Facts K mg := {
    d__law_state := DA.of X G a0 l0 e0 k0 fun _ _ _ _ _ _ us hl => match us, hl with | [_], _ => rfl,
    d__law_take := DA.of X G a1 l1 e1 k1 fun _ _ _ _ _ _ us hl => match us, hl with | [_, _], _ => rfl,
    d__law_crosses := DA.of X G a2 l2 e2 k2 fun _ _ _ _ _ _ us hl => match us, hl with | [_], _ => rfl,
    d__law_numbered := DA.of X G a3 l3 e3 k3 fun _ _ _ _ _ _ us hl => match us, hl with | [_], _ => rfl,
    d_first_numbering := DA.of X G a4 l4 e4 k4 fun _ _ _ _ _ _ us hl => match us, hl with | [_], _ => rfl,
    d_is_integer := DA.of X G a5 l5 e5 k5 fun _ _ _ _ _ _ us hl => match us, hl with | [_], _ => rfl,
    d_has_no_crossing := DA.of X G a6 l6 e6 k6 fun _ _ _ _ _ _ us hl => match us, hl with | [_], _ => rfl,
    d_blocks_of := DA.of X G a7 l7 e7 k7 fun _ _ _ _ _ _ us hl => match us, hl with | [_], _ => rfl,
    d__law_finer := DA.of X G a8 l8 e8 k8 fun _ _ _ _ _ _ us hl => match us, hl with | [_, _], _ => rfl,
    d__law_is_whole := DA.of X G a9 l9 e9 k9 fun _ _ _ _ _ _ us hl => match us, hl with | [_], _ => rfl,
    d__law_blocks := DA.of X G a10 l10 e10 k10 fun _ _ _ _ _ _ us hl => match us, hl with | [_], _ => rfl,
    d__law_drawn := DA.of X G a11 l11 e11 k11 fun _ _ _ _ _ _ us hl => match us, hl with | [_, _, _], _ => rfl,
    d__law_kreweras := DA.of X G a12 l12 e12 k12 fun _ _ _ _ _ _ us hl => match us, hl with | [_], _ => rfl,
    d_is_parting := DA.of X G a13 l13 e13 k13 fun _ _ _ _ _ _ us hl => match us, hl with | [_], _ => rfl,
    d_complement_of := DA.of X G a14 l14 e14 k14 fun _ _ _ _ _ _ us hl => match us, hl with | [_], _ => rfl,
    d_turned := DA.of X G a15 l15 e15 k15 fun _ _ _ _ _ _ us hl => match us, hl with | [_, _], _ => rfl,
    d__law_grown := DA.of X G a16 l16 e16 k16 fun _ _ _ _ _ _ us hl => match us, hl with | [_], _ => rfl,
    d__law_woven := DA.of X G a17 l17 e17 k17 fun _ _ _ _ _ _ us hl => match us, hl with | [_, _], _ => rfl,
    d__law_turned := DA.of X G a18 l18 e18 k18 fun _ _ _ _ _ _ us hl => match us, hl with | [_, _], _ => rfl,
    d_check_noncrossing := DA.of X G a19 l19 e19 k19 fun _ _ _ _ _ _ us hl => match us, hl with | [_], _ => rfl,
    d_kreweras := DA.of X G a20 l20 e20 k20 fun _ _ _ _ _ _ us hl => match us, hl with | [_], _ => rfl,
    d_kreweras_back := DA.of X G a21 l21 e21 k21 fun _ _ _ _ _ _ us hl => match us, hl with | [_], _ => rfl,
    d_turned_parting := DA.of X G a22 l22 e22 k22 fun _ _ _ _ _ _ us hl => match us, hl with | [_, _], _ => rfl,
    d__law_odd := DA.of X G a23 l23 e23 k23 fun _ _ _ _ _ _ us hl => match us, hl with | [_], _ => rfl,
    d__law_honest := DA.of X G a24 l24 e24 k24 fun _ _ _ _ _ _ us hl => match us, hl with | [_], _ => rfl,
    d__law_same := DA.of X G a25 l25 e25 k25 fun _ _ _ _ _ _ us hl => match us, hl with | [_, _], _ => rfl,
    d__law_told := DA.of X G a26 l26 e26 k26 fun _ _ _ _ _ _ us hl => match us, hl with | [_, _, _], _ => rfl,
    d__law_few_hold := DA.of X G a27 l27 e27 k27 fun _ _ _ _ _ _ us hl => match us, hl with | [_], _ => rfl,
    d_law := DA.of X G a28 l28 e28 k28 fun _ _ _ _ _ _ us hl => match us, hl with | [_], _ => rfl,
    x_Malformed := ⟨x_Malformed, PySem.W.mg_of X G xa_Malformed, xk_Malformed, xq_Malformed, xs_Malformed, xt_Malformed, xi_Malformed, xf_Malformed⟩,
    t_MOST_PLACES := t_MOST_PLACES,
    c_MOST_PLACES := PySem.W.mg_of X G c_MOST_PLACES,
    t_MOST_TURN := t_MOST_TURN,
    c_MOST_TURN := PySem.W.mg_of X G c_MOST_TURN,
    b_abs := PySem.W.mg_none_of X G b_abs,
    b_all := PySem.W.mg_none_of X G b_all,
    b_any := PySem.W.mg_none_of X G b_any,
    b_bool := PySem.W.mg_none_of X G b_bool,
    b_enumerate := PySem.W.mg_none_of X G b_enumerate,
    b_int := PySem.W.mg_none_of X G b_int,
    b_isinstance := PySem.W.mg_none_of X G b_isinstance,
    b_len := PySem.W.mg_none_of X G b_len,
    b_list := PySem.W.mg_none_of X G b_list,
    b_max := PySem.W.mg_none_of X G b_max,
    b_range := PySem.W.mg_none_of X G b_range,
    b_set := PySem.W.mg_none_of X G b_set,
    b_sorted := PySem.W.mg_none_of X G b_sorted,
    b_str := PySem.W.mg_none_of X G b_str,
    b_tuple := PySem.W.mg_none_of X G b_tuple }
  have e := hfa.symm.trans E.d_law.m
  cases e
  exact ⟨E.d_law.fd, fun s v => .of_eq rfl, fun base _ _ => lawSp_of (C := E.C) rfl (ok_law E)⟩
end L17
open PySem PySem.W PyProof.Rows
set_option maxHeartbeats 0 in
theorem PySem.Challenge.cw_momentroads_k17_complements_holds : PySem.Challenge.rw_momentroads_k17_complements.Holds := by
  w_on; o_law; k_head; (case hw => w_witness2)
  k_fill
  refine L2.walk_of (l := PySem.Challenge.rw_momentroads_k17_complements) (n := 63) (k := 11) (x := "script") (CX := fun w => L2.CX PySem.Challenge.pw_momentroads_k17_complements w) (sp := fun w => Pv.lawSp _ L17.F_law) rfl (by decide) rfl ⟨rfl, by decide, by decide⟩ (fun w h Y => PySem.W.kIn_of Y) ?F (fun w H a ns hl hO hS => Pv.lawSp_in hO hS (L17.law_all ns hl)) (fun _ _ _ _ _ h => Pv.cx_no h)
  case F =>
    intro w mg fa h KX G hmg
    refine' L17.all_mk KX G hmg ?a0 ?l0 ?e0 ?k0 ?a1 ?l1 ?e1 ?k1 ?a2 ?l2 ?e2 ?k2 ?a3 ?l3 ?e3 ?k3 ?a4 ?l4 ?e4 ?k4 ?a5 ?l5 ?e5 ?k5 ?a6 ?l6 ?e6 ?k6 ?a7 ?l7 ?e7 ?k7 ?a8 ?l8 ?e8 ?k8 ?a9 ?l9 ?e9 ?k9 ?a10 ?l10 ?e10 ?k10 ?a11 ?l11 ?e11 ?k11 ?a12 ?l12 ?e12 ?k12 ?a13 ?l13 ?e13 ?k13 ?a14 ?l14 ?e14 ?k14 ?a15 ?l15 ?e15 ?k15 ?a16 ?l16 ?e16 ?k16 ?a17 ?l17 ?e17 ?k17 ?a18 ?l18 ?e18 ?k18 ?a19 ?l19 ?e19 ?k19 ?a20 ?l20 ?e20 ?k20 ?a21 ?l21 ?e21 ?k21 ?a22 ?l22 ?e22 ?k22 ?a23 ?l23 ?e23 ?k23 ?a24 ?l24 ?e24 ?k24 ?a25 ?l25 ?e25 ?k25 ?a26 ?l26 ?e26 ?k26 ?a27 ?l27 ?e27 ?k27 ?a28 ?l28 ?e28 ?k28 ?xa_Malformed ?xk_Malformed ?xq_Malformed ?xs_Malformed ?xt_Malformed ?xi_Malformed ?xf_Malformed ?c_MOST_PLACES ?c_MOST_TURN ?b_abs ?b_all ?b_any ?b_bool ?b_enumerate ?b_int ?b_isinstance ?b_len ?b_list ?b_max ?b_range ?b_set ?b_sorted ?b_str ?b_tuple
    (case a0 => k_is)
    (case l0 => k_is)
    (case e0 => k_is)
    (case k0 => k_is)
    (case a1 => k_is)
    (case l1 => k_is)
    (case e1 => k_is)
    (case k1 => k_is)
    (case a2 => k_is)
    (case l2 => k_is)
    (case e2 => k_is)
    (case k2 => k_is)
    (case a3 => k_is)
    (case l3 => k_is)
    (case e3 => k_is)
    (case k3 => k_is)
    (case a4 => k_is)
    (case l4 => k_is)
    (case e4 => k_is)
    (case k4 => k_is)
    (case a5 => k_is)
    (case l5 => k_is)
    (case e5 => k_is)
    (case k5 => k_is)
    (case a6 => k_is)
    (case l6 => k_is)
    (case e6 => k_is)
    (case k6 => k_is)
    (case a7 => k_is)
    (case l7 => k_is)
    (case e7 => k_is)
    (case k7 => k_is)
    (case a8 => k_is)
    (case l8 => k_is)
    (case e8 => k_is)
    (case k8 => k_is)
    (case a9 => k_is)
    (case l9 => k_is)
    (case e9 => k_is)
    (case k9 => k_is)
    (case a10 => k_is)
    (case l10 => k_is)
    (case e10 => k_is)
    (case k10 => k_is)
    (case a11 => k_is)
    (case l11 => k_is)
    (case e11 => k_is)
    (case k11 => k_is)
    (case a12 => k_is)
    (case l12 => k_is)
    (case e12 => k_is)
    (case k12 => k_is)
    (case a13 => k_is)
    (case l13 => k_is)
    (case e13 => k_is)
    (case k13 => k_is)
    (case a14 => k_is)
    (case l14 => k_is)
    (case e14 => k_is)
    (case k14 => k_is)
    (case a15 => k_is)
    (case l15 => k_is)
    (case e15 => k_is)
    (case k15 => k_is)
    (case a16 => k_is)
    (case l16 => k_is)
    (case e16 => k_is)
    (case k16 => k_is)
    (case a17 => k_is)
    (case l17 => k_is)
    (case e17 => k_is)
    (case k17 => k_is)
    (case a18 => k_is)
    (case l18 => k_is)
    (case e18 => k_is)
    (case k18 => k_is)
    (case a19 => k_is)
    (case l19 => k_is)
    (case e19 => k_is)
    (case k19 => k_is)
    (case a20 => k_is)
    (case l20 => k_is)
    (case e20 => k_is)
    (case k20 => k_is)
    (case a21 => k_is)
    (case l21 => k_is)
    (case e21 => k_is)
    (case k21 => k_is)
    (case a22 => k_is)
    (case l22 => k_is)
    (case e22 => k_is)
    (case k22 => k_is)
    (case a23 => k_is)
    (case l23 => k_is)
    (case e23 => k_is)
    (case k23 => k_is)
    (case a24 => k_is)
    (case l24 => k_is)
    (case e24 => k_is)
    (case k24 => k_is)
    (case a25 => k_is)
    (case l25 => k_is)
    (case e25 => k_is)
    (case k25 => k_is)
    (case a26 => k_is)
    (case l26 => k_is)
    (case e26 => k_is)
    (case k26 => k_is)
    (case a27 => k_is)
    (case l27 => k_is)
    (case e27 => k_is)
    (case k27 => k_is)
    (case a28 => k_is)
    (case l28 => k_is)
    (case e28 => k_is)
    (case k28 => k_is)
    (case xa_Malformed => k_is)
    (case xk_Malformed => k_is)
    (case xq_Malformed => k_exc)
    (case xs_Malformed => k_is)
    (case xt_Malformed => k_is)
    (case xi_Malformed => k_is)
    (case xf_Malformed => first | rfl | k_is)
    (case c_MOST_PLACES => k_is)
    (case c_MOST_TURN => k_is)
    (case b_abs => k_is)
    (case b_all => k_is)
    (case b_any => k_is)
    (case b_bool => k_is)
    (case b_enumerate => k_is)
    (case b_int => k_is)
    (case b_isinstance => k_is)
    (case b_len => k_is)
    (case b_list => k_is)
    (case b_max => k_is)
    (case b_range => k_is)
    (case b_set => k_is)
    (case b_sorted => k_is)
    (case b_str => k_is)
    (case b_tuple => k_is)
