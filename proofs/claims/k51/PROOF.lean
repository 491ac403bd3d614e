import PyProof.Rows.All
import Wide.All
import OpenK.AllK
import Wide.FinOn
import HandS.ForMost
import HandS.Exc
import HandS.ExcOwn
import HandS.CallSlots
import HandS.TupAny
import HandS.TupLe
import HandS.TupMul
import HandS.IsInst
import HandS.Wide
import HandS.Flow
import HandS.Style
import HandS.Deep
import KE.DataMinMax
import HandS.SortInts
import HandS.WordsDict
import HandS.WordsExc
import HandS.Zip
import HandS.Small
import HandS.TryMany
import HandS.Ends
import HandS.EndBits
import KE.SortData
import PyProof.TupleOfSeq
import PySem.Challenge.RW_momentroads_k51_whole_paths_rings_and_cl
set_option Elab.async false
set_option linter.all false
set_option maxRecDepth 100000
set_option maxHeartbeats 4000000
section
set_option Elab.async false
set_option linter.all false
set_option maxRecDepth 100000
set_option maxHeartbeats 4000000
/-! Pv1: pure values over the hand layer: data D, how values bear it (Sh: shared, Ow: owned), the state (Stt), what may change (Evo). -/
namespace Pv
open PySem PySem.Spec PyProof.Rows L2

/-- a value as data -/
inductive D where
  | non | bl (b : Bool) | int (i : Int) | str (s : Str) | fn (n : Nat)
  | tup (xs : List D) | lst (xs : List D) | dic (ks : List Key) (vs : List D) | scr (ns : List Int)
  deriving Inhabited

/-- what may be changed in place -/
def D.isMut : D → Bool
  | .lst _ => true
  | .dic _ _ => true
  | _ => false

/-- what is fixed: the written part, where the defs and the error classes stand -/
structure RC where
  K : PySem.W.Frag
  fa : Nat → Option Addr
  ca : Nat → Option Addr

abbrev Fp := Addr → Prop
abbrev nowhere : Hp := fun _ => none

/-- the script -/
def Scr (C : RC) (H : Hp) (a : Addr) (ns : List Int) : Prop := (∃ o, H a = some (.frz o (.lst (ns.map V.int)))) ∨ SqL C.K nowhere a (ns.map V.int)

mutual
inductive Sh (C : RC) (Z : Fp) (H : Hp) : V → D → Prop
  | non : Sh C Z H .non .non
  | bl (b : Bool) : Sh C Z H (.bl b) (.bl b)
  | int (i : Int) : Sh C Z H (.int i) (.int i)
  | str (x : Str) : Sh C Z H (.str x) (.str x)
  | fn {n : Nat} {a : Addr} : C.fa n = some a → Sh C Z H (.ref a) (.fn n)
  | tup {a : Addr} {xs : List V} {ds : List D} : SqT C.K H a xs → ShL C Z H xs ds → Sh C Z H (.ref a) (.tup ds)
  | lst {a : Addr} {xs : List V} {ds : List D} : H a = some (.lst xs) → Z a → ShL C Z H xs ds → Sh C Z H (.ref a) (.lst ds)
  | scr {a : Addr} {ns : List Int} : Scr C H a ns → Sh C Z H (.ref a) (.scr ns)
  | dic {a : Addr} {ks : List Key} {xs : List V} {ds : List D} : H a = some (.dK (ks.zip xs)) → Z a → ks.length = xs.length → ShL C Z H xs ds → Sh C Z H (.ref a) (.dic ks ds)
inductive ShL (C : RC) (Z : Fp) (H : Hp) : List V → List D → Prop
  | nil : ShL C Z H [] []
  | cons {v : V} {vs : List V} {d : D} {ds : List D} : Sh C Z H v d → ShL C Z H vs ds → ShL C Z H (v :: vs) (d :: ds)
end

section
variable {C : RC} {Z Z' : Fp} {H H' : Hp}
theorem ShL.length : ∀ {vs : List V} {ds : List D}, ShL C Z H vs ds → vs.length = ds.length
  | _, _, .nil => rfl
  | _, _, .cons _ r => by rw [List.length_cons, List.length_cons, r.length]
theorem ShL.get : ∀ {vs : List V} {ds : List D} {i : Nat} {v : V}, ShL C Z H vs ds → vs[i]? = some v → ∃ d, ds[i]? = some d ∧ Sh C Z H v d
  | _, _, _, _, .nil, e => by simp at e
  | _, _, 0, _, .cons h _, e => by simp at e; subst e; exact ⟨_, rfl, h⟩
  | _, _, i + 1, _, .cons _ r, e => by
    obtain ⟨d, h1, h2⟩ := r.get (i := i) (by simpa using e)
    exact ⟨d, by simpa using h1, h2⟩
theorem ShL.get' : ∀ {vs : List V} {ds : List D} {i : Nat} {d : D}, ShL C Z H vs ds → ds[i]? = some d → ∃ v, vs[i]? = some v ∧ Sh C Z H v d
  | _, _, _, _, .nil, e => by simp at e
  | _, _, 0, _, .cons h _, e => by simp at e; subst e; exact ⟨_, rfl, h⟩
  | _, _, i + 1, _, .cons _ r, e => by
    obtain ⟨d, h1, h2⟩ := r.get' (i := i) (by simpa using e)
    exact ⟨d, by simpa using h1, h2⟩
theorem ShL.append : ∀ {vs ws : List V} {ds es : List D}, ShL C Z H vs ds → ShL C Z H ws es → ShL C Z H (vs ++ ws) (ds ++ es)
  | _, _, _, _, .nil, s => s
  | _, _, _, _, .cons h r, s => .cons h (r.append s)
theorem ShL.take : ∀ {vs : List V} {ds : List D} (n : Nat), ShL C Z H vs ds → ShL C Z H (vs.take n) (ds.take n)
  | _, _, 0, _ => .nil
  | _, _, _ + 1, .nil => .nil
  | _, _, n + 1, .cons h r => .cons h (r.take n)
theorem ShL.drop : ∀ {vs : List V} {ds : List D} (n : Nat), ShL C Z H vs ds → ShL C Z H (vs.drop n) (ds.drop n)
  | _, _, 0, r => r
  | _, _, _ + 1, .nil => .nil
  | _, _, n + 1, .cons _ r => r.drop n
theorem ShL.set {v : V} {d : D} (h : Sh C Z H v d) : ∀ {vs : List V} {ds : List D} (i : Nat), ShL C Z H vs ds → ShL C Z H (vs.set i v) (ds.set i d)
  | _, _, _, .nil => .nil
  | _, _, 0, .cons _ r => .cons h r
  | _, _, i + 1, .cons q r => .cons q (ShL.set h i r)
theorem ShL.eraseIdx : ∀ {vs : List V} {ds : List D} (i : Nat), ShL C Z H vs ds → ShL C Z H (vs.eraseIdx i) (ds.eraseIdx i)
  | _, _, _, .nil => .nil
  | _, _, 0, .cons _ r => r
  | _, _, i + 1, .cons q r => .cons q (ShL.eraseIdx i r)
theorem ShL.snoc {vs : List V} {ds : List D} {v : V} {d : D} (r : ShL C Z H vs ds) (h : Sh C Z H v d) : ShL C Z H (vs ++ [v]) (ds ++ [d]) := r.append (.cons h .nil)
theorem ShL.reverse : ∀ {vs : List V} {ds : List D}, ShL C Z H vs ds → ShL C Z H vs.reverse ds.reverse
  | _, _, .nil => .nil
  | _, _, .cons h r => by rw [List.reverse_cons, List.reverse_cons]; exact r.reverse.snoc h
theorem ShL.flat : ∀ {ls : List V} {k : Nat} {ds : List D}, ShL C Z H ls ds → ShL C Z H (List.replicate k ls).flatten (List.replicate k ds).flatten
  | _, 0, _, _ => .nil
  | _, k + 1, _, h => by rw [List.replicate_succ, List.replicate_succ, List.flatten_cons, List.flatten_cons]; exact h.append h.flat
theorem ShL.ints {ns : List Int} : ∀ {vs : List V}, ShL C Z H vs (ns.map D.int) → vs = ns.map V.int := by
  induction ns with
  | nil => intro vs h; cases h; rfl
  | cons n ns ih =>
    intro vs h
    cases h with
    | cons h r => cases h; rw [List.map_cons, ih r]
theorem ShL.bools {ns : List Bool} : ∀ {vs : List V}, ShL C Z H vs (ns.map D.bl) → vs = ns.map V.bl := by
  induction ns with
  | nil => intro vs h; cases h; rfl
  | cons n ns ih =>
    intro vs h
    cases h with
    | cons h r => cases h; rw [List.map_cons, ih r]
theorem shl_ints : ∀ {ns : List Int}, ShL C Z H (ns.map V.int) (ns.map D.int)
  | [] => .nil
  | n :: ns => .cons (.int n) shl_ints

/-- what shared values lean on stays -/
structure Ext (Z : Fp) (H : Hp) (Z' : Fp) (H' : Hp) : Prop where
  zk : ∀ a o, Z a → H a = some o → H' a = some o
  zm : ∀ a, Z a → Z' a
  tk : ∀ a xs, H a = some (.tup xs) → H' a = some (.tup xs)
  fk : ∀ a o u, H a = some (.frz o u) → H' a = some (.frz o u)
theorem Ext.refl : Ext Z H Z H := ⟨fun _ _ _ h => h, fun _ h => h, fun _ _ h => h, fun _ _ _ h => h⟩
theorem Ext.trans {Z1 Z2 : Fp} {H1 H2 : Hp} (a : Ext Z H Z1 H1) (b : Ext Z1 H1 Z2 H2) : Ext Z H Z2 H2 :=
  ⟨fun x o z h => b.zk x o (a.zm x z) (a.zk x o z h), fun x z => b.zm x (a.zm x z), fun x xs h => b.tk x xs (a.tk x xs h), fun x o u h => b.fk x o u (a.fk x o u h)⟩
theorem Ext.sqT (x : Ext Z H Z' H') {a : Addr} {xs : List V} (h : SqT C.K H a xs) : SqT C.K H' a xs := by
  rcases h with (h | ⟨o, h⟩) | h
  · exact .inl (.inl (x.tk _ _ h))
  · exact .inl (.inr ⟨o, x.fk _ _ _ h⟩)
  · exact .inr h
theorem Ext.scr (x : Ext Z H Z' H') {a : Addr} {ns : List Int} (h : Scr C H a ns) : Scr C H' a ns := by
  rcases h with ⟨o, h⟩ | h
  · exact .inl ⟨o, x.fk _ _ _ h⟩
  · exact .inr h
theorem Scr.sqL {a : Addr} {ns : List Int} (h : Scr C H a ns) : SqL C.K H a (ns.map V.int) := by
  rcases h with ⟨o, h⟩ | h
  · exact .inl (.inr ⟨o, h⟩)
  · rcases h with (h | ⟨o, h⟩) | h
    · cases h
    · cases h
    · exact .inr h
mutual
theorem Sh.ext (x : Ext Z H Z' H') : ∀ (d : D) (v : V), Sh C Z H v d → Sh C Z' H' v d
  | .non, _, h => by cases h; exact .non
  | .bl b, _, h => by cases h; exact .bl b
  | .int i, _, h => by cases h; exact .int i
  | .str y, _, h => by cases h; exact .str y
  | .fn n, _, h => by cases h with | fn e => exact .fn e
  | .tup ds, _, h => by cases h with | tup s r => exact .tup (x.sqT s) (ShL.ext x ds _ r)
  | .lst ds, _, h => by cases h with | lst s z r => exact .lst (x.zk _ _ z s) (x.zm _ z) (ShL.ext x ds _ r)
  | .scr ns, _, h => by cases h with | scr s => exact .scr (x.scr s)
  | .dic ks ds, _, h => by cases h with | dic s z l r => exact .dic (x.zk _ _ z s) (x.zm _ z) l (ShL.ext x ds _ r)
theorem ShL.ext (x : Ext Z H Z' H') : ∀ (ds : List D) (vs : List V), ShL C Z H vs ds → ShL C Z' H' vs ds
  | [], _, h => by cases h; exact .nil
  | d :: ds, _, h => by cases h with | cons h r => exact .cons (Sh.ext x d _ h) (ShL.ext x ds _ r)
end
end

/-! ### owned data -/
def isM : Option HO → Prop
  | some (.lst _) => True
  | some (.dK _) => True
  | _ => False
/-- v bears d; the lists down to depth k are v's own, they stand at A -/
def Ow (C : RC) (Z : Fp) (H : Hp) : Nat → V → D → Fp → Prop
  | 0, v, d, A => Sh C Z H v d ∧ ∀ a, ¬ A a
  | k + 1, v, d, A => (d.isMut = false ∧ Sh C Z H v d ∧ ∀ a, ¬ A a) ∨
      (∃ (a : Addr) (xs : List V) (ds : List D) (B : Nat → Fp), v = .ref a ∧ d = .lst ds ∧ H a = some (.lst xs) ∧ xs.length = ds.length ∧ (∀ i x e, xs[i]? = some x → ds[i]? = some e → Ow C Z H k x e (B i)) ∧
        (∀ i j b, B i b → B j b → i = j) ∧ (∀ i, ¬ B i a) ∧ (∀ i b, B i b → i < xs.length) ∧ (∀ b, A b ↔ b = a ∨ ∃ i, B i b)) ∨
      (∃ (a : Addr) (ks : List Key) (xs : List V) (ds : List D), v = .ref a ∧ d = .dic ks ds ∧ H a = some (.dK (ks.zip xs)) ∧ ks.length = xs.length ∧ ShL C Z H xs ds ∧ ∀ b, A b ↔ b = a)
section
variable {C : RC} {Z Z' : Fp} {H H' : Hp}
theorem Ow.sh {v : V} {d : D} (h : Sh C Z H v d) : Ow C Z H 0 v d (fun _ => False) := ⟨h, fun _ z => z⟩
theorem Ow.im {k : Nat} {v : V} {d : D} (h : Sh C Z H v d) (m : d.isMut = false) : Ow C Z H k v d (fun _ => False) := by
  cases k with
  | zero => exact ⟨h, fun _ z => z⟩
  | succ k => exact .inl ⟨m, h, fun _ z => z⟩
theorem Ow.congr {k : Nat} {v : V} {d : D} {A B : Fp} (h : Ow C Z H k v d A) (e : ∀ a, A a ↔ B a) : Ow C Z H k v d B := by
  have : A = B := funext fun a => propext (e a)
  rw [← this]; exact h
theorem Ow.mut : ∀ {k : Nat} {v : V} {d : D} {A : Fp}, Ow C Z H k v d A → ∀ a, A a → isM (H a)
  | 0, _, _, _, ⟨_, n⟩, a, h => (n a h).elim
  | k + 1, _, _, _, h, a, ha => by
    rcases h with ⟨_, _, n⟩ | ⟨b, xs, ds, B, rfl, rfl, hb, hl, hc, _, _, hi, e⟩ | ⟨b, ks, xs, ds, rfl, rfl, hb, hl, r, e⟩
    · exact (n a ha).elim
    · rcases (e a).mp ha with rfl | ⟨i, q⟩
      · rw [hb]; trivial
      · have hx := hi i a q
        have hy : i < ds.length := hl ▸ hx
        exact (hc i xs[i] ds[i] (List.getElem?_eq_getElem hx) (List.getElem?_eq_getElem hy)).mut a q
    · rw [(e a).mp ha, hb]; trivial
/-- owned data is kept where its lists and what is shared are kept -/
theorem Ow.ext (x : Ext Z H Z' H') : ∀ {k : Nat} {v : V} {d : D} {A : Fp}, Ow C Z H k v d A → (∀ a o, A a → H a = some o → H' a = some o) → Ow C Z' H' k v d A
  | 0, _, _, _, ⟨h, n⟩, _ => ⟨h.ext x, n⟩
  | k + 1, _, _, _, h, hk => by
    rcases h with ⟨m, h, n⟩ | ⟨b, xs, ds, B, rfl, rfl, hb, hl, hc, hd, ha, hi, e⟩ | ⟨b, ks, xs, ds, rfl, rfl, hb, hl, r, e⟩
    · exact .inl ⟨m, h.ext x, n⟩
    · exact .inr (.inl ⟨b, xs, ds, B, rfl, rfl, hk b _ ((e b).mpr (.inl rfl)) hb, hl, fun i y z e1 e2 => (hc i y z e1 e2).ext x fun a o q => hk a o ((e a).mpr (.inr ⟨i, q⟩)), hd, ha, hi, e⟩)
    · exact .inr (.inr ⟨b, ks, xs, ds, rfl, rfl, hk b _ ((e b).mpr rfl) hb, hl, r.ext x, e⟩)
theorem shl_of_ix : ∀ {xs : List V} {ds : List D}, xs.length = ds.length → (∀ (i : Nat) (x : V) (e : D), xs[i]? = some x → ds[i]? = some e → Sh C Z H x e) → ShL C Z H xs ds
  | [], [], _, _ => .nil
  | [], _ :: _, h, _ => by simp at h
  | _ :: _, [], h, _ => by simp at h
  | x :: xs, d :: ds, h, k => .cons (k 0 x d rfl rfl) (shl_of_ix (by simpa using h) fun i y e h1 h2 => k (i + 1) y e (by simpa using h1) (by simpa using h2))
/-- what is owned may be shared -/
theorem Ow.frz : ∀ {k : Nat} {v : V} {d : D} {A W : Fp}, Ow C Z H k v d A → (∀ a, Z a → W a) → (∀ a, A a → W a) → Sh C W H v d
  | 0, _, _, _, _, ⟨h, n⟩, hz, ha => h.ext ⟨fun _ _ _ q => q, hz, fun _ _ q => q, fun _ _ _ q => q⟩
  | k + 1, _, _, _, W, h, hz, hw => by
    have X : Ext Z H W H := ⟨fun _ _ _ q => q, hz, fun _ _ q => q, fun _ _ _ q => q⟩
    rcases h with ⟨m, h, n⟩ | ⟨b, xs, ds, B, rfl, rfl, hb, hl, hc, hd, ha, hi, e⟩ | ⟨b, ks, xs, ds, rfl, rfl, hb, hl, r, e⟩
    · exact h.ext X
    · exact .lst hb (hw b ((e b).mpr (.inl rfl))) (shl_of_ix hl fun i x y e1 e2 => (hc i x y e1 e2).frz hz fun a q => hw a ((e a).mpr (.inr ⟨i, q⟩)))
    · exact .dic hb (hw b ((e b).mpr rfl)) hl (r.ext X)
theorem Ow.im_inv {k : Nat} {v : V} {d : D} {A : Fp} (h : Ow C Z H k v d A) (m : d.isMut = false) : Sh C Z H v d := by
  cases k with
  | zero => exact h.1
  | succ k =>
    rcases h with ⟨_, h, _⟩ | ⟨_, _, _, _, _, e, _⟩ | ⟨_, _, _, _, _, e, _⟩
    · exact h
    · subst e; cases m
    · subst e; cases m
/-- a new list of shared things -/
theorem Ow.lst1 {a : Addr} {xs : List V} {ds : List D} (h : H a = some (.lst xs)) (r : ShL C Z H xs ds) : Ow C Z H 1 (.ref a) (.lst ds) (fun b => b = a) :=
  .inr (.inl ⟨a, xs, ds, fun _ _ => False, rfl, rfl, h, r.length, fun i x e h1 h2 => by
    obtain ⟨d, e1, e2⟩ := r.get h1
    rw [h2] at e1; cases e1
    exact ⟨e2, fun _ z => z⟩, fun _ _ _ z => z.elim, fun _ z => z, fun _ _ z => z.elim, fun b => ⟨.inl, fun z => z.elim id fun ⟨_, q⟩ => q.elim⟩⟩)
theorem Ow.dic1 {a : Addr} {ks : List Key} {xs : List V} {ds : List D} (h : H a = some (.dK (ks.zip xs))) (l : ks.length = xs.length) (r : ShL C Z H xs ds) : Ow C Z H 1 (.ref a) (.dic ks ds) (fun b => b = a) :=
  .inr (.inr ⟨a, ks, xs, ds, rfl, rfl, h, l, r, fun _ => Iff.rfl⟩)
theorem Ow.lst_inv {v : V} {ds : List D} {A : Fp} (h : Ow C Z H 1 v (.lst ds) A) : ∃ a xs, v = .ref a ∧ H a = some (.lst xs) ∧ ShL C Z H xs ds ∧ ∀ b, A b ↔ b = a := by
  rcases h with ⟨m, _⟩ | ⟨b, xs, ds', B, rfl, e0, hb, hl, hc, hd, ha, hi, e⟩ | ⟨b, ks, xs, ds', rfl, e0, hb, hl, r, e⟩
  · cases m
  · cases e0
    refine ⟨b, xs, rfl, hb, shl_of_ix hl fun i x y e1 e2 => (hc i x y e1 e2).1, fun c => ⟨fun q => ?_, fun q => (e c).mpr (.inl q)⟩⟩
    rcases (e c).mp q with q | ⟨i, q⟩
    · exact q
    · have hx := hi i c q
      exact ((hc i xs[i] (ds[i]'(hl ▸ hx)) (List.getElem?_eq_getElem hx) (List.getElem?_eq_getElem _)).2 c q).elim
  · cases e0
theorem Ow.dic_inv {k : Nat} {v : V} {ks : List Key} {ds : List D} {A : Fp} (h : Ow C Z H (k + 1) v (.dic ks ds) A) : ∃ a xs, v = .ref a ∧ H a = some (.dK (ks.zip xs)) ∧ ks.length = xs.length ∧ ShL C Z H xs ds ∧ ∀ b, A b ↔ b = a := by
  rcases h with ⟨m, _⟩ | ⟨b, xs, ds', B, rfl, e0, hb, hl, hc, hd, ha, hi, e⟩ | ⟨b, ks', xs, ds', rfl, e0, hb, hl, r, e⟩
  · cases m
  · cases e0
  · cases e0
    exact ⟨b, xs, rfl, hb, hl, r, e⟩

/-! ### what may change -/
/-- from (Z, H), F owned, to (Z', H'), F' owned -/
structure Evo (Z : Fp) (H : Hp) (F : Fp) (Z' : Fp) (H' : Hp) (F' : Fp) : Prop where
  keep : ∀ a o, H a = some o → ¬ F a → H' a = some o
  zm : ∀ a, Z a → Z' a
  zn : ∀ a, Z' a → Z a ∨ F a ∨ H a = none
  fn : ∀ a, F' a → F a ∨ H a = none
theorem Evo.refl {F : Fp} : Evo Z H F Z H F := ⟨fun _ _ h _ => h, fun _ h => h, fun _ h => .inl h, fun _ h => .inl h⟩
theorem Evo.back {F F' : Fp} (e : Evo Z H F Z' H' F') {a : Addr} (h : H' a = none) : F a ∨ H a = none := by
  cases q : H a with
  | none => exact .inr rfl
  | some o =>
    by_cases f : F a
    · exact .inl f
    · rw [e.keep a o q f] at h; cases h
theorem Evo.trans {Z1 Z2 F F1 F2 : Fp} {H1 H2 : Hp} (a : Evo Z H F Z1 H1 F1) (b : Evo Z1 H1 F1 Z2 H2 F2) : Evo Z H F Z2 H2 F2 where
  keep := fun x o h f => b.keep x o (a.keep x o h f) fun q => (a.fn x q).elim f fun z => by rw [h] at z; cases z
  zm := fun x z => b.zm x (a.zm x z)
  zn := fun x z => by
    rcases b.zn x z with z | z | z
    · exact a.zn x z
    · exact .inr (a.fn x z)
    · exact .inr (a.back z)
  fn := fun x z => by
    rcases b.fn x z with z | z
    · exact a.fn x z
    · exact a.back z
theorem Evo.sub {F F' F2 : Fp} (e : Evo Z H F Z' H' F') (h : ∀ a, F2 a → F' a) : Evo Z H F Z' H' F2 := ⟨e.keep, e.zm, e.zn, fun a q => e.fn a (h a q)⟩
/-- a greater footprint ahead -/
theorem Evo.more {F F' G : Fp} (e : Evo Z H F Z' H' F') (h : ∀ a, F a → G a) : Evo Z H G Z' H' F' :=
  ⟨fun a o q n => e.keep a o q fun z => n (h a z), e.zm, fun a z => (e.zn a z).imp id fun q => q.imp (h a) id, fun a z => (e.fn a z).imp (h a) id⟩
theorem Evo.mono0 {F F' : Fp} (e : Evo Z H F Z' H' F') (h : ∀ a, ¬ F a) : Evo Z H (fun _ => False) Z' H' F' := e.more fun a z => h a z
theorem Evo.ext {F F' : Fp} (e : Evo Z H F Z' H' F') (mu : ∀ a, F a → isM (H a)) (nz : ∀ a, F a → ¬ Z a) : Ext Z H Z' H' :=
  ⟨fun a o z h => e.keep a o h fun f => nz a f z, e.zm, fun a xs h => e.keep a _ h fun f => by have := mu a f; rw [h] at this; exact this, fun a o u h => e.keep a _ h fun f => by have := mu a f; rw [h] at this; exact this⟩
end

/-! ### the slots -/
abbrev Sl := Option (D × Nat)
abbrev En := List Sl
abbrev Tot (φ : Nat → Fp) : Fp := fun a => ∃ i, φ i a
structure Stt (C : RC) (io : List Nat) (σ₀ : L2.St) (Z : Fp) (σ : L2.St) (H : Hp) (env : En) (φ : Nat → Fp) : Prop where
  len : σ.length = env.length
  slot : ∀ i d k, env[i]? = some (some (d, k)) → ∃ v, σ[i]? = some (some v) ∧ Ow C Z H k v d (φ i)
  off : ∀ i, (∀ p, env[i]? ≠ some (some p)) → ∀ a, ¬ φ i a
  dj : ∀ i j a, φ i a → φ j a → i = j
  nz : ∀ i a, φ i a → ¬ Z a
  zh : ∀ a, Z a → H a ≠ none
  l0 : io ≠ [] → σ.length = σ₀.length
  io : ∀ i ∈ io, σ[i]? = σ₀[i]?
section
variable {C : RC} {io : List Nat} {σ₀ σ : L2.St} {Z Z' : Fp} {H H' : Hp} {env : En} {φ : Nat → Fp}
theorem Stt.mu (S : Stt C io σ₀ Z σ H env φ) : ∀ a, Tot φ a → isM (H a) := fun a ⟨i, h⟩ => by
  by_cases q : ∃ p, env[i]? = some (some p)
  · obtain ⟨⟨d, k⟩, q⟩ := q
    obtain ⟨v, _, o⟩ := S.slot i d k q
    exact o.mut a h
  · exact (S.off i (fun p e => q ⟨p, e⟩) a h).elim
theorem Stt.tnz (S : Stt C io σ₀ Z σ H env φ) : ∀ a, Tot φ a → ¬ Z a := fun a ⟨i, h⟩ => S.nz i a h
theorem Stt.ext (S : Stt C io σ₀ Z σ H env φ) {F' : Fp} (e : Evo Z H (Tot φ) Z' H' F') : Ext Z H Z' H' := e.ext S.mu S.tnz
theorem Stt.lt {i : Nat} (S : Stt C io σ₀ Z σ H env φ) {p : Sl} (h : env[i]? = some p) : i < σ.length := by
  rw [S.len]; exact (List.getElem?_eq_some_iff.mp h).1
/-- the slot i is given v (bearing d, at A) -/
theorem Stt.put {i : Nat} {v : V} {d : D} {k : Nat} {A : Fp} (S : Stt C io σ₀ Z σ H env φ) (hi : i < env.length) (hio : i ∉ io) (o : Ow C Z H k v d A) (dj : ∀ j a, j ≠ i → φ j a → ¬ A a) (nz : ∀ a, A a → ¬ Z a) :
    Stt C io σ₀ Z (σ.set i (some v)) H (env.set i (some (d, k))) (fun j => if j = i then A else φ j) where
  len := by simp [S.len]
  slot := fun j e l h => by
    by_cases q : j = i
    · subst q
      rw [List.getElem?_set_self hi] at h
      cases h
      exact ⟨v, List.getElem?_set_self (by rw [S.len]; exact hi), by rw [if_pos rfl]; exact o⟩
    · rw [List.getElem?_set_ne (Ne.symm q)] at h
      obtain ⟨w, h1, h2⟩ := S.slot j e l h
      exact ⟨w, by rw [List.getElem?_set_ne (Ne.symm q)]; exact h1, by rw [if_neg q]; exact h2⟩
  off := fun j h a => by
    by_cases q : j = i
    · subst q
      exact (h (d, k) (List.getElem?_set_self hi)).elim
    · rw [if_neg q]
      exact S.off j (fun p => by have := h p; rwa [List.getElem?_set_ne (Ne.symm q)] at this) a
  dj := fun j l a h1 h2 => by
    by_cases q : j = i
    · subst q
      rw [if_pos rfl] at h1
      by_cases r : l = j
      · exact r.symm
      · rw [if_neg r] at h2
        exact (dj l a r h2 h1).elim
    · rw [if_neg q] at h1
      by_cases r : l = i
      · subst r
        rw [if_pos rfl] at h2
        exact (dj j a q h1 h2).elim
      · rw [if_neg r] at h2
        exact S.dj j l a h1 h2
  nz := fun j a h => by
    by_cases q : j = i
    · rw [if_pos q] at h; exact nz a h
    · rw [if_neg q] at h; exact S.nz j a h
  zh := S.zh
  io := fun j h => by
    rw [List.getElem?_set_ne (fun e : i = j => hio (by rw [e]; exact h))]
    exact S.io j h
  l0 := fun h => by rw [List.length_set]; exact S.l0 h
/-- the slot i is forgotten -/
theorem Stt.drop (i : Nat) (S : Stt C io σ₀ Z σ H env φ) : Stt C io σ₀ Z σ H (env.set i none) (fun j a => j ≠ i ∧ φ j a) where
  len := by simp [S.len]
  slot := fun j e l h => by
    by_cases q : j = i
    · subst q
      by_cases hj : j < env.length
      · rw [List.getElem?_set_self hj] at h; cases h
      · rw [List.getElem?_eq_none (by simpa using hj)] at h; cases h
    · rw [List.getElem?_set_ne (Ne.symm q)] at h
      obtain ⟨w, h1, h2⟩ := S.slot j e l h
      exact ⟨w, h1, h2.congr fun a => ⟨fun z => ⟨q, z⟩, fun z => z.2⟩⟩
  off := fun j h a ⟨q, z⟩ => S.off j (fun p => by have := h p; rwa [List.getElem?_set_ne (Ne.symm q)] at this) a z
  dj := fun j l a h1 h2 => S.dj j l a h1.2 h2.2
  nz := fun j a h => S.nz j a h.2
  zh := S.zh
  io := S.io
  l0 := S.l0
/-- the slot's data stands, the value stays, its ownership and data are told anew (a list was changed in place, or shared) -/
theorem Stt.reput {i : Nat} {v : V} {d : D} {k : Nat} {A : Fp} (S : Stt C io σ₀ Z σ H env φ) (hi : i < env.length) (hv : σ[i]? = some (some v)) (o : Ow C Z H k v d A) (dj : ∀ j a, j ≠ i → φ j a → ¬ A a) (nz : ∀ a, A a → ¬ Z a) :
    Stt C io σ₀ Z σ H (env.set i (some (d, k))) (fun j => if j = i then A else φ j) where
  len := by simp [S.len]
  slot := fun j e l h => by
    by_cases q : j = i
    · subst q
      rw [List.getElem?_set_self hi] at h
      cases h
      exact ⟨v, hv, by rw [if_pos rfl]; exact o⟩
    · rw [List.getElem?_set_ne (Ne.symm q)] at h
      obtain ⟨w, h1, h2⟩ := S.slot j e l h
      exact ⟨w, h1, by rw [if_neg q]; exact h2⟩
  off := fun j h a => by
    by_cases q : j = i
    · subst q
      exact (h (d, k) (List.getElem?_set_self hi)).elim
    · rw [if_neg q]
      exact S.off j (fun p => by have := h p; rwa [List.getElem?_set_ne (Ne.symm q)] at this) a
  dj := fun j l a h1 h2 => by
    by_cases q : j = i
    · subst q
      rw [if_pos rfl] at h1
      by_cases r : l = j
      · exact r.symm
      · rw [if_neg r] at h2
        exact (dj l a r h2 h1).elim
    · rw [if_neg q] at h1
      by_cases r : l = i
      · subst r
        rw [if_pos rfl] at h2
        exact (dj j a q h1 h2).elim
      · rw [if_neg r] at h2
        exact S.dj j l a h1 h2
  nz := fun j a h => by
    by_cases q : j = i
    · rw [if_pos q] at h; exact nz a h
    · rw [if_neg q] at h; exact S.nz j a h
  zh := S.zh
  io := S.io
  l0 := S.l0
/-- the heap went on: the slots' lists were kept (what changed was not theirs) -/
theorem Stt.go (S : Stt C io σ₀ Z σ H env φ) (x : Ext Z H Z' H') (k : ∀ a o, Tot φ a → H a = some o → H' a = some o) (nz : ∀ a, Tot φ a → ¬ Z' a) (zh : ∀ a, Z' a → H' a ≠ none) : Stt C io σ₀ Z' σ H' env φ where
  len := S.len
  slot := fun i d l h => by
    obtain ⟨v, h1, h2⟩ := S.slot i d l h
    exact ⟨v, h1, h2.ext x fun a o q => k a o ⟨i, q⟩⟩
  off := S.off
  dj := S.dj
  nz := fun i a h => nz a ⟨i, h⟩
  zh := zh
  io := S.io
  l0 := S.l0
/-- a new object -/
theorem Ext.new {p : Addr} {o : HO} (h : H p = none) : Ext Z H Z (upd H p o) :=
  ⟨fun a u _ e => by rw [upd_ne (ne_of_none e h)]; exact e, fun _ z => z, fun a u e => by rw [upd_ne (ne_of_none e h)]; exact e, fun a u w e => by rw [upd_ne (ne_of_none e h)]; exact e⟩
theorem Stt.new {p : Addr} {o : HO} (S : Stt C io σ₀ Z σ H env φ) (h : H p = none) : Stt C io σ₀ Z σ (upd H p o) env φ :=
  S.go (Ext.new h) (fun a u _ e => by rw [upd_ne (ne_of_none e h)]; exact e) S.tnz fun a z => by
    by_cases q : a = p
    · subst q; rw [upd_same]; exact Option.some_ne_none _
    · rw [upd_ne q]; exact S.zh a z
/-- the slots' names alone are forgotten or told less of -/
theorem Stt.fresh (S : Stt C io σ₀ Z σ H env φ) (h : H a = none) : ¬ Z a ∧ ¬ Tot φ a := ⟨fun z => S.zh a z h, fun z => by have := S.mu a z; rw [h] at this; exact this⟩
end
end Pv
end

section
set_option Elab.async false
set_option linter.all false
set_option maxRecDepth 100000
set_option maxHeartbeats 4000000
/-! Pv2: results, judgements, names, constants, displays, operators. -/
namespace Pv
open PySem PySem.Spec PyProof.Rows L2

/-- an error: its class's number, its own fields -/
inductive Xn where
  | mk (c : Nat) (fs : List (Str × D))
/-- a result: a value and the slots; an error; nothing is known -/
inductive R (α : Type) where
  | ok (a : α) (e : En) | ex (x : Xn) | no
def R.bind {α β : Type} (r : R α) (f : α → En → R β) : R β :=
  match r with
  | .ok a e => f a e
  | .ex x => .ex x
  | .no => .no
@[simp] theorem R.bind_ok {α β : Type} (a : α) (e : En) (f : α → En → R β) : (R.ok a e).bind f = f a e := rfl
@[simp] theorem R.bind_ex {α β : Type} (x : Xn) (f : α → En → R β) : (R.ex x : R α).bind f = .ex x := rfl
@[simp] theorem R.bind_no {α β : Type} (f : α → En → R β) : (R.no : R α).bind f = .no := rfl
/-- a value that may be lacking -/
def R.of {α : Type} (o : Option α) (e : En) : R α :=
  match o with
  | some a => .ok a e
  | none => .no
@[simp] theorem R.of_some {α : Type} (a : α) (e : En) : R.of (some a) e = .ok a e := rfl
@[simp] theorem R.of_none {α : Type} (e : En) : R.of (none : Option α) e = .no := rfl

def ExR (C : RC) (Z : Fp) (H : Hp) : Xn → Value → Option Addr → Prop
  | .mk c fs, cls, dx => ∃ a, C.ca c = some a ∧ cls = .ref a ∧ (fs = [] ∨ ∃ dd gs, dx = some dd ∧ H dd = some (.xd gs) ∧ gs.map (·.1) = fs.map (·.1) ∧ ShL C Z H (gs.map (·.2)) (fs.map (·.2)))

/-- where a proof stands: the context, the fixed things, the wish about errors, the slots that are never stored (and their values) -/
structure Ct where
  X : Cx
  C : RC
  W : WX
  io : List Nat
  σ₀ : L2.St
structure Good (Γ : Ct) : Prop where
  hK : Γ.C.K = Γ.X.K
  nd : Γ.X.N.Nodup
  calm : Γ.X.calm = true
  tk : Takes Γ.X Γ.W
abbrev SttC (Γ : Ct) := Stt Γ.C Γ.io Γ.σ₀

def PostX (Γ : Ct) (σ : L2.St) (Z : Fp) (H : Hp) (F : Fp) (x : Xn) : Prop :=
  ∀ cls dx H' Z', Evo Z H F Z' H' (fun _ => False) → (∀ a, Z' a → H' a ≠ none) → ExR Γ.C Z' H' x cls dx → Γ.W cls dx σ H'
/-- a relation of what is reckoned and what stands: the owned addresses, shared ones, the heap -/
abbrev Rel (α β : Type) := Fp → Fp → Hp → α → β → Prop
def Post {α β : Type} (Γ : Ct) (σ : L2.St) (Z : Fp) (H : Hp) (F : Fp) (rel : Rel α β) (r : R α) (Q : β → Hp → Prop) : Prop :=
  match r with
  | .ok a env' => ∀ b H' Z' φ' A, SttC Γ Z' σ H' env' φ' → rel A Z' H' a b → (∀ x, A x → ¬ Tot φ' x ∧ ¬ Z' x) → Evo Z H F Z' H' (fun x => Tot φ' x ∨ A x) → Q b H'
  | .ex x => PostX Γ σ Z H F x
  | .no => False
def Ev {α β : Type} (Γ : Ct) (rel : L2.St → Rel α β) (f : En → R α) (t : L2.St → Hp → (β → Hp → Prop) → Prop) : Prop :=
  ∀ σ H Z env φ, SttC Γ Z σ H env φ → ∀ Q, Post Γ σ Z H (Tot φ) (rel σ) (f env) Q → t σ H Q

section
variable {Γ : Ct} {α β γ δ : Type} {σ : L2.St} {Z Z1 : Fp} {H H1 : Hp} {F F1 : Fp}
theorem PostX.mono {x : Xn} (h : PostX Γ σ Z H F x) (e : Evo Z H F Z1 H1 F1) : PostX Γ σ Z1 H1 F1 x := fun cls dx H' Z' e2 zh q => h cls dx H' Z' (e.trans e2) zh q
theorem Post.mono {rel : Rel α β} {r : R α} {Q : β → Hp → Prop} (h : Post Γ σ Z H F rel r Q) (e : Evo Z H F Z1 H1 F1) : Post Γ σ Z1 H1 F1 rel r Q := by
  cases r with
  | ok a env => exact fun b H' Z' φ' A S q d e2 => h b H' Z' φ' A S q d (e.trans e2)
  | ex x => exact PostX.mono h e
  | no => exact h
/-- what follows a result -/
theorem Ev.bind {rel1 : L2.St → Rel α β} {f : En → R α} {t : L2.St → Hp → (β → Hp → Prop) → Prop} (h : Ev Γ rel1 f t) {env : En} {φ : Nat → Fp} (S : SttC Γ Z σ H env φ) {rel : Rel γ δ} {g : α → En → R γ} {Q : δ → Hp → Prop} {Q1 : β → Hp → Prop}
    (P : Post Γ σ Z H (Tot φ) rel ((f env).bind g) Q)
    (k : ∀ a env1 b H1 Z1 φ1 A, f env = .ok a env1 → SttC Γ Z1 σ H1 env1 φ1 → rel1 σ A Z1 H1 a b → (∀ x, A x → ¬ Tot φ1 x ∧ ¬ Z1 x) → Evo Z H (Tot φ) Z1 H1 (fun x => Tot φ1 x ∨ A x) →
      Post Γ σ Z1 H1 (fun x => Tot φ1 x ∨ A x) rel (g a env1) Q → Q1 b H1) : t σ H Q1 := by
  refine h σ H Z env φ S Q1 ?_
  cases e : f env with
  | ok a env1 =>
    rw [e] at P
    exact fun b H1 Z1 φ1 A S1 q d ev => k a env1 b H1 Z1 φ1 A e S1 q d ev (Post.mono P ev)
  | ex x => rw [e] at P; exact P
  | no => rw [e] at P; exact P
/-- the end: a value of what is known -/
theorem Post.here {rel : Rel α β} {a : α} {env : En} {φ : Nat → Fp} {Q : β → Hp → Prop} (h : Post Γ σ Z H (Tot φ) rel (.ok a env) Q) (S : SttC Γ Z σ H env φ) {b : β} (q : rel (fun _ => False) Z H a b) : Q b H :=
  h b H Z φ (fun _ => False) S q (fun _ z => z.elim) (Evo.refl.sub fun x z => z.elim id fun q => q.elim)
theorem Evo.new {p : Addr} {o : HO} (h : H p = none) {F F' : Fp} (hs : ∀ a, F' a → F a ∨ a = p) : Evo Z H F Z (upd H p o) F' :=
  ⟨fun a u e _ => by rw [upd_ne (ne_of_none e h)]; exact e, fun _ z => z, fun _ z => .inl z, fun a z => (hs a z).imp id fun q => by rw [q]; exact h⟩
/-- a new object that holds shared things, not owned (a tuple) -/
theorem Post.newT {rel : Rel α β} {a : α} {env : En} {φ : Nat → Fp} {Q : β → Hp → Prop} {p : Addr} {o : HO} (h : Post Γ σ Z H (Tot φ) rel (.ok a env) Q) (S : SttC Γ Z σ H env φ) (hp : H p = none) {b : β} (q : rel (fun _ => False) Z (upd H p o) a b) : Q b (upd H p o) :=
  h b _ Z φ (fun _ => False) (S.new hp) q (fun _ z => z.elim) (Evo.new hp fun x z => .inl (z.elim id fun q => q.elim))
/-- a new list, owned -/
theorem Post.newL {rel : Rel α β} {a : α} {env : En} {φ : Nat → Fp} {Q : β → Hp → Prop} {p : Addr} {o : HO} (h : Post Γ σ Z H (Tot φ) rel (.ok a env) Q) (S : SttC Γ Z σ H env φ) (hp : H p = none) {b : β} (q : rel (fun x => x = p) Z (upd H p o) a b) : Q b (upd H p o) :=
  h b _ Z φ (fun x => x = p) (S.new hp) q (fun x z => by rw [z]; exact ⟨(S.fresh hp).2, (S.fresh hp).1⟩) (Evo.new hp fun x z => z)
end

/-! ### the kinds -/
abbrev VR (C : RC) : L2.St → Rel D V := fun _ _ Z H d v => Sh C Z H v d
abbrev ER (C : RC) : L2.St → Rel (D × Nat) V := fun _ A Z H p v => Ow C Z H p.2 v p.1 A
abbrev TR : L2.St → Rel Bool Bool := fun _ _ _ _ b c => b = c
abbrev AR (C : RC) : L2.St → Rel (List D) (List V) := fun _ _ Z H ds vs => ShL C Z H vs ds
/-- an operand: a shared value, or what slot i holds -/
inductive Opd where
  | val (d : D) | pla (i : Nat)
abbrev OR (C : RC) : L2.St → Rel Opd V := fun σ _ Z H o v =>
  match o with
  | .val d => Sh C Z H v d
  | .pla i => σ[i]? = some (some v)
def Opd.get (o : Opd) (env : En) : Option D :=
  match o with
  | .val d => some d
  | .pla i => match env[i]? with
    | some (some (d, 0)) => some d
    | some (some (d, 1)) => some d
    | _ => none
/-- an expression: its shared value; its value, perhaps owned; an operand -/
def EvV (Γ : Ct) (e : Expr) (f : En → R D) : Prop := ∃ t, PE Γ.X e t ∧ Ev Γ (VR Γ.C) f t
def EvE (Γ : Ct) (e : Expr) (f : En → R (D × Nat)) : Prop := ∃ t, PE Γ.X e t ∧ Ev Γ (ER Γ.C) f t
def EvO (Γ : Ct) (e : Expr) (f : En → R Opd) : Prop := ∃ t, PE Γ.X e t ∧ Ev Γ (OR Γ.C) f t
def EvT (Γ : Ct) (e : Expr) (f : En → R Bool) : Prop := ∃ t, PT Γ.X e t ∧ Ev Γ TR f t
def EvA (Γ : Ct) (es : List Expr) (f : En → R (List D)) : Prop := ∃ t, PA Γ.X es t ∧ Ev Γ (AR Γ.C) f t

/-- what an operation may read of a value now -/
inductive Rd1 (C : RC) (Z : Fp) (H : Hp) : V → D → Prop
  | sh {v : V} {d : D} : Sh C Z H v d → Rd1 C Z H v d
  | lst {a : Addr} {xs : List V} {ds : List D} : H a = some (.lst xs) → ShL C Z H xs ds → Rd1 C Z H (.ref a) (.lst ds)
  | dic {a : Addr} {ks : List Key} {xs : List V} {ds : List D} : H a = some (.dK (ks.zip xs)) → ks.length = xs.length → ShL C Z H xs ds → Rd1 C Z H (.ref a) (.dic ks ds)
section
variable {C : RC} {Z : Fp} {H : Hp}
theorem Rd1.of_ow {k : Nat} {v : V} {d : D} {A : Fp} (h : Ow C Z H k v d A) (hk : k ≤ 1) : Rd1 C Z H v d := by
  match k, h, hk with
  | 0, h, _ => exact .sh h.1
  | 1, h, _ =>
    have h0 := h
    rcases h with ⟨_, h, _⟩ | ⟨b, xs, ds, B, rfl, rfl, hb, hl, hc, hd, ha, hi, e⟩ | ⟨b, ks, xs, ds, rfl, rfl, hb, hl, r, e⟩
    · exact .sh h
    · exact .lst hb (shl_of_ix hl fun i x y e1 e2 => (hc i x y e1 e2).1)
    · exact .dic hb hl r
theorem Rd1.tupI {v : V} {ds : List D} (h : Rd1 C Z H v (.tup ds)) : ∃ a xs, v = .ref a ∧ SqT C.K H a xs ∧ ShL C Z H xs ds := by
  cases h with
  | sh h => cases h with | tup s r => exact ⟨_, _, rfl, s, r⟩
theorem Rd1.lstI {v : V} {ds : List D} (h : Rd1 C Z H v (.lst ds)) : ∃ a xs, v = .ref a ∧ H a = some (.lst xs) ∧ ShL C Z H xs ds := by
  cases h with
  | sh h => cases h with | lst s z r => exact ⟨_, _, rfl, s, r⟩
  | lst h r => exact ⟨_, _, rfl, h, r⟩
theorem Rd1.scrI {v : V} {ns : List Int} (h : Rd1 C Z H v (.scr ns)) : ∃ a, v = .ref a ∧ SqL C.K H a (ns.map V.int) := by
  cases h with
  | sh h => cases h with | scr s => exact ⟨_, rfl, s.sqL⟩
theorem Rd1.dicI {v : V} {ks : List Key} {ds : List D} (h : Rd1 C Z H v (.dic ks ds)) : ∃ a xs, v = .ref a ∧ H a = some (.dK (ks.zip xs)) ∧ ks.length = xs.length ∧ ShL C Z H xs ds := by
  cases h with
  | sh h => cases h with | dic s z l r => exact ⟨_, _, rfl, s, l, r⟩
  | dic h l r => exact ⟨_, _, rfl, h, l, r⟩
theorem Rd1.intI {v : V} {i : Int} (h : Rd1 C Z H v (.int i)) : v = .int i := by
  cases h with
  | sh h => cases h; rfl
theorem Rd1.blI {v : V} {i : Bool} (h : Rd1 C Z H v (.bl i)) : v = .bl i := by
  cases h with
  | sh h => cases h; rfl
theorem Rd1.strI {v : V} {i : Str} (h : Rd1 C Z H v (.str i)) : v = .str i := by
  cases h with
  | sh h => cases h; rfl
theorem Rd1.nonI {v : V} (h : Rd1 C Z H v .non) : v = .non := by
  cases h with
  | sh h => cases h; rfl
end
/-- an operand's data at the end of the operands' evaluation -/
theorem Opd.rd {Γ : Ct} {σ : L2.St} {Z : Fp} {H : Hp} {env : En} {φ : Nat → Fp} (S : SttC Γ Z σ H env φ) {o : Opd} {v : V} {d : D} {A : Fp} (h : OR Γ.C σ A Z H o v) (g : o.get env = some d) : Rd1 Γ.C Z H v d := by
  cases o with
  | val e =>
    have : e = d := Option.some.inj g
    subst this
    exact .sh h
  | pla i =>
    have h : σ[i]? = some (some v) := h
    unfold Opd.get at g
    simp only at g
    split at g
    · rename_i e
      cases g
      obtain ⟨w, h1, h2⟩ := S.slot i d 0 e
      rw [h] at h1; cases h1
      exact .of_ow h2 (Nat.zero_le _)
    · rename_i e
      cases g
      obtain ⟨w, h1, h2⟩ := S.slot i d 1 e
      rw [h] at h1; cases h1
      exact .of_ow h2 (Nat.le_refl _)
    · cases g
/-- an operand stays through what follows -/
theorem OR.go {Γ : Ct} {σ : L2.St} {Z Z1 : Fp} {H H1 : Hp} (x : Ext Z H Z1 H1) {o : Opd} {v : V} {A B : Fp} (h : OR Γ.C σ A Z H o v) : OR Γ.C σ B Z1 H1 o v := by
  cases o with
  | val e => exact Sh.ext x e v h
  | pla i => exact h

section
variable {Γ : Ct} {e a b : Expr} {pos : Pos}
/-! ### from kind to kind -/
def vOfE (f : En → R (D × Nat)) : En → R D := fun env => (f env).bind fun p env1 => .ok p.1 env1
def eOfV (f : En → R D) : En → R (D × Nat) := fun env => (f env).bind fun d env1 => .ok (d, 0) env1
def oOfV (f : En → R D) : En → R Opd := fun env => (f env).bind fun d env1 => .ok (.val d) env1
theorem EvE.toV {f : En → R (D × Nat)} (h : EvE Γ e f) : EvV Γ e (vOfE f) := by
  obtain ⟨t, h1, h2⟩ := h
  refine ⟨t, h1, fun σ H Z env φ S Q P => ?_⟩
  refine h2.bind S P fun p env1 v H1 Z1 φ1 A e1 S1 o dj ev P1 => ?_
  obtain ⟨d, k⟩ := p
  -- what was owned is shared now
  have x : Ext Z1 H1 (fun y => Z1 y ∨ A y) H1 := ⟨fun _ _ _ q => q, fun _ z => .inl z, fun _ _ q => q, fun _ _ _ q => q⟩
  have S2 : SttC Γ (fun y => Z1 y ∨ A y) σ H1 env1 φ1 := S1.go x (fun _ _ _ q => q) (fun y q z => z.elim (S1.tnz y q) fun z => (dj y z).1 q) fun y z => z.elim (S1.zh y) fun z e => by
    have := o.mut y z
    rw [e] at this; exact this
  refine P1 v H1 _ φ1 (fun _ => False) S2 (o.frz (fun _ z => .inl z) fun _ z => .inr z) (fun _ z => z.elim) ⟨fun _ _ q _ => q, fun _ z => .inl z, fun y z => z.imp id fun z => .inl (.inr z), fun y z => .inl (z.elim .inl fun z => z.elim)⟩
theorem EvV.toE {f : En → R D} (h : EvV Γ e f) : EvE Γ e (eOfV f) := by
  obtain ⟨t, h1, h2⟩ := h
  refine ⟨t, h1, fun σ H Z env φ S Q P => ?_⟩
  refine h2.bind S P fun d env1 v H1 Z1 φ1 A e1 S1 o dj ev P1 => ?_
  exact Post.here (P1.mono (Evo.refl.sub fun _ z => .inl z)) S1 ⟨o, fun _ z => z⟩
theorem EvV.toO {f : En → R D} (h : EvV Γ e f) : EvO Γ e (oOfV f) := by
  obtain ⟨t, h1, h2⟩ := h
  refine ⟨t, h1, fun σ H Z env φ S Q P => ?_⟩
  refine h2.bind S P fun d env1 v H1 Z1 φ1 A e1 S1 o dj ev P1 => ?_
  exact Post.here (P1.mono (Evo.refl.sub fun _ z => .inl z)) S1 o

/-! ### constants and names -/
def kI (i : Int) : En → R D := fun env => .ok (.int i) env
def kB (b : Bool) : En → R D := fun env => .ok (.bl b) env
def kS (x : Str) : En → R D := fun env => .ok (.str x) env
def kN : En → R D := fun env => .ok .non env
theorem ev_c {v : V} {d : D} (h : ∀ Z H, Sh Γ.C Z H v d) (p : PE Γ.X e (tC v)) : EvV Γ e (fun env => .ok d env) :=
  ⟨_, p, fun σ H Z env φ S Q P => Post.here P S (h Z H)⟩
theorem ev_int {i j} : EvV Γ (.Constant (.int i) j pos) (kI i) := ev_c (fun _ _ => .int i) pe_int
theorem ev_bl {i j} : EvV Γ (.Constant (.bool i) j pos) (kB i) := ev_c (fun _ _ => .bl i) pe_bl
theorem ev_str {i j} : EvV Γ (.Constant (.str i) j pos) (kS i) := ev_c (fun _ _ => .str i) pe_str
theorem ev_non {j} : EvV Γ (.Constant .none j pos) kN := ev_c (fun _ _ => .non) pe_non
/-- a def as a value -/
theorem ev_fn {n : Nat} {f : Addr} {x : Str} (hg : Gl Γ.X x) (hm : Γ.X.mg x = some (.ref f)) (hn : Γ.C.fa n = some f) (hd : (x == ("__debug__" : Str)) = false := by decide) : EvV Γ (.Name x pos) (fun env => .ok (.fn n) env) :=
  ev_c (v := .ref f) (fun _ _ => .fn hn) (pe_glob hg hm rfl hd)
/-- a module's int -/
theorem ev_gint {i : Int} {t : Tok} {x : Str} (hg : Gl Γ.X x) (hm : Γ.X.mg x = some (.int i t)) (hd : (x == ("__debug__" : Str)) = false := by decide) : EvV Γ (.Name x pos) (kI i) :=
  ev_c (fun _ _ => .int i) (pe_glob hg hm ⟨t, rfl⟩ hd)
theorem ev_gstr {i : Str} {t : Tok} {x : Str} (hg : Gl Γ.X x) (hm : Γ.X.mg x = some (.str i t)) (hd : (x == ("__debug__" : Str)) = false := by decide) : EvV Γ (.Name x pos) (kS i) :=
  ev_c (fun _ _ => .str i) (pe_glob hg hm ⟨t, rfl⟩ hd)

/-- a name read to be kept elsewhere: its lists are shared from now on -/
def nmV (i : Nat) : En → R D := fun env =>
  match env[i]? with
  | some (some (d, _)) => .ok d (env.set i (some (d, 0)))
  | _ => .no
/-- a name read as an operand -/
def nmO (i : Nat) : En → R Opd := fun env =>
  match env[i]? with
  | some (some (d, 0)) => .ok (.val d) env
  | some (some (_, 1)) => .ok (.pla i) env
  | some (some (d, _)) => .ok (.val d) (env.set i (some (d, 0)))
  | _ => .no
theorem Stt.share {C : RC} {io : List Nat} {σ₀ σ : L2.St} {Z : Fp} {H : Hp} {env : En} {φ : Nat → Fp} (S : Stt C io σ₀ Z σ H env φ) {i : Nat} {d : D} {k : Nat} (h : env[i]? = some (some (d, k))) :
    ∃ v, σ[i]? = some (some v) ∧ Stt C io σ₀ (fun y => Z y ∨ φ i y) σ H (env.set i (some (d, 0))) (fun j => if j = i then (fun _ => False) else φ j) ∧ Sh C (fun y => Z y ∨ φ i y) H v d ∧
      Evo Z H (Tot φ) (fun y => Z y ∨ φ i y) H (Tot fun j => if j = i then (fun _ => False) else φ j) := by
  obtain ⟨v, hv, o⟩ := S.slot i d k h
  have sh : Sh C (fun y => Z y ∨ φ i y) H v d := o.frz (fun _ z => .inl z) fun _ z => .inr z
  have x : Ext Z H (fun y => Z y ∨ φ i y) H := ⟨fun _ _ _ q => q, fun _ z => .inl z, fun _ _ q => q, fun _ _ _ q => q⟩
  have zh : ∀ a, Z a ∨ φ i a → H a ≠ none := fun a z => z.elim (S.zh a) fun z e => by
    have := S.mu a ⟨i, z⟩
    rw [e] at this; exact this
  have S1 := (S.drop i).go x (fun _ _ _ q => q) (fun a ⟨j, q, z⟩ zz => zz.elim (S.nz j a z) fun y => q (S.dj j i a z y)) zh
  have hi : i < env.length := (List.getElem?_eq_some_iff.mp h).1
  have S2 := S1.reput (i := i) (by simpa using hi) hv (Ow.sh sh) (fun _ _ _ _ z => z) (fun _ z => z.elim)
  refine ⟨v, hv, ?_, sh, ⟨fun _ _ q _ => q, fun _ z => .inl z, fun a z => z.elim .inl fun z => .inr (.inl ⟨i, z⟩), fun a ⟨j, z⟩ => ?_⟩⟩
  · have e1 : (env.set i none).set i (some (d, 0)) = env.set i (some (d, 0)) := by rw [List.set_set]
    rw [e1] at S2
    have e2 : (fun j => if j = i then (fun _ : Addr => False) else fun a => j ≠ i ∧ φ j a) = fun j => if j = i then (fun _ => False) else φ j := by
      funext j
      by_cases q : j = i
      · rw [if_pos q, if_pos q]
      · rw [if_neg q, if_neg q]
        funext a
        exact propext ⟨fun z => z.2, fun z => ⟨q, z⟩⟩
    rw [e2] at S2
    exact S2
  · by_cases q : j = i
    · simp only [if_pos q] at z
    · simp only [if_neg q] at z; exact .inl ⟨j, z⟩
theorem ev_name {i : Nat} {x : Str} (hN : Γ.X.N[i]? = some x) (hv : Vis Γ.X.env.scope x) (hd : (x == ("__debug__" : Str)) = false := by decide) (hcd : (x == ("__classdict__" : Str)) = false := by decide) : EvV Γ (.Name x pos) (nmV i) := by
  refine ⟨_, pe_var hN hv hd hcd, fun σ H Z env φ S Q P => ?_⟩
  unfold nmV at P
  split at P
  · rename_i d k h
    obtain ⟨v, h1, S1, sh, ev⟩ := S.share h
    exact ⟨v, h1, Post.here (P.mono ev) S1 sh⟩
  · exact P.elim
theorem ev_nameO {i : Nat} {x : Str} (hN : Γ.X.N[i]? = some x) (hv : Vis Γ.X.env.scope x) (hd : (x == ("__debug__" : Str)) = false := by decide) (hcd : (x == ("__classdict__" : Str)) = false := by decide) : EvO Γ (.Name x pos) (nmO i) := by
  refine ⟨_, pe_var hN hv hd hcd, fun σ H Z env φ S Q P => ?_⟩
  unfold nmO at P
  split at P
  · rename_i d h
    obtain ⟨v, h1, o⟩ := S.slot i d 0 h
    exact ⟨v, h1, Post.here P S o.1⟩
  · rename_i d h
    obtain ⟨v, h1, o⟩ := S.slot i d 1 h
    exact ⟨v, h1, Post.here P S h1⟩
  · rename_i d k _ _ h
    obtain ⟨v, h1, S1, sh, ev⟩ := S.share h
    exact ⟨v, h1, Post.here (P.mono ev) S1 sh⟩
  · exact P.elim

/-! ### operators by values -/
/-- what an operation makes of data: with the depth that is its own -/
def own1 : D → Nat
  | .lst _ => 1
  | .dic _ _ => 1
  | _ => 0
def op2 (g : D → D → Option (D × Nat)) (fa fb : En → R Opd) : En → R (D × Nat) := fun env => (fa env).bind fun oa env1 => (fb env1).bind fun ob env2 =>
  match oa.get env2, ob.get env2 with
  | some x, some y => R.of (g x y) env2
  | _, _ => .no
/-- a rule's reading r does what g tells -/
def Does2 (Γ : Ct) (g : D → D → Option (D × Nat)) (r : R2) : Prop :=
  ∀ σ H Z env φ, SttC Γ Z σ H env φ → ∀ x y d e p, Rd1 Γ.C Z H x d → Rd1 Γ.C Z H y e → g d e = some p → ∀ Q : VK, Post Γ σ Z H (Tot φ) (ER Γ.C σ) (.ok p env) Q → r x y H Q
theorem ev_op2 {ta : R2} {mk : TE → TE → TE} {g : D → D → Option (D × Nat)} {r : R2} {fa fb : En → R Opd} (ha : EvO Γ a fa) (hb : EvO Γ b fb) (hp : ∀ ta tb, PE Γ.X a ta → PE Γ.X b tb → PE Γ.X e (tOp r ta tb)) (hr : Does2 Γ g r) : EvE Γ e (op2 g fa fb) := by
  obtain ⟨ta, a1, a2⟩ := ha
  obtain ⟨tb, b1, b2⟩ := hb
  refine ⟨_, hp ta tb a1 b1, fun σ H Z env φ S Q P => ?_⟩
  refine a2.bind S P fun oa env1 x H1 Z1 φ1 A e1 S1 q1 dj1 ev1 P1 => ?_
  refine b2.bind S1 (P1.mono (Evo.refl.sub fun _ z => .inl z)) fun ob env2 y H2 Z2 φ2 B e2 S2 q2 dj2 ev2 P2 => ?_
  have P3 := P2.mono (Evo.refl.sub (F2 := Tot φ2) fun _ z => .inl z)
  have q1' : OR Γ.C σ B Z2 H2 oa x := OR.go (S1.ext ev2) q1
  cases ga : oa.get env2 with
  | none => rw [ga] at P3; exact P3.elim
  | some d =>
    cases gb : ob.get env2 with
    | none => rw [ga, gb] at P3; exact P3.elim
    | some e =>
      rw [ga, gb] at P3
      cases gg : g d e with
      | none => simp only [gg] at P3; exact P3.elim
      | some p =>
        simp only [gg] at P3
        exact hr σ H2 Z2 env2 φ2 S2 x y d e p (Opd.rd S2 q1' ga) (Opd.rd S2 q2 gb) gg Q P3
end
end Pv
end

section
set_option Elab.async false
set_option linter.all false
set_option maxRecDepth 100000
set_option maxHeartbeats 4000000
/-! Pv3: operators, comparisons, tests. -/
namespace Pv
open PySem PySem.Spec PyProof.Rows L2

def lim : Nat := 16000000
theorem lim_le {n : Nat} (h : n ≤ lim) : n ≤ sizeLine := Nat.le_trans h (by decide)

/-! ### arithmetic -/
def sml (i : Int) : Bool := Nat.ble i.natAbs 18446744073709551615
theorem sml_ok {i : Int} (h : sml i = true) : -(2 ^ 64) < i ∧ i < 2 ^ 64 := by
  have h1 := Nat.le_of_ble_eq_true h
  omega
def mulOk (i j : Int) : Bool := sml j || (sml i || decide (i.natAbs.log2 + j.natAbs.log2 < 1000000))
theorem mulOk.ok {i j : Int} (h : mulOk i j = true) : IntMulOk i j := by
  unfold mulOk at h
  simp only [Bool.or_eq_true, decide_eq_true_eq] at h
  rcases h with h | h | h
  · exact CMul.ok (.inr (sml_ok h))
  · exact CMul.ok (.inl (sml_ok h))
  · exact CMulW.ok h
def addD : D → D → Option (D × Nat)
  | .int i, .int j => some (.int (i + j), 0)
  | .tup xs, .tup ys => if xs.length + ys.length ≤ lim then some (.tup (xs ++ ys), 0) else none
  | .lst xs, .lst ys => if xs.length + ys.length ≤ lim then some (.lst (xs ++ ys), 1) else none
  | .str x, .str y => if x.length + y.length ≤ lim then some (.str (x ++ y), 0) else none
  | _, _ => none
def subD : D → D → Option (D × Nat)
  | .int i, .int j => some (.int (i - j), 0)
  | _, _ => none
def mulD : D → D → Option (D × Nat)
  | .int i, .int j => if mulOk i j then some (.int (i * j), 0) else none
  | .lst xs, .int k => if xs.length * k.toNat ≤ lim ∧ -(2 ^ 63) ≤ k ∧ k < 2 ^ 63 then some (.lst (List.replicate k.toNat xs).flatten, 1) else none
  | .tup xs, .int k => if xs ≠ [] ∧ 2 ≤ k ∧ k ≤ 1000 ∧ xs.length ≤ 1000 then some (.tup (List.replicate k.toNat xs).flatten, 0) else none
  | _, _ => none
def fdivD : D → D → Option (D × Nat)
  | .int i, .int j => if j ≠ 0 ∧ j.natAbs.log2 < 9000 then some (.int (i.fdiv j), 0) else none
  | _, _ => none
def modD : D → D → Option (D × Nat)
  | .int i, .int j => if j ≠ 0 then some (.int (i.fmod j), 0) else none
  | _, _ => none
def rMulZ : R2 := fun x y H Q => ∃ i j, x = .int i ∧ y = .int j ∧ IntMulOk i j ∧ Q (.int (i * j)) H
def rDivZ : R2 := fun x y H Q => ∃ i j : Int, x = .int i ∧ y = .int j ∧ (j ≠ 0 ∧ j.natAbs.log2 < 9000) ∧ Q (.int (i.fdiv j)) H
section
variable {X : Cx}
theorem op_mulZ : OpR X (binaryOp .Mult) rMulZ := by
  intro pins s σ H x y v u Q I rx ry h
  obtain ⟨i, j, rfl, rfl, hc, q⟩ := h
  obtain ⟨t, rfl⟩ := rx
  obtain ⟨t', rfl⟩ := ry
  exact mul_int ⟨.int _, H, I.tok _, ⟨_, rfl⟩, q⟩ hc
theorem op_divZ : OpR X (binaryOp .FloorDiv) rDivZ := by
  intro pins s σ H x y v u Q I rx ry h
  obtain ⟨i, j, rfl, rfl, hc, q⟩ := h
  obtain ⟨t, rfl⟩ := rx
  obtain ⟨t', rfl⟩ := ry
  exact floordiv_int hc.1 ⟨.int _, H, I.tok _, ⟨_, rfl⟩, q⟩ (.inl (PyProof.noPylong_of_log2 hc.2))
theorem iop_divZ : OpR X (inplaceOp .FloorDiv) rDivZ := by
  intro pins s σ H x y v u Q I rx ry h
  obtain ⟨i, j, rfl, rfl, hc, q⟩ := h
  obtain ⟨t, rfl⟩ := rx
  obtain ⟨t', rfl⟩ := ry
  exact ifloordiv_int hc.1 ⟨.int _, H, I.tok _, ⟨_, rfl⟩, q⟩ (.inl (PyProof.noPylong_of_log2 hc.2))
end
abbrev rAddA (K : PySem.W.Frag) : R2 := fun x y H Q => rI0 (fun i j => .int (i + j)) x y H Q ∨ rCatA K x y H Q ∨ rCat x y H Q ∨ (∃ i j, x = .str i ∧ y = .str j ∧ i.length + j.length ≤ sizeLine ∧ Q (.str (i ++ j)) H)
abbrev rMulA (K : PySem.W.Frag) : R2 := fun x y H Q => rMulZ x y H Q ∨ rRep x y H Q ∨ rRepT K x y H Q
section
variable {Γ : Ct} (G : Good Γ)
include G
theorem does_add : Does2 Γ addD (rAddA Γ.X.K) := by
  intro σ H Z env φ S x y d e p hx hy hg Q P
  unfold addD at hg
  split at hg
  · cases hg
    rw [hx.intI, hy.intI]
    exact .inl ⟨_, _, rfl, rfl, Post.here P S (Ow.sh (.int _))⟩
  · rename_i xs ys
    split at hg
    · rename_i hz
      cases hg
      obtain ⟨a, us, rfl, ha, ra⟩ := hx.tupI
      obtain ⟨b, vs, rfl, hb, rb⟩ := hy.tupI
      have la := ra.length
      have lb := rb.length
      rw [G.hK] at ha hb
      refine .inr (.inl ⟨a, b, us, vs, rfl, rfl, ha, hb, by rw [la, lb]; exact lim_le hz, fun e => ?_, fun _ e => ?_, fun _ _ p hp => ?_⟩)
      · subst e
        cases ra
        exact Post.here P S (Ow.sh (.tup (by rw [G.hK]; exact hb) rb))
      · subst e
        cases rb
        rw [List.append_nil] at P
        exact Post.here P S (Ow.sh (.tup (by rw [G.hK]; exact ha) ra))
      · have x : Ext Z H Z (upd H p (.tup (us ++ vs))) := Ext.new hp
        exact Post.newT P S hp (Ow.sh (.tup (SqT.of upd_same) ((ra.append rb).ext x)))
    · cases hg
  · rename_i xs ys
    split at hg
    · rename_i hz
      cases hg
      obtain ⟨a, us, rfl, ha, ra⟩ := hx.lstI
      obtain ⟨b, vs, rfl, hb, rb⟩ := hy.lstI
      have la := ra.length
      have lb := rb.length
      refine .inr (.inr (.inl ⟨a, b, us, vs, rfl, rfl, ha, hb, by rw [la, lb]; exact lim_le hz, fun p hp => ?_⟩))
      have x : Ext Z H Z (upd H p (.lst (us ++ vs))) := Ext.new hp
      exact Post.newL P S hp (Ow.lst1 upd_same ((ra.append rb).ext x))
    · cases hg
  · split at hg
    · rename_i hz
      cases hg
      rw [hx.strI, hy.strI]
      exact .inr (.inr (.inr ⟨_, _, rfl, rfl, lim_le hz, Post.here P S (Ow.sh (.str _))⟩))
    · cases hg
  · cases hg
omit G in
theorem does_sub : Does2 Γ subD (rI0 fun i j => .int (i - j)) := by
  intro σ H Z env φ S x y d e p hx hy hg Q P
  unfold subD at hg
  split at hg
  · cases hg
    rw [hx.intI, hy.intI]
    exact ⟨_, _, rfl, rfl, Post.here P S (Ow.sh (.int _))⟩
  · cases hg
theorem does_mul : Does2 Γ mulD (rMulA Γ.X.K) := by
  intro σ H Z env φ S x y d e p hx hy hg Q P
  unfold mulD at hg
  split at hg
  · split at hg
    · rename_i hz
      cases hg
      rw [hx.intI, hy.intI]
      exact .inl ⟨_, _, rfl, rfl, mulOk.ok hz, Post.here P S (Ow.sh (.int _))⟩
    · cases hg
  · rename_i xs k
    split at hg
    · rename_i hz
      cases hg
      obtain ⟨a, us, rfl, ha, ra⟩ := hx.lstI
      rw [hy.intI]
      have la := ra.length
      refine .inr (.inl ⟨a, k, us, rfl, rfl, ha, hz.2.1, hz.2.2, by rw [la]; exact lim_le hz.1, fun p hp => ?_⟩)
      have x : Ext Z H Z (upd H p (.lst (List.replicate k.toNat us).flatten)) := Ext.new hp
      exact Post.newL P S hp (Ow.lst1 upd_same (ra.flat.ext x))
    · cases hg
  · rename_i xs k
    split at hg
    · rename_i hz
      cases hg
      obtain ⟨a, us, rfl, ha, ra⟩ := hx.tupI
      rw [hy.intI]
      have la := ra.length
      rw [G.hK] at ha
      refine .inr (.inr ⟨a, k, us, rfl, rfl, ha, fun e => hz.1 (by subst e; cases ra; rfl), hz.2.1, hz.2.2.1, by rw [la]; exact hz.2.2.2, fun p hp => ?_⟩)
      have x : Ext Z H Z (upd H p (.tup (List.replicate k.toNat us).flatten)) := Ext.new hp
      exact Post.newT P S hp (Ow.sh (.tup (SqT.of upd_same) (ra.flat.ext x)))
    · cases hg
  · cases hg
omit G in
theorem does_fdiv : Does2 Γ fdivD rDivZ := by
  intro σ H Z env φ S x y d e p hx hy hg Q P
  unfold fdivD at hg
  split at hg
  · split at hg
    · rename_i hz
      cases hg
      rw [hx.intI, hy.intI]
      exact ⟨_, _, rfl, rfl, hz, Post.here P S (Ow.sh (.int _))⟩
    · cases hg
  · cases hg
omit G in
theorem does_mod : Does2 Γ modD (rI (fun _ j => j ≠ 0) fun i j => .int (i.fmod j)) := by
  intro σ H Z env φ S x y d e p hx hy hg Q P
  unfold modD at hg
  split at hg
  · split at hg
    · rename_i hz
      cases hg
      rw [hx.intI, hy.intI]
      exact ⟨_, _, rfl, rfl, hz, Post.here P S (Ow.sh (.int _))⟩
    · cases hg
  · cases hg
end
section
variable {Γ : Ct} {a b : Expr} {fa fb : En → R Opd} {pos : Pos}
theorem ev_add (G : Good Γ) (ha : EvO Γ a fa) (hb : EvO Γ b fb) : EvE Γ (.BinOp a .Add b pos) (op2 addD fa fb) := ev_op2 (ta := rAddA Γ.X.K) (mk := fun x _ => x) ha hb (fun _ _ p q => pe_op (op_add.or (op_catA.or (op_cat.or op_add_str))) p q) (does_add G)
theorem ev_sub (ha : EvO Γ a fa) (hb : EvO Γ b fb) : EvE Γ (.BinOp a .Sub b pos) (op2 subD fa fb) := ev_op2 (ta := rAddA Γ.X.K) (mk := fun x _ => x) ha hb (fun _ _ p q => pe_op op_sub p q) does_sub
theorem ev_mul (G : Good Γ) (ha : EvO Γ a fa) (hb : EvO Γ b fb) : EvE Γ (.BinOp a .Mult b pos) (op2 mulD fa fb) := ev_op2 (ta := rAddA Γ.X.K) (mk := fun x _ => x) ha hb (fun _ _ p q => pe_op (op_mulZ.or (op_rep.or op_repT)) p q) (does_mul G)
theorem ev_fdiv (ha : EvO Γ a fa) (hb : EvO Γ b fb) : EvE Γ (.BinOp a .FloorDiv b pos) (op2 fdivD fa fb) := ev_op2 (ta := rAddA Γ.X.K) (mk := fun x _ => x) ha hb (fun _ _ p q => pe_op op_divZ p q) does_fdiv
theorem ev_mod (ha : EvO Γ a fa) (hb : EvO Γ b fb) : EvE Γ (.BinOp a .Mod b pos) (op2 modD fa fb) := ev_op2 (ta := rAddA Γ.X.K) (mk := fun x _ => x) ha hb (fun _ _ p q => pe_op op_modN p q) does_mod
end

/-! ### data for == -/
mutual
def D.py : D → Option PyData
  | .non => some .none
  | .bl b => some (.bool b)
  | .int i => some (.int i)
  | .str x => some (.str x)
  | .tup ds => (D.pyL ds).map .tuple
  | .lst ds => (D.pyL ds).map .list
  | .fn _ => none
  | .dic _ _ => none
  | .scr _ => none
def D.pyL : List D → Option (List PyData)
  | [] => some []
  | d :: ds => match D.py d, D.pyL ds with
    | some p, some ps => some (p :: ps)
    | _, _ => none
end
section
variable {C : RC} {Z : Fp} {H : Hp}
mutual
theorem Sh.dp : ∀ (d : D) (v : V) (p : PyData), Sh C Z H v d → d.py = some p → Dp C.K H v p
  | .non, _, _, h, e => by cases h; cases e; exact .non
  | .bl b, _, _, h, e => by cases h; cases e; exact .bl b
  | .int i, _, _, h, e => by cases h; cases e; exact .int i
  | .str x, _, _, h, e => by cases h; cases e; exact .str x
  | .tup ds, _, p, h, e => by
    cases h with
    | tup s r =>
      unfold D.py at e
      obtain ⟨ps, e1, rfl⟩ := Option.map_eq_some_iff.mp e
      exact .tup s (ShL.dp ds _ ps r e1)
  | .lst ds, _, p, h, e => by
    cases h with
    | lst s z r =>
      unfold D.py at e
      obtain ⟨ps, e1, rfl⟩ := Option.map_eq_some_iff.mp e
      exact .lst (SqL.of s) (ShL.dp ds _ ps r e1)
  | .fn _, _, _, _, e => by cases e
  | .dic _ _, _, _, _, e => by cases e
  | .scr _, _, _, _, e => by cases e
theorem ShL.dp : ∀ (ds : List D) (vs : List V) (ps : List PyData), ShL C Z H vs ds → D.pyL ds = some ps → DpAll C.K H vs ps
  | [], _, _, h, e => by cases h; cases e; exact .nil
  | d :: ds, _, ps, h, e => by
    cases h with
    | cons h r =>
      unfold D.pyL at e
      split at e
      · rename_i p qs e1 e2
        cases e
        exact .cons (Sh.dp d _ _ h e1) (ShL.dp ds _ _ r e2)
      · cases e
end
theorem Rd1.dp {v : V} {d : D} {p : PyData} (h : Rd1 C Z H v d) (e : d.py = some p) : Dp C.K H v p := by
  cases h with
  | sh h => exact Sh.dp d v p h e
  | lst s r =>
    unfold D.py at e
    obtain ⟨ps, e1, rfl⟩ := Option.map_eq_some_iff.mp e
    exact .lst (SqL.of s) (ShL.dp _ _ ps r e1)
  | dic s l r => cases e
end
/-- == where both can be compared -/
def eqB (d e : D) : Option Bool :=
  match d.py, e.py with
  | some p, some q => if SeqAt.shaped p && SeqAt.shaped q then some (PyData.eqv p q) else none
  | _, _ => none
def eqD (d e : D) : Option (D × Nat) := (eqB d e).map fun b => (.bl b, 0)
def neD (d e : D) : Option (D × Nat) := (eqB d e).map fun b => (.bl (!b), 0)
def cmpD (f : Int → Int → Bool) : D → D → Option (D × Nat)
  | .int i, .int j => some (.bl (f i j), 0)
  | _, _ => none
def D.ints : List D → Option (List Int)
  | [] => some []
  | .int i :: r => (D.ints r).map (i :: ·)
  | _ :: _ => none
theorem D.ints_eq : ∀ {ds : List D} {ns : List Int}, D.ints ds = some ns → ds = ns.map D.int
  | [], ns, h => by cases h; rfl
  | .int i :: r, ns, h => by
    unfold D.ints at h
    obtain ⟨ms, e, rfl⟩ := Option.map_eq_some_iff.mp h
    rw [List.map_cons, ← D.ints_eq e]
  | .non :: _, _, h => by cases h
  | .bl _ :: _, _, h => by cases h
  | .str _ :: _, _, h => by cases h
  | .fn _ :: _, _, h => by cases h
  | .tup _ :: _, _, h => by cases h
  | .lst _ :: _, _, h => by cases h
  | .dic _ _ :: _, _, h => by cases h
  | .scr _ :: _, _, h => by cases h
@[simp] theorem D.ints_map : ∀ ns : List Int, D.ints (ns.map D.int) = some ns
  | [] => rfl
  | n :: ns => by rw [List.map_cons, D.ints, D.ints_map ns]; rfl
/-- flat data -/
def D.flat : D → Bool
  | .non => true
  | .bl _ => true
  | .int _ => true
  | .str _ => true
  | _ => false
def eqF : D → D → Bool
  | .non, .non => true
  | .bl a, .bl b => a == b
  | .bl a, .int b => (if a then 1 else 0) == b
  | .int a, .bl b => a == (if b then 1 else 0)
  | .int a, .int b => a == b
  | .str a, .str b => a == b
  | _, _ => false
def keyD : D → Option Key
  | .int i => some (.inl i)
  | .str x => some (.inr x)
  | _ => none
theorem keyD_eq {d : D} {k : Key} (h : keyD d = some k) {C : RC} {Z : Fp} {H : Hp} {v : V} (r : Rd1 C Z H v d) : v = kV k := by
  cases d with
  | int i => cases h; exact r.intI
  | str x => cases h; exact r.strI
  | _ => cases h
section
variable {C : RC} {Z : Fp} {H : Hp}
theorem Sh.flat {v : V} {d : D} (h : Sh C Z H v d) (f : d.flat = true) : flatV v = true := by
  cases h <;> first | rfl | cases f
theorem ShL.flat_all : ∀ {vs : List V} {ds : List D}, ShL C Z H vs ds → ds.all D.flat = true → vs.all flatV = true
  | _, _, .nil, _ => rfl
  | _, _, .cons h r, f => by
    rw [List.all_cons, Bool.and_eq_true] at f ⊢
    exact ⟨h.flat f.1, r.flat_all f.2⟩
theorem eqV_eqF {v w : V} {d e : D} (h : Sh C Z H v d) (h' : Sh C Z H w e) (f : d.flat = true) (f' : e.flat = true) : eqV v w = eqF d e := by
  cases h <;> first | (cases f; done) | (cases h' <;> first | (cases f'; done) | rfl)
theorem inV_eqF {v : V} {d : D} (h : Sh C Z H v d) (f : d.flat = true) : ∀ {vs : List V} {ds : List D}, ShL C Z H vs ds → ds.all D.flat = true → inV v vs = ds.any fun e => eqF e d
  | _, _, .nil, _ => rfl
  | _, _, .cons (v := w) (d := e) h1 r, g => by
    rw [List.all_cons, Bool.and_eq_true] at g
    unfold inV
    rw [List.any_cons, List.any_cons, eqV_eqF h1 h g.1 f]
    have := inV_eqF h f r g.2
    unfold inV at this
    rw [this]
end
def hasK {κ : Type} [DecidableEq κ] (ks : List κ) (k : κ) : Bool := ks.any fun j => decide (j = k)
def inB (d : D) : D → Option Bool
  | .tup ds => if d.flat && ds.all D.flat then some (ds.any fun e => eqF e d) else none
  | .lst ds => if d.flat && ds.all D.flat then some (ds.any fun e => eqF e d) else
      match d.py, D.pyL ds with
      | some p, some qs => if SeqAt.shaped p && SeqAt.shaped (.list qs) then some (qs.any fun q => PyData.eqv q p) else none
      | _, _ => none
  | .dic ks _ => (keyD d).map fun k => hasK ks k
  | .str y => match d with
    | .str x => some (!(Builtin.Str.occurrences y x 0 y.length 1).isEmpty)
    | _ => none
  | _ => none
def inD (d e : D) : Option (D × Nat) := (inB d e).map fun b => (.bl b, 0)
def ninD (d e : D) : Option (D × Nat) := (inB d e).map fun b => (.bl (!b), 0)
def isNB : D → Bool
  | .non => true
  | _ => false
/-- x is e, e a written None, True, False; what is known of other values: they are not None -/
def isD (d e : D) : Option (D × Nat) :=
  match e, d with
  | .non, d => some (.bl (isNB d), 0)
  | .bl b, .bl c => some (.bl (decide (c = b)), 0)
  | _, _ => none
def nisD (d e : D) : Option (D × Nat) :=
  match e, d with
  | .non, d => some (.bl (!isNB d), 0)
  | .bl b, .bl c => some (.bl (!decide (c = b)), 0)
  | _, _ => none

theorem cval {κ : Type} [DecidableEq κ] : ∀ (ks : List κ) (xs : List V) (k : κ), ks.length = xs.length → (valV (ks.zip xs) k).isSome = hasK ks k
  | [], _, _, _ => rfl
  | _ :: _, [], _, h => by simp at h
  | j :: ks, x :: xs, k, h => by
    rw [List.zip_cons_cons]
    unfold hasK
    rw [List.any_cons]
    by_cases e : j = k
    · rw [valV_pos e, e]; simp
    · rw [valV_neg e, cval ks xs k (by simpa using h), decide_eq_false e, Bool.false_or]
      rfl
abbrev rDIn : R2 := fun x y H Q => ∃ a o, y = .ref a ∧ DGet H a x o ∧ Q (.bl o.isSome) H
abbrev rDNin : R2 := fun x y H Q => ∃ a o, y = .ref a ∧ DGet H a x o ∧ Q (.bl (!o.isSome)) H
section
variable {X : Cx}
theorem op_din (hu : X.A.units + 1 < cLine) : OpR X (compareOp .In) rDIn := by
  intro pins s σ H x y v u Q I rx ry h
  obtain ⟨a, o, rfl, g, q⟩ := h
  cases ry
  exact d_in hu I g rx fun s' I' => ⟨.bl _, H, I', rfl, q⟩
theorem op_dnin (hu : X.A.units + 1 < cLine) : OpR X (compareOp .NotIn) rDNin := by
  intro pins s σ H x y v u Q I rx ry h
  obtain ⟨a, o, rfl, g, q⟩ := h
  cases ry
  exact d_notIn hu I g rx fun s' I' => ⟨.bl _, H, I', rfl, q⟩
end
end Pv
end

section
set_option Elab.async false
set_option linter.all false
set_option maxRecDepth 100000
set_option maxHeartbeats 4000000
/-! Pv4: comparisons, tests, subscripts, slices, displays. -/
namespace Pv
open PySem PySem.Spec PyProof.Rows L2

/-- a rule that hands back a bool that is reckoned of the data -/
theorem does_bool {Γ : Ct} {g : D → D → Option Bool} {h : D → D → Option (D × Nat)} {r : R2} (hh : ∀ d e, h d e = (g d e).map fun b => (.bl b, 0))
    (k : ∀ (Z : Fp) (H : Hp) (x y : V) (d e : D) (b : Bool), Rd1 Γ.C Z H x d → Rd1 Γ.C Z H y e → g d e = some b → ∀ Q : VK, Q (.bl b) H → r x y H Q) : Does2 Γ h r := by
  intro σ H Z env φ S x y d e p hx hy hg Q P
  rw [hh] at hg
  obtain ⟨b, e1, rfl⟩ := Option.map_eq_some_iff.mp hg
  exact k Z H x y d e b hx hy e1 Q (Post.here P S (Ow.sh (.bl b)))
abbrev rInA (K : PySem.W.Frag) : R2 := fun x y H Q => rIn K false x y H Q ∨ rInD K x y H Q ∨ rDIn x y H Q ∨ (∃ i j, x = .str i ∧ y = .str j ∧ Q (.bl (!(Builtin.Str.occurrences j i 0 j.length 1).isEmpty)) H)
abbrev rNinA (K : PySem.W.Frag) : R2 := fun x y H Q => rIn K true x y H Q ∨ rNotInD K x y H Q ∨ rDNin x y H Q ∨ (∃ i j, x = .str i ∧ y = .str j ∧ Q (.bl (!(!(Builtin.Str.occurrences j i 0 j.length 1).isEmpty))) H)
theorem inB_sound {Γ : Ct} (G : Good Γ) {Z : Fp} {H : Hp} {x y : V} {d e : D} {b : Bool} (hx : Rd1 Γ.C Z H x d) (hy : Rd1 Γ.C Z H y e) (h : inB d e = some b) :
    (∀ Q : VK, Q (.bl b) H → rInA Γ.X.K x y H Q) ∧ ∀ Q : VK, Q (.bl (!b)) H → rNinA Γ.X.K x y H Q := by
  unfold inB at h
  split at h
  · rename_i ds
    split at h
    · rename_i hf
      cases h
      rw [Bool.and_eq_true] at hf
      obtain ⟨a, vs, rfl, ha, ra⟩ := hy.tupI
      rw [G.hK] at ha
      have hx' : Sh Γ.C Z H x d := by
        cases hx with
        | sh h => exact h
        | lst _ _ => cases hf.1
        | dic _ _ _ => cases hf.1
      have e1 := inV_eqF hx' hf.1 ra hf.2
      exact ⟨fun Q q => .inl ⟨a, vs, rfl, .inr ha, hx'.flat hf.1, ra.flat_all hf.2, by rw [e1]; exact q⟩, fun Q q => .inl ⟨a, vs, rfl, .inr ha, hx'.flat hf.1, ra.flat_all hf.2, by rw [e1]; exact q⟩⟩
    · cases h
  · rename_i ds
    split at h
    · rename_i hf
      cases h
      rw [Bool.and_eq_true] at hf
      obtain ⟨a, vs, rfl, ha, ra⟩ := hy.lstI
      have ha' : SqL Γ.X.K H a vs := SqL.of ha
      have hx' : Sh Γ.C Z H x d := by
        cases hx with
        | sh h => exact h
        | lst _ _ => cases hf.1
        | dic _ _ _ => cases hf.1
      have e1 := inV_eqF hx' hf.1 ra hf.2
      exact ⟨fun Q q => .inl ⟨a, vs, rfl, .inl ha', hx'.flat hf.1, ra.flat_all hf.2, by rw [e1]; exact q⟩, fun Q q => .inl ⟨a, vs, rfl, .inl ha', hx'.flat hf.1, ra.flat_all hf.2, by rw [e1]; exact q⟩⟩
    · split at h
      · rename_i p qs e1 e2
        split at h
        · rename_i hs
          cases h
          rw [Bool.and_eq_true] at hs
          have d1 := hx.dp e1
          have d2 := hy.dp (show (D.lst ds).py = some (.list qs) by unfold D.py; rw [e2]; rfl)
          rw [G.hK] at d1 d2
          exact ⟨fun Q q => .inr (.inl ⟨p, qs, d1, d2, hs.1, hs.2, q⟩), fun Q q => .inr (.inl ⟨p, qs, d1, d2, hs.1, hs.2, q⟩)⟩
        · cases h
      · cases h
  · rename_i ks vs
    obtain ⟨k, e1, rfl⟩ := Option.map_eq_some_iff.mp h
    obtain ⟨a, xs, rfl, ha, hl, ra⟩ := hy.dicI
    have ex := keyD_eq e1 hx
    subst ex
    have g := DGet.k (k := k) ha
    have e2 := cval ks xs k hl
    exact ⟨fun Q q => .inr (.inr (.inl ⟨a, _, rfl, g, by rw [e2]; exact q⟩)), fun Q q => .inr (.inr (.inl ⟨a, _, rfl, g, by rw [e2]; exact q⟩))⟩
  · split at h
    · cases h
      rw [hx.strI, hy.strI]
      exact ⟨fun Q q => .inr (.inr (.inr ⟨_, _, rfl, rfl, q⟩)), fun Q q => .inr (.inr (.inr ⟨_, _, rfl, rfl, q⟩))⟩
    · cases h
  · cases h
abbrev rIsA : R2 := fun x y H Q => (y = .non ∧ Q (.bl (decide (x = .non))) H) ∨ ∃ a b, x = .bl a ∧ y = .bl b ∧ Q (.bl (decide (a = b))) H
abbrev rNisA : R2 := fun x y H Q => (y = .non ∧ Q (.bl (!decide (x = .non))) H) ∨ ∃ a b, x = .bl a ∧ y = .bl b ∧ Q (.bl (!decide (a = b))) H
theorem isNB_eq {C : RC} {Z : Fp} {H : Hp} {x : V} {d : D} (h : Rd1 C Z H x d) : decide (x = .non) = isNB d := by
  cases h with
  | sh h => cases h <;> first | rfl | (apply decide_eq_false; intro e; cases e)
  | lst _ _ => rfl
  | dic _ _ _ => rfl
section
variable {Γ : Ct} {a b c : Expr} {fa fb fc : En → R Opd} {pos : Pos}
theorem does_eq (G : Good Γ) : Does2 Γ eqD (rEqD Γ.X.K) := does_bool (g := eqB) (fun _ _ => rfl) fun Z H x y d e b hx hy h Q q => by
  unfold eqB at h
  split at h
  · rename_i p q' e1 e2
    split at h
    · rename_i hs
      cases h
      rw [Bool.and_eq_true] at hs
      have d1 := hx.dp e1
      have d2 := hy.dp e2
      rw [G.hK] at d1 d2
      exact ⟨p, q', d1, d2, hs.1, hs.2, q⟩
    · cases h
  · cases h
theorem does_ne (G : Good Γ) : Does2 Γ neD (rNeD Γ.X.K) := does_bool (g := fun d e => (eqB d e).map (!·)) (fun d e => by unfold neD; cases eqB d e <;> rfl) fun Z H x y d e b hx hy h Q q => by
  obtain ⟨b', h', eb⟩ := Option.map_eq_some_iff.mp h
  subst eb
  clear h
  have h := h'
  unfold eqB at h
  split at h
  · rename_i p q' e1 e2
    split at h
    · rename_i hs
      have eb := Option.some.inj h
      subst eb
      rw [Bool.and_eq_true] at hs
      have d1 := hx.dp e1
      have d2 := hy.dp e2
      rw [G.hK] at d1 d2
      exact ⟨p, q', d1, d2, hs.1, hs.2, q⟩
    · cases h
  · cases h
theorem does_in (G : Good Γ) : Does2 Γ inD (rInA Γ.X.K) := does_bool (g := inB) (fun _ _ => rfl) fun Z H x y d e b hx hy h Q q => (inB_sound G hx hy h).1 Q q
theorem does_nin (G : Good Γ) : Does2 Γ ninD (rNinA Γ.X.K) := does_bool (g := fun d e => (inB d e).map (!·)) (fun d e => by unfold ninD; cases inB d e <;> rfl) fun Z H x y d e b hx hy h Q q => by
  obtain ⟨b', h', rfl⟩ := Option.map_eq_some_iff.mp h
  exact (inB_sound G hx hy h').2 Q q
theorem does_is : Does2 Γ isD rIsA := by
  intro σ H Z env φ S x y d e p hx hy hg Q P
  unfold isD at hg
  split at hg
  · cases hg
    exact .inl ⟨hy.nonI, by rw [isNB_eq hx]; exact Post.here P S (Ow.sh (.bl _))⟩
  · cases hg
    exact .inr ⟨_, _, hx.blI, hy.blI, Post.here P S (Ow.sh (.bl _))⟩
  · cases hg
theorem does_nis : Does2 Γ nisD rNisA := by
  intro σ H Z env φ S x y d e p hx hy hg Q P
  unfold nisD at hg
  split at hg
  · cases hg
    exact .inl ⟨hy.nonI, by rw [isNB_eq hx]; exact Post.here P S (Ow.sh (.bl _))⟩
  · cases hg
    exact .inr ⟨_, _, hx.blI, hy.blI, Post.here P S (Ow.sh (.bl _))⟩
  · cases hg
theorem does_cmp {f : Int → Int → Bool} : Does2 Γ (cmpD f) (rI0 fun i j => .bl (f i j)) := by
  intro σ H Z env φ S x y d e p hx hy hg Q P
  unfold cmpD at hg
  split at hg
  · cases hg
    rw [hx.intI, hy.intI]
    exact ⟨_, _, rfl, rfl, Post.here P S (Ow.sh (.bl _))⟩
  · cases hg

/-! ### comparisons as values, as tests -/
/-- the operator's rule: what it asks, what it tells -/
structure CmpR (Γ : Ct) (op : CmpOp) (g : D → D → Option (D × Nat)) where
  r : R2
  ok : OpR Γ.X (compareOp op) r
  does : Does2 Γ g r
def cEq (G : Good Γ) {k : Nat} (hr : Room k Γ.X.A) : CmpR Γ .Eq eqD := ⟨_, op_eqD hr.units, does_eq G⟩
def cNe (G : Good Γ) {k : Nat} (hr : Room k Γ.X.A) : CmpR Γ .NotEq neD := ⟨_, op_neD hr.units, does_ne G⟩
def cIn (G : Good Γ) {k : Nat} (hr : Room k Γ.X.A) : CmpR Γ .In inD := ⟨_, op_in_seq.or ((op_inD (by have := hr.un; omega)).or ((op_din (by have := hr.un; omega)).or op_in_str)), does_in G⟩
def cNin (G : Good Γ) {k : Nat} (hr : Room k Γ.X.A) : CmpR Γ .NotIn ninD := ⟨_, op_notIn_seq.or ((op_notInD (by have := hr.un; omega)).or ((op_dnin (by have := hr.un; omega)).or op_notIn_str)), does_nin G⟩
def cIs : CmpR Γ .Is isD := ⟨_, op_isN.or op_is_bl, does_is⟩
def cNis : CmpR Γ .IsNot nisD := ⟨_, op_notN.or op_isnot_bl, does_nis⟩
def cLt : CmpR Γ .Lt (cmpD fun i j => decide (i < j)) := ⟨_, op_lt, does_cmp⟩
def cLe : CmpR Γ .LtE (cmpD fun i j => decide (i ≤ j)) := ⟨_, op_le, does_cmp⟩
def cGt : CmpR Γ .Gt (cmpD fun i j => decide (j < i)) := ⟨_, op_gt, does_cmp⟩
def cGe : CmpR Γ .GtE (cmpD fun i j => decide (j ≤ i)) := ⟨_, op_ge, does_cmp⟩
theorem ev_cmp {op : CmpOp} {g : D → D → Option (D × Nat)} (c : CmpR Γ op g) (ha : EvO Γ a fa) (hb : EvO Γ b fb) (hm : behindInMarks op b = false := by first | exact nomark _ | rfl) : EvE Γ (.Compare a [op] [b] pos) (op2 g fa fb) :=
  ev_op2 (ta := rIsA) (mk := fun x _ => x) ha hb (fun _ _ p q => pe_cmpR c.ok p q hm) c.does
/-- the truth of a result that is True or False -/
def tst (f : En → R (D × Nat)) : En → R Bool := fun env => (f env).bind fun p env1 => match p with
  | (.bl b, _) => .ok b env1
  | _ => .no
theorem Ev.test {f : En → R (D × Nat)} {t : TE} (h : Ev Γ (ER Γ.C) f t) : Ev Γ TR (tst f) (tTest t) := by
  intro σ H Z env φ S Q P
  refine h.bind S P fun p env1 v H1 Z1 φ1 A e1 S1 o dj ev P1 => ?_
  obtain ⟨d, k⟩ := p
  have P2 := P1.mono (Evo.refl.sub (F2 := Tot φ1) fun _ z => .inl z)
  cases d with
  | bl b =>
    have e : v = .bl b := (Rd1.sh (o.im_inv rfl)).blI
    exact ⟨b, e, Post.here P2 S1 rfl⟩
  | _ => exact P2.elim
end
end Pv
end

section
set_option Elab.async false
set_option linter.all false
set_option maxRecDepth 100000
set_option maxHeartbeats 4000000
/-! Pv5: tests, and, or, not, if .. else; argument lists, displays, subscripts, slices, unary minus. -/
namespace Pv
open PySem PySem.Spec PyProof.Rows L2
section
variable {Γ : Ct} {e a b c : Expr} {rest : List Expr} {fa fb fc : En → R Opd} {pos : Pos}

/-! ### tests -/
def EvW (Γ : Ct) (e : Expr) (f : En → R Bool) : Prop := ∃ t, PW Γ.X e t ∧ Ev Γ TR f t
theorem et_cmp {op : CmpOp} {g : D → D → Option (D × Nat)} (c : CmpR Γ op g) (ha : EvO Γ a fa) (hb : EvO Γ b fb) (hm : behindInMarks op b = false := by first | exact nomark _ | rfl) : EvT Γ (.Compare a [op] [b] pos) (tst (op2 g fa fb)) := by
  obtain ⟨ta, a1, a2⟩ := ha
  obtain ⟨tb, b1, b2⟩ := hb
  refine ⟨_, pt_cmpR c.ok a1 b1 hm, Ev.test fun σ H Z env φ S Q P => ?_⟩
  refine a2.bind S P fun oa env1 x H1 Z1 φ1 A e1 S1 q1 dj1 ev1 P1 => ?_
  refine b2.bind S1 (P1.mono (Evo.refl.sub fun _ z => .inl z)) fun ob env2 y H2 Z2 φ2 B e2 S2 q2 dj2 ev2 P2 => ?_
  have P3 := P2.mono (Evo.refl.sub (F2 := Tot φ2) fun _ z => .inl z)
  have q1' : OR Γ.C σ B Z2 H2 oa x := OR.go (S1.ext ev2) q1
  cases ga : oa.get env2 with
  | none => rw [ga] at P3; exact P3.elim
  | some d =>
    cases gb : ob.get env2 with
    | none => rw [ga, gb] at P3; exact P3.elim
    | some e =>
      rw [ga, gb] at P3
      cases gg : g d e with
      | none => simp only [gg] at P3; exact P3.elim
      | some p =>
        simp only [gg] at P3
        exact c.does σ H2 Z2 env2 φ2 S2 x y d e p (Opd.rd S2 q1' ga) (Opd.rd S2 q2 gb) gg Q P3
/-- an expression that is no test by its form -/
abbrev IsVal (X : Cx) (e : Expr) : Prop := ∀ whole, isTrue e X.env whole = (do let v ← whole; standAt e.pos; holding [v] (truthy v))
theorem et_val {f : En → R (D × Nat)} (h : EvE Γ e f) (he : IsVal Γ.X e := by intro _; rfl) : EvT Γ e (tst f) := by
  obtain ⟨t, h1, h2⟩ := h
  exact ⟨_, pt_val h1 he, h2.test⟩
theorem zip_isEmpty : ∀ {ks : List Key} {vs : List V}, ks.length = vs.length → (ks.zip vs).isEmpty = ks.isEmpty
  | [], _, _ => rfl
  | _ :: _, [], h => by simp at h
  | _ :: _, _ :: _, _ => rfl
/-- truth of a value of any kind -/
def truD : D → Option Bool
  | .non => some false
  | .bl b => some b
  | .int i => some (i != 0)
  | .str x => if x.length ≤ lim then some ((x.length : Int) != 0) else none
  | .tup xs => some (!xs.isEmpty)
  | .lst xs => some (!xs.isEmpty)
  | .dic ks _ => some (!ks.isEmpty)
  | _ => none
def tru (fa : En → R Opd) : En → R Bool := fun env => (fa env).bind fun o env1 => match o.get env1 with
  | some d => R.of (truD d) env1
  | none => .no
theorem et_tru (G : Good Γ) (ha : EvO Γ e fa) (he : IsVal Γ.X e := by intro _; rfl) : EvT Γ e (tru fa) := by
  obtain ⟨ta, a1, a2⟩ := ha
  refine ⟨_, pt_truth a1 he, fun σ H Z env φ S Q P => ?_⟩
  refine a2.bind S P fun oa env1 x H1 Z1 φ1 A e1 S1 q1 dj1 ev1 P1 => ?_
  have P3 := P1.mono (Evo.refl.sub (F2 := Tot φ1) fun _ z => .inl z)
  cases ga : oa.get env1 with
  | none => rw [ga] at P3; exact P3.elim
  | some d =>
    rw [ga] at P3
    have rd := Opd.rd S1 q1 ga
    cases gd : truD d with
    | none => simp only [gd] at P3; exact P3.elim
    | some k =>
      simp only [gd] at P3
      refine ⟨k, ?_, Post.here P3 S1 rfl⟩
      unfold truD at gd
      split at gd
      · cases gd; rw [rd.nonI]; rfl
      · cases gd; rw [rd.blI]; rfl
      · cases gd; rw [rd.intI]; rfl
      · split at gd
        · rename_i hz
          cases gd; rw [rd.strI]; exact ⟨lim_le hz, rfl⟩
        · cases gd
      · cases gd
        obtain ⟨p, vs, rfl, hp, r⟩ := rd.tupI
        rw [G.hK] at hp
        refine .inr (.inl ⟨vs, hp, ?_⟩)
        cases r <;> rfl
      · cases gd
        obtain ⟨p, vs, rfl, hp, r⟩ := rd.lstI
        refine .inl ⟨vs, SqL.of hp, ?_⟩
        cases r <;> rfl
      · cases gd
        obtain ⟨p, vs, rfl, hp, hl, r⟩ := rd.dicI
        exact .inr (.inr ⟨_, hp, by rw [zip_isEmpty hl]⟩)
      · cases gd
def notT (f : En → R Bool) : En → R Bool := fun env => (f env).bind fun b env1 => .ok (!b) env1
def andT (f g : En → R Bool) : En → R Bool := fun env => (f env).bind fun b env1 => if b = true then g env1 else .ok false env1
def orT (f g : En → R Bool) : En → R Bool := fun env => (f env).bind fun b env1 => if b = true then .ok true env1 else g env1
variable {f g h : En → R Bool}
theorem et_not (ha : EvT Γ a f) : EvT Γ (.UnaryOp .Not a pos) (notT f) := by
  obtain ⟨t, h1, h2⟩ := ha
  refine ⟨_, pt_not h1, fun σ H Z env φ S Q P => ?_⟩
  refine h2.bind S P fun x env1 y H1 Z1 φ1 A e1 S1 q1 dj1 ev1 P1 => ?_
  cases (show x = y from q1)
  exact Post.here (P1.mono (Evo.refl.sub fun _ z => .inl z)) S1 rfl
theorem ew_and1 (ha : EvT Γ a f) : EvW Γ (.BoolOp .And [a] pos) f := by
  obtain ⟨t, h1, h2⟩ := ha
  exact ⟨_, pw_and1 h1, h2⟩
theorem ew_or1 (ha : EvT Γ a f) : EvW Γ (.BoolOp .Or [a] pos) f := by
  obtain ⟨t, h1, h2⟩ := ha
  exact ⟨_, pw_or1 h1, h2⟩
theorem ew_and (ha : EvT Γ a f) (hb : EvW Γ (.BoolOp .And (b :: rest) pos) g) : EvW Γ (.BoolOp .And (a :: b :: rest) pos) (andT f g) := by
  obtain ⟨t, h1, h2⟩ := ha
  obtain ⟨u, k1, k2⟩ := hb
  refine ⟨_, pw_and h1 k1, fun σ H Z env φ S Q P => ?_⟩
  refine h2.bind S P fun x env1 y H1 Z1 φ1 A e1 S1 q1 dj1 ev1 P1 => ?_
  cases (show x = y from q1)
  have P2 := P1.mono (Evo.refl.sub (F2 := Tot φ1) fun _ z => .inl z)
  cases x with
  | true => exact k2 σ H1 Z1 env1 φ1 S1 Q P2
  | false => exact Post.here P2 S1 rfl
theorem ew_or (ha : EvT Γ a f) (hb : EvW Γ (.BoolOp .Or (b :: rest) pos) g) : EvW Γ (.BoolOp .Or (a :: b :: rest) pos) (orT f g) := by
  obtain ⟨t, h1, h2⟩ := ha
  obtain ⟨u, k1, k2⟩ := hb
  refine ⟨_, pw_or h1 k1, fun σ H Z env φ S Q P => ?_⟩
  refine h2.bind S P fun x env1 y H1 Z1 φ1 A e1 S1 q1 dj1 ev1 P1 => ?_
  cases (show x = y from q1)
  have P2 := P1.mono (Evo.refl.sub (F2 := Tot φ1) fun _ z => .inl z)
  cases x with
  | true => exact Post.here P2 S1 rfl
  | false => exact k2 σ H1 Z1 env1 φ1 S1 Q P2
theorem EvW.t (h : EvW Γ e f) : EvT Γ e f := by
  obtain ⟨t, h1, h2⟩ := h
  exact ⟨t, h1.pt, h2⟩
/-! ### as values -/
def blV (f : En → R Bool) : En → R D := fun env => (f env).bind fun b env1 => .ok (.bl b) env1
/-- a value that is True or False -/
def vbl (f : En → R D) : En → R Bool := fun env => (f env).bind fun p env1 => match p with
  | .bl b => .ok b env1
  | _ => .no
theorem Ev.vtest {f : En → R D} {t : TE} (h : Ev Γ (VR Γ.C) f t) {σ : L2.St} {Z : Fp} {H : Hp} {env : En} {φ : Nat → Fp} (S : SttC Γ Z σ H env φ) {γ δ : Type} {rel : Rel γ δ} {g : Bool → En → R γ} {Q : δ → Hp → Prop} {Q1 : VK}
    (P : Post Γ σ Z H (Tot φ) rel ((vbl f env).bind g) Q)
    (k : ∀ b env1 H1 Z1 φ1, SttC Γ Z1 σ H1 env1 φ1 → Evo Z H (Tot φ) Z1 H1 (Tot φ1) → Post Γ σ Z1 H1 (Tot φ1) rel (g b env1) Q → Q1 (.bl b) H1) : t σ H Q1 := by
  have P' : Post Γ σ Z H (Tot φ) rel ((f env).bind fun p env1 => match p with
    | .bl b => g b env1
    | _ => .no) Q := by
    unfold vbl at P
    cases e : f env with
    | ok p env1 =>
      rw [e] at P
      cases p <;> exact P
    | ex x => rw [e] at P; exact P
    | no => rw [e] at P; exact P
  refine h.bind S P' fun p env1 v H1 Z1 φ1 A e1 S1 o dj ev P1 => ?_
  have P2 := P1.mono (Evo.refl.sub (F2 := Tot φ1) fun _ z => .inl z)
  cases p with
  | bl b =>
    have e : v = .bl b := (Rd1.sh (C := Γ.C) o).blI
    subst e
    exact k b env1 H1 Z1 φ1 S1 (ev.sub fun _ z => .inl z) P2
  | _ => exact P2.elim
def andV (f : En → R D) (g : En → R D) : En → R D := fun env => (vbl f env).bind fun b env1 => if b = true then g env1 else .ok (.bl false) env1
def orV (f : En → R D) (g : En → R D) : En → R D := fun env => (vbl f env).bind fun b env1 => if b = true then .ok (.bl true) env1 else g env1
variable {u v : En → R D}
theorem ev_one {op : BoolOp} (hb : EvV Γ b u) : EvV Γ (.BoolOp op [b] pos) u := by
  obtain ⟨t, h1, h2⟩ := hb
  exact ⟨t, pe_one h1, h2⟩
theorem ev_and (ha : EvV Γ a u) (hb : EvV Γ (.BoolOp .And (b :: rest) pos) v) : EvV Γ (.BoolOp .And (a :: b :: rest) pos) (andV u v) := by
  obtain ⟨t, h1, h2⟩ := ha
  obtain ⟨w, k1, k2⟩ := hb
  refine ⟨_, pe_and h1 k1, fun σ H Z env φ S Q P => ?_⟩
  refine h2.vtest S P fun x env1 H1 Z1 φ1 S1 ev P2 => ?_
  refine ⟨x, rfl, ?_⟩
  cases x with
  | true => exact k2 σ H1 Z1 env1 φ1 S1 Q P2
  | false => exact Post.here P2 S1 (.bl false)
theorem ev_or (ha : EvV Γ a u) (hb : EvV Γ (.BoolOp .Or (b :: rest) pos) v) : EvV Γ (.BoolOp .Or (a :: b :: rest) pos) (orV u v) := by
  obtain ⟨t, h1, h2⟩ := ha
  obtain ⟨w, k1, k2⟩ := hb
  refine ⟨_, pe_or h1 k1, fun σ H Z env φ S Q P => ?_⟩
  refine h2.vtest S P fun x env1 H1 Z1 φ1 S1 ev P2 => ?_
  refine ⟨x, rfl, ?_⟩
  cases x with
  | true => exact Post.here P2 S1 (.bl true)
  | false => exact k2 σ H1 Z1 env1 φ1 S1 Q P2
def notV (f : En → R D) : En → R D := fun env => (vbl f env).bind fun b env1 => .ok (.bl (!b)) env1
theorem ev_not (ha : EvV Γ a u) : EvV Γ (.UnaryOp .Not a pos) (notV u) := by
  obtain ⟨t, h1, h2⟩ := ha
  refine ⟨_, pe_not h1, fun σ H Z env φ S Q P => ?_⟩
  refine h2.vtest S P fun x env1 H1 Z1 φ1 S1 ev P2 => ?_
  exact ⟨x, rfl, Post.here P2 S1 (.bl _)⟩
def iteE {α : Type} (f : En → R Bool) (g h : En → R α) : En → R α := fun env => (f env).bind fun b env1 => if b = true then g env1 else h env1
theorem ev_ite {p q : En → R (D × Nat)} (hc : EvT Γ c f) (ha : EvE Γ a p) (hb : EvE Γ b q) : EvE Γ (.IfExp c a b pos) (iteE f p q) := by
  obtain ⟨t, h1, h2⟩ := hc
  obtain ⟨w, k1, k2⟩ := ha
  obtain ⟨z, l1, l2⟩ := hb
  refine ⟨_, pe_ifExp h1 k1 l1, fun σ H Z env φ S Q P => ?_⟩
  refine h2.bind S P fun x env1 y H1 Z1 φ1 A e1 S1 q1 dj1 ev1 P1 => ?_
  cases (show x = y from q1)
  have P2 := P1.mono (Evo.refl.sub (F2 := Tot φ1) fun _ z => .inl z)
  cases x with
  | true => exact k2 σ H1 Z1 env1 φ1 S1 Q P2
  | false => exact l2 σ H1 Z1 env1 φ1 S1 Q P2
/-- a op1 b op2 c -/
def opC (g g' : D → D → Option (D × Nat)) (fa fb fc : En → R Opd) : En → R (D × Nat) := fun env => (fa env).bind fun oa env1 => (fb env1).bind fun ob env2 =>
  match oa.get env2, ob.get env2 with
  | some x, some y => (match g x y with
    | some (.bl true, _) => (fc env2).bind fun oc env3 => (match ob.get env3, oc.get env3 with
      | some y, some z => R.of (g' y z) env3
      | _, _ => .no)
    | some (.bl false, _) => .ok (.bl false, 0) env2
    | _ => .no)
  | _, _ => .no
/-- a comparison that tells True or False -/
structure CmpB (Γ : Ct) (op : CmpOp) (g : D → D → Option (D × Nat)) extends CmpR Γ op g where
  bool : ∀ (σ : L2.St) (Z : Fp) (H : Hp) (x y : V) (d e : D) (b : Bool) (k : Nat), Rd1 Γ.C Z H x d → Rd1 Γ.C Z H y e → g d e = some (.bl b, k) → ∀ Q : VK, Q (.bl b) H → r x y H Q
theorem cmp_bool {C : RC} {Z : Fp} {H : Hp} {x y : V} {d e : D} {b : Bool} {k : Nat} {f : Int → Int → Bool} (hx : Rd1 C Z H x d) (hy : Rd1 C Z H y e) (h : cmpD f d e = some (.bl b, k)) {Q : VK} (q : Q (.bl b) H) : rI0 (fun i j => .bl (f i j)) x y H Q := by
  unfold cmpD at h
  split at h
  · cases h; rw [hx.intI, hy.intI]; exact ⟨_, _, rfl, rfl, q⟩
  · cases h
def bLt : CmpB Γ .Lt (cmpD fun i j => decide (i < j)) := ⟨cLt, fun _ _ _ _ _ d e b _ hx hy h Q q => cmp_bool hx hy h q⟩
def bLe : CmpB Γ .LtE (cmpD fun i j => decide (i ≤ j)) := ⟨cLe, fun _ _ _ _ _ d e b _ hx hy h Q q => cmp_bool hx hy h q⟩
def bGt : CmpB Γ .Gt (cmpD fun i j => decide (j < i)) := ⟨cGt, fun _ _ _ _ _ d e b _ hx hy h Q q => cmp_bool hx hy h q⟩
def bGe : CmpB Γ .GtE (cmpD fun i j => decide (j ≤ i)) := ⟨cGe, fun _ _ _ _ _ d e b _ hx hy h Q q => cmp_bool hx hy h q⟩
theorem eq_bool (G : Good Γ) {Z : Fp} {H : Hp} {x y : V} {d e : D} {b : Bool} {k : Nat} (hx : Rd1 Γ.C Z H x d) (hy : Rd1 Γ.C Z H y e) (h : eqD d e = some (.bl b, k)) {Q : VK} (q : Q (.bl b) H) : rEqD Γ.X.K x y H Q := by
  unfold eqD at h
  obtain ⟨b', h, e'⟩ := Option.map_eq_some_iff.mp h
  cases e'
  unfold eqB at h
  split at h
  · rename_i p q' e1 e2
    split at h
    · rename_i hs
      cases h
      rw [Bool.and_eq_true] at hs
      have d1 := hx.dp e1
      have d2 := hy.dp e2
      rw [G.hK] at d1 d2
      exact ⟨p, q', d1, d2, hs.1, hs.2, q⟩
    · cases h
  · cases h
def bEq (G : Good Γ) {k : Nat} (hr : Room k Γ.X.A) : CmpB Γ .Eq eqD := ⟨cEq G hr, fun _ _ _ _ _ d e b _ hx hy h Q q => eq_bool G hx hy h q⟩
theorem Ev.chain {op op' : CmpOp} {g g' : D → D → Option (D × Nat)} (k : CmpB Γ op g) (k' : CmpR Γ op' g') {ta tb tc : TE} (a2 : Ev Γ (OR Γ.C) fa ta) (b2 : Ev Γ (OR Γ.C) fb tb) (c2 : Ev Γ (OR Γ.C) fc tc) : Ev Γ (ER Γ.C) (opC g g' fa fb fc) (tChain k.r k'.r ta tb tc) := by
  intro σ H Z env φ S Q P
  refine a2.bind S P fun oa env1 x H1 Z1 φ1 A e1 S1 q1 dj1 ev1 P1 => ?_
  refine b2.bind S1 (P1.mono (Evo.refl.sub fun _ z => .inl z)) fun ob env2 y H2 Z2 φ2 B e2 S2 q2 dj2 ev2 P2 => ?_
  have P3 := P2.mono (Evo.refl.sub (F2 := Tot φ2) fun _ z => .inl z)
  have q1' : OR Γ.C σ B Z2 H2 oa x := OR.go (S1.ext ev2) q1
  cases ga : oa.get env2 with
  | none => rw [ga] at P3; exact P3.elim
  | some d =>
    cases gb : ob.get env2 with
    | none => rw [ga, gb] at P3; exact P3.elim
    | some e =>
      simp only [ga, gb] at P3
      have ra := Opd.rd S2 q1' ga
      have rb := Opd.rd S2 q2 gb
      cases gg : g d e with
      | none => rw [gg] at P3; exact P3.elim
      | some p =>
        obtain ⟨p, m⟩ := p
        rw [gg] at P3
        cases p with
        | bl w =>
          refine k.bool σ Z2 H2 x y d e w m ra rb gg _ ⟨w, rfl, ?_⟩
          cases w with
          | false => exact Post.here P3 S2 (Ow.sh (.bl false))
          | true =>
            rw [if_pos rfl]
            refine c2.bind S2 P3 fun oc env3 z H3 Z3 φ3 B3 e3 S3 q3 dj3 ev3 P4 => ?_
            have P5 := P4.mono (Evo.refl.sub (F2 := Tot φ3) fun _ z => .inl z)
            have q2' : OR Γ.C σ B3 Z3 H3 ob y := OR.go (S2.ext ev3) q2
            cases gb3 : ob.get env3 with
            | none => rw [gb3] at P5; exact P5.elim
            | some d3 =>
              cases gc3 : oc.get env3 with
              | none => rw [gb3, gc3] at P5; exact P5.elim
              | some f3 =>
                simp only [gb3, gc3] at P5
                cases g3 : g' d3 f3 with
                | none => rw [g3] at P5; exact P5.elim
                | some p3 =>
                  rw [g3] at P5
                  exact k'.does σ H3 Z3 env3 φ3 S3 y z d3 f3 p3 (Opd.rd S3 q2' gb3) (Opd.rd S3 q3 gc3) g3 Q P5
        | _ => exact P3.elim
theorem ev_chain {op op' : CmpOp} {g g' : D → D → Option (D × Nat)} (k : CmpB Γ op g) (k' : CmpR Γ op' g') (ha : EvO Γ a fa) (hb : EvO Γ b fb) (hc : EvO Γ c fc) (hm : lastMarks [op, op'] [b, c] = false := by with_unfolding_all rfl) : EvE Γ (.Compare a [op, op'] [b, c] pos) (opC g g' fa fb fc) := by
  obtain ⟨ta, a1, a2⟩ := ha
  obtain ⟨tb, b1, b2⟩ := hb
  obtain ⟨tc, c1, c2⟩ := hc
  exact ⟨_, pe_chain k.ok k'.ok a1 b1 c1 hm, Ev.chain k k' a2 b2 c2⟩
theorem et_chain {op op' : CmpOp} {g g' : D → D → Option (D × Nat)} (k : CmpB Γ op g) (k' : CmpR Γ op' g') (ha : EvO Γ a fa) (hb : EvO Γ b fb) (hc : EvO Γ c fc) (hm : lastMarks [op, op'] [b, c] = false := by with_unfolding_all rfl) : EvT Γ (.Compare a [op, op'] [b, c] pos) (tst (opC g g' fa fb fc)) := by
  obtain ⟨ta, a1, a2⟩ := ha
  obtain ⟨tb, b1, b2⟩ := hb
  obtain ⟨tc, c1, c2⟩ := hc
  exact ⟨_, pt_chain k.ok k'.ok a1 b1 c1 hm, (Ev.chain k k' a2 b2 c2).test⟩

/-! ### argument lists, displays -/
def aNil : En → R (List D) := fun env => .ok [] env
def aCons (u : En → R D) (r : En → R (List D)) : En → R (List D) := fun env => (u env).bind fun d env1 => (r env1).bind fun ds env2 => .ok (d :: ds) env2
theorem ea_nil : EvA Γ [] aNil := ⟨_, pa_nil, fun σ H Z env φ S Q P => Post.here P S .nil⟩
theorem ea_cons {es : List Expr} {r : En → R (List D)} (ha : EvV Γ e u) (hr : EvA Γ es r) (hs : starEach (e :: es) Γ.X.env = (false, eval e Γ.X.env) :: starEach es Γ.X.env := by rfl) : EvA Γ (e :: es) (aCons u r) := by
  obtain ⟨t, h1, h2⟩ := ha
  obtain ⟨w, k1, k2⟩ := hr
  refine ⟨_, pa_cons h1 k1 hs, fun σ H Z env φ S Q P => ?_⟩
  refine h2.bind S P fun d env1 x H1 Z1 φ1 A e1 S1 q1 dj1 ev1 P1 => ?_
  refine k2.bind S1 (P1.mono (Evo.refl.sub fun _ z => .inl z)) fun ds env2 xs H2 Z2 φ2 B e2 S2 q2 dj2 ev2 P2 => ?_
  exact Post.here (P2.mono (Evo.refl.sub fun _ z => .inl z)) S2 (.cons (Sh.ext (S1.ext ev2) _ _ q1) q2)
def tupE (r : En → R (List D)) : En → R D := fun env => (r env).bind fun ds env1 => if ds.length ≤ lim then .ok (.tup ds) env1 else .no
def lstE (r : En → R (List D)) : En → R (D × Nat) := fun env => (r env).bind fun ds env1 => if ds.length ≤ lim then .ok (.lst ds, 1) env1 else .no
theorem ev_tup {es : List Expr} {r : En → R (List D)} {k : Nat} (h : EvA Γ es r) : EvV Γ (.Tuple es k pos) (tupE r) := by
  obtain ⟨t, h1, h2⟩ := h
  refine ⟨_, pe_tup h1, fun σ H Z env φ S Q P => ?_⟩
  refine h2.bind S P fun ds env1 xs H1 Z1 φ1 A e1 S1 q1 dj1 ev1 P1 => ?_
  have P2 := P1.mono (Evo.refl.sub (F2 := Tot φ1) fun _ z => .inl z)
  have r : ShL Γ.C Z1 H1 xs ds := q1
  by_cases hz : ds.length ≤ lim
  · rw [if_pos hz] at P2
    refine ⟨by rw [r.length]; exact lim_le hz, fun p hp => ?_⟩
    exact Post.newT P2 S1 hp (.tup (SqT.of upd_same) (ShL.ext (Ext.new hp) _ _ r))
  · rw [if_neg hz] at P2; exact P2.elim
theorem ev_lst {es : List Expr} {r : En → R (List D)} (h : EvA Γ es r) : EvE Γ (.List es pos) (lstE r) := by
  obtain ⟨t, h1, h2⟩ := h
  refine ⟨_, pe_lst h1, fun σ H Z env φ S Q P => ?_⟩
  refine h2.bind S P fun ds env1 xs H1 Z1 φ1 A e1 S1 q1 dj1 ev1 P1 => ?_
  have P2 := P1.mono (Evo.refl.sub (F2 := Tot φ1) fun _ z => .inl z)
  have r : ShL Γ.C Z1 H1 xs ds := q1
  by_cases hz : ds.length ≤ lim
  · rw [if_pos hz] at P2
    refine ⟨by rw [r.length]; exact lim_le hz, fun p hp => ?_⟩
    exact Post.newL P2 S1 hp (Ow.lst1 upd_same (ShL.ext (Ext.new hp) _ _ r))
  · rw [if_neg hz] at P2; exact P2.elim
/-- {} (keys will be ints or texts) -/
def dicE : En → R (D × Nat) := fun env => .ok (.dic [] [], 1) env
theorem ev_dic : EvE Γ (.Dict [] [] pos) dicE :=
  ⟨_, pe_dnewK, fun σ H Z env φ S Q P p hp => Post.newL P S hp (Ow.dic1 (ks := []) (xs := []) upd_same rfl .nil)⟩
/-! ### unary minus -/
def op1 (g : D → Option (D × Nat)) (fa : En → R Opd) : En → R (D × Nat) := fun env => (fa env).bind fun oa env1 => match oa.get env1 with
  | some x => R.of (g x) env1
  | none => .no
def Does1 (Γ : Ct) (g : D → Option (D × Nat)) (r : V → Hp → VK → Prop) : Prop :=
  ∀ σ H Z env φ, SttC Γ Z σ H env φ → ∀ x d p, Rd1 Γ.C Z H x d → g d = some p → ∀ Q : VK, Post Γ σ Z H (Tot φ) (ER Γ.C σ) (.ok p env) Q → r x H Q
theorem Ev.op1 {g : D → Option (D × Nat)} {r : V → Hp → VK → Prop} {t : TE} (a2 : Ev Γ (OR Γ.C) fa t) (hr : Does1 Γ g r) : Ev Γ (ER Γ.C) (op1 g fa) (tUn r t) := by
  intro σ H Z env φ S Q P
  refine a2.bind S P fun oa env1 x H1 Z1 φ1 A e1 S1 q1 dj1 ev1 P1 => ?_
  have P3 := P1.mono (Evo.refl.sub (F2 := Tot φ1) fun _ z => .inl z)
  cases ga : oa.get env1 with
  | none => rw [ga] at P3; exact P3.elim
  | some d =>
    simp only [ga] at P3
    cases gg : g d with
    | none => rw [gg] at P3; exact P3.elim
    | some p =>
      rw [gg] at P3
      exact hr σ H1 Z1 env1 φ1 S1 x d p (Opd.rd S1 q1 ga) gg Q P3
def negD : D → Option (D × Nat)
  | .int i => some (.int (-i), 0)
  | _ => none
theorem ev_neg (ha : EvO Γ a fa) : EvE Γ (.UnaryOp .USub a pos) (op1 negD fa) := by
  obtain ⟨t, h1, h2⟩ := ha
  refine ⟨_, pe_un un_neg h1, h2.op1 fun σ H Z env φ S x d p hx hg Q P => ?_⟩
  unfold negD at hg
  split at hg
  · cases hg
    rw [hx.intI]
    exact ⟨_, rfl, Post.here P S (Ow.sh (.int _))⟩
  · cases hg

/-! ### subscripts -/
def keyV (ks : List Key) (vs : List D) (k : Key) : Option D := ((ks.zip vs).find? fun p => decide (p.1 = k)).map (·.2)
theorem keyV_val {C : RC} {Z : Fp} {H : Hp} : ∀ {ks : List Key} {xs : List V} {ds : List D} {k : Key} {d : D}, ShL C Z H xs ds → keyV ks ds k = some d → ∃ x, valV (ks.zip xs) k = some x ∧ Sh C Z H x d
  | [], _, _, _, _, _, h => by simp [keyV] at h
  | _ :: _, _, _, _, _, .nil, h => by simp [keyV] at h
  | j :: ks, _, _, k, d, .cons (v := x) (d := d') h1 r, h => by
    rw [List.zip_cons_cons]
    unfold keyV at h
    rw [List.zip_cons_cons, List.find?_cons] at h
    by_cases e : j = k
    · rw [valV_pos e]
      simp only [e, decide_true, Option.map_some, Option.some.injEq] at h
      exact ⟨x, rfl, h ▸ h1⟩
    · rw [valV_neg e]
      simp only [e, decide_false] at h
      exact keyV_val r h
def idxD : D → D → Option (D × Nat)
  | .tup xs, .int i => (atI xs i).map (·, 0)
  | .lst xs, .int i => (atI xs i).map (·, 0)
  | .scr ns, .int i => (atI ns i).map fun n => (.int n, 0)
  | .str z, .int i => if z.length ≤ lim then (atI z.cps.toList i).map fun c => (.str ⟨#[c]⟩, 0) else none
  | .dic ks vs, d => (keyD d).bind fun k => (keyV ks vs k).map (·, 0)
  | _, _ => none
theorem atI_sh {C : RC} {Z : Fp} {H : Hp} {xs : List V} {ds : List D} {i : Int} {d : D} (r : ShL C Z H xs ds) (h : atI ds i = some d) : ∃ x, atI xs i = some x ∧ Sh C Z H x d := by
  unfold atI at h ⊢
  rw [r.length]
  cases e : ixN ds.length i with
  | none => rw [e] at h; cases h
  | some j => rw [e] at h; exact r.get' h
abbrev rIxA (K : PySem.W.Frag) : R2 := fun x y H Q => rIx K x y H Q ∨ ∃ a v, x = .ref a ∧ DGet H a y (some v) ∧ Q v H
theorem ix_dict {X : Cx} (hu : X.A.units + 1 < cLine) : IxR X (fun x y H Q => ∃ a v, x = .ref a ∧ DGet H a y (some v) ∧ Q v H) := by
  intro value slice pins s σ H x y v u Q I rx ry h hs
  obtain ⟨a, z, rfl, g, q⟩ := h
  cases rx
  have hT := dict_typeIs I g
  unfold subscriptTail
  refine wpAny_bind ?_
  rw [getitemInPython_of_ne hT.not_modules]
  refine wpAny_bind (wpAny_specialOf hT PySem.F.slot_dict_getitem.lookup ?_)
  have fin : wpAny (model X.prog X.w) X.A (subscripted slice false (.ref a) u) (fun r s₃ => wpAny (model X.prog X.w) X.A (letTemporaryGo value (.ref a) r >>= fun _ => pure r) (EP X pins σ Q) X.xe s₃) X.xe s := by
    rw [hs]
    exact wpAny_operating (d_getItem hu I g ry fun w' s' I' r' => wpAny_bind (wpAny_letTemporaryGo (wpAny_pure ⟨z, H, I', r', q⟩)))
  first
    | exact wpAny_pure (wpAny_bind fin)
    | exact wpAny_bind (wpAny_pure (wpAny_bind fin))
    | exact wpAny_bind fin
end
end Pv
end

section
set_option Elab.async false
set_option linter.all false
set_option maxRecDepth 100000
set_option maxHeartbeats 4000000
/-! Pv6: subscripts, slices, calls of built-ins. -/
namespace Pv
open PySem PySem.Spec PyProof.Rows L2

theorem CallR.or {X : Cx} {f : Value} {r r' : List V → Hp → VK → Prop} (h : CallR X f r) (h' : CallR X f r') : CallR X f (fun xs H Q => r xs H Q ∨ r' xs H Q) := by
  intro pins s σ H xs us Q I rx q
  rcases q with q | q
  · exact h pins s σ H xs us Q I rx q
  · exact h' pins s σ H xs us Q I rx q
section
variable {Γ : Ct} {e a b c : Expr} {fa fb fc : En → R Opd} {pos p q : Pos} {x : Str}
theorem does_idx (G : Good Γ) : Does2 Γ idxD (rIxA Γ.X.K) := by
  intro σ H Z env φ S x y d e p hx hy hg Q P
  unfold idxD at hg
  split at hg
  · rename_i xs i
    obtain ⟨z, e1, rfl⟩ := Option.map_eq_some_iff.mp hg
    obtain ⟨a, us, rfl, ha, ra⟩ := hx.tupI
    obtain ⟨w, h1, h2⟩ := atI_sh ra e1
    rw [G.hK] at ha
    rw [hy.intI]
    exact .inl (.inr (.inl ⟨a, us, i, w, rfl, rfl, ha, h1, Post.here P S (Ow.sh h2)⟩))
  · rename_i xs i
    obtain ⟨z, e1, rfl⟩ := Option.map_eq_some_iff.mp hg
    obtain ⟨a, us, rfl, ha, ra⟩ := hx.lstI
    obtain ⟨w, h1, h2⟩ := atI_sh ra e1
    rw [hy.intI]
    exact .inl (.inl ⟨a, us, i, w, rfl, rfl, SqL.of ha, h1, Post.here P S (Ow.sh h2)⟩)
  · rename_i ns i
    obtain ⟨z, e1, rfl⟩ := Option.map_eq_some_iff.mp hg
    obtain ⟨a, rfl, ha⟩ := hx.scrI
    obtain ⟨w, h1, h2⟩ := atI_sh (C := Γ.C) (Z := Z) (H := H) (shl_ints (ns := ns)) (i := i) (d := .int z) (by
      unfold atI at e1 ⊢
      rw [List.length_map]
      cases q : ixN ns.length i with
      | none => rw [q] at e1; cases e1
      | some j =>
        rw [q] at e1
        have e1 : ns[j]? = some z := e1
        show (ns.map D.int)[j]? = _
        rw [List.getElem?_map, e1]; rfl)
    rw [G.hK] at ha
    rw [hy.intI]
    exact .inl (.inl ⟨a, _, i, w, rfl, rfl, ha, h1, Post.here P S (Ow.sh h2)⟩)
  · rename_i z i
    split at hg
    · rename_i hz
      obtain ⟨c, e1, rfl⟩ := Option.map_eq_some_iff.mp hg
      rw [hx.strI, hy.intI]
      exact .inl (.inr (.inr ⟨z, i, c, rfl, rfl, lim_le hz, e1, Post.here P S (Ow.sh (.str _))⟩))
    · cases hg
  · rename_i ks vs d
    obtain ⟨k, e1, e2⟩ := Option.bind_eq_some_iff.mp hg
    obtain ⟨z, e3, rfl⟩ := Option.map_eq_some_iff.mp e2
    obtain ⟨a, us, rfl, ha, hl, ra⟩ := hx.dicI
    obtain ⟨w, h1, h2⟩ := keyV_val ra e3
    have ey := keyD_eq e1 hy
    subst ey
    have g := DGet.k (k := k) ha
    rw [h1] at g
    exact .inr ⟨a, w, rfl, g, Post.here P S (Ow.sh h2)⟩
  · cases hg
theorem ev_idx (G : Good Γ) {k : Nat} (hr : Room k Γ.X.A) (ha : EvO Γ a fa) (hb : EvO Γ b fb) (hs : PlainIx b := by exact fun _ _ => rfl) : EvE Γ (.Subscript a b pos) (op2 idxD fa fb) :=
  ev_op2 (ta := rIsA) (mk := fun x _ => x) ha hb (fun _ _ p q => pe_ix (ix_seq.or (ix_dict (by have := hr.un; omega))) p q hs) (does_idx G)

/-! ### slices -/
def cutD {α : Type} (xs : List α) (lo hi : Option Int) : List α := (xs.drop (HT.sIx xs.length 0 lo)).take (HT.sIx xs.length xs.length hi - HT.sIx xs.length 0 lo)
theorem cut_sh {C : RC} {Z : Fp} {H : Hp} {us : List V} {ds : List D} (r : ShL C Z H us ds) (lo hi : Option Int) : ShL C Z H (cutV us lo hi) (cutD ds lo hi) := by
  unfold cutV cutD
  rw [r.length]
  exact (r.drop _).take _
def slD (d : D) (lo hi : Option Int) : Option (D × Nat) :=
  match d with
  | .tup xs => some (.tup (cutD xs lo hi), 0)
  | .lst xs => some (.lst (cutD xs lo hi), 1)
  | .scr ns => some (.lst ((cutD ns lo hi).map D.int), 1)
  | _ => none
/-- a part of a slice -/
def EvP (Γ : Ct) (e : Option Expr) (f : En → R (Option Int)) : Prop := ∃ t, PO Γ.X e t ∧ Ev Γ (fun _ _ _ _ (i : Option Int) (j : Option Int) => i = j) f t
def pNone : En → R (Option Int) := fun env => .ok none env
def pSome (f : En → R D) : En → R (Option Int) := fun env => (f env).bind fun d env1 => match d with
  | .int i => .ok (some i) env1
  | _ => .no
theorem ep_none : EvP Γ none pNone := ⟨_, po_none, fun σ H Z env φ S Q P => Post.here P S rfl⟩
theorem ep_some {f : En → R D} (h : EvV Γ e f) : EvP Γ (some e) (pSome f) := by
  obtain ⟨t, h1, h2⟩ := h
  refine ⟨_, po_some h1, fun σ H Z env φ S Q P => ?_⟩
  refine h2.bind S P fun d env1 v H1 Z1 φ1 A e1 S1 o dj ev P1 => ?_
  have P2 := P1.mono (Evo.refl.sub (F2 := Tot φ1) fun _ z => .inl z)
  cases d with
  | int i => exact ⟨i, (Rd1.sh (C := Γ.C) o).intI, Post.here P2 S1 rfl⟩
  | _ => exact P2.elim
def opS (fa : En → R Opd) (fl fu : En → R (Option Int)) : En → R (D × Nat) := fun env => (fa env).bind fun oa env1 => (fl env1).bind fun l env2 => (fu env2).bind fun u env3 =>
  match oa.get env3 with
  | some d => R.of (slD d l u) env3
  | none => .no
abbrev rSlAll (K : PySem.W.Frag) : V → Option Int → Option Int → Hp → VK → Prop := fun x lo hi H Q => rSlL K x lo hi H Q ∨ rSlA K x lo hi H Q
theorem ev_slice (G : Good Γ) {lo hi : Option Expr} {fl fu : En → R (Option Int)} (ha : EvO Γ a fa) (hl : EvP Γ lo fl) (hu : EvP Γ hi fu) : EvE Γ (.Subscript a (.Slice lo hi none q) pos) (opS fa fl fu) := by
  obtain ⟨ta, a1, a2⟩ := ha
  obtain ⟨tl, l1, l2⟩ := hl
  obtain ⟨tu, u1, u2⟩ := hu
  refine ⟨_, pe_slice (sl_list.or sl_tupA) a1 l1 u1, fun σ H Z env φ S Q P => ?_⟩
  refine a2.bind S P fun oa env1 x H1 Z1 φ1 A e1 S1 q1 dj1 ev1 P1 => ?_
  refine l2.bind S1 (P1.mono (Evo.refl.sub fun _ z => .inl z)) fun l env2 l' H2 Z2 φ2 B e2 S2 q2 dj2 ev2 P2 => ?_
  cases (show l = l' from q2)
  refine u2.bind S2 (P2.mono (Evo.refl.sub fun _ z => .inl z)) fun u env3 u' H3 Z3 φ3 B3 e3 S3 q3 dj3 ev3 P3 => ?_
  cases (show u = u' from q3)
  have P4 := P3.mono (Evo.refl.sub (F2 := Tot φ3) fun _ z => .inl z)
  have q1' : OR Γ.C σ B3 Z3 H3 oa x := OR.go (S2.ext ev3) (OR.go (B := B) (S1.ext ev2) q1)
  cases ga : oa.get env3 with
  | none => rw [ga] at P4; exact P4.elim
  | some d =>
    simp only [ga] at P4
    have rd := Opd.rd S3 q1' ga
    unfold slD at P4
    split at P4
    · rename_i xs
      obtain ⟨z, us, rfl, hz, r⟩ := rd.tupI
      have hz' := hz
      rw [G.hK] at hz'
      refine .inr ⟨z, us, rfl, hz', fun hw => ?_, fun hw p hp => ?_⟩
      · have e : cutD xs l u = xs := by
          unfold cutD
          rw [← r.length, hw.1, hw.2, List.drop_zero, Nat.sub_zero, r.length, List.take_length]
        rw [e] at P4
        exact Post.here P4 S3 (Ow.sh (.tup hz r))
      · exact Post.newT P4 S3 hp (Ow.sh (.tup (SqT.of upd_same) ((cut_sh r l u).ext (Ext.new hp))))
    · rename_i xs
      obtain ⟨z, us, rfl, hz, r⟩ := rd.lstI
      exact .inl ⟨z, us, rfl, SqL.of hz, fun p hp => Post.newL P4 S3 hp (Ow.lst1 upd_same ((cut_sh r l u).ext (Ext.new hp)))⟩
    · rename_i ns
      obtain ⟨z, rfl, hz⟩ := rd.scrI
      rw [G.hK] at hz
      refine .inl ⟨z, _, rfl, hz, fun p hp => ?_⟩
      have r : ShL Γ.C Z3 H3 (cutV (ns.map V.int) l u) ((cutD ns l u).map D.int) := by
        have e : cutV (ns.map V.int) l u = (cutD ns l u).map V.int := by
          unfold cutV cutD
          rw [List.length_map, List.map_take, List.map_drop]
        rw [e]
        exact shl_ints
      exact Post.newL P4 S3 hp (Ow.lst1 upd_same (r.ext (Ext.new hp)))
    · exact P4.elim

/-! ### calls of built-ins -/
theorem ev_b1 {id : String} {r : List V → Hp → VK → Prop} {g : D → Option (D × Nat)} (hc : CallR Γ.X (.builtin id) r) (hr : Does1 Γ g (fun v H Q => r [v] H Q)) (hg : Gl Γ.X x) (hm : Γ.X.mg x = none) (hv : bootBuiltins x = some (.builtin id)) (ha : EvO Γ a fa)
    (hn : x ≠ "__name__" := by decide) (hdb : (x == ("__debug__" : Str)) = false := by decide) (hs : starEach [a] Γ.X.env = [(false, eval a Γ.X.env)] := by rfl) : EvE Γ (.Call (.Name x p) [a] [] pos) (op1 g fa) := by
  obtain ⟨t, h1, h2⟩ := ha
  have pa : PA Γ.X [a] (tCons t tNil) := pa_cons h1 pa_nil hs
  exact ⟨_, pe_callB hc hg hm hv pa hn hdb hs rfl, h2.op1 hr⟩
theorem ev_t1 {T : String} {r : List V → Hp → VK → Prop} {g : D → Option (D × Nat)} (hc : CallR Γ.X (.type T) r) (hr : Does1 Γ g (fun v H Q => r [v] H Q)) (hg : Gl Γ.X x) (hm : Γ.X.mg x = none) (hv : bootBuiltins x = some (.type T)) (ha : EvO Γ a fa)
    (hn : x ≠ "__name__" := by decide) (hdb : (x == ("__debug__" : Str)) = false := by decide) (hs : starEach [a] Γ.X.env = [(false, eval a Γ.X.env)] := by rfl) : EvE Γ (.Call (.Name x p) [a] [] pos) (op1 g fa) := by
  obtain ⟨t, h1, h2⟩ := ha
  have pa : PA Γ.X [a] (tCons t tNil) := pa_cons h1 pa_nil hs
  exact ⟨_, pe_callTy hc hg hm hv pa hn hdb hs rfl, h2.op1 hr⟩
theorem ev_b2 {id : String} {r : List V → Hp → VK → Prop} {g : D → D → Option (D × Nat)} (hc : CallR Γ.X (.builtin id) r) (hr : Does2 Γ g (fun v w H Q => r [v, w] H Q)) (hg : Gl Γ.X x) (hm : Γ.X.mg x = none) (hv : bootBuiltins x = some (.builtin id)) (ha : EvO Γ a fa) (hb : EvO Γ b fb)
    (hn : x ≠ "__name__" := by decide) (hdb : (x == ("__debug__" : Str)) = false := by decide) (hs : starEach [a, b] Γ.X.env = [(false, eval a Γ.X.env), (false, eval b Γ.X.env)] := by rfl) (hs2 : starEach [b] Γ.X.env = [(false, eval b Γ.X.env)] := by rfl) : EvE Γ (.Call (.Name x p) [a, b] [] pos) (op2 g fa fb) := by
  refine ev_op2 (ta := rIsA) (mk := fun x _ => x) ha hb (fun ta tb h1 h2 => ?_) hr
  have pb : PA Γ.X [b] (tCons tb tNil) := pa_cons h2 pa_nil hs2
  have pa : PA Γ.X [a, b] (tCons ta (tCons tb tNil)) := pa_cons h1 pb (by rw [hs, hs2])
  exact pe_callB hc hg hm hv pa hn hdb (by rw [hs, hs2]) (by rw [hs2]; rfl)
theorem does1_here {g : D → Option (D × Nat)} {r : V → Hp → VK → Prop} (k : ∀ (Z : Fp) (H : Hp) (x : V) (d e : D), Rd1 Γ.C Z H x d → g d = some (e, 0) → ∀ Q : VK, (∀ v, Sh Γ.C Z H v e → Q v H) → r x H Q) (h0 : ∀ d p, g d = some p → p.2 = 0) : Does1 Γ g r := by
  intro σ H Z env φ S x d p hx hg Q P
  obtain ⟨e, n⟩ := p
  have en := h0 d _ hg
  simp only at en
  subst en
  exact k Z H x d e hx hg Q fun v hv => Post.here P S (Ow.sh hv)

def lenD : D → Option (D × Nat)
  | .tup xs => some (.int xs.length, 0)
  | .lst xs => some (.int xs.length, 0)
  | .scr ns => some (.int ns.length, 0)
  | .str z => if z.length ≤ lim then some (.int z.length, 0) else none
  | .dic ks _ => some (.int ks.length, 0)
  | _ => none
abbrev rLenA (K : PySem.W.Frag) : List V → Hp → VK → Prop := fun xs H Q => (∃ p ys, xs = [.ref p] ∧ (SqL K H p ys ∨ SqT K H p ys) ∧ Q (.int ys.length) H) ∨ (∃ z, xs = [.str z] ∧ z.length ≤ sizeLine ∧ Q (.int z.length) H) ∨ (∃ a kvs, xs = [V.ref a] ∧ H a = some (.dK kvs) ∧ Q (.int kvs.length) H)
theorem does_len (G : Good Γ) : Does1 Γ lenD (fun v H Q => rLenA Γ.X.K [v] H Q) := by
  intro σ H Z env φ S x d p hx hg Q P
  unfold lenD at hg
  split at hg
  · cases hg
    obtain ⟨a, us, rfl, ha, r⟩ := hx.tupI
    rw [G.hK] at ha
    exact .inl ⟨a, us, rfl, .inr ha, by rw [r.length]; exact Post.here P S (Ow.sh (.int _))⟩
  · cases hg
    obtain ⟨a, us, rfl, ha, r⟩ := hx.lstI
    exact .inl ⟨a, us, rfl, .inl (SqL.of ha), by rw [r.length]; exact Post.here P S (Ow.sh (.int _))⟩
  · cases hg
    obtain ⟨a, rfl, ha⟩ := hx.scrI
    rw [G.hK] at ha
    exact .inl ⟨a, _, rfl, .inl ha, by rw [List.length_map]; exact Post.here P S (Ow.sh (.int _))⟩
  · split at hg
    · rename_i hz
      cases hg
      rw [hx.strI]
      exact .inr (.inl ⟨_, rfl, lim_le hz, Post.here P S (Ow.sh (.int _))⟩)
    · cases hg
  · cases hg
    obtain ⟨a, us, rfl, ha, hl, r⟩ := hx.dicI
    refine .inr (.inr ⟨a, _, rfl, ha, ?_⟩)
    rw [List.length_zip, hl, Nat.min_self, ← hl]
    exact Post.here P S (Ow.sh (.int _))
  · cases hg
theorem ev_len (G : Good Γ) (hg : Gl Γ.X "len") (hm : Γ.X.mg "len" = none) (ha : EvO Γ a fa) (hs : starEach [a] Γ.X.env = [(false, eval a Γ.X.env)] := by rfl) : EvE Γ (.Call (.Name "len" p) [a] [] pos) (op1 lenD fa) :=
  ev_b1 (CallR.or call_len_seq (CallR.or call_len_str call_lenD)) (does_len G) hg hm PySem.boot_len ha (hs := hs)

def intD : D → Option (D × Nat)
  | .int i => some (.int i, 0)
  | .bl b => some (.int (if b then 1 else 0), 0)
  | _ => none
theorem ev_int1 (hg : Gl Γ.X "int") (hm : Γ.X.mg "int" = none) (ha : EvO Γ a fa) (hs : starEach [a] Γ.X.env = [(false, eval a Γ.X.env)] := by rfl) : EvE Γ (.Call (.Name "int" p) [a] [] pos) (op1 intD fa) :=
  ev_t1 call_int1 (fun σ H Z env φ S x d p hx hg Q P => by
    unfold intD at hg
    split at hg
    · cases hg
      rw [hx.intI]
      exact .inl ⟨_, rfl, Post.here P S (Ow.sh (.int _))⟩
    · cases hg
      rw [hx.blI]
      exact .inr ⟨_, rfl, Post.here P S (Ow.sh (.int _))⟩
    · cases hg) hg hm (by decide +kernel) ha (hs := hs)
def tupD : D → Option (D × Nat)
  | .tup xs => some (.tup xs, 0)
  | .lst xs => some (.tup xs, 0)
  | _ => none
theorem ev_tuple (G : Good Γ) (hg : Gl Γ.X "tuple") (hm : Γ.X.mg "tuple" = none) (ha : EvO Γ a fa) (hs : starEach [a] Γ.X.env = [(false, eval a Γ.X.env)] := by rfl) : EvE Γ (.Call (.Name "tuple" p) [a] [] pos) (op1 tupD fa) :=
  ev_t1 call_tuple_of (fun σ H Z env φ S x d p hx hg Q P => by
    unfold tupD at hg
    split at hg
    · cases hg
      obtain ⟨a, us, rfl, ha, r⟩ := hx.tupI
      have ha' := ha
      rw [G.hK] at ha'
      exact ⟨a, us, rfl, .inr ⟨ha', Post.here P S (Ow.sh (.tup ha r))⟩⟩
    · cases hg
      obtain ⟨a, us, rfl, ha, r⟩ := hx.lstI
      exact ⟨a, us, rfl, .inl ⟨SqL.of ha, fun l hl => Post.newT P S hl (Ow.sh (.tup (SqT.of upd_same) (r.ext (Ext.new hl))))⟩⟩
    · cases hg) hg hm (by decide +kernel) ha (hs := hs)
def lisD : D → Option (D × Nat)
  | .tup xs => some (.lst xs, 1)
  | .lst xs => some (.lst xs, 1)
  | .scr ns => some (.lst (ns.map D.int), 1)
  | _ => none
theorem ev_list (G : Good Γ) (hg : Gl Γ.X "list") (hm : Γ.X.mg "list" = none) (ha : EvO Γ a fa) (hs : starEach [a] Γ.X.env = [(false, eval a Γ.X.env)] := by rfl) : EvE Γ (.Call (.Name "list" p) [a] [] pos) (op1 lisD fa) :=
  ev_t1 call_list_of (fun σ H Z env φ S x d p hx hg Q P => by
    unfold lisD at hg
    split at hg
    · cases hg
      obtain ⟨a, us, rfl, ha, r⟩ := hx.tupI
      rw [G.hK] at ha
      exact ⟨a, us, rfl, .inr ha, fun l hl => Post.newL P S hl (Ow.lst1 upd_same (r.ext (Ext.new hl)))⟩
    · cases hg
      obtain ⟨a, us, rfl, ha, r⟩ := hx.lstI
      exact ⟨a, us, rfl, .inl (SqL.of ha), fun l hl => Post.newL P S hl (Ow.lst1 upd_same (r.ext (Ext.new hl)))⟩
    · cases hg
      obtain ⟨a, rfl, ha⟩ := hx.scrI
      rw [G.hK] at ha
      exact ⟨a, _, rfl, .inl ha, fun l hl => Post.newL P S hl (Ow.lst1 upd_same (shl_ints.ext (Ext.new hl)))⟩
    · cases hg) hg hm (by decide +kernel) ha (hs := hs)
def absD : D → Option (D × Nat)
  | .int i => some (.int (if i < 0 then -i else i), 0)
  | _ => none
theorem ev_abs (hg : Gl Γ.X "abs") (hm : Γ.X.mg "abs" = none) (ha : EvO Γ a fa) (hs : starEach [a] Γ.X.env = [(false, eval a Γ.X.env)] := by rfl) : EvE Γ (.Call (.Name "abs" p) [a] [] pos) (op1 absD fa) :=
  ev_b1 call_abs (fun σ H Z env φ S x d p hx hg Q P => by
    unfold absD at hg
    split at hg
    · cases hg
      rw [hx.intI]
      exact ⟨_, rfl, Post.here P S (Ow.sh (.int _))⟩
    · cases hg) hg hm (by decide +kernel) ha (hs := hs)
def sumD : D → Option (D × Nat)
  | .lst xs => (D.ints xs).map fun ns => (.int ns.sum, 0)
  | _ => none
theorem ev_sum (G : Good Γ) (hg : Gl Γ.X "sum") (hm : Γ.X.mg "sum" = none) (ha : EvO Γ a fa) (hs : starEach [a] Γ.X.env = [(false, eval a Γ.X.env)] := by rfl) : EvE Γ (.Call (.Name "sum" p) [a] [] pos) (op1 sumD fa) :=
  ev_b1 (cr_sum G.calm) (fun σ H Z env φ S x d p hx hg Q P => by
    unfold sumD at hg
    split at hg
    · obtain ⟨ns, e1, rfl⟩ := Option.map_eq_some_iff.mp hg
      obtain ⟨a, us, rfl, ha, r⟩ := hx.lstI
      rw [D.ints_eq e1] at r
      rw [r.ints] at ha
      exact ⟨a, ns, rfl, SqL.of ha, Post.here P S (Ow.sh (.int _))⟩
    · cases hg) hg hm (by decide +kernel) ha (hs := hs)
def D.bls : List D → Option (List Bool)
  | [] => some []
  | .bl i :: r => (D.bls r).map (i :: ·)
  | _ :: _ => none
theorem D.bls_eq : ∀ {ds : List D} {ns : List Bool}, D.bls ds = some ns → ds = ns.map D.bl
  | [], ns, h => by cases h; rfl
  | .bl i :: r, ns, h => by
    unfold D.bls at h
    obtain ⟨ms, e, rfl⟩ := Option.map_eq_some_iff.mp h
    rw [List.map_cons, ← D.bls_eq e]
  | .non :: _, _, h => by cases h
  | .int _ :: _, _, h => by cases h
  | .str _ :: _, _, h => by cases h
  | .fn _ :: _, _, h => by cases h
  | .tup _ :: _, _, h => by cases h
  | .lst _ :: _, _, h => by cases h
  | .dic _ _ :: _, _, h => by cases h
  | .scr _ :: _, _, h => by cases h
@[simp] theorem D.bls_map : ∀ ns : List Bool, D.bls (ns.map D.bl) = some ns
  | [] => rfl
  | n :: ns => by rw [List.map_cons, D.bls, D.bls_map ns]; rfl
def anyD : D → Option (D × Nat)
  | .lst xs => (D.bls xs).map fun ns => (.bl (ns.any id), 0)
  | _ => none
def allD : D → Option (D × Nat)
  | .lst xs => (D.bls xs).map fun ns => (.bl (ns.all id), 0)
  | _ => none
theorem ev_any (G : Good Γ) (hg : Gl Γ.X "any") (hm : Γ.X.mg "any" = none) (ha : EvO Γ a fa) (hs : starEach [a] Γ.X.env = [(false, eval a Γ.X.env)] := by rfl) : EvE Γ (.Call (.Name "any" p) [a] [] pos) (op1 anyD fa) :=
  ev_b1 (cr_any G.calm) (fun σ H Z env φ S x d p hx hg Q P => by
    unfold anyD at hg
    split at hg
    · obtain ⟨ns, e1, rfl⟩ := Option.map_eq_some_iff.mp hg
      obtain ⟨a, us, rfl, ha, r⟩ := hx.lstI
      rw [D.bls_eq e1] at r
      rw [r.bools] at ha
      exact ⟨a, ns, rfl, SqL.of ha, Post.here P S (Ow.sh (.bl _))⟩
    · cases hg) hg hm (by decide +kernel) ha (hs := hs)
theorem ev_all (G : Good Γ) (hg : Gl Γ.X "all") (hm : Γ.X.mg "all" = none) (ha : EvO Γ a fa) (hs : starEach [a] Γ.X.env = [(false, eval a Γ.X.env)] := by rfl) : EvE Γ (.Call (.Name "all" p) [a] [] pos) (op1 allD fa) :=
  ev_b1 (cr_all G.calm) (fun σ H Z env φ S x d p hx hg Q P => by
    unfold allD at hg
    split at hg
    · obtain ⟨ns, e1, rfl⟩ := Option.map_eq_some_iff.mp hg
      obtain ⟨a, us, rfl, ha, r⟩ := hx.lstI
      rw [D.bls_eq e1] at r
      rw [r.bools] at ha
      exact ⟨a, ns, rfl, SqL.of ha, Post.here P S (Ow.sh (.bl _))⟩
    · cases hg) hg hm (by decide +kernel) ha (hs := hs)

/-! max, min of two ints, of a list or tuple of ints -/
def max2D : D → D → Option (D × Nat)
  | .int i, .int j => some (.int (max i j), 0)
  | _, _ => none
def min2D : D → D → Option (D × Nat)
  | .int i, .int j => some (.int (min i j), 0)
  | _, _ => none
theorem ev_max2 (G : Good Γ) (hg : Gl Γ.X "max") (hm : Γ.X.mg "max" = none) (ha : EvO Γ a fa) (hb : EvO Γ b fb) (hs : starEach [a, b] Γ.X.env = [(false, eval a Γ.X.env), (false, eval b Γ.X.env)] := by rfl) (hs2 : starEach [b] Γ.X.env = [(false, eval b Γ.X.env)] := by rfl) : EvE Γ (.Call (.Name "max" p) [a, b] [] pos) (op2 max2D fa fb) :=
  ev_b2 (call_max2 G.calm) (fun σ H Z env φ S x y d e p hx hy hg Q P => by
    unfold max2D at hg
    split at hg
    · rename_i i j
      cases hg
      rw [hx.intI, hy.intI]
      refine ⟨_, _, rfl, ?_⟩
      have e : (if j > i then j else i) = max i j := by rw [Int.max_def]; split <;> split <;> omega
      rw [e]
      exact Post.here P S (Ow.sh (.int _))
    · cases hg) hg hm (by decide +kernel) ha hb (hs := hs) (hs2 := hs2)
theorem ev_min2 (G : Good Γ) (hg : Gl Γ.X "min") (hm : Γ.X.mg "min" = none) (ha : EvO Γ a fa) (hb : EvO Γ b fb) (hs : starEach [a, b] Γ.X.env = [(false, eval a Γ.X.env), (false, eval b Γ.X.env)] := by rfl) (hs2 : starEach [b] Γ.X.env = [(false, eval b Γ.X.env)] := by rfl) : EvE Γ (.Call (.Name "min" p) [a, b] [] pos) (op2 min2D fa fb) :=
  ev_b2 (call_min2 G.calm) (fun σ H Z env φ S x y d e p hx hy hg Q P => by
    unfold min2D at hg
    split at hg
    · rename_i i j
      cases hg
      rw [hx.intI, hy.intI]
      refine ⟨_, _, rfl, ?_⟩
      have e : (if j < i then j else i) = min i j := by rw [Int.min_def]; split <;> split <;> omega
      rw [e]
      exact Post.here P S (Ow.sh (.int _))
    · cases hg) hg hm (by decide +kernel) ha hb (hs := hs) (hs2 := hs2)
theorem foldl_max_le (ns : List Int) : ∀ n : Int, n ≤ ns.foldl max n ∧ ∀ y ∈ ns, y ≤ ns.foldl max n := by
  induction ns with
  | nil => intro n; exact ⟨Int.le_refl _, fun _ h => by cases h⟩
  | cons m ns ih =>
    intro n
    obtain ⟨h1, h2⟩ := ih (max n m)
    rw [List.foldl_cons]
    exact ⟨by omega, fun y hy => (List.mem_cons.mp hy).elim (fun e => by subst e; omega) (h2 y)⟩
theorem foldl_max_mem (ns : List Int) : ∀ n : Int, ns.foldl max n = n ∨ ns.foldl max n ∈ ns := by
  induction ns with
  | nil => intro n; exact .inl rfl
  | cons m ns ih =>
    intro n
    rw [List.foldl_cons]
    rcases ih (max n m) with h | h
    · rw [h]
      rcases Int.le_total n m with q | q
      · rw [Int.max_eq_right q]; exact .inr List.mem_cons_self
      · rw [Int.max_eq_left q]; exact .inl rfl
    · exact .inr (List.mem_cons_of_mem _ h)
theorem foldl_min_le (ns : List Int) : ∀ n : Int, ns.foldl min n ≤ n ∧ ∀ y ∈ ns, ns.foldl min n ≤ y := by
  induction ns with
  | nil => intro n; exact ⟨Int.le_refl _, fun _ h => by cases h⟩
  | cons m ns ih =>
    intro n
    obtain ⟨h1, h2⟩ := ih (min n m)
    rw [List.foldl_cons]
    exact ⟨by omega, fun y hy => (List.mem_cons.mp hy).elim (fun e => by subst e; omega) (h2 y)⟩
theorem foldl_min_mem (ns : List Int) : ∀ n : Int, ns.foldl min n = n ∨ ns.foldl min n ∈ ns := by
  induction ns with
  | nil => intro n; exact .inl rfl
  | cons m ns ih =>
    intro n
    rw [List.foldl_cons]
    rcases ih (min n m) with h | h
    · rw [h]
      rcases Int.le_total n m with q | q
      · rw [Int.min_eq_left q]; exact .inl rfl
      · rw [Int.min_eq_right q]; exact .inr List.mem_cons_self
    · exact .inr (List.mem_cons_of_mem _ h)
def maxI : List Int → Option Int
  | [] => none
  | n :: ns => some (ns.foldl max n)
def minI : List Int → Option Int
  | [] => none
  | n :: ns => some (ns.foldl min n)
def seqI : D → Option (List Int)
  | .lst xs => D.ints xs
  | .tup xs => D.ints xs
  | _ => none
def maxD1 (d : D) : Option (D × Nat) := (seqI d).bind fun ns => (maxI ns).map fun m => (.int m, 0)
def minD1 (d : D) : Option (D × Nat) := (seqI d).bind fun ns => (minI ns).map fun m => (.int m, 0)
def rMaxT (K : PySem.W.Frag) : List V → Hp → VK → Prop := fun vs H Q => ∃ (a : Addr) (n : Int) (ns : List Int), vs = [V.ref a] ∧ SqT K H a ((n :: ns).map V.int) ∧ Q (.int (ns.foldl max n)) H
def rMinT (K : PySem.W.Frag) : List V → Hp → VK → Prop := fun vs H Q => ∃ (a : Addr) (n : Int) (ns : List Int), vs = [V.ref a] ∧ SqT K H a ((n :: ns).map V.int) ∧ Q (.int (ns.foldl min n)) H
theorem readsAll_ints {h : Heap} : ∀ {ns : List Int} {us : List Value}, Vals (ns.map V.int) us → ∃ as, ReadsAll h us (ns.map PyData.int) as
  | [], _, r => by cases r; exact ⟨_, .nil⟩
  | n :: ns, _, r => by
    cases r with
    | cons r rr =>
      obtain ⟨t, rfl⟩ := r
      obtain ⟨as, q⟩ := readsAll_ints rr
      exact ⟨_, .cons (Reads.int n t) q⟩
theorem alikeAll_ints (ns : List Int) : PySem.W.AlikeAll (ns.map PyData.int) := by
  refine ⟨fun x hx y hy => ?_, fun x hx e => ?_⟩
  · obtain ⟨i, _, rfl⟩ := List.mem_map.mp hx
    obtain ⟨j, _, rfl⟩ := List.mem_map.mp hy
    rfl
  · obtain ⟨i, _, rfl⟩ := List.mem_map.mp hx
    cases e
theorem depthAll_ints (ns : List Int) : PyData.depthAll (ns.map PyData.int) = 0 := by
  induction ns with
  | nil => simp [PyData.depthAll]
  | cons n ns ih =>
    rw [List.map_cons, PyData.depthAll, ih]
    simp [PyData.depth]
theorem cr_maxT {X : Cx} {k : Nat} (hc : X.calm = true) (hr : Room k X.A) : CallR X (.builtin "max") (rMaxT X.K) := by
  intro pins s σ H vs us Q I r h
  obtain ⟨a, n, ns, rfl, hs, q⟩ := h
  obtain ⟨its, rv, hl, _⟩ := I.tuple hs
  rw [Vals.ref1 r]
  obtain ⟨as, ra⟩ := readsAll_ints (h := s.heap) rv
  refine PySem.W.max_tuple_data (I.ok.hd hc) (show s.heap.IsTuple a its.toArray from hl) (x := .int n) (xs := ns.map .int) (as := as) (by simpa using ra) (by simpa using alikeAll_ints (n :: ns)) (by
    have := hr.un
    have e := depthAll_ints (n :: ns)
    rw [List.map_cons] at e
    rw [e]; omega) fun i v h' tk bs hi hv hk => ?_
  rw [PySem.W.maxD_ints] at hv
  cases hv with
  | int _ t => exact ⟨.int _, H, I.kept hk, ⟨t, rfl⟩, q⟩
theorem cr_minT {X : Cx} {k : Nat} (hc : X.calm = true) (hr : Room k X.A) : CallR X (.builtin "min") (rMinT X.K) := by
  intro pins s σ H vs us Q I r h
  obtain ⟨a, n, ns, rfl, hs, q⟩ := h
  obtain ⟨its, rv, hl, _⟩ := I.tuple hs
  rw [Vals.ref1 r]
  obtain ⟨as, ra⟩ := readsAll_ints (h := s.heap) rv
  refine PySem.W.min_tuple_data (I.ok.hd hc) (show s.heap.IsTuple a its.toArray from hl) (x := .int n) (xs := ns.map .int) (as := as) (by simpa using ra) (by simpa using alikeAll_ints (n :: ns)) (by
    have := hr.un
    have e := depthAll_ints (n :: ns)
    rw [List.map_cons] at e
    rw [e]; omega) fun i v h' tk bs hi hv hk => ?_
  rw [PySem.W.minD_ints] at hv
  cases hv with
  | int _ t => exact ⟨.int _, H, I.kept hk, ⟨t, rfl⟩, q⟩
theorem ev_max1 (G : Good Γ) {k : Nat} (hr : Room k Γ.X.A) (hg : Gl Γ.X "max") (hm : Γ.X.mg "max" = none) (ha : EvO Γ a fa) (hs : starEach [a] Γ.X.env = [(false, eval a Γ.X.env)] := by rfl) : EvE Γ (.Call (.Name "max" p) [a] [] pos) (op1 maxD1 fa) :=
  ev_b1 (CallR.or (cr_max G.calm) (cr_maxT G.calm hr)) (fun σ H Z env φ S x d p hx hg Q P => by
    unfold maxD1 at hg
    obtain ⟨ns, e1, e2⟩ := Option.bind_eq_some_iff.mp hg
    obtain ⟨m, e3, rfl⟩ := Option.map_eq_some_iff.mp e2
    cases ns with
    | nil => cases e3
    | cons n ns =>
      cases e3
      unfold seqI at e1
      split at e1
      · obtain ⟨a, us, rfl, ha, r⟩ := hx.lstI
        rw [D.ints_eq e1] at r
        rw [r.ints] at ha
        refine .inl ⟨a, n :: ns, rfl, SqL.of ha, Nat.zero_lt_succ _, fun m hm h => ?_⟩
        have e : m = ns.foldl max n := by
          obtain ⟨h1, h2⟩ := foldl_max_le ns n
          have h3 : m ≤ ns.foldl max n := (List.mem_cons.mp hm).elim (fun e => by rw [e]; exact h1) (h2 m)
          have h4 : ns.foldl max n ≤ m := by
            rcases foldl_max_mem ns n with e | e
            · rw [e]; exact h n List.mem_cons_self
            · exact h _ (List.mem_cons_of_mem _ e)
          omega
        rw [e]
        exact Post.here P S (Ow.sh (.int _))
      · obtain ⟨a, us, rfl, ha, r⟩ := hx.tupI
        rw [D.ints_eq e1] at r
        rw [r.ints, G.hK] at ha
        exact .inr ⟨a, n, ns, rfl, ha, Post.here P S (Ow.sh (.int _))⟩
      · cases e1) hg hm (by decide +kernel) ha (hs := hs)
theorem ev_min1 (G : Good Γ) {k : Nat} (hr : Room k Γ.X.A) (hg : Gl Γ.X "min") (hm : Γ.X.mg "min" = none) (ha : EvO Γ a fa) (hs : starEach [a] Γ.X.env = [(false, eval a Γ.X.env)] := by rfl) : EvE Γ (.Call (.Name "min" p) [a] [] pos) (op1 minD1 fa) :=
  ev_b1 (CallR.or (cr_min G.calm) (cr_minT G.calm hr)) (fun σ H Z env φ S x d p hx hg Q P => by
    unfold minD1 at hg
    obtain ⟨ns, e1, e2⟩ := Option.bind_eq_some_iff.mp hg
    obtain ⟨m, e3, rfl⟩ := Option.map_eq_some_iff.mp e2
    cases ns with
    | nil => cases e3
    | cons n ns =>
      cases e3
      unfold seqI at e1
      split at e1
      · obtain ⟨a, us, rfl, ha, r⟩ := hx.lstI
        rw [D.ints_eq e1] at r
        rw [r.ints] at ha
        refine .inl ⟨a, n :: ns, rfl, SqL.of ha, Nat.zero_lt_succ _, fun m hm h => ?_⟩
        have e : m = ns.foldl min n := by
          obtain ⟨h1, h2⟩ := foldl_min_le ns n
          have h3 : ns.foldl min n ≤ m := (List.mem_cons.mp hm).elim (fun e => by rw [e]; exact h1) (h2 m)
          have h4 : m ≤ ns.foldl min n := by
            rcases foldl_min_mem ns n with e | e
            · rw [e]; exact h n List.mem_cons_self
            · exact h _ (List.mem_cons_of_mem _ e)
          omega
        rw [e]
        exact Post.here P S (Ow.sh (.int _))
      · obtain ⟨a, us, rfl, ha, r⟩ := hx.tupI
        rw [D.ints_eq e1] at r
        rw [r.ints, G.hK] at ha
        exact .inr ⟨a, n, ns, rfl, ha, Post.here P S (Ow.sh (.int _))⟩
      · cases e1) hg hm (by decide +kernel) ha (hs := hs)

/-! ### isinstance(e, T), T a built-in type -/
/-- the type's name of what data tells it -/
def tyD : D → Option String
  | .non => some "NoneType"
  | .bl _ => some "bool"
  | .int _ => some "int"
  | .str _ => some "str"
  | .tup _ => some "tuple"
  | .lst _ => some "list"
  | .dic _ _ => some "dict"
  | .scr _ => some "list"
  | .fn _ => none
def isiD (T : String) (d : D) : Option (D × Nat) := (tyD d).bind fun s => if s = T then some (.bl true, 0) else if s = "bool" ∧ T = "int" then some (.bl true, 0) else some (.bl false, 0)
end
theorem SqT.tyx {K : PySem.W.Frag} {H : Hp} {a : Addr} {xs : List V} (h : SqT K H a xs) : TyX K H (.ref a) (.type "tuple") := by
  rcases h with (h | ⟨o, h⟩) | ⟨o, its, n, h1, h2, _⟩
  · exact .base (.tup h)
  · exact .fTuple h
  · exact .kTuple h1 h2
theorem SqL.tyx {K : PySem.W.Frag} {H : Hp} {a : Addr} {xs : List V} (h : SqL K H a xs) : TyX K H (.ref a) (.type "list") := by
  rcases h with (h | ⟨o, h⟩) | ⟨o, its, n, h1, h2, _⟩
  · exact .base (.lst h)
  · exact .base (.frz h)
  · exact .kList h1 h2
theorem tyD_x {C : RC} {Z : Fp} {H : Hp} {v : V} {d : D} {T : String} (h : Rd1 C Z H v d) (e : tyD d = some T) : TyX C.K H v (.type T) := by
  cases h with
  | sh h =>
    cases h with
    | non => cases e; exact .base .non
    | bl b => cases e; exact .base (.bl b)
    | int i => cases e; exact .base (.int i)
    | str x => cases e; exact .base (.str x)
    | fn _ => cases e
    | tup s r => cases e; exact SqT.tyx s
    | lst s z r => cases e; exact .base (.lst s)
    | dic s z l r => cases e; exact .base (.dK s)
    | scr s => cases e; exact SqL.tyx s.sqL
  | lst s r => cases e; exact .base (.lst s)
  | dic s l r => cases e; exact .base (.dK s)
/-- the types that the programs ask for -/
def isiTs : List String := ["int", "bool", "str", "tuple", "list", "dict"]
theorem kit_all : ∀ s ∈ ["NoneType", "bool", "int", "str", "tuple", "list", "dict"], ∀ T ∈ isiTs, kitB s T = some (decide (s = T) || (decide (s = "bool") && decide (T = "int"))) := by decide +kernel
theorem tyD_mem {d : D} {s : String} (h : tyD d = some s) : s ∈ ["NoneType", "bool", "int", "str", "tuple", "list", "dict"] := by
  cases d <;> first | (cases h; decide) | cases h
section
variable {Γ : Ct} {e a b c : Expr} {fa fb fc : En → R Opd} {pos p q : Pos} {x : Str}
theorem ev_isi (G : Good Γ) {T : String} (hT : T ∈ isiTs) (hx : bootBuiltins x = some (.type T)) (hg : Gl Γ.X "isinstance") (hm : Γ.X.mg "isinstance" = none) (hg2 : Gl Γ.X x) (hm2 : Γ.X.mg x = none) (ha : EvO Γ a fa)
    (hn : x ≠ "__name__" := by decide) (hdb : (x == ("__debug__" : Str)) = false := by decide) (hs : starEach [a, .Name x q] Γ.X.env = [(false, eval a Γ.X.env), (false, eval (.Name x q) Γ.X.env)] := by rfl) : EvE Γ (.Call (.Name "isinstance" p) [a, .Name x q] [] pos) (op1 (isiD T) fa) := by
  obtain ⟨t, h1, h2⟩ := ha
  have pb : PA Γ.X [.Name x q] (tCons (tC (.ty T)) tNil) := pa_cons (pe_bltn hg2 hm2 hx rfl hn hdb) pa_nil
  have pa : PA Γ.X [a, .Name x q] (tCons t (tCons (tC (.ty T)) tNil)) := pa_cons h1 pb (by rw [hs]; rfl)
  refine ⟨_, pe_callB call_isi hg hm (by decide +kernel) pa (by decide) (by decide) (by rw [hs]; rfl) rfl, ?_⟩
  have h3 := Ev.op1 (g := isiD T) (r := fun v H Q => rIsi Γ.X.K [v, .ty T] H Q) h2 (fun σ H Z env φ S x d p hx hg Q P => by
    unfold isiD at hg
    obtain ⟨s, e1, e2⟩ := Option.bind_eq_some_iff.mp hg
    have k := kit_all s (tyD_mem e1) T hT
    have ty := tyD_x hx e1
    rw [G.hK] at ty
    refine ⟨x, .ty T, _, _, _, rfl, .ty T, ty, kit_ty k, ?_⟩
    have e3 : p = (.bl (decide (s = T) || (decide (s = "bool") && decide (T = "int"))), 0) := by
      by_cases h : s = T
      · rw [if_pos h] at e2
        cases e2
        simp [h]
      · rw [if_neg h] at e2
        by_cases h' : s = "bool" ∧ T = "int"
        · rw [if_pos h'] at e2
          cases e2
          simp [h'.1, h'.2]
        · rw [if_neg h'] at e2
          cases e2
          have : (decide (s = T) || (decide (s = "bool") && decide (T = "int"))) = false := by
            rw [Bool.or_eq_false_iff, Bool.and_eq_false_iff]
            refine ⟨decide_eq_false h, ?_⟩
            by_cases q : s = "bool"
            · exact .inr (decide_eq_false fun z => h' ⟨q, z⟩)
            · exact .inl (decide_eq_false q)
          rw [this]
    rw [e3] at P
    exact Post.here P S (Ow.sh (.bl _)))
  exact h3
end
end Pv
end

section
set_option Elab.async false
set_option linter.all false
set_option maxRecDepth 100000
set_option maxHeartbeats 4000000
/-! Pv7: statements, blocks, defs and their calls. -/
namespace Pv
open PySem PySem.Spec PyProof.Rows L2

/-! ### statements -/
inductive SR where
  | nx (e : En) | ret (p : D × Nat) (e : En) | bk (e : En) | ct (e : En) | ex (x : Xn) | no
def PostS (Γ : Ct) (Z : Fp) (H : Hp) (F : Fp) (r : SR) (Dn : Ends) : Prop :=
  match r with
  | .nx env' => ∀ σ' H' Z' φ', SttC Γ Z' σ' H' env' φ' → Evo Z H F Z' H' (Tot φ') → Dn.nx σ' H'
  | .bk env' => ∀ σ' H' Z' φ', SttC Γ Z' σ' H' env' φ' → Evo Z H F Z' H' (Tot φ') → Dn.bk σ' H'
  | .ct env' => ∀ σ' H' Z' φ', SttC Γ Z' σ' H' env' φ' → Evo Z H F Z' H' (Tot φ') → Dn.ct σ' H'
  | .ret p env' => ∀ v σ' H' Z' φ' A, SttC Γ Z' σ' H' env' φ' → Ow Γ.C Z' H' p.2 v p.1 A → (∀ x, A x → ¬ Tot φ' x ∧ ¬ Z' x) → Evo Z H F Z' H' (fun x => Tot φ' x ∨ A x) → Dn.rt v H'
  | .ex x => ∀ σ', (∀ i ∈ Γ.io, σ'[i]? = Γ.σ₀[i]?) → (Γ.io ≠ [] → σ'.length = Γ.σ₀.length) → PostX Γ σ' Z H F x
  | .no => False
def EvsT (Γ : Ct) (f : En → SR) (t : TS) : Prop := ∀ σ H Z env φ, SttC Γ Z σ H env φ → ∀ Dn : Ends, PostS Γ Z H (Tot φ) (f env) Dn → t Dn σ H
def EvS (Γ : Ct) (st : Stmt) (f : En → SR) : Prop := ∃ t, PS Γ.X st t ∧ EvsT Γ f t
def EvB (Γ : Ct) (st : List Stmt) (f : En → SR) : Prop := ∃ t, PSs Γ.X st t ∧ EvsT Γ f t
section
variable {Γ : Ct} {α β γ δ : Type} {σ : L2.St} {Z Z1 : Fp} {H H1 : Hp} {F F1 : Fp}
theorem PostS.mono {r : SR} {Dn : Ends} (h : PostS Γ Z H F r Dn) (e : Evo Z H F Z1 H1 F1) : PostS Γ Z1 H1 F1 r Dn := by
  cases r with
  | nx env => exact fun σ' H' Z' φ' S e2 => h σ' H' Z' φ' S (e.trans e2)
  | bk env => exact fun σ' H' Z' φ' S e2 => h σ' H' Z' φ' S (e.trans e2)
  | ct env => exact fun σ' H' Z' φ' S e2 => h σ' H' Z' φ' S (e.trans e2)
  | ret p env => exact fun v σ' H' Z' φ' A S o d e2 => h v σ' H' Z' φ' A S o d (e.trans e2)
  | ex x => exact fun σ' hσ hl => (h σ' hσ hl).mono e
  | no => exact h
/-- an expression's result, then a statement's -/
def R.then {α : Type} (r : R α) (g : α → En → SR) : SR :=
  match r with
  | .ok a e => g a e
  | .ex x => .ex x
  | .no => .no
@[simp] theorem R.then_ok (a : α) (e : En) (g : α → En → SR) : (R.ok a e).then g = g a e := rfl
@[simp] theorem R.then_ex (x : Xn) (g : α → En → SR) : (R.ex x : R α).then g = .ex x := rfl
@[simp] theorem R.then_no (g : α → En → SR) : (R.no : R α).then g = .no := rfl
theorem Ev.then {rel1 : L2.St → Rel α β} {f : En → R α} {t : L2.St → Hp → (β → Hp → Prop) → Prop} (h : Ev Γ rel1 f t) {env : En} {φ : Nat → Fp} (S : SttC Γ Z σ H env φ) {g : α → En → SR} {Dn : Ends} {Q1 : β → Hp → Prop}
    (P : PostS Γ Z H (Tot φ) ((f env).then g) Dn)
    (k : ∀ a env1 b H1 Z1 φ1 A, f env = .ok a env1 → SttC Γ Z1 σ H1 env1 φ1 → rel1 σ A Z1 H1 a b → (∀ x, A x → ¬ Tot φ1 x ∧ ¬ Z1 x) → Evo Z H (Tot φ) Z1 H1 (fun x => Tot φ1 x ∨ A x) →
      PostS Γ Z1 H1 (fun x => Tot φ1 x ∨ A x) (g a env1) Dn → Q1 b H1) : t σ H Q1 := by
  refine h σ H Z env φ S Q1 ?_
  cases e : f env with
  | ok a env1 =>
    rw [e] at P
    exact fun b H1 Z1 φ1 A S1 q d ev => k a env1 b H1 Z1 φ1 A e S1 q d ev (PostS.mono P ev)
  | ex x => rw [e] at P; exact P σ S.io S.l0
  | no => rw [e] at P; exact P
theorem Evo.dropA {φ : Nat → Fp} {A : Fp} : Evo Z H (fun x => Tot φ x ∨ A x) Z H (Tot φ) := Evo.refl.sub fun _ z => .inl z
theorem PostS.here {env : En} {φ : Nat → Fp} {Dn : Ends} (h : PostS Γ Z H (Tot φ) (.nx env) Dn) (S : SttC Γ Z σ H env φ) : Dn.nx σ H := h σ H Z φ S Evo.refl

/-! ### blocks -/
def passS : En → SR := fun env => .nx env
def seqS (f g : En → SR) : En → SR := fun env => match f env with
  | .nx e => g e
  | r => r
variable {st : Stmt} {rest body : List Stmt} {f g : En → SR} {e : Expr} {pos : Pos}
theorem eb_nil : EvB Γ [] passS := ⟨_, pss_nil, fun σ H Z env φ S Dn P => PostS.here P S⟩
theorem eb_one (h : EvS Γ st f) : EvB Γ [st] f := by
  obtain ⟨t, h1, h2⟩ := h
  exact ⟨t, pss_one h1, h2⟩
theorem eb_cons (h : EvS Γ st f) (k : EvB Γ rest g) : EvB Γ (st :: rest) (seqS f g) := by
  obtain ⟨t, h1, h2⟩ := h
  obtain ⟨u, k1, k2⟩ := k
  refine ⟨_, pss_cons h1 k1, fun σ H Z env φ S Dn P => ?_⟩
  refine h2 σ H Z env φ S _ ?_
  unfold seqS at P
  cases e : f env with
  | nx env1 =>
    rw [e] at P
    exact fun σ' H' Z' φ' S' ev => k2 σ' H' Z' env1 φ' S' Dn (PostS.mono P ev)
  | bk env1 => rw [e] at P; exact P
  | ct env1 => rw [e] at P; exact P
  | ret p env1 => rw [e] at P; exact P
  | ex x => rw [e] at P; exact P
  | no => rw [e] at P; exact P
theorem es_pass : EvS Γ (.Pass pos) passS := ⟨_, ps_pass, fun σ H Z env φ S Dn P => PostS.here P S⟩
theorem es_break : EvS Γ (.Break pos) (fun env => .bk env) := ⟨_, ps_break, fun σ H Z env φ S Dn P => P σ H Z φ S Evo.refl⟩
theorem es_continue : EvS Γ (.Continue pos) (fun env => .ct env) := ⟨_, ps_continue, fun σ H Z env φ S Dn P => P σ H Z φ S Evo.refl⟩
theorem es_doc {x j pos'} : EvS Γ (.Expr (.Constant (.str x) j pos) pos') passS := ⟨_, ps_doc, fun σ H Z env φ S Dn P => PostS.here P S⟩
/-- nothing is told of a statement -/
def noS : En → SR := fun _ => .no
theorem es_no : EvS Γ st noS := ⟨_, ps_never, fun _ _ _ _ _ _ _ P => P.elim⟩
theorem eb_no : EvB Γ rest noS := ⟨_, pss_never, fun _ _ _ _ _ _ _ P => P.elim⟩
def exprS (fe : En → R (D × Nat)) : En → SR := fun env => (fe env).then fun _ env1 => .nx env1
theorem es_expr {fe : En → R (D × Nat)} (h : EvE Γ e fe) (hs : swapsWith e none pos.line Γ.X.env = pure false := by rfl) : EvS Γ (.Expr e pos) (exprS fe) := by
  obtain ⟨t, h1, h2⟩ := h
  refine ⟨_, ps_expr h1 hs, fun σ H Z env φ S Dn P => ?_⟩
  refine h2.then S P fun p env1 v H1 Z1 φ1 A e1 S1 o dj ev P1 => ?_
  exact PostS.here (P1.mono Evo.dropA) S1
def retS (fe : En → R (D × Nat)) : En → SR := fun env => (fe env).then fun p env1 => .ret p env1
theorem es_ret {fe : En → R (D × Nat)} (h : EvE Γ e fe) : EvS Γ (.Return (some e) pos) (retS fe) := by
  obtain ⟨t, h1, h2⟩ := h
  refine ⟨_, ps_ret h1, fun σ H Z env φ S Dn P => ?_⟩
  refine h2.then S P fun p env1 v H1 Z1 φ1 A e1 S1 o dj ev P1 => ?_
  exact P1 v σ H1 Z1 φ1 A S1 o dj Evo.refl
def retN : En → SR := fun env => .ret (.non, 0) env
theorem es_retN : EvS Γ (.Return none pos) retN :=
  ⟨_, ps_retN, fun σ H Z env φ S Dn P => P .non σ H Z φ (fun _ => False) S (Ow.sh .non) (fun _ z => z.elim) (Evo.refl.sub fun _ z => z.elim id fun z => z.elim)⟩
/-- return x, x a local that dies: its lists go along -/
def retM (i : Nat) : En → SR := fun env => match env[i]? with
  | some (some p) => .ret p (env.set i none)
  | _ => .no
theorem es_retM {i : Nat} {x : Str} {pos' : Pos} (hN : Γ.X.N[i]? = some x) (hv : Vis Γ.X.env.scope x) (hd : (x == ("__debug__" : Str)) = false := by decide) (hcd : (x == ("__classdict__" : Str)) = false := by decide) : EvS Γ (.Return (some (.Name x pos')) pos) (retM i) := by
  refine ⟨_, ps_ret (pe_var hN hv hd hcd), fun σ H Z env φ S Dn P => ?_⟩
  unfold retM at P
  split at P
  · rename_i p h
    obtain ⟨d, k⟩ := p
    obtain ⟨v, h1, o⟩ := S.slot i d k h
    refine ⟨v, h1, P v σ H Z _ (φ i) (S.drop i) o (fun x z => ⟨fun ⟨j, q, y⟩ => q (S.dj j i x y z), S.nz i x z⟩) ⟨fun _ _ q _ => q, fun _ z => z, fun _ z => .inl z, fun x z => .inl (z.elim (fun ⟨j, _, y⟩ => ⟨j, y⟩) fun z => ⟨i, z⟩)⟩⟩
  · exact P.elim
/-- x = e -/
def putE (env : En) (i : Nat) (p : D × Nat) : SR := if i < env.length then .nx (env.set i (some p)) else .no
def setS (i : Nat) (fe : En → R (D × Nat)) : En → SR := fun env => (fe env).then fun p env1 => putE env1 i p
theorem put_ok {i : Nat} {env : En} {φ : Nat → Fp} (hio : i ∉ Γ.io) (S : SttC Γ Z σ H env φ) {p : D × Nat} {v : V} {A : Fp} (o : Ow Γ.C Z H p.2 v p.1 A) (dj : ∀ x, A x → ¬ Tot φ x ∧ ¬ Z x) {Dn : Ends} (P : PostS Γ Z H (fun x => Tot φ x ∨ A x) (putE env i p) Dn) : Dn.nx (σ.set i (some v)) H := by
  unfold putE at P
  split at P
  · rename_i hi
    refine P _ H Z _ (S.put hi hio o (fun j a _ h z => (dj a z).1 ⟨j, h⟩) fun a z => (dj a z).2) ⟨fun _ _ q _ => q, fun _ z => z, fun _ z => .inl z, fun x ⟨j, z⟩ => .inl ?_⟩
    by_cases q : j = i
    · simp only [if_pos q] at z; exact .inr z
    · simp only [if_neg q] at z; exact .inl ⟨j, z⟩
  · exact P.elim
theorem es_set {i : Nat} {x : Str} {pos' : Pos} {fe : En → R (D × Nat)} (G : Good Γ) (hi : Γ.X.N[i]? = some x) (hx : Loc Γ.X.env.scope x) (hio : i ∉ Γ.io) (h : EvE Γ e fe) (hs : swapsWith e (some (.Name x pos')) pos.line Γ.X.env = pure false := by rfl)
    (hf : Γ.X.fn x = true ∨ Γ.X.env.scope.names.lookup x = some .local := by first | exact .inl rfl | exact .inr rfl | assumption) : EvS Γ (.Assign [.Name x pos'] e pos) (setS i fe) := by
  obtain ⟨t, h1, h2⟩ := h
  refine ⟨_, ps_set G.nd hi hx h1 hs hf, fun σ H Z env φ S Dn P => ?_⟩
  refine h2.then S P fun p env1 v H1 Z1 φ1 A e1 S1 o dj ev P1 => ?_
  exact put_ok hio S1 o dj P1
def iteS (c : En → R Bool) (f g : En → SR) : En → SR := fun env => (c env).then fun b env1 => if b = true then f env1 else g env1
theorem es_if {c : Expr} {fc : En → R Bool} {els : List Stmt} (hc : EvT Γ c fc) (ha : EvB Γ body f) (hb : EvB Γ els g) : EvS Γ (.If c body els pos) (iteS fc f g) := by
  obtain ⟨t, h1, h2⟩ := hc
  obtain ⟨u, k1, k2⟩ := ha
  obtain ⟨w, l1, l2⟩ := hb
  refine ⟨_, ps_if h1 k1 l1, fun σ H Z env φ S Dn P => ?_⟩
  refine h2.then S P fun b env1 b' H1 Z1 φ1 A e1 S1 q dj ev P1 => ?_
  cases (show b = b' from q)
  have P2 := P1.mono Evo.dropA
  cases b with
  | true => exact k2 σ H1 Z1 env1 φ1 S1 Dn P2
  | false => exact l2 σ H1 Z1 env1 φ1 S1 Dn P2

/-! ### several values, each with its own lists -/
inductive OwL (C : RC) (Z : Fp) (H : Hp) : List V → List (D × Nat) → Fp → Prop
  | nil {A : Fp} : (∀ a, ¬ A a) → OwL C Z H [] [] A
  | cons {v : V} {vs : List V} {p : D × Nat} {ps : List (D × Nat)} {A B U : Fp} : Ow C Z H p.2 v p.1 A → OwL C Z H vs ps B → (∀ a, A a → ¬ B a) → (∀ a, U a ↔ A a ∨ B a) → OwL C Z H (v :: vs) (p :: ps) U
abbrev LR (C : RC) : L2.St → Rel (List (D × Nat)) (List V) := fun _ A Z H ps vs => OwL C Z H vs ps A
def EvL (Γ : Ct) (es : List Expr) (f : En → R (List (D × Nat))) : Prop := ∃ t, PA Γ.X es t ∧ Ev Γ (LR Γ.C) f t
def lNil : En → R (List (D × Nat)) := fun env => .ok [] env
def lCons (u : En → R (D × Nat)) (r : En → R (List (D × Nat))) : En → R (List (D × Nat)) := fun env => (u env).bind fun d env1 => (r env1).bind fun ds env2 => .ok (d :: ds) env2
theorem el_nil : EvL Γ [] lNil := ⟨_, pa_nil, fun σ H Z env φ S Q P => Post.here P S (.nil fun _ z => z)⟩
theorem el_cons {es : List Expr} {u : En → R (D × Nat)} {r : En → R (List (D × Nat))} (ha : EvE Γ e u) (hr : EvL Γ es r) (hs : starEach (e :: es) Γ.X.env = (false, eval e Γ.X.env) :: starEach es Γ.X.env := by rfl) : EvL Γ (e :: es) (lCons u r) := by
  obtain ⟨t, h1, h2⟩ := ha
  obtain ⟨w, k1, k2⟩ := hr
  refine ⟨_, pa_cons h1 k1 hs, fun σ H Z env φ S Q P => ?_⟩
  refine h2.bind S P fun d env1 x H1 Z1 φ1 A e1 S1 q1 dj1 ev1 P1 => ?_
  -- the values in hand are kept apart: they are shared by no slot
  have P1' : Post Γ σ Z1 H1 (fun x => Tot φ1 x ∨ A x) (LR Γ.C σ) ((r env1).bind fun ds env2 => .ok (d :: ds) env2) Q := P1
  refine k2 σ H1 Z1 env1 φ1 S1 _ ?_
  cases e2 : r env1 with
  | ok ds env2 =>
    rw [e2] at P1'
    intro xs H2 Z2 φ2 B S2 q2 dj2 ev2
    have am := Ow.mut q1
    have aF : ∀ a, A a → ¬ Tot φ1 a := fun a z => (dj1 a z).1
    have aZ : ∀ a, A a → ¬ Z2 a := fun a z y => by
      rcases ev2.zn a y with y | y | y
      · exact (dj1 a z).2 y
      · exact aF a z y
      · have := am a z; rw [y] at this; exact this
    have aT : ∀ a, A a → ¬ (Tot φ2 a ∨ B a) := fun a z y => by
      rcases ev2.fn a y with y | y
      · exact aF a z y
      · have := am a z; rw [y] at this; exact this
    refine P1' (x :: xs) H2 Z2 φ2 (fun a => A a ∨ B a) S2 (.cons (Ow.ext (S1.ext ev2) q1 fun a o z h => ev2.keep a o h (aF a z)) q2 (fun a z y => aT a z (.inr y)) fun _ => Iff.rfl) (fun a z => z.elim (fun z => ⟨fun y => aT a z (.inl y), aZ a z⟩) (dj2 a)) ?_
    refine ⟨fun a o h n => ev2.keep a o h fun z => n (.inl z), ev2.zm, fun a z => (ev2.zn a z).imp id fun q => q.imp .inl id, fun a z => ?_⟩
    rcases z with z | z | z
    · exact (ev2.fn a (.inl z)).imp .inl id
    · exact .inl (.inr z)
    · exact (ev2.fn a (.inr z)).imp .inl id
  | ex x => rw [e2] at P1'; exact PostX.mono P1' (Evo.refl.sub fun _ z => .inl z)
  | no => rw [e2] at P1'; exact P1'
/-- a, b = x, y -/
def parS (i j : Nat) (fa : En → R (List (D × Nat))) : En → SR := fun env => (fa env).then fun ps env1 => match ps with
  | [p, q] => if i < env1.length ∧ j < env1.length then .nx ((env1.set i (some p)).set j (some q)) else .no
  | _ => .no
theorem es_par {i j : Nat} {x y : Str} {a b : Expr} {fa : En → R (List (D × Nat))} {px py pt : Pos} {kt k2 : Nat} {pt2 : Pos} (G : Good Γ) (hi : Γ.X.N[i]? = some x) (hj : Γ.X.N[j]? = some y) (hij : i ≠ j) (hio : i ∉ Γ.io) (hjo : j ∉ Γ.io)
    (hx : Γ.X.env.scope.names.lookup x = some .local) (hy : Γ.X.env.scope.names.lookup y = some .local) (ha : EvL Γ [a, b] fa)
    (hw : swappedStores [.Tuple [.Name x px, .Name y py] kt pt] (.Tuple [a, b] k2 pt2) Γ.X.env = pure (some [x, y]) := by rfl)
    (hs : swapsWithSole [.Tuple [.Name x px, .Name y py] kt pt] (.Tuple [a, b] k2 pt2) pos.line Γ.X.env = pure false := by rfl) :
    EvS Γ (.Assign [.Tuple [.Name x px, .Name y py] kt pt] (.Tuple [a, b] k2 pt2) pos) (parS i j fa) := by
  obtain ⟨t, h1, h2⟩ := ha
  refine ⟨_, ps_par G.calm G.nd hi hj hij hx hy h1 hw hs, fun σ H Z env φ S Dn P => ?_⟩
  refine h2.then S P fun ps env1 vs H1 Z1 φ1 A e1 S1 q1 dj1 ev1 P1 => ?_
  have q1 : OwL Γ.C Z1 H1 vs ps A := q1
  cases q1 with
  | nil _ => exact P1.elim
  | @cons v vs p ps A1 B U o r d1 u1 =>
    cases r with
    | nil _ => exact P1.elim
    | @cons w ws q qs A2 B2 U2 o2 r2 d2 u2 =>
      cases r2 with
      | cons _ _ _ _ => exact P1.elim
      | nil n2 =>
        refine ⟨v, w, rfl, ?_⟩
        simp only at P1
        split at P1
        · rename_i hl
          have S2 := S1.put hl.1 hio o (fun j a _ h z => (dj1 a ((u1 a).mpr (.inl z))).1 ⟨j, h⟩) fun a z => (dj1 a ((u1 a).mpr (.inl z))).2
          have S3 := S2.put (i := j) (by simpa using hl.2) hjo o2 (fun l a hlj h z => by
            by_cases q : l = i
            · simp only [if_pos q] at h
              exact d1 a h ((u2 a).mpr (.inl z))
            · simp only [if_neg q] at h
              exact (dj1 a ((u1 a).mpr (.inr ((u2 a).mpr (.inl z))))).1 ⟨l, h⟩) fun a z => (dj1 a ((u1 a).mpr (.inr ((u2 a).mpr (.inl z))))).2
          refine P1 _ H1 Z1 _ S3 ⟨fun _ _ q _ => q, fun _ z => z, fun _ z => .inl z, fun x ⟨l, z⟩ => .inl ?_⟩
          by_cases q : l = j
          · simp only [if_pos q] at z; exact .inr ((u1 x).mpr (.inr ((u2 x).mpr (.inl z))))
          · simp only [if_neg q] at z
            by_cases q2 : l = i
            · simp only [if_pos q2] at z; exact .inr ((u1 x).mpr (.inl z))
            · simp only [if_neg q2] at z; exact .inl ⟨l, z⟩
        · exact P1.elim
end

/-! ### defs -/
/-- what a call hands back -/
inductive FR where
  | ok (p : D × Nat) (fin : Sl) | ex (x : Xn) | no
/-- what the first argument's lists are behind the call -/
def FinOk (C : RC) (Z : Fp) (H : Hp) (v₀ : V) (s : Sl) (φ : Fp) : Prop :=
  match s with
  | some q => Ow C Z H q.2 v₀ q.1 φ
  | none => ∀ a, ¬ φ a
/-- a def's promise: F of the arguments' data. io: the first argument's lists may be changed, then what they are stands in fin -/
def spF (C : RC) (n : Nat) (io : Bool) (F : Sl → List D → FR) : Sp := fun vs H Q E => vs.length = n ∧
  match io, vs with
  | false, vs => ∃ ds Z, ShL C Z H vs ds ∧ (∀ a, Z a → H a ≠ none) ∧ (match F none ds with
    | .ok p _ => ∀ v H' Z' A, Ow C Z' H' p.2 v p.1 A → (∀ a, A a → ¬ Z' a) → (∀ a, Z' a → H' a ≠ none) → Evo Z H (fun _ => False) Z' H' A → Q v H'
    | .ex x => ∀ cls dx H' Z', Evo Z H (fun _ => False) Z' H' (fun _ => False) → (∀ a, Z' a → H' a ≠ none) → ExR C Z' H' x cls dx → E cls dx H'
    | .no => False)
  | true, [] => False
  | true, v₀ :: vs => ∃ p₀ ds Z A₀, Ow C Z H p₀.2 v₀ p₀.1 A₀ ∧ ShL C Z H vs ds ∧ (∀ a, A₀ a → ¬ Z a) ∧ (∀ a, Z a → H a ≠ none) ∧ (match F (some p₀) ds with
    | .ok p fin => ∀ v H' Z' A φ, Ow C Z' H' p.2 v p.1 A → FinOk C Z' H' v₀ fin φ → (∀ a, A a → ¬ φ a ∧ ¬ Z' a) → (∀ a, φ a → ¬ Z' a) → (∀ a, Z' a → H' a ≠ none) → Evo Z H A₀ Z' H' (fun a => φ a ∨ A a) → Q v H'
    | .ex x => ∀ cls dx H' Z', Evo Z H A₀ Z' H' (fun _ => False) → (∀ a, Z' a → H' a ≠ none) → ExR C Z' H' x cls dx → E cls dx H'
    | .no => False)
abbrev FnV (P : Program) (w : World) (K : PySem.W.Frag) (mg : Str → Option Value) (base : Heap) (C : RC) (k : Nat) (f : Addr) (fd : FuncData) (ps : List Str) (io : Bool) (F : Sl → List D → FR) : Prop :=
  FnOk P w K mg base (L2.CX P w) k f fd ps (spF C ps.length io F)
/-- the slots at the entry -/
def en0 (n : Nat) (a₀ : Sl) (ds : List D) : En := (match a₀ with
  | some p => [some p]
  | none => []) ++ ds.map (fun d => some (d, 0)) ++ List.replicate (n - ((match a₀ with
  | some _ => 1
  | none => 0) + ds.length)) none
/-- what a body makes of the entry -/
def fnF (n : Nat) (io : Bool) (f : En → SR) : Sl → List D → FR := fun a₀ ds =>
  match f (en0 n a₀ ds) with
  | .nx e => .ok (.non, 0) (if io then (e[0]?).getD none else none)
  | .ret p e => .ok p (if io then (e[0]?).getD none else none)
  | .ex x => .ex x
  | _ => .no
end Pv
end

section
set_option Elab.async false
set_option linter.all false
set_option maxRecDepth 100000
set_option maxHeartbeats 4000000
/-! Pv8: a def by its body; calls of defs. -/
namespace Pv
open PySem PySem.Spec PyProof.Rows L2

/-- the place where a body's proof stands -/
def bodyCt (P : Program) (w : World) (K : PySem.W.Frag) (mg : Str → Option Value) (base : Heap) (C : RC) (N : List Str) (qual : Str) (sc : Scope) (f : Addr) (fx : List Nat) (cdv : Value) (A : Around) (outer : List Env) (s : Shared) (H : Hp) (E : XK) (σ₀ : L2.St) : Ct :=
  ⟨cxOf (L2.CX P w) P w K mg base N qual sc f cdv A outer s H E, C, fun cls d _ H' => E cls d H', fx, σ₀⟩
theorem en0_none {n : Nat} {ds : List D} {i : Nat} {d : D} {k : Nat} (h : (en0 n none ds)[i]? = some (some (d, k))) : ds[i]? = some d ∧ k = 0 := by
  unfold en0 at h
  rw [List.nil_append] at h
  by_cases hi : i < ds.length
  · rw [List.getElem?_append_left (by simpa using hi), List.getElem?_map] at h
    cases e : ds[i]? with
    | none => rw [e] at h; cases h
    | some d' => rw [e] at h; cases h; exact ⟨rfl, rfl⟩
  · rw [List.getElem?_append_right (by simpa using Nat.le_of_not_lt hi), List.getElem?_replicate] at h
    exact absurd h (by split <;> simp)
theorem start_get {N : List Str} {vs : List V} {i : Nat} {v : V} (h : vs[i]? = some v) : (start N vs)[i]? = some (some v) := by
  unfold L2.start
  have hi := (List.getElem?_eq_some_iff.mp h).1
  rw [List.getElem?_append_left (by simpa using hi), List.getElem?_map, h]
  rfl
theorem en0_len {N : List Str} {vs : List V} {a₀ : Sl} {ds : List D} {m : Nat} (hv : vs.length = m) (hm : m ≤ N.length) (hd : (match a₀ with
    | some _ => 1
    | none => 0) + ds.length = m) : (start N vs).length = (en0 N.length a₀ ds).length := by
  unfold L2.start en0
  cases a₀ with
  | none => simp at hd ⊢; omega
  | some p => simp at hd ⊢; omega
section
variable {P : Program} {w : World} {K : PySem.W.Frag} {mg : Str → Option Value} {base : Heap} {C : RC}
theorem fnV_of {x qual : Str} {st : Stmt} {f : Addr} {fd : FuncData} {N ps : List Str} {k : Nat} {g : En → SR} (F : Fun K x qual st f fd) (S : FnScope N ps (defScope st)) (io : Bool) (fx : List Nat) (hC : C.K = K)
    (hio : io = true → 0 < ps.length ∧ 0 ∈ fx)
    (hb : ∀ cdv A outer s H E σ₀, Room k (A.deeper (envOfC qual (defScope st) s.heap.objs.size f cdv)) → Good (bodyCt P w K mg base C N qual (defScope st) f fx cdv A outer s H E σ₀) → EvB (bodyCt P w K mg base C N qual (defScope st) f fx cdv A outer s H E σ₀) (defBody st) g) :
    FnV P w K mg base C (k + 1) f fd ps io (fnF N.length io g) := by
  have hpn : ps.length ≤ N.length := by
    have := congrArg List.length S.pre
    rw [List.length_take] at this
    omega
  refine F.okX S (fun vs H Q E h => h.1) fun cdv A outer s H vs Q E hr h => ?_
  have G : Good (bodyCt P w K mg base C N qual (defScope st) f fx cdv A outer s H E (start N vs)) := ⟨hC, S.nd, rfl, takes_of rfl rfl rfl rfl⟩
  obtain ⟨t, h1, h2⟩ := hb cdv A outer s H E (start N vs) hr G
  refine ⟨t, h1, ?_⟩
  obtain ⟨hl, h⟩ := h
  cases io with
  | false =>
    obtain ⟨ds, Z, r, zh, q⟩ := h
    have St0 : SttC (bodyCt P w K mg base C N qual (defScope st) f fx cdv A outer s H E (start N vs)) Z (start N vs) H (en0 N.length none ds) (fun _ _ => False) :=
      { len := en0_len hl hpn (by simp only [Nat.zero_add]; rw [← r.length]; exact hl)
        slot := fun i d k hi => by
          obtain ⟨e1, rfl⟩ := en0_none hi
          obtain ⟨v, e2, e3⟩ := r.get' e1
          exact ⟨v, start_get e2, e3, fun _ z => z⟩
        off := fun _ _ _ z => z
        dj := fun _ _ _ z => z.elim
        nz := fun _ _ z => z.elim
        zh := zh
        io := fun _ _ => rfl
        l0 := fun _ => rfl }
    have T0 : ∀ a, ¬ Tot (fun (_ : Nat) (_ : Addr) => False) a := fun a ⟨_, z⟩ => z
    have ev0 : ∀ {Z' H' F'}, Evo Z H (Tot (fun (_ : Nat) (_ : Addr) => False)) Z' H' F' → ∀ {F2 : Fp}, (∀ a, F2 a → F' a) → Evo Z H (fun _ => False) Z' H' F2 := fun {Z' H' F'} e {F2} hs => (e.sub hs).mono0 T0
    refine h2 _ H Z _ _ St0 _ ?_
    unfold fnF at q
    cases e : g (en0 N.length none ds) with
    | nx env =>
      rw [e] at q
      exact fun σ' H' Z' φ' S' ev => q .non H' Z' (fun _ => False) (Ow.sh .non) (fun _ z => z.elim) S'.zh (ev0 ev fun _ z => z.elim)
    | ret p env =>
      rw [e] at q
      exact fun v σ' H' Z' φ' B S' o d ev => q v H' Z' B o (fun a z => (d a z).2) S'.zh (ev0 ev fun _ z => .inr z)
    | ex x =>
      rw [e] at q
      exact fun σ' _ _ cls dx H' Z' ev zh' xr => q cls dx H' Z' (ev0 ev fun _ z => z.elim) zh' xr
    | bk env => rw [e] at q; exact q.elim
    | ct env => rw [e] at q; exact q.elim
    | no => rw [e] at q; exact q.elim
  | true =>
    cases vs with
    | nil => exact h.elim
    | cons v₀ vs =>
      obtain ⟨p₀, ds, Z, A₀, o₀, r, nz₀, zh, q⟩ := h
      obtain ⟨hp0, hfx⟩ := hio rfl
      have get1 : ∀ i d k, (en0 N.length (some p₀) ds)[i + 1]? = some (some (d, k)) → ds[i]? = some d ∧ k = 0 := fun i d k hi => by
        have : (en0 N.length (some p₀) ds)[i + 1]? = (ds.map (fun d => some (d, 0)) ++ List.replicate (N.length - (1 + ds.length)) (none : Sl))[i]? := by
          unfold en0
          simp only [List.cons_append, List.nil_append, List.getElem?_cons_succ]
        rw [this] at hi
        by_cases hi2 : i < ds.length
        · rw [List.getElem?_append_left (by simpa using hi2), List.getElem?_map] at hi
          cases e : ds[i]? with
          | none => rw [e] at hi; cases hi
          | some d' => rw [e] at hi; cases hi; exact ⟨rfl, rfl⟩
        · rw [List.getElem?_append_right (by simpa using Nat.le_of_not_lt hi2), List.getElem?_replicate] at hi
          exact absurd hi (by split <;> simp)
      have St0 : SttC (bodyCt P w K mg base C N qual (defScope st) f fx cdv A outer s H E (start N (v₀ :: vs))) Z (start N (v₀ :: vs)) H (en0 N.length (some p₀) ds) (fun i a => i = 0 ∧ A₀ a) :=
        { len := en0_len hl hpn (by have := r.length; simp at hl ⊢; omega)
          slot := fun i d k hi => by
            cases i with
            | zero =>
              have e : p₀ = (d, k) := by
                have : (en0 N.length (some p₀) ds)[0]? = some (some p₀) := by unfold en0; simp
                rw [this] at hi
                exact Option.some.inj (Option.some.inj hi)
              subst e
              exact ⟨v₀, start_get rfl, o₀.congr fun a => ⟨fun z => ⟨rfl, z⟩, fun z => z.2⟩⟩
            | succ i =>
              obtain ⟨e1, rfl⟩ := get1 i d k hi
              obtain ⟨v, e2, e3⟩ := r.get' e1
              exact ⟨v, start_get (by simpa using e2), e3, fun _ z => nomatch z.1⟩
          off := fun i h a z => by
            obtain ⟨rfl, z⟩ := z
            exact h p₀ (by unfold en0; simp)
          dj := fun _ _ _ z y => z.1.trans y.1.symm
          nz := fun _ a z => nz₀ a z.2
          zh := zh
          io := fun _ _ => rfl
          l0 := fun _ => rfl }
      have T0 : ∀ a, Tot (fun (i : Nat) (a : Addr) => i = 0 ∧ A₀ a) a ↔ A₀ a := fun a => ⟨fun ⟨_, z⟩ => z.2, fun z => ⟨0, rfl, z⟩⟩
      have ev0 : ∀ {Z' H' F'}, Evo Z H (Tot (fun (i : Nat) (a : Addr) => i = 0 ∧ A₀ a)) Z' H' F' → ∀ {F2 : Fp}, (∀ a, F2 a → F' a) → Evo Z H A₀ Z' H' F2 := fun {Z' H' F'} e {F2} hs => (e.sub hs).more fun a z => (T0 a).mp z
      have fin : ∀ {σ' : L2.St} {H' : Hp} {Z' : Fp} {φ' : Nat → Fp} {env : En}, SttC (bodyCt P w K mg base C N qual (defScope st) f fx cdv A outer s H E (start N (v₀ :: vs))) Z' σ' H' env φ' →
          FinOk C Z' H' v₀ ((env[0]?).getD none) (φ' 0) := fun {σ' H' Z' φ' env} S' => by
        cases e : (env[0]?).getD none with
        | none =>
          refine S'.off 0 fun p hp => ?_
          rw [hp] at e; cases e
        | some q =>
          obtain ⟨d, k⟩ := q
          have e2 : env[0]? = some (some (d, k)) := by
            cases e3 : env[0]? with
            | none => rw [e3] at e; cases e
            | some y => rw [e3] at e; exact congrArg some e
          obtain ⟨v, hv, o⟩ := S'.slot 0 d k e2
          have hs : σ'[0]? = (start N (v₀ :: vs))[0]? := S'.io 0 hfx
          rw [hs, start_get (v := v₀) rfl] at hv
          cases hv
          exact o
      refine h2 _ H Z _ _ St0 _ ?_
      unfold fnF at q
      cases e : g (en0 N.length (some p₀) ds) with
      | nx env =>
        rw [e] at q
        exact fun σ' H' Z' φ' S' ev => q .non H' Z' (fun _ => False) (φ' 0) (Ow.sh .non) (fin S') (fun _ z => z.elim) (fun a z => S'.nz 0 a z) S'.zh (ev0 ev fun a z => z.elim (fun z => ⟨0, z⟩) fun z => z.elim)
      | ret p env =>
        rw [e] at q
        exact fun v σ' H' Z' φ' B S' o d ev => q v H' Z' B (φ' 0) o (fin S') (fun a z => ⟨fun y => (d a z).1 ⟨0, y⟩, (d a z).2⟩) (fun a z => S'.nz 0 a z) S'.zh (ev0 ev fun a z => z.imp (fun z => ⟨0, z⟩) id)
      | ex x =>
        rw [e] at q
        exact fun σ' _ _ cls dx H' Z' ev zh' xr => q cls dx H' Z' (ev0 ev fun _ z => z.elim) zh' xr
      | bk env => rw [e] at q; exact q.elim
      | ct env => rw [e] at q; exact q.elim
      | no => rw [e] at q; exact q.elim
end

/-! ### calls -/
section
variable {Γ : Ct} {k : Nat} {f : Addr} {fd : FuncData} {ps : List Str} {F : Sl → List D → FR} {x : Str} {p pos : Pos} {e : Expr} {es : List Expr}
abbrev FnC (Γ : Ct) (k : Nat) (f : Addr) (fd : FuncData) (ps : List Str) (io : Bool) (F : Sl → List D → FR) : Prop := FnV Γ.X.prog Γ.X.w Γ.X.K Γ.X.mg Γ.X.base Γ.C k f fd ps io F
def frR (r : FR) (env : En) : R (D × Nat) :=
  match r with
  | .ok p _ => .ok p env
  | .ex x => .ex x
  | .no => .no
def callF (n : Nat) (F : Sl → List D → FR) (r : En → R (List D)) : En → R (D × Nat) := fun env => (r env).bind fun ds env1 => if ds.length = n then frR (F none ds) env1 else .no
theorem call_core {σ : L2.St} {Z : Fp} {H : Hp} {env : En} {φ : Nat → Fp} (S : SttC Γ Z σ H env φ) {vs : List V} {ds : List D} {n : Nat} (hn : ∀ H Q E, spF Γ.C n false F vs H Q E → vs.length = n) (hl : vs.length = n) (r : ShL Γ.C Z H vs ds) {Q : VK}
    (P : Post Γ σ Z H (Tot φ) (ER Γ.C σ) (frR (F none ds) env) Q) : spF Γ.C n false F vs H Q (WE Γ.W σ) := by
  refine ⟨hl, ds, Z, r, S.zh, ?_⟩
  have go : ∀ {Z' H' A}, Evo Z H (fun _ => False) Z' H' A → (∀ a, Z' a → H' a ≠ none) → SttC Γ Z' σ H' env φ := fun {Z' H' A} ev zh => S.go (ev.ext (fun _ z => z.elim) fun _ z => z.elim) (fun a o _ h => ev.keep a o h fun z => z) (fun a z y => by
    rcases ev.zn a y with y | y | y
    · exact S.tnz a z y
    · exact y
    · have := S.mu a z; rw [y] at this; exact this) zh
  cases e : F none ds with
  | ok q fin =>
    rw [e] at P
    intro v H' Z' A o nz zh ev
    refine P v H' Z' φ A (go ev zh) o (fun a z => ⟨fun y => ?_, nz a z⟩) ⟨fun a u h _ => ev.keep a u h fun z => z, ev.zm, fun a z => (ev.zn a z).imp id fun q => q.imp (fun z => z.elim) id, fun a z => z.elim .inl fun z => .inr ((ev.fn a z).elim (fun z => z.elim) id)⟩
    rcases ev.fn a z with z | z
    · exact z
    · have := S.mu a y; rw [z] at this; exact this
  | ex x =>
    rw [e] at P
    exact fun cls dx H' Z' ev zh xr => P cls dx H' Z' (ev.more fun _ z => z.elim) zh xr
  | no => rw [e] at P; exact P
theorem ev_call (G : Good Γ) (hF : FnC Γ k f fd ps false F) (hr : Room k Γ.X.A) (hg : Gl Γ.X x) (hm : Γ.X.mg x = some (.ref f)) (hk : PySem.W.keepIn Γ.X.K (.ref f) = true) (hb : Binds Γ.X.K fd ps []) {r : En → R (List D)} (ha : EvA Γ (e :: es) r) 
    (hdb : (x == ("__debug__" : Str)) = false := by decide) (he : starEach (e :: es) Γ.X.env = (false, eval e Γ.X.env) :: starEach es Γ.X.env := by rfl) (hpl : (backTo pos (starEach es Γ.X.env)).any (·.1) = false := by rfl) :
    EvE Γ (.Call (.Name x p) (e :: es) [] pos) (callF ps.length F r) := by
  obtain ⟨t, h1, h2⟩ := ha
  refine ⟨_, pe_callS hF hr hg hm hk hb (passAt G.tk) h1 hdb he hpl, fun σ H Z env φ S Q P => ?_⟩
  refine h2.bind S P fun ds env1 vs H1 Z1 φ1 A e1 S1 q1 dj1 ev1 P1 => ?_
  have q1 : ShL Γ.C Z1 H1 vs ds := q1
  have P2 := P1.mono Evo.dropA
  by_cases hl : ds.length = ps.length
  · rw [if_pos hl] at P2
    exact call_core S1 (fun _ _ _ h => h.1) (by rw [q1.length]; exact hl) q1 P2
  · rw [if_neg hl] at P2; exact P2.elim

/-! a def that a slot holds -/
/-- which def stands for the number, at which place -/
structure FnT (Γ : Ct) (k : Nat) (T : Nat → Option (Nat × (Sl → List D → FR))) : Prop where
  at' : ∀ i n F, T i = some (n, F) → ∀ a, Γ.C.fa i = some a → ∃ fd ps, FnC Γ k a fd ps false F ∧ PySem.W.keepIn Γ.X.K (.ref a) = true ∧ Binds Γ.X.K fd ps [] ∧ ps.length = n
def callL (T : Nat → Option (Nat × (Sl → List D → FR))) (i : Nat) (r : En → R (List D)) : En → R (D × Nat) := fun env => match env[i]? with
  | some (some (.fn m, _)) => (match T m with
    | some (n, F) => callF n F r env
    | none => .no)
  | _ => .no
def tCallX (W : WX) (i : Nat) (S : Addr → Sp → Prop) (t : TA) : TE := fun σ H Q => ∃ f sp, σ[i]? = some (some (.ref f)) ∧ S f sp ∧ t σ H fun vs H1 => sp vs H1 Q (WE W σ)
theorem pe_callX {X : Cx} {W : WX} {i : Nat} {S : Addr → Sp → Prop} {t : TA} (tk : Takes X W) (hS : ∀ f sp, S f sp → ∃ fd ps, FnOk X.prog X.w X.K X.mg X.base (L2.CX X.prog X.w) k f fd ps sp ∧ PySem.W.keepIn X.K (.ref f) = true ∧ Binds X.K fd ps []) (hr : Room k X.A) (hN : X.N[i]? = some x) (hv : Vis X.env.scope x) (ha : PA X (e :: es) t)
    (hdb : (x == ("__debug__" : Str)) = false := by decide) (hcd : (x == ("__classdict__" : Str)) = false := by decide)
    (he : starEach (e :: es) X.env = (false, eval e X.env) :: starEach es X.env := by rfl) (hpl : (backTo pos (starEach es X.env)).any (·.1) = false := by rfl) : PE X (.Call (.Name x p) (e :: es) [] pos) (tCallX W i S t) := by
  refine ⟨fun pins s σ H Q I h => ?_⟩
  obtain ⟨f, sp, hs, hSf, ht⟩ := h
  obtain ⟨fd, ps, F, hk, hb⟩ := hS f sp hSf
  refine wpAny_Call_Name_kw (thn ((pe_var (pos := p) hN hv hdb hcd).run pins s σ H (fun v H1 => v = .ref f ∧ H1 = H) I ⟨.ref f, hs, rfl, rfl⟩) fun u s1 ⟨v, H1, I1, r1, q1⟩ => ?_)
  obtain ⟨rfl, rfl⟩ := q1
  cases r1
  refine PySem.W.callWith_K (h₀ := X.base) I.ok.mod.kin hk (thn (ha.run pos pins s1 σ _ _ I1 ht) fun us s2 ⟨vs, H2, I2, r, q⟩ => ⟨I2.kIn, ?_⟩) he hpl
  exact run_fnS (E := WE W) F hr hb (passAt tk σ) I2 r q
theorem ev_callL (G : Good Γ) {T : Nat → Option (Nat × (Sl → List D → FR))} {i : Nat} (hT : FnT Γ k T) (hr : Room k Γ.X.A) (hN : Γ.X.N[i]? = some x) (hv : Vis Γ.X.env.scope x) {r : En → R (List D)} (ha : EvA Γ (e :: es) r)
    (hdb : (x == ("__debug__" : Str)) = false := by decide) (hcd : (x == ("__classdict__" : Str)) = false := by decide) (he : starEach (e :: es) Γ.X.env = (false, eval e Γ.X.env) :: starEach es Γ.X.env := by rfl) (hpl : (backTo pos (starEach es Γ.X.env)).any (·.1) = false := by rfl) :
    EvE Γ (.Call (.Name x p) (e :: es) [] pos) (callL T i r) := by
  obtain ⟨t, h1, h2⟩ := ha
  refine ⟨_, pe_callX (k := k) (W := Γ.W) (i := i) (S := fun f sp => ∃ m n F, Γ.C.fa m = some f ∧ T m = some (n, F) ∧ sp = spF Γ.C n false F) G.tk (fun f sp ⟨m, n, F, e1, e2, e3⟩ => ?_) hr hN hv h1 hdb hcd he hpl, fun σ H Z env φ S Q P => ?_⟩
  · obtain ⟨fd, ps, q1, q2, q3, q4⟩ := hT.at' m n F e2 f e1
    subst e3 q4
    exact ⟨fd, ps, q1, q2, q3⟩
  · unfold callL at P
    split at P
    · rename_i m d0 hm
      obtain ⟨v, hv1, o⟩ := S.slot i _ _ hm
      have sh := o.im_inv rfl
      cases sh with
      | @fn _ f0 hf =>
        cases eT : T m with
        | none => rw [eT] at P; exact P.elim
        | some nF =>
          obtain ⟨n, F⟩ := nF
          rw [eT] at P
          refine ⟨f0, spF Γ.C n false F, hv1, ⟨m, n, F, hf, eT, rfl⟩, ?_⟩
          refine h2.bind S P fun ds env1 vs H1 Z1 φ1 A e1 S1 q1 dj1 ev1 P1 => ?_
          have q1 : ShL Γ.C Z1 H1 vs ds := q1
          have P2 := P1.mono Evo.dropA
          by_cases hl : ds.length = n
          · rw [if_pos hl] at P2
            exact call_core S1 (fun _ _ _ h => h.1) (by rw [q1.length]; exact hl) q1 P2
          · rw [if_neg hl] at P2; exact P2.elim
    · exact P.elim

/-! a def that changes its first argument's lists -/
def callI (n : Nat) (F : Sl → List D → FR) (i : Nat) (r : En → R (List D)) : En → R (D × Nat) := fun env => match env[i]? with
  | some (some _) => (r env).bind fun ds env1 => if ds.length + 1 = n then
    (match env1[i]? with
      | some (some q) => (match F (some q) ds with
        | .ok p fin => .ok p (env1.set i fin)
        | .ex x => .ex x
        | .no => .no)
      | _ => .no) else .no
  | _ => .no
theorem Stt.putSl {i : Nat} {C : RC} {io : List Nat} {σ₀ σ : L2.St} {Z : Fp} {H : Hp} {env : En} {φ : Nat → Fp} (S : Stt C io σ₀ Z σ H (env.set i none) φ) {v : V} (hi : i < env.length) (hv : σ[i]? = some (some v)) {s : Sl} {A : Fp} (o : FinOk C Z H v s A) (dj : ∀ j a, j ≠ i → φ j a → ¬ A a) (nz : ∀ a, A a → ¬ Z a) :
    Stt C io σ₀ Z σ H (env.set i s) (fun j => if j = i then A else φ j) := by
  cases s with
  | some q =>
    have S2 := S.reput (i := i) (by simpa using hi) hv o dj nz
    have e1 : (env.set i none).set i (some (q.1, q.2)) = env.set i (some q) := by rw [List.set_set]
    rw [e1] at S2
    exact S2
  | none =>
    have o : ∀ a, ¬ A a := o
    have h0 : ∀ a, ¬ φ i a := S.off i fun p h => by rw [List.getElem?_set_self hi] at h; cases h
    have e : (fun j => if j = i then A else φ j) = φ := by
      funext j
      by_cases q : j = i
      · rw [if_pos q]
        funext a
        exact propext ⟨fun z => (o a z).elim, fun z => (h0 a (q ▸ z)).elim⟩
      · rw [if_neg q]
    rw [e]
    exact S
theorem ev_callI (G : Good Γ) (hF : FnC Γ k f fd ps true F) (hr : Room k Γ.X.A) (hg : Gl Γ.X x) (hm : Γ.X.mg x = some (.ref f)) (hk : PySem.W.keepIn Γ.X.K (.ref f) = true) (hb : Binds Γ.X.K fd ps []) {i : Nat} {y : Str} {yp : Pos} (hN : Γ.X.N[i]? = some y) (hv : Vis Γ.X.env.scope y) {r : En → R (List D)} (ha : EvA Γ es r)
    (hdb : (x == ("__debug__" : Str)) = false := by decide) (hdy : (y == ("__debug__" : Str)) = false := by decide) (hcy : (y == ("__classdict__" : Str)) = false := by decide) (he : starEach (.Name y yp :: es) Γ.X.env = (false, eval (.Name y yp) Γ.X.env) :: starEach es Γ.X.env := by rfl) (hpl : (backTo pos (starEach es Γ.X.env)).any (·.1) = false := by rfl) :
    EvE Γ (.Call (.Name x p) (.Name y yp :: es) [] pos) (callI ps.length F i r) := by
  obtain ⟨t, h1, h2⟩ := ha
  refine ⟨_, pe_callS hF hr hg hm hk hb (passAt G.tk) (pa_cons (pe_var hN hv hdy hcy) h1 he) hdb he hpl, fun σ H Z env φ S Q P => ?_⟩
  show ∃ v, σ[i]? = some (some v) ∧ t σ H fun vs H1 => spF Γ.C ps.length true F (v :: vs) H1 Q (WE Γ.W σ)
  unfold callI at P
  split at P
  case h_2 => exact P.elim
  rename_i q₀ hq₀
  obtain ⟨v₀, hv₀, _⟩ := S.slot i q₀.1 q₀.2 hq₀
  refine ⟨v₀, hv₀, ?_⟩
  suffices key : ∀ v, σ[i]? = some (some v) → t σ H fun vs H1 => spF Γ.C ps.length true F (v :: vs) H1 Q (WE Γ.W σ) from key v₀ hv₀
  intro v hv0
  · refine h2.bind S P fun ds env1 vs H1 Z1 φ1 A e1 S1 q1 dj1 ev1 P1 => ?_
    have q1 : ShL Γ.C Z1 H1 vs ds := q1
    have P2 := P1.mono Evo.dropA
    by_cases hl : ds.length + 1 = ps.length
    · rw [if_pos hl] at P2
      split at P2
      · rename_i q hq
        obtain ⟨d0, k0⟩ := q
        obtain ⟨v', hv', o⟩ := S1.slot i d0 k0 hq
        rw [hv0] at hv'; cases hv'
        have hi : i < env1.length := (List.getElem?_eq_some_iff.mp hq).1
        refine ⟨by rw [List.length_cons, q1.length]; exact hl, (d0, k0), ds, Z1, φ1 i, o, q1, fun a z => S1.nz i a z, S1.zh, ?_⟩
        have Sd := S1.drop i
        have go : ∀ {Z' H' B}, Evo Z1 H1 (φ1 i) Z' H' B → (∀ a, Z' a → H' a ≠ none) → SttC Γ Z' σ H' (env1.set i none) (fun j a => j ≠ i ∧ φ1 j a) := fun {Z' H' B} ev zh =>
          Sd.go (ev.ext (fun a z => S1.mu a ⟨i, z⟩) fun a z => S1.nz i a z) (fun a u ⟨j, hj, z⟩ h => ev.keep a u h fun y => hj (S1.dj j i a z y)) (fun a ⟨j, hj, z⟩ y => by
            rcases ev.zn a y with y | y | y
            · exact S1.nz j a z y
            · exact hj (S1.dj j i a z y)
            · have := S1.mu a ⟨j, z⟩; rw [y] at this; exact this) zh
        cases eF : F (some (d0, k0)) ds with
        | ok p' fin =>
          rw [eF] at P2
          intro w H' Z' B φ₀ o' fo d1 d2 zh ev
          have S3 := go ev zh
          have fr : ∀ a, (φ₀ a ∨ B a) → ∀ j, j ≠ i → ¬ φ1 j a := fun a z j hj y => by
            rcases ev.fn a z with z | z
            · exact hj (S1.dj j i a y z)
            · have := S1.mu a ⟨j, y⟩; rw [z] at this; exact this
          have S4 := S3.putSl hi hv0 fo (fun j a hj z y => fr a (.inl y) j hj z.2) d2
          refine P2 w H' Z' _ B S4 o' (fun a z => ⟨fun ⟨j, y⟩ => ?_, (d1 a z).2⟩) ⟨fun a u h n => ev.keep a u h fun z => n ⟨i, z⟩, ev.zm, fun a z => (ev.zn a z).imp id fun q => q.imp (fun z => ⟨i, z⟩) id, fun a z => ?_⟩
          · by_cases q : j = i
            · simp only [if_pos q] at y; exact (d1 a z).1 y
            · simp only [if_neg q] at y; exact fr a (.inr z) j q y.2
          · rcases z with ⟨j, z⟩ | z
            · by_cases q : j = i
              · simp only [if_pos q] at z; exact (ev.fn a (.inl z)).imp (fun z => ⟨i, z⟩) id
              · simp only [if_neg q] at z; exact .inl ⟨j, z.2⟩
            · exact (ev.fn a (.inr z)).imp (fun z => ⟨i, z⟩) id
        | ex x =>
          rw [eF] at P2
          exact fun cls dx H' Z' ev zh xr => P2 cls dx H' Z' (ev.more fun a z => ⟨i, z⟩) zh xr
        | no => rw [eF] at P2; exact P2
      · exact P2.elim
    · rw [if_neg hl] at P2; exact P2.elim
end
end Pv
end

section
set_option Elab.async false
set_option linter.all false
set_option maxRecDepth 100000
set_option maxHeartbeats 4000000
/-! Pv9: targets, what is walked, for, while, list comprehensions. -/
namespace Pv
open PySem PySem.Spec PyProof.Rows L2

/-! ### targets -/
section
variable {Γ : Ct} {x : Str} {p pos : Pos} {e a b : Expr} {es : List Expr}
def EvG (Γ : Ct) (tg : Expr) (ws : List Nat) (g : D → En → Option En) : Prop := ∃ t, PG Γ.X tg t ∧ ∀ σ H Z env φ, SttC Γ Z σ H env φ → ∀ v d env', Sh Γ.C Z H v d → g d env = some env' → ∀ Q : L2.St → Hp → Prop,
  (∀ σ' φ', SttC Γ Z σ' H env' φ' → (∀ a, Tot φ' a → Tot φ a) → (σ'.length = σ.length ∧ ∀ i, i ∉ ws → σ'[i]? = σ[i]?) → Q σ' H) → t v σ H Q
def EvGs (Γ : Ct) (tgs : List Expr) (ws : List Nat) (g : List D → En → Option En) : Prop := ∃ t, PGs Γ.X tgs t ∧ ∀ σ H Z env φ, SttC Γ Z σ H env φ → ∀ vs ds env', ShL Γ.C Z H vs ds → g ds env = some env' → ∀ Q : L2.St → Hp → Prop,
  (∀ σ' φ', SttC Γ Z σ' H env' φ' → (∀ a, Tot φ' a → Tot φ a) → (σ'.length = σ.length ∧ ∀ i, i ∉ ws → σ'[i]? = σ[i]?) → Q σ' H) → t vs σ H Q
def nameG (i : Nat) : D → En → Option En := fun d env => if i < env.length then some (env.set i (some (d, 0))) else none
theorem eg_name {i : Nat} (G : Good Γ) (hi : Γ.X.N[i]? = some x) (hx : Loc Γ.X.env.scope x) (hio : i ∉ Γ.io) (hf : Γ.X.fn x = true ∨ Γ.X.env.scope.names.lookup x = some .local := by first | exact .inl rfl | exact .inr rfl | assumption) : EvG Γ (.Name x pos) [i] (nameG i) := by
  refine ⟨_, pg_name G.nd hi hx hf, fun σ H Z env φ S v d env' sh hg Q q => ?_⟩
  unfold nameG at hg
  split at hg
  · rename_i hl
    cases hg
    refine q _ _ (S.put hl hio (Ow.sh sh) (fun _ _ _ _ z => z) fun _ z => z.elim) (fun a ⟨j, z⟩ => ?_) ⟨List.length_set, fun j hj => ?_⟩
    · by_cases q : j = i
      · simp only [if_pos q] at z
      · simp only [if_neg q] at z; exact ⟨j, z⟩
    · rw [List.getElem?_set_ne (by simpa [eq_comm] using hj)]
  · cases hg
def nilG : List D → En → Option En := fun ds env => if ds.isEmpty then some env else none
def consG (g : D → En → Option En) (r : List D → En → Option En) : List D → En → Option En := fun ds env => match ds with
  | d :: ds => (g d env).bind fun env1 => r ds env1
  | [] => none
theorem egs_nil : EvGs Γ [] [] nilG := by
  refine ⟨_, pgs_nil, fun σ H Z env φ S vs ds env' sh hg Q q => ?_⟩
  unfold nilG at hg
  split at hg
  · rename_i h
    cases hg
    cases sh with
    | nil => exact ⟨rfl, q σ φ S (fun _ z => z) ⟨rfl, fun _ _ => rfl⟩⟩
    | cons _ _ => cases h
  · cases hg
theorem egs_cons {ws us : List Nat} {g : D → En → Option En} {r : List D → En → Option En} (h1 : EvG Γ e ws g) (h2 : EvGs Γ es us r) (hs : (assignEach (e :: es) Γ.X.env).map (·.2) = assign e Γ.X.env :: (assignEach es Γ.X.env).map (·.2) := by rfl) : EvGs Γ (e :: es) (ws ++ us) (consG g r) := by
  obtain ⟨t, a1, a2⟩ := h1
  obtain ⟨u, b1, b2⟩ := h2
  refine ⟨_, pgs_cons a1 b1 hs, fun σ H Z env φ S vs ds env' sh hg Q q => ?_⟩
  unfold consG at hg
  cases sh with
  | nil => cases hg
  | @cons v vs d ds h r0 =>
    obtain ⟨env1, e1, e2⟩ := Option.bind_eq_some_iff.mp hg
    refine ⟨v, vs, rfl, a2 σ H Z env φ S v d env1 h e1 _ fun σ1 φ1 S1 t1 k1 => ?_⟩
    refine b2 σ1 H Z env1 φ1 S1 vs ds env' r0 e2 _ fun σ2 φ2 S2 t2 k2 => ?_
    exact q σ2 φ2 S2 (fun a z => t1 a (t2 a z)) ⟨k2.1.trans k1.1, fun i hi => (k2.2 i fun z => hi (List.mem_append_right _ z)).trans (k1.2 i fun z => hi (List.mem_append_left _ z))⟩
def tupG (n : Nat) (r : List D → En → Option En) : D → En → Option En := fun d env => match d with
  | .tup ds => if ds.length = n then r ds env else none
  | _ => none
theorem eg_tup {k : Nat} {ws : List Nat} {n : Nat} {r : List D → En → Option En} (G : Good Γ) (h : EvGs Γ es ws r) (hn : (assignEach es Γ.X.env).length = n := by rfl) (hst : (assignEach es Γ.X.env).findIdx? (·.1) = none := by rfl) : EvG Γ (.Tuple es k pos) ws (tupG n r) := by
  obtain ⟨t, h1, h2⟩ := h
  refine ⟨_, pg_tup G.calm h1 hn hst, fun σ H Z env φ S v d env' sh hg Q q => ?_⟩
  unfold tupG at hg
  split at hg
  · split at hg
    · rename_i hl
      cases sh with
      | tup s r0 =>
        have s' := s
        rw [G.hK] at s'
        exact ⟨_, _, rfl, s', by rw [r0.length]; exact hl, h2 σ H Z env φ S _ _ env' r0 hg Q q⟩
    · cases hg
  · cases hg
/-- target = value, the target of any form -/
def asgS (g : D → En → Option En) (f : En → R D) : En → SR := fun env => (f env).then fun d env1 => match g d env1 with
  | some e => .nx e
  | none => .no
theorem es_asg {ws : List Nat} {g : D → En → Option En} {f : En → R D} (he : EvV Γ e f) (hg : EvG Γ a ws g) (hs : swapsWithSole [a] e pos.line Γ.X.env = pure false := by rfl) (hw : swappedStores [a] e Γ.X.env = pure none := by rfl)
    (h1 : (assignEach [a] Γ.X.env).map (·.2) = [assign a Γ.X.env] := by rfl) : EvS Γ (.Assign [a] e pos) (asgS g f) := by
  obtain ⟨t, a1, a2⟩ := he
  obtain ⟨u, b1, b2⟩ := hg
  refine ⟨_, ps_asg a1 b1 hs hw h1, fun σ H Z env φ S Dn P => ?_⟩
  refine a2.then S P fun d env1 v H1 Z1 φ1 A e1 S1 q dj ev P1 => ?_
  have P2 := P1.mono Evo.dropA
  cases hg : g d env1 with
  | none => rw [hg] at P2; exact P2.elim
  | some env2 =>
    rw [hg] at P2
    exact b2 σ H1 Z1 env1 φ1 S1 v d env2 q hg _ fun σ' φ' S' t' _ => P2 σ' H1 Z1 φ' S' (Evo.refl.sub t')

/-! ### what is walked -/
def Grow (H H' : Hp) : Prop := H' = H ∨ ∃ T o, H T = none ∧ H' = upd H T o
def ItD (C : RC) (J : It) (ds : List D) (Z₀ : Fp) (H₀ : Hp) : Prop := ∀ Z H, Ext Z₀ H₀ Z H → J.stop ds.length H ∧ ∀ i d, ds[i]? = some d → J.go i H ∧ ∀ x H', J.yld i H x H' → Sh C Z H' x d ∧ Grow H H'
def EvI (Γ : Ct) (tg iter : Expr) (f : En → R (List D)) : Prop := ∃ wi, PI Γ.X tg iter wi ∧ ∀ σ H Z env φ, SttC Γ Z σ H env φ → ∀ R : It → Hp → Prop, (match f env with
  | .ok ds env1 => ∀ J H1 Z1 φ1, SttC Γ Z1 σ H1 env1 φ1 → ItD Γ.C J ds Z1 H1 → Evo Z H (Tot φ) Z1 H1 (Tot φ1) → R J H1
  | .ex x => PostX Γ σ Z H (Tot φ) x
  | .no => False) → wi σ H R
def iSeq (K : PySem.W.Frag) (tl : TE) : TI := fun σ H R => tl σ H fun v H1 => (∃ a xs, v = .ref a ∧ SqL K H1 a xs ∧ R (Itl K a) H1) ∨ (∃ a xs, v = .ref a ∧ SqT K H1 a xs ∧ R (Itt K a) H1) ∨ ∃ x, v = .str x ∧ R (Its x) H1
theorem pi_seq {X : Cx} {tg l : Expr} {tl : TE} (hl : PE X l tl) : PI X tg l (iSeq X.K tl) := by
  refine ⟨fun pins s σ H R I h => ?_⟩
  refine thn (hl.run pins s σ H _ I h) fun v s1 ⟨x, H1, I1, r1, q1⟩ => ?_
  rcases q1 with ⟨a, xs, rfl, hq, q⟩ | ⟨a, xs, rfl, hq, q⟩ | ⟨y, rfl, q⟩
  · have hk : PI X tg l (iList X.K tl) := pi_list hl
    cases r1
    obtain ⟨its, rv, p, hz⟩ := I1.list hq
    refine wpAny_pyIter_list p.isList ?_
    refine ⟨s1.heap.objs.size, [s1.heap.objs.size], _, _, H1, rfl, I1.kept (t' := s1.toks) fun b o e => Heap.get?_push_of_some _ e, turn_list a _, ⟨_, Heap.get?_push_size _ rfl, rfl, rfl⟩, fun b hb => ?_, q⟩
    have e : b = s1.heap.objs.size := by simpa using hb
    subst e
    exact I1.fpOk (Nat.le_refl _) (I1.hok.fresh (Nat.le_refl _))
  · cases r1
    obtain ⟨its, rv, p, hz⟩ := I1.tuple hq
    refine wpAny_pyIter_tuple (show s1.heap.IsTuple a its.toArray from p) ?_
    refine ⟨s1.heap.objs.size, [s1.heap.objs.size], _, _, H1, rfl, I1.kept (t' := s1.toks) fun b o e => Heap.get?_push_of_some _ e, turn_tuple a _, ⟨_, Heap.get?_push_size _ rfl, rfl, rfl⟩, fun b hb => ?_, q⟩
    have e : b = s1.heap.objs.size := by simpa using hb
    subst e
    exact I1.fpOk (Nat.le_refl _) (I1.hok.fresh (Nat.le_refl _))
  · obtain ⟨t, rfl⟩ := r1
    cases ha : y.cps.all (· < 128)
    · exact wpAny_pyIter_wide ha (pi_one (tk := s1.toks) I1 _ (turn_str _ y t "str_iterator" (.inr rfl)) ⟨_, Heap.get?_push_size _ rfl, rfl, rfl⟩ q)
    · exact wpAny_pyIter_ascii ha (pi_one (tk := s1.toks) I1 _ (turn_str _ y t "str_ascii_iterator" (.inl rfl)) ⟨_, Heap.get?_push_size _ rfl, rfl, rfl⟩ q)
/-- the items of a value that is walked -/
def itsD : D → Option (List D)
  | .lst ds => some ds
  | .tup ds => some ds
  | .scr ns => some (ns.map .int)
  | .str x => some (x.cps.toList.map fun c => .str ⟨#[c]⟩)
  | _ => none
def seqI' (f : En → R D) : En → R (List D) := fun env => (f env).bind fun d env1 => R.of (itsD d) env1
theorem ei_seq {tg l : Expr} {f : En → R D} (G : Good Γ) (h : EvV Γ l f) : EvI Γ tg l (seqI' f) := by
  obtain ⟨t, h1, h2⟩ := h
  refine ⟨_, pi_seq h1, fun σ H Z env φ S R P => ?_⟩
  refine h2 σ H Z env φ S _ ?_
  unfold seqI' at P
  cases e : f env with
  | ex x => rw [e] at P; exact P
  | no => rw [e] at P; exact P
  | ok d env1 =>
    rw [e] at P
    intro v H1 Z1 φ1 A S1 sh dj ev
    have ev' := ev.sub (F2 := Tot φ1) fun _ z => .inl z
    have sh : Sh Γ.C Z1 H1 v d := sh
    cases sh with
    | @lst a xs ds hs z r =>
      refine .inl ⟨a, xs, rfl, SqL.of hs, P (Itl Γ.X.K a) H1 Z1 φ1 S1 (fun Z2 H2 x => ?_) ev'⟩
      have h2' := x.zk a _ z hs
      have r2 := r.ext x
      refine ⟨⟨xs, SqL.of h2', by rw [r.length]; exact Nat.le_refl _⟩, fun i d hd => ?_⟩
      obtain ⟨w, hw, hwd⟩ := r2.get' hd
      refine ⟨⟨xs, w, SqL.of h2', hw⟩, fun y H' hy => ?_⟩
      obtain ⟨rfl, hy⟩ := hy
      have := hy xs (SqL.of h2')
      rw [hw] at this; cases this
      exact ⟨hwd, .inl rfl⟩
    | @tup a xs ds hs r =>
      have hs' := hs
      rw [G.hK] at hs'
      refine .inr (.inl ⟨a, xs, rfl, hs', P (Itt Γ.X.K a) H1 Z1 φ1 S1 (fun Z2 H2 x => ?_) ev'⟩)
      have h2' : SqT Γ.X.K H2 a xs := by rw [← G.hK]; exact x.sqT hs
      have r2 := r.ext x
      refine ⟨⟨xs, h2', by rw [r.length]; exact Nat.le_refl _⟩, fun i d hd => ?_⟩
      obtain ⟨w, hw, hwd⟩ := r2.get' hd
      refine ⟨⟨xs, w, h2', hw⟩, fun y H' hy => ?_⟩
      obtain ⟨rfl, hy⟩ := hy
      have := hy xs h2'
      rw [hw] at this; cases this
      exact ⟨hwd, .inl rfl⟩
    | @scr a ns hs =>
      have hq := hs.sqL
      rw [G.hK] at hq
      refine .inl ⟨a, _, rfl, hq, P (Itl Γ.X.K a) H1 Z1 φ1 S1 (fun Z2 H2 x => ?_) ev'⟩
      have h2' : SqL Γ.X.K H2 a (ns.map V.int) := by rw [← G.hK]; exact (x.scr hs).sqL
      have r2 : ShL Γ.C Z2 H2 (ns.map V.int) (ns.map D.int) := shl_ints
      refine ⟨⟨_, h2', by rw [List.length_map, List.length_map]; exact Nat.le_refl _⟩, fun i d hd => ?_⟩
      obtain ⟨w, hw, hwd⟩ := r2.get' hd
      refine ⟨⟨_, w, h2', hw⟩, fun y H' hy => ?_⟩
      obtain ⟨rfl, hy⟩ := hy
      have := hy _ h2'
      rw [hw] at this; cases this
      exact ⟨hwd, .inl rfl⟩
    | str y =>
      refine .inr (.inr ⟨y, rfl, P (Its y) H1 Z1 φ1 S1 (fun Z2 H2 x => ?_) ev'⟩)
      have hl : ∀ i : Nat, (y.cps.toList)[i]? = y.cps[i]? := fun i => Array.getElem?_toList
      refine ⟨(show y.cps.size ≤ (y.cps.toList.map fun c => D.str ⟨#[c]⟩).length by rw [List.length_map, Array.length_toList]; exact Nat.le_refl _), fun i d hd => ?_⟩
      rw [List.getElem?_map, hl] at hd
      obtain ⟨c, hc, rfl⟩ := Option.map_eq_some_iff.mp hd
      refine ⟨(Array.getElem?_eq_some_iff.mp hc).1, fun z H' hz => ?_⟩
      obtain ⟨rfl, c', hc', rfl⟩ := hz
      rw [hc] at hc'; cases hc'
      exact ⟨.str _, .inl rfl⟩
    | non => exact P.elim
    | bl _ => exact P.elim
    | int _ => exact P.elim
    | fn _ => exact P.elim
    | dic _ _ _ _ => exact P.elim
def rgB (lo hi : Int) : Bool := Nat.ble lo.natAbs 4611686018427387903 && Nat.ble hi.natAbs 4611686018427387903
theorem rgB_ok {lo hi : Int} (h : rgB lo hi = true) : -(2 ^ 62) ≤ lo ∧ lo < 2 ^ 62 ∧ -(2 ^ 62) ≤ hi ∧ hi < 2 ^ 62 := by
  unfold rgB at h
  rw [Bool.and_eq_true] at h
  have h1 := Nat.le_of_ble_eq_true h.1
  have h2 := Nat.le_of_ble_eq_true h.2
  omega
def rgD (lo hi : Int) : Option (List D) := if rgB lo hi = true then some ((List.range (hi - lo).toNat).map fun k : Nat => .int (lo + k)) else none
theorem itr_d {C : RC} {lo : Int} {n : Nat} {Z : Fp} {H : Hp} : ItD C (Itr lo n) ((List.range n).map fun k : Nat => .int (lo + k)) Z H := fun Z2 H2 x => by
  refine ⟨(show n ≤ ((List.range n).map fun k : Nat => D.int (lo + k)).length by simp), fun i d hd => ?_⟩
  rw [List.getElem?_map] at hd
  obtain ⟨j, hj, rfl⟩ := Option.map_eq_some_iff.mp hd
  obtain ⟨h1, h2⟩ := List.getElem?_eq_some_iff.mp hj
  rw [List.length_range] at h1
  rw [List.getElem_range] at h2
  subst h2
  exact ⟨h1, fun y H' ⟨e1, e2⟩ => by subst e1 e2; exact ⟨.int _, .inl rfl⟩⟩
def rg1D : List D → Option (List D)
  | [.int j] => rgD 0 j
  | _ => none
def rg2D : List D → Option (List D)
  | [.int i, .int j] => rgD i j
  | _ => none
def rg1 (f : En → R (List D)) : En → R (List D) := fun env => (f env).bind fun ds env1 => R.of (rg1D ds) env1
def rg2 (f : En → R (List D)) : En → R (List D) := fun env => (f env).bind fun ds env1 => R.of (rg2D ds) env1
theorem ei_rg1 {tg : Expr} {f : En → R (List D)} (hg : Gl Γ.X "range") (hm : Γ.X.mg "range" = none) (ha : EvA Γ [a] f) (hs : starEach [a] Γ.X.env = [(false, eval a Γ.X.env)] := by rfl) : EvI Γ tg (.Call (.Name "range" p) [a] [] pos) (rg1 f) := by
  obtain ⟨t, h1, h2⟩ := ha
  refine ⟨_, pi_range1 hg hm h1 hs, fun σ H Z env φ S R P => ?_⟩
  refine h2 σ H Z env φ S _ ?_
  unfold rg1 at P
  cases e : f env with
  | ex x => rw [e] at P; exact P
  | no => rw [e] at P; exact P
  | ok ds env1 =>
    rw [e] at P
    simp only [Pv.R.bind_ok] at P
    intro vs H1 Z1 φ1 A S1 sh0 dj ev
    have ev' := ev.sub (F2 := Tot φ1) fun _ z => .inl z
    have sh : ShL Γ.C Z1 H1 vs ds := sh0
    cases eD : rg1D ds with
    | none => rw [eD] at P; exact P.elim
    | some items =>
      rw [eD] at P
      unfold rg1D at eD
      split at eD
      · rename_i j
        cases sh with
        | cons h r =>
          cases r
          cases h
          unfold rgD at eD
          split at eD
          · rename_i hb
            have hb := rgB_ok hb
            cases eD
            have e0 : (j - 0).toNat = j.toNat := by rw [Int.sub_zero]
            refine ⟨j, rfl, hb.2.2.1, hb.2.2.2, P _ H1 Z1 φ1 S1 ?_ ev'⟩
            rw [e0]
            exact itr_d
          · cases eD
      · cases eD
theorem ei_rg2 {tg : Expr} {f : En → R (List D)} (hg : Gl Γ.X "range") (hm : Γ.X.mg "range" = none) (ha : EvA Γ [a, b] f) (hs : starEach [a, b] Γ.X.env = [(false, eval a Γ.X.env), (false, eval b Γ.X.env)] := by rfl) (hs2 : starEach [b] Γ.X.env = [(false, eval b Γ.X.env)] := by rfl) : EvI Γ tg (.Call (.Name "range" p) [a, b] [] pos) (rg2 f) := by
  obtain ⟨t, h1, h2⟩ := ha
  refine ⟨_, pi_range2 hg hm h1 hs hs2, fun σ H Z env φ S R P => ?_⟩
  refine h2 σ H Z env φ S _ ?_
  unfold rg2 at P
  cases e : f env with
  | ex x => rw [e] at P; exact P
  | no => rw [e] at P; exact P
  | ok ds env1 =>
    rw [e] at P
    simp only [Pv.R.bind_ok] at P
    intro vs H1 Z1 φ1 A S1 sh0 dj ev
    have ev' := ev.sub (F2 := Tot φ1) fun _ z => .inl z
    have sh : ShL Γ.C Z1 H1 vs ds := sh0
    cases eD : rg2D ds with
    | none => rw [eD] at P; exact P.elim
    | some items =>
      rw [eD] at P
      unfold rg2D at eD
      split at eD
      · rename_i i j
        cases sh with
        | cons h r =>
          cases r with
          | cons h' r =>
            cases r
            cases h
            cases h'
            unfold rgD at eD
            split at eD
            · rename_i hb
              have hb := rgB_ok hb
              cases eD
              exact ⟨i, j, rfl, hb, P _ H1 Z1 φ1 S1 itr_d ev'⟩
            · cases eD
      · cases eD
/-- zip of two lists or two tuples -/
def zipD : D → D → Option (List D)
  | .lst xs, .lst ys => some ((xs.zip ys).map fun q => .tup [q.1, q.2])
  | .tup xs, .tup ys => some ((xs.zip ys).map fun q => .tup [q.1, q.2])
  | _, _ => none
def zipD2 : List D → Option (List D)
  | [d, e] => zipD d e
  | _ => none
def zipI (f : En → R (List D)) : En → R (List D) := fun env => (f env).bind fun ds env1 => R.of (zipD2 ds) env1
theorem zip_get {α β : Type} {xs : List α} {ys : List β} {i : Nat} {q : α × β} (h : (xs.zip ys)[i]? = some q) : xs[i]? = some q.1 ∧ ys[i]? = some q.2 := by
  rw [List.zip, List.getElem?_zipWith] at h
  cases e1 : xs[i]? with
  | none => rw [e1] at h; simp at h
  | some x =>
    cases e2 : ys[i]? with
    | none => rw [e1, e2] at h; simp at h
    | some y => rw [e1, e2] at h; simp at h; subst h; exact ⟨rfl, rfl⟩
theorem ei_zip {ts : List Expr} {kk : Nat} {tpos : Pos} {f : En → R (List D)} (G : Good Γ) (hg : Gl Γ.X "zip") (hm : Γ.X.mg "zip" = none) (ha : EvA Γ [a, b] f)
    (hs : starEach [a, b] Γ.X.env = (false, eval a Γ.X.env) :: starEach [b] Γ.X.env := by rfl) (hpl : (backTo pos (starEach [b] Γ.X.env)).any (·.1) = false := by rfl) : EvI Γ (.Tuple ts kk tpos) (.Call (.Name "zip" p) [a, b] [] pos) (zipI f) := by
  obtain ⟨t, h1, h2⟩ := ha
  refine ⟨_, RZ.pi_zipA hg hm h1 hs hpl, fun σ H Z env φ S R P => ?_⟩
  refine h2 σ H Z env φ S _ ?_
  unfold zipI at P
  cases e : f env with
  | ex x => rw [e] at P; exact P
  | no => rw [e] at P; exact P
  | ok ds env1 =>
    rw [e] at P
    simp only [Pv.R.bind_ok] at P
    intro vs H1 Z1 φ1 A S1 sh0 dj ev
    have ev' := ev.sub (F2 := Tot φ1) fun _ z => .inl z
    have sh : ShL Γ.C Z1 H1 vs ds := sh0
    cases eD : zipD2 ds with
    | none => rw [eD] at P; exact P.elim
    | some items =>
     rw [eD] at P
     unfold zipD2 at eD
     split at eD
     · rename_i d e
       cases sh with
       | cons h r =>
         cases r with
         | cons h' r =>
           cases r
           unfold zipD at eD
           split at eD
           · rename_i xs ys
             cases eD
             cases h with
             | @lst a us _ ha za ra =>
               cases h' with
               | @lst b ws _ hb zb rb =>
                 refine ⟨a, b, us, ws, rfl, .inl ⟨SqL.of ha, SqL.of hb, P _ H1 Z1 φ1 S1 (fun Z2 H2 x => ?_) ev'⟩⟩
                 have ha2 := x.zk a _ za ha
                 have hb2 := x.zk b _ zb hb
                 have ra2 := ra.ext x
                 have rb2 := rb.ext x
                 refine ⟨⟨us, ws, SqL.of ha2, SqL.of hb2, by rw [List.length_map, List.length_zip, ra.length, rb.length]; omega⟩, fun i d hd => ?_⟩
                 rw [List.getElem?_map] at hd
                 obtain ⟨q, hq, rfl⟩ := Option.map_eq_some_iff.mp hd
                 obtain ⟨q1, q2⟩ := zip_get hq
                 obtain ⟨w1, e1, s1⟩ := ra2.get' q1
                 obtain ⟨w2, e2, s2⟩ := rb2.get' q2
                 refine ⟨⟨us, ws, w1, w2, SqL.of ha2, SqL.of hb2, e1, e2⟩, fun y H' hy => ?_⟩
                 obtain ⟨T, y1, y2, rfl, hT, rfl, k1, k2⟩ := hy
                 have f1 := k1 us (SqL.of ha2)
                 have f2 := k2 ws (SqL.of hb2)
                 rw [e1] at f1; cases f1
                 rw [e2] at f2; cases f2
                 have xn : Ext Z2 H2 Z2 (upd H2 T (.tup [w1, w2])) := Ext.new hT
                 exact ⟨.tup (SqT.of upd_same) (.cons (s1.ext xn) (.cons (s2.ext xn) .nil)), .inr ⟨T, _, hT, rfl⟩⟩
           · rename_i xs ys
             cases eD
             cases h with
             | @tup a us _ ha ra =>
               cases h' with
               | @tup b ws _ hb rb =>
                 have ha' := ha
                 have hb' := hb
                 rw [G.hK] at ha' hb'
                 refine ⟨a, b, us, ws, rfl, .inr ⟨ha', hb', P _ H1 Z1 φ1 S1 (fun Z2 H2 x => ?_) ev'⟩⟩
                 have ha2 : SqT Γ.X.K H2 a us := by rw [← G.hK]; exact x.sqT ha
                 have hb2 : SqT Γ.X.K H2 b ws := by rw [← G.hK]; exact x.sqT hb
                 have ra2 := ra.ext x
                 have rb2 := rb.ext x
                 refine ⟨⟨us, ws, ha2, hb2, by rw [List.length_map, List.length_zip, ra.length, rb.length]; omega⟩, fun i d hd => ?_⟩
                 rw [List.getElem?_map] at hd
                 obtain ⟨q, hq, rfl⟩ := Option.map_eq_some_iff.mp hd
                 obtain ⟨q1, q2⟩ := zip_get hq
                 obtain ⟨w1, e1, s1⟩ := ra2.get' q1
                 obtain ⟨w2, e2, s2⟩ := rb2.get' q2
                 refine ⟨⟨us, ws, w1, w2, ha2, hb2, e1, e2⟩, fun y H' hy => ?_⟩
                 obtain ⟨T, y1, y2, rfl, hT, rfl, k1, k2⟩ := hy
                 have f1 := k1 us ha2
                 have f2 := k2 ws hb2
                 rw [e1] at f1; cases f1
                 rw [e2] at f2; cases f2
                 have xn : Ext Z2 H2 Z2 (upd H2 T (.tup [w1, w2])) := Ext.new hT
                 exact ⟨.tup (SqT.of upd_same) (.cons (s1.ext xn) (.cons (s2.ext xn) .nil)), .inr ⟨T, _, hT, rfl⟩⟩
           · cases eD
     · cases eD

/-! ### for -/
def loopS (g : D → En → Option En) (body : En → SR) : List D → En → SR
  | [], env => .nx env
  | d :: ds, env => match g d env with
    | none => .no
    | some env1 => match body env1 with
      | .nx e => loopS g body ds e
      | .ct e => loopS g body ds e
      | .bk e => .nx e
      | .ret p e => .ret p e
      | .ex x => .ex x
      | .no => .no
def forS (fi : En → R (List D)) (g : D → En → Option En) (body : En → SR) : En → SR := fun env => (fi env).then fun ds env1 => loopS g body ds env1
theorem Grow.stt {σ : L2.St} {H H' : Hp} {Z : Fp} {env : En} {φ : Nat → Fp} (h : Grow H H') (S : SttC Γ Z σ H env φ) : SttC Γ Z σ H' env φ ∧ Ext Z H Z H' ∧ Evo Z H (Tot φ) Z H' (Tot φ) := by
  rcases h with rfl | ⟨T, o, hT, rfl⟩
  · exact ⟨S, Ext.refl, Evo.refl⟩
  · exact ⟨S.new hT, Ext.new hT, Evo.new hT fun _ z => .inl z⟩
theorem es_for {tg iter : Expr} {ws : List Nat} {body : List Stmt} {fi : En → R (List D)} {g : D → En → Option En} {fb : En → SR} (G : Good Γ) (hp : PassesOwn (model Γ.X.prog Γ.X.w) Γ.X.A Γ.X.env Γ.X.xe) (hi : EvI Γ tg iter fi) (hg : EvG Γ tg ws g) (hb : EvB Γ body fb)
    (hs : ∀ x, foldedSetIterable iter Γ.X.env x = pure x := by intro _; rfl) : EvS Γ (.For tg iter body [] pos) (forS fi g fb) := by
  obtain ⟨wi, i1, i2⟩ := hi
  obtain ⟨t, g1, g2⟩ := hg
  obtain ⟨u, b1, b2⟩ := hb
  refine ⟨_, ps_for hp G.calm i1 g1 b1 hs, fun σ H Z env φ S Dn P => ?_⟩
  refine i2 σ H Z env φ S _ ?_
  unfold forS at P
  cases e : fi env with
  | ex x => rw [e] at P; exact P σ S.io S.l0
  | no => rw [e] at P; exact P
  | ok ds env1 =>
    rw [e] at P
    simp only [Pv.R.then_ok] at P
    intro J H1 Z1 φ1 S1 it ev
    have P1 := PostS.mono P ev
    refine ⟨fun i m σ' H' => m = ds.length - i ∧ i ≤ ds.length ∧ ∃ env' Z' φ', SttC Γ Z' σ' H' env' φ' ∧ Ext Z1 H1 Z' H' ∧ PostS Γ Z' H' (Tot φ') (loopS g fb (ds.drop i) env') Dn, ⟨ds.length, by simp, Nat.zero_le _, env1, Z1, φ1, S1, Ext.refl, by rw [List.drop_zero]; exact P1⟩, ?_⟩
    rintro i m σ' H' ⟨rfl, hi, env', Z', φ', S', x', P'⟩
    obtain ⟨stop, go⟩ := it Z' H' x'
    by_cases hlt : i < ds.length
    · obtain ⟨hgo, hy⟩ := go i ds[i] (List.getElem?_eq_getElem hlt)
      refine .inr ⟨hgo, fun σ2 H2 => ∃ env2 Z2 φ2, SttC Γ Z2 σ2 H2 env2 φ2 ∧ Ext Z1 H1 Z2 H2 ∧ PostS Γ Z2 H2 (Tot φ2) (loopS g fb (ds.drop (i + 1)) env2) Dn, fun σ2 H2 ⟨env2, Z2, φ2, S2, x2, P2⟩ => ⟨ds.length - (i + 1), by omega, rfl, hlt, env2, Z2, φ2, S2, x2, P2⟩, fun v H2 hv => ?_⟩
      obtain ⟨sh, gr⟩ := hy v H2 hv
      obtain ⟨S2, x2, ev2⟩ := gr.stt S'
      have P2 := PostS.mono P' ev2
      rw [List.drop_eq_getElem_cons hlt] at P2
      unfold loopS at P2
      cases eg : g ds[i] env' with
      | none => rw [eg] at P2; exact P2.elim
      | some env2 =>
        rw [eg] at P2
        simp only at P2
        refine g2 σ' H2 Z' env' φ' S2 v ds[i] env2 sh eg _ fun σ3 φ3 S3 t3 _ => ?_
        have P3 := PostS.mono P2 (Evo.refl.sub t3)
        refine b2 σ3 H2 Z' env2 φ3 S3 _ ?_
        cases eb : fb env2 with
        | nx e =>
          rw [eb] at P3
          exact fun σ4 H4 Z4 φ4 S4 ev4 => ⟨e, Z4, φ4, S4, (x'.trans x2).trans (S3.ext ev4), PostS.mono P3 ev4⟩
        | ct e =>
          rw [eb] at P3
          exact fun σ4 H4 Z4 φ4 S4 ev4 => ⟨e, Z4, φ4, S4, (x'.trans x2).trans (S3.ext ev4), PostS.mono P3 ev4⟩
        | bk e => rw [eb] at P3; exact P3
        | ret p e => rw [eb] at P3; exact P3
        | ex x => rw [eb] at P3; exact P3
        | no => rw [eb] at P3; exact P3
    · have e1 : i = ds.length := by omega
      subst e1
      rw [List.drop_length] at P'
      exact .inl ⟨stop, PostS.here P' S'⟩

/-! ### while -/
def whileS (c : En → R Bool) (body : En → SR) : Nat → En → SR
  | 0, _ => .no
  | n + 1, env => (c env).then fun b env1 => if b = true then (match body env1 with
      | .nx e => whileS c body n e
      | .ct e => whileS c body n e
      | .bk e => .nx e
      | .ret p e => .ret p e
      | .ex x => .ex x
      | .no => .no) else .nx env1
theorem es_while {c : Expr} {body : List Stmt} {fc : En → R Bool} {fb : En → SR} (n : Nat) (hp : PassesOwn (model Γ.X.prog Γ.X.w) Γ.X.A Γ.X.env Γ.X.xe) (hc : EvT Γ c fc) (hb : EvB Γ body fb) : EvS Γ (.While c body [] pos) (whileS fc fb n) := by
  obtain ⟨t, c1, c2⟩ := hc
  obtain ⟨u, b1, b2⟩ := hb
  refine ⟨_, ps_while hp c1 b1, fun σ H Z env φ S Dn P => ?_⟩
  refine ⟨fun m σ' H' => ∃ env' Z' φ', SttC Γ Z' σ' H' env' φ' ∧ PostS Γ Z' H' (Tot φ') (whileS fc fb m env') Dn, ⟨n, env, Z, φ, S, P⟩, ?_⟩
  rintro m σ' H' ⟨env', Z', φ', S', P'⟩
  cases m with
  | zero => exact P'.elim
  | succ m =>
    unfold whileS at P'
    refine c2.then S' P' fun b env1 b' H1 Z1 φ1 A e1 S1 q dj ev P1 => ?_
    cases (show b = b' from q)
    have P2 := P1.mono Evo.dropA
    cases b with
    | false =>
      rw [if_neg Bool.false_ne_true] at P2 ⊢
      exact PostS.here P2 S1
    | true =>
      rw [if_pos rfl] at P2 ⊢
      refine ⟨fun σ2 H2 => ∃ env2 Z2 φ2, SttC Γ Z2 σ2 H2 env2 φ2 ∧ PostS Γ Z2 H2 (Tot φ2) (whileS fc fb m env2) Dn, fun σ2 H2 h => ⟨m, Nat.lt_succ_self m, h⟩, ?_⟩
      refine b2 σ' H1 Z1 env1 φ1 S1 _ ?_
      cases eb : fb env1 with
      | nx e =>
        rw [eb] at P2
        exact fun σ4 H4 Z4 φ4 S4 ev4 => ⟨e, Z4, φ4, S4, PostS.mono P2 ev4⟩
      | ct e =>
        rw [eb] at P2
        exact fun σ4 H4 Z4 φ4 S4 ev4 => ⟨e, Z4, φ4, S4, PostS.mono P2 ev4⟩
      | bk e => rw [eb] at P2; exact P2
      | ret p e => rw [eb] at P2; exact P2
      | ex x => rw [eb] at P2; exact P2
      | no => rw [eb] at P2; exact P2
end
end Pv
end

section
set_option Elab.async false
set_option linter.all false
set_option maxRecDepth 100000
set_option maxHeartbeats 4000000
/-! Pv10: list comprehensions. -/
namespace Pv
open PySem PySem.Spec PyProof.Rows L2

def wipeE (env : En) : List Nat → En
  | [] => env
  | v :: vs => (wipeE env vs).set v none
theorem wipeE_length (env : En) : ∀ vs : List Nat, (wipeE env vs).length = env.length
  | [] => rfl
  | v :: vs => by unfold wipeE; rw [List.length_set, wipeE_length env vs]
theorem wipeE_out {env : En} {i : Nat} : ∀ {vs : List Nat}, i ∉ vs → (wipeE env vs)[i]? = env[i]?
  | [], _ => rfl
  | v :: vs, h => by
    unfold wipeE
    rw [List.getElem?_set_ne (fun e => h (by rw [e]; exact List.mem_cons_self)), wipeE_out fun z => h (List.mem_cons_of_mem _ z)]
theorem wipeE_in {env : En} {i : Nat} {p : D × Nat} : ∀ {vs : List Nat}, i ∈ vs → (wipeE env vs)[i]? ≠ some (some p)
  | v :: vs, h, e => by
    unfold wipeE at e
    by_cases hv : v = i
    · subst hv
      by_cases hl : v < (wipeE env vs).length
      · rw [List.getElem?_set_self hl] at e; cases e
      · rw [List.getElem?_eq_none (by simpa using hl)] at e; cases e
    · rw [List.getElem?_set_ne hv] at e
      exact wipeE_in ((List.mem_cons.mp h).resolve_left fun z => hv z.symm) e
theorem wipe_of {σ σ2 : L2.St} {vs ws : List Nat} (hs : ∀ i ∈ ws, i ∈ vs) (hl : σ2.length = (wipe σ vs).length) (h : ∀ i, i ∉ ws → σ2[i]? = (wipe σ vs)[i]?) : wipe σ2 vs = wipe σ vs := by
  apply List.ext_getElem?
  intro i
  by_cases hi : i ∈ vs
  · have lk : ∀ (τ : L2.St) (us : List Nat), i ∈ us → (wipe τ us)[i]? = if i < τ.length then some none else none := fun τ us => by
      induction us with
      | nil => intro h; cases h
      | cons v us ih =>
        intro hm
        unfold wipe
        by_cases hv : v = i
        · subst hv
          by_cases hl2 : v < (wipe τ us).length
          · rw [List.getElem?_set_self hl2, if_pos (by rwa [wipe_length] at hl2)]
          · rw [List.getElem?_eq_none (by simpa using hl2), if_neg (by rwa [wipe_length] at hl2)]
        · rw [List.getElem?_set_ne hv]
          exact ih ((List.mem_cons.mp hm).resolve_left fun z => hv z.symm)
    rw [lk _ _ hi, lk _ _ hi, hl, wipe_length]
  · rw [wipe_out hi, h i fun z => hi (hs i z)]
section
variable {C : RC} {σ : L2.St} {Z : Fp} {H : Hp} {env : En} {φ : Nat → Fp}
theorem Stt.wipe {io : List Nat} {σ₀ : L2.St} (S : Stt C io σ₀ Z σ H env φ) (vs : List Nat) : Stt C [] [] Z (L2.wipe σ vs) H (wipeE env vs) (fun i a => i ∉ vs ∧ φ i a) where
  len := by rw [wipe_length, wipeE_length, S.len]
  slot := fun i d k h => by
    by_cases hi : i ∈ vs
    · exact (wipeE_in hi h).elim
    · rw [wipeE_out hi] at h
      obtain ⟨v, h1, h2⟩ := S.slot i d k h
      exact ⟨v, by rw [wipe_out hi]; exact h1, h2.congr fun a => ⟨fun z => ⟨hi, z⟩, fun z => z.2⟩⟩
  off := fun i h a ⟨hi, z⟩ => S.off i (fun p => by have := h p; rwa [wipeE_out hi] at this) a z
  dj := fun i j a h1 h2 => S.dj i j a h1.2 h2.2
  nz := fun i a h => S.nz i a h.2
  zh := S.zh
  io := fun _ h => by cases h
  l0 := fun h => (h rfl).elim
end
/-- behind the comprehension: its own slots are as they were (what was shared) -/
def backE (env1 env2 : En) : List Nat → En
  | [] => env2
  | v :: vs => (backE env1 env2 vs).set v (match env1[v]? with
    | some (some (d, 0)) => some (d, 0)
    | _ => none)
theorem backE_length (env1 env2 : En) : ∀ vs : List Nat, (backE env1 env2 vs).length = env2.length
  | [] => rfl
  | v :: vs => by unfold backE; rw [List.length_set, backE_length env1 env2 vs]
theorem backE_out {env1 env2 : En} {i : Nat} : ∀ {vs : List Nat}, i ∉ vs → (backE env1 env2 vs)[i]? = env2[i]?
  | [], _ => rfl
  | v :: vs, h => by
    unfold backE
    rw [List.getElem?_set_ne (fun e => h (by rw [e]; exact List.mem_cons_self)), backE_out fun z => h (List.mem_cons_of_mem _ z)]
theorem backE_in {env1 env2 : En} {i : Nat} {p : D × Nat} : ∀ {vs : List Nat}, i ∈ vs → (backE env1 env2 vs)[i]? = some (some p) → env1[i]? = some (some p) ∧ p.2 = 0
  | v :: vs, h, e => by
    unfold backE at e
    by_cases hv : v = i
    · subst hv
      by_cases hl : v < (backE env1 env2 vs).length
      · rw [List.getElem?_set_self hl] at e
        split at e
        · rename_i d h1
          cases e
          exact ⟨h1, rfl⟩
        · cases e
      · rw [List.getElem?_eq_none (by simpa using hl)] at e; cases e
    · rw [List.getElem?_set_ne hv] at e
      exact backE_in ((List.mem_cons.mp h).resolve_left fun z => hv z.symm) e
def R.noX {α : Type} (r : R α) : R α :=
  match r with
  | .ok a e => .ok a e
  | _ => .no
@[simp] theorem R.noX_ok {α : Type} (a : α) (e : En) : (R.ok a e).noX = .ok a e := rfl
/-- the turns: m is the depth that the items own -/
def compL (g : D → En → Option En) (tt : En → R Bool) (te : En → R (D × Nat)) (m : Nat) (vs : List Nat) : List D → En → List D → R (List D)
  | [], env, acc => .ok acc env
  | d :: ds, env, acc => match g d env with
    | none => .no
    | some env1 => (tt env1).noX.bind fun b env2 => if b = true then
        (te env2).noX.bind fun y env3 => if y.2 = m ∧ acc.length < lim then compL g tt te m vs ds (wipeE env3 vs) (acc ++ [y.1]) else .no
      else compL g tt te m vs ds (wipeE env2 vs) acc
def comp (fi : En → R (List D)) (g : D → En → Option En) (tt : En → R Bool) (te : En → R (D × Nat)) (m : Nat) (vs : List Nat) : En → R (D × Nat) := fun env =>
  (fi env).bind fun ds env1 => (compL g tt te m vs ds (wipeE env1 vs) []).bind fun acc env2 => .ok (.lst acc, m + 1) (backE env1 env2 vs)

/-- the place of a comprehension's block -/
abbrev blkCt (Γ : Ct) (scope : Scope) (s : Shared) (H : Hp) (c : Addr) (cl : List (Str × Addr)) (fp : List Addr) : Ct :=
  ⟨Γ.X.blk s H scope (compEnvC scope cl c Γ.X.env) fp, Γ.C, fun _ _ _ _ => False, [], []⟩
theorem Good.blk {Γ : Ct} (G : Good Γ) {scope : Scope} {s : Shared} {H : Hp} {c : Addr} {cl : List (Str × Addr)} {fp : List Addr} : Good (blkCt Γ scope s H c cl fp) :=
  ⟨G.hK, G.nd, G.calm, fun _ _ ⟨_, _, _, _, _, _, _, _, _, _, _, _, _, _, _, _, w⟩ => w.elim⟩
/-- the data's side of a block's place -/
abbrev blk0 (Γ : Ct) : Ct := ⟨Γ.X, Γ.C, fun _ _ _ _ => False, [], []⟩
section
variable {Γ : Ct} {scope : Scope} {elt tg iter : Expr} {ifs : List Expr}
theorem pe_weak {X : Cx} {e : Expr} {t t' : TE} (h : PE X e t) (k : ∀ σ H Q, t' σ H Q → t σ H Q) : PE X e t' := ⟨fun pins s σ H Q I q => h.run pins s σ H Q I (k _ _ _ q)⟩
theorem blk_e {f : En → R (D × Nat)} (h : ∀ s H c cl fp, EvE (blkCt Γ scope s H c cl fp) elt f) :
    ∃ te, (∀ (s : Shared) (H : Hp) (c : Addr) (cl : List (Str × Addr)) (fp : List Addr), PE (Γ.X.blk s H scope (compEnvC scope cl c Γ.X.env) fp) elt te) ∧ Ev (blk0 Γ) (ER Γ.C) f te := by
  refine ⟨fun σ H Q => ∀ s H0 c cl fp, Classical.choose (h s H0 c cl fp) σ H Q, fun s H c cl fp => pe_weak (Classical.choose_spec (h s H c cl fp)).1 fun σ H' Q q => q s H c cl fp, fun σ H Z env φ S Q P s H0 c cl fp => ?_⟩
  exact (Classical.choose_spec (h s H0 c cl fp)).2 σ H Z env φ S Q P
theorem blk_g {ws : List Nat} {g : D → En → Option En} (h : ∀ s H c cl fp, EvG (blkCt Γ scope s H c cl fp) tg ws g) :
    ∃ t, (∀ (s : Shared) (H : Hp) (c : Addr) (cl : List (Str × Addr)) (fp : List Addr), PG (Γ.X.blk s H scope (compEnvC scope cl c Γ.X.env) fp) tg t) ∧
      ∀ σ H Z env φ, SttC (blk0 Γ) Z σ H env φ → ∀ v d env', Sh Γ.C Z H v d → g d env = some env' → ∀ Q : L2.St → Hp → Prop, (∀ σ' φ', SttC (blk0 Γ) Z σ' H env' φ' → (∀ a, Tot φ' a → Tot φ a) → (σ'.length = σ.length ∧ ∀ i, i ∉ ws → σ'[i]? = σ[i]?) → Q σ' H) → t v σ H Q := by
  refine ⟨fun v σ H Q => ∀ s H0 c cl fp, Classical.choose (h s H0 c cl fp) v σ H Q, fun s H c cl fp => ⟨fun pins s' σ H' v u Q I r q => (Classical.choose_spec (h s H c cl fp)).1.run pins s' σ H' v u Q I r (q s H c cl fp)⟩, fun σ H Z env φ S v d env' sh hg Q q s H0 c cl fp => ?_⟩
  exact (Classical.choose_spec (h s H0 c cl fp)).2 σ H Z env φ S v d env' sh hg Q q
/-- a clause's tests -/
def EvPT (Γ : Ct) (ifs : List Expr) (f : En → R Bool) : Prop := ∃ t, PTs Γ.X ifs t ∧ Ev Γ TR f t
def yesT : En → R Bool := fun env => .ok true env
theorem ept_nil : EvPT Γ [] yesT := ⟨_, pts_nil, fun σ H Z env φ S Q P => Post.here P S rfl⟩
theorem ept_one {c : Expr} {f : En → R Bool} (h : EvT Γ c f) : EvPT Γ [c] f := by
  obtain ⟨t, h1, h2⟩ := h
  exact ⟨t, pts_one h1, h2⟩
theorem blk_t {f : En → R Bool} (h : ∀ s H c cl fp, EvPT (blkCt Γ scope s H c cl fp) ifs f) :
    ∃ t, (∀ (s : Shared) (H : Hp) (c : Addr) (cl : List (Str × Addr)) (fp : List Addr), PTs (Γ.X.blk s H scope (compEnvC scope cl c Γ.X.env) fp) ifs t) ∧ Ev (blk0 Γ) TR f t := by
  refine ⟨fun σ H Q => ∀ s H0 c cl fp, Classical.choose (h s H0 c cl fp) σ H Q, fun s H c cl fp => ⟨fun pins s' σ H' Q I q => (Classical.choose_spec (h s H c cl fp)).1.run pins s' σ H' Q I (q s H c cl fp)⟩, fun σ H Z env φ S Q P s H0 c cl fp => ?_⟩
  exact (Classical.choose_spec (h s H0 c cl fp)).2 σ H Z env φ S Q P

/-- the list that is made: its items own what stands at B -/
structure Acc (C : RC) (Z : Fp) (H : Hp) (m : Nat) (D₀ : Addr) (vs : List V) (ds : List D) (B : Nat → Fp) : Prop where
  at' : H D₀ = some (.lst vs)
  len : vs.length = ds.length
  ow : ∀ (i : Nat) (x : V) (e : D), vs[i]? = some x → ds[i]? = some e → Ow C Z H m x e (B i)
  dj : ∀ i j b, B i b → B j b → i = j
  nd : ∀ i, ¬ B i D₀
  off : ∀ i b, B i b → i < vs.length
theorem Acc.fin {C : RC} {Z : Fp} {H : Hp} {m : Nat} {D₀ : Addr} {vs : List V} {ds : List D} {B : Nat → Fp} (a : Acc C Z H m D₀ vs ds B) : Ow C Z H (m + 1) (.ref D₀) (.lst ds) (fun b => b = D₀ ∨ ∃ i, B i b) :=
  .inr (.inl ⟨D₀, vs, ds, B, rfl, rfl, a.at', a.len, a.ow, a.dj, a.nd, a.off, fun _ => Iff.rfl⟩)
theorem Acc.mut {C : RC} {Z : Fp} {H : Hp} {m : Nat} {D₀ : Addr} {vs : List V} {ds : List D} {B : Nat → Fp} (a : Acc C Z H m D₀ vs ds B) {b : Addr} {i : Nat} (h : B i b) : isM (H b) := by
  have hi := a.off i b h
  exact (a.ow i vs[i] (ds[i]'(a.len ▸ hi)) (List.getElem?_eq_getElem hi) (List.getElem?_eq_getElem _)).mut b h
theorem Acc.ext {C : RC} {Z Z' : Fp} {H H' : Hp} {m : Nat} {D₀ : Addr} {vs : List V} {ds : List D} {B : Nat → Fp} (a : Acc C Z H m D₀ vs ds B) (x : Ext Z H Z' H') (k : ∀ b o, (b = D₀ ∨ ∃ i, B i b) → H b = some o → H' b = some o) : Acc C Z' H' m D₀ vs ds B :=
  ⟨k _ _ (.inl rfl) a.at', a.len, fun i y e h1 h2 => (a.ow i y e h1 h2).ext x fun b o q => k b o (.inr ⟨i, q⟩), a.dj, a.nd, a.off⟩
abbrev AT (D₀ : Addr) (B : Nat → Fp) : Fp := fun b => b = D₀ ∨ ∃ i, B i b
theorem Acc.snoc {C : RC} {Z : Fp} {H : Hp} {m : Nat} {D₀ : Addr} {vs : List V} {ds : List D} {B : Nat → Fp} (a : Acc C Z H m D₀ vs ds B) (nz : ¬ Z D₀) {v : V} {d : D} {A : Fp} (o : Ow C Z H m v d A) (hA : ∀ b, A b → ¬ AT D₀ B b) :
    Acc C Z (upd H D₀ (.lst (vs ++ [v]))) m D₀ (vs ++ [v]) (ds ++ [d]) (fun i => if i = vs.length then A else B i) ∧ Ext Z H Z (upd H D₀ (.lst (vs ++ [v]))) := by
  have x : Ext Z H Z (upd H D₀ (.lst (vs ++ [v]))) := ⟨fun b u z h => by rw [upd_ne fun e : b = D₀ => nz (by rw [← e]; exact z)]; exact h, fun _ z => z, fun b u h => by rw [upd_ne (ne_of h a.at' fun e => by cases e)]; exact h, fun b u w h => by rw [upd_ne (ne_of h a.at' fun e => by cases e)]; exact h⟩
  have hB : ∀ b, B vs.length b → False := fun b z => Nat.lt_irrefl _ (a.off _ b z)
  refine ⟨⟨upd_same, by rw [List.length_append, List.length_append, a.len]; rfl, fun i y e h1 h2 => ?_, fun i j b h1 h2 => ?_, fun i h => ?_, fun i b h => ?_⟩, x⟩
  · by_cases hi : i = vs.length
    · subst hi
      have e1 : y = v := by simpa using h1.symm
      have e2 : e = d := by rw [a.len] at h2; simpa using h2.symm
      subst e1 e2
      rw [if_pos rfl]
      exact o.ext x fun b u q h => by rw [upd_ne fun z => hA b q (.inl z)]; exact h
    · rw [if_neg hi]
      have hl : i < vs.length := by
        have := (List.getElem?_eq_some_iff.mp h1).1
        rw [List.length_append] at this
        simp at this
        omega
      rw [List.getElem?_append_left hl] at h1
      rw [List.getElem?_append_left (a.len ▸ hl)] at h2
      exact (a.ow i y e h1 h2).ext x fun b u q h => by rw [upd_ne fun z : b = D₀ => a.nd i (by rw [← z]; exact q)]; exact h
  · by_cases hi : i = vs.length
    · rw [if_pos hi] at h1
      by_cases hj : j = vs.length
      · omega
      · rw [if_neg hj] at h2
        exact (hA b h1 (.inr ⟨j, h2⟩)).elim
    · rw [if_neg hi] at h1
      by_cases hj : j = vs.length
      · rw [if_pos hj] at h2
        exact (hA b h2 (.inr ⟨i, h1⟩)).elim
      · rw [if_neg hj] at h2
        exact a.dj i j b h1 h2
  · by_cases hi : i = vs.length
    · rw [if_pos hi] at h; exact hA _ h (.inl rfl)
    · rw [if_neg hi] at h; exact a.nd i h
  · rw [List.length_append]
    by_cases hi : i = vs.length
    · rw [hi]; simp
    · rw [if_neg hi] at h
      have := a.off i b h
      simp; omega
theorem lc_ev {vs ws : List Nat} {wi : TI} {tG : TG} {tT : TT} {tE : TE} {fi : En → R (List D)} {g : D → En → Option En} {tt : En → R Bool} {te : En → R (D × Nat)} (m : Nat)
    (i2 : ∀ σ H Z env φ, SttC Γ Z σ H env φ → ∀ R : It → Hp → Prop, (match fi env with
      | .ok ds env1 => ∀ J H1 Z1 φ1, SttC Γ Z1 σ H1 env1 φ1 → ItD Γ.C J ds Z1 H1 → Evo Z H (Tot φ) Z1 H1 (Tot φ1) → R J H1
      | .ex x => PostX Γ σ Z H (Tot φ) x
      | .no => False) → wi σ H R)
    (g2 : ∀ σ H Z env φ, SttC (blk0 Γ) Z σ H env φ → ∀ v d env', Sh Γ.C Z H v d → g d env = some env' → ∀ Q : L2.St → Hp → Prop, (∀ σ' φ', SttC (blk0 Γ) Z σ' H env' φ' → (∀ a, Tot φ' a → Tot φ a) → (σ'.length = σ.length ∧ ∀ i, i ∉ ws → σ'[i]? = σ[i]?) → Q σ' H) → tG v σ H Q)
    (t2 : Ev (blk0 Γ) TR tt tT) (e2 : Ev (blk0 Γ) (ER Γ.C) te tE) (hws : ∀ i ∈ ws, i ∈ vs) : Ev Γ (ER Γ.C) (comp fi g tt te m vs) (tLc wi tG tT tE vs) := by
  intro σ H Z env φ S Q P
  refine i2 σ H Z env φ S _ ?_
  unfold comp at P
  cases e : fi env with
  | ex x => rw [e] at P; exact P
  | no => rw [e] at P; exact P
  | ok ds env1 =>
    rw [e] at P
    simp only [Pv.R.bind_ok] at P
    intro J H1 Z1 φ1 S1 it ev D₀ hD
    have P1 := Post.mono P ev
    have Sw := S1.wipe vs
    have nD : ¬ Z1 D₀ ∧ ¬ Tot φ1 D₀ := S1.fresh hD
    -- the place at a turn
    let Inv' : Nat → Hp → Prop := fun i H' => ∃ env' Z' φ' accV accD B, SttC (blk0 Γ) Z' (L2.wipe σ vs) H' env' φ' ∧ Ext Z1 H1 Z' H' ∧ Acc Γ.C Z' H' m D₀ accV accD B ∧
      (∀ b, AT D₀ B b → ¬ Tot φ' b ∧ ¬ Z' b) ∧ (∀ v ∈ vs, ∀ p, env'[v]? ≠ some (some p)) ∧ Post Γ σ Z' H' (fun a => Tot φ' a ∨ AT D₀ B a) (ER Γ.C σ) ((compL g tt te m vs (ds.drop i) env' accD).bind fun acc env2 => .ok (.lst acc, m + 1) (backE env1 env2 vs)) Q
    have ev0 : Evo Z1 H1 (Tot φ1) Z1 (upd H1 D₀ (.lst [])) (fun a => Tot (fun i a => i ∉ vs ∧ φ1 i a) a ∨ AT D₀ (fun _ _ => False) a) := Evo.new hD fun a z => z.elim (fun ⟨j, z⟩ => .inl ⟨j, z.2⟩) fun z => z.elim .inr fun ⟨_, z⟩ => z.elim
    refine ⟨fun i k H' => k = ds.length - i ∧ i ≤ ds.length ∧ Inv' i H', ⟨ds.length, by simp, Nat.zero_le _, wipeE env1 vs, Z1, _, [], [], fun _ _ => False, Sw.new hD, Ext.new hD, ⟨upd_same, rfl, fun i x e h => by simp at h, fun _ _ _ z => z.elim, fun _ z => z, fun _ _ z => z.elim⟩, fun b z => ?_, fun v hv p => wipeE_in hv, ?_⟩, ?_⟩
    · rcases z with rfl | ⟨_, z⟩
      · exact ⟨fun ⟨j, z⟩ => nD.2 ⟨j, z.2⟩, nD.1⟩
      · exact z.elim
    · rw [List.drop_zero]
      exact Post.mono P1 ev0
    rintro i k H' ⟨rfl, hi, env', Z', φ', accV, accD, B, S', x', a, hA, hw, P'⟩
    obtain ⟨stop, go⟩ := it Z' H' x'
    by_cases hlt : i < ds.length
    · obtain ⟨hgo, hy⟩ := go i ds[i] (List.getElem?_eq_getElem hlt)
      refine .inr ⟨hgo, fun H2 => Inv' (i + 1) H2, fun H2 h2 => ⟨ds.length - (i + 1), by omega, rfl, hlt, h2⟩, fun v H2 hv => ?_⟩
      obtain ⟨sh, gr⟩ := hy v H2 hv
      obtain ⟨S2, x2, ev2⟩ := gr.stt (Γ := blk0 Γ) S'
      -- what is made stands through a step
      have kept : ∀ {Za Zb : Fp} {Ha Hb : Hp} {Fb : Fp} {φa : Nat → Fp}, Evo Za Ha (Tot φa) Zb Hb Fb → Ext Za Ha Zb Hb → Acc Γ.C Za Ha m D₀ accV accD B → (∀ b, AT D₀ B b → ¬ Tot φa b ∧ ¬ Za b) →
          Acc Γ.C Zb Hb m D₀ accV accD B ∧ (∀ b, AT D₀ B b → ¬ Fb b ∧ ¬ Zb b) := fun {Za Zb Ha Hb Fb φa} e x a0 h0 => by
        have hn : ∀ b, AT D₀ B b → Ha b ≠ none := fun b hb z => by
          rcases hb with rfl | ⟨j, hb⟩
          · rw [a0.at'] at z; cases z
          · have := a0.mut hb; rw [z] at this; exact this
        refine ⟨a0.ext x fun b o hb h => e.keep b o h (h0 b hb).1, fun b hb => ⟨fun z => ?_, fun z => ?_⟩⟩
        · rcases e.fn b z with z | z
          · exact (h0 b hb).1 z
          · exact hn b hb z
        · rcases e.zn b z with z | z | z
          · exact (h0 b hb).2 z
          · exact (h0 b hb).1 z
          · exact hn b hb z
      have lift : ∀ {Za Zb : Fp} {Ha Hb : Hp} {φa : Nat → Fp} {Fb : Fp}, Evo Za Ha (Tot φa) Zb Hb Fb → Evo Za Ha (fun b => Tot φa b ∨ AT D₀ B b) Zb Hb (fun b => Fb b ∨ AT D₀ B b) := fun {Za Zb Ha Hb φa Fb} e =>
        ⟨fun b o h n => e.keep b o h fun z => n (.inl z), e.zm, fun b z => (e.zn b z).imp id fun q => q.imp .inl id, fun b z => z.elim (fun z => (e.fn b z).imp .inl id) fun z => .inl (.inr z)⟩
      obtain ⟨a2, hA2⟩ := kept ev2 x2 a hA
      have P2 := Post.mono P' (lift ev2)
      rw [List.drop_eq_getElem_cons hlt] at P2
      unfold compL at P2
      cases eg : g ds[i] env' with
      | none => rw [eg] at P2; exact P2.elim
      | some env2 =>
        rw [eg] at P2
        simp only at P2
        refine g2 (L2.wipe σ vs) H2 Z' env' φ' S2 v ds[i] env2 sh eg _ fun σ3 φ3 S3 t3 k3 => ?_
        have hwσ : L2.wipe σ3 vs = L2.wipe σ vs := by
          have := wipe_of (σ := σ) (σ2 := σ3) hws k3.1 k3.2
          exact this
        refine ⟨hwσ, ?_⟩
        have hA3 : ∀ b, AT D₀ B b → ¬ Tot φ3 b ∧ ¬ Z' b := fun b hb => ⟨fun z => (hA2 b hb).1 (t3 b z), (hA2 b hb).2⟩
        have P3 := Post.mono P2 (show Evo Z' H2 (fun b => Tot φ' b ∨ AT D₀ B b) Z' H2 (fun b => Tot φ3 b ∨ AT D₀ B b) from Evo.refl.sub fun b z => z.imp (t3 b) id)
        -- the tests
        refine t2 σ3 H2 Z' env2 φ3 S3 _ ?_
        cases et : tt env2 with
        | ex x => rw [et] at P3; exact P3.elim
        | no => rw [et] at P3; exact P3.elim
        | ok b env3 =>
          rw [et] at P3
          intro b' H3 Z3 φ4 A3 S4 eb dj3 ev3
          cases (show b = b' from eb)
          have ev3' := ev3.sub (F2 := Tot φ4) fun _ z => .inl z
          have x3 := S3.ext ev3'
          obtain ⟨a4, hA4⟩ := kept ev3' x3 a2 hA3
          have P4 := Post.mono P3 (lift ev3')
          cases b with
          | false =>
            rw [if_neg Bool.false_ne_true]
            simp only [R.noX_ok, Pv.R.bind_ok, if_neg Bool.false_ne_true] at P4
            have S5 := S4.wipe vs
            rw [hwσ] at S5
            exact ⟨_, Z3, _, accV, accD, B, S5, (x'.trans x2).trans x3, a4, fun c hc => ⟨fun ⟨j, z⟩ => (hA4 c hc).1 ⟨j, z.2⟩, (hA4 c hc).2⟩, fun u hu p => wipeE_in hu, P4.mono (Evo.refl.sub fun c z => z.imp (fun ⟨j, z⟩ => ⟨j, z.2⟩) id)⟩
          | true =>
            rw [if_pos rfl]
            simp only [R.noX_ok, Pv.R.bind_ok, if_true] at P4
            refine e2 σ3 H3 Z3 env3 φ4 S4 _ ?_
            cases ee : te env3 with
            | ex x => rw [ee] at P4; exact P4.elim
            | no => rw [ee] at P4; exact P4.elim
            | ok y env4 =>
              rw [ee] at P4
              simp only [R.noX_ok, Pv.R.bind_ok] at P4
              intro yv H5 Z5 φ5 A5 S5 o5 dj5 ev5
              have x5 := S4.ext ev5
              obtain ⟨a5, hA5⟩ := kept ev5 x5 a4 hA4
              have P5 := Post.mono P4 (lift ev5)
              by_cases hy2 : y.2 = m ∧ accD.length < lim
              · rw [if_pos hy2] at P5
                obtain ⟨yd, yk⟩ := y
                obtain ⟨rfl, hz⟩ := hy2
                refine ⟨accV, a5.at', by rw [a5.len]; exact Nat.lt_of_lt_of_le hz (lim_le (Nat.le_refl _)), ?_⟩
                obtain ⟨a6, x6⟩ := a5.snoc (hA5 D₀ (.inl rfl)).2 o5 (fun b hb z => (hA5 b z).1 (.inr hb))
                have S6 := S5.go (Z' := Z5) x6 (fun b u hb h => by
                  rw [upd_ne fun z : b = D₀ => (hA5 D₀ (.inl rfl)).1 (.inl (by rw [← z]; exact hb))]
                  exact h) S5.tnz fun b z => by
                    by_cases q : b = D₀
                    · rw [q, upd_same]; exact Option.some_ne_none _
                    · rw [upd_ne q]; exact S5.zh b z
                have S7 := S6.wipe vs
                rw [hwσ] at S7
                have hAT : ∀ c, AT D₀ (fun i => if i = accV.length then A5 else B i) c → AT D₀ B c ∨ A5 c := fun c hc => by
                  rcases hc with rfl | ⟨j, hc⟩
                  · exact .inl (.inl rfl)
                  · by_cases q : j = accV.length
                    · simp only [if_pos q] at hc; exact .inr hc
                    · simp only [if_neg q] at hc; exact .inl (.inr ⟨j, hc⟩)
                refine ⟨_, Z5, _, _, _, _, S7, ((x'.trans x2).trans x3).trans (x5.trans x6), a6, fun c hc => ?_, fun u hu p => wipeE_in hu, P5.mono ?_⟩
                · rcases hAT c hc with h | h
                  · exact ⟨fun ⟨j, z⟩ => (hA5 c h).1 (.inl ⟨j, z.2⟩), (hA5 c h).2⟩
                  · exact ⟨fun ⟨j, z⟩ => (dj5 c h).1 ⟨j, z.2⟩, (dj5 c h).2⟩
                · refine ⟨fun b u h n => ?_, fun _ z => z, fun _ z => .inl z, fun b z => .inl ?_⟩
                  · rw [upd_ne fun z : b = D₀ => n (.inr (.inl z))]; exact h
                  · rcases z with ⟨j, z⟩ | z
                    · exact .inl (.inl ⟨j, z.2⟩)
                    · rcases hAT b z with h | h
                      · exact .inr h
                      · exact .inl (.inr h)
              · rw [if_neg hy2] at P5; exact P5.elim
    · have e1 : i = ds.length := by omega
      subst e1
      refine .inl ⟨stop, ?_⟩
      rw [List.drop_length] at P'
      simp only [compL, Pv.R.bind_ok] at P'
      -- the slots behind
      refine P' (.ref D₀) H' Z' (fun i c => i ∉ vs ∧ φ' i c) (AT D₀ B) ?_ a.fin (fun c hc => ⟨fun ⟨j, z⟩ => (hA c hc).1 ⟨j, z.2⟩, (hA c hc).2⟩) (Evo.refl.sub fun c z => z.imp (fun ⟨j, z⟩ => ⟨j, z.2⟩) id)
      refine ⟨?_, fun i d k h => ?_, fun i h c ⟨hi, z⟩ => ?_, fun i j c h1 h2 => S'.dj i j c h1.2 h2.2, fun i c h => S'.nz i c h.2, S'.zh, S1.l0, S1.io⟩
      · rw [backE_length, ← S'.len, wipe_length]
      · by_cases hi : i ∈ vs
        · obtain ⟨h1, h2⟩ := backE_in hi h
          simp only at h2
          subst h2
          obtain ⟨w, q1, q2⟩ := S1.slot i d 0 h1
          exact ⟨w, q1, q2.1.ext x', fun c z => z.1 hi⟩
        · rw [backE_out hi] at h
          obtain ⟨w, q1, q2⟩ := S'.slot i d k h
          rw [wipe_out hi] at q1
          exact ⟨w, q1, q2.congr fun c => ⟨fun z => ⟨hi, z⟩, fun z => z.2⟩⟩
      · exact S'.off i (fun p => by have := h p; rwa [backE_out hi] at this) c z
theorem ev_lc {own : List (Str × Nat)} {vs ws : List Nat} {pos : Pos} {fi : En → R (List D)} {g : D → En → Option En} {tt : En → R Bool} {te : En → R (D × Nat)} (m : Nat) (G : Good Γ) (hi : EvI Γ tg iter fi) (ok : BlkOk Γ.X.N Γ.X.env.scope scope own) (hvs : own.map (·.2) = vs) (hws : ∀ i ∈ ws, i ∈ vs)
    (hg : ∀ s H c cl fp, EvG (blkCt Γ scope s H c cl fp) tg ws g) (ht : ∀ s H c cl fp, EvPT (blkCt Γ scope s H c cl fp) ifs tt) (he : ∀ s H c cl fp, EvE (blkCt Γ scope s H c cl fp) elt te) (hs : ∀ x, foldedSetIterable iter Γ.X.env x = pure x := by intro _; rfl) :
    EvE Γ (.ListComp elt [⟨tg, iter, ifs, 0⟩] scope pos) (comp fi g tt te m vs) := by
  obtain ⟨wi, i1, i2⟩ := hi
  obtain ⟨tG, g1, g2⟩ := blk_g hg
  obtain ⟨tT, t1, t2⟩ := blk_t ht
  obtain ⟨tE, e1, e2⟩ := blk_e he
  have p0 := pe_lc (pos := pos) G.calm G.nd i1 ok g1 t1 e1 hs
  rw [hvs] at p0
  exact ⟨_, p0, lc_ev m i2 g2 t2 e2 hws⟩
end
end Pv
end

section
set_option Elab.async false
set_option linter.all false
set_option maxRecDepth 100000
set_option maxHeartbeats 4000000
/-! Pv11: what is changed in place; y = [..]; x op= e; raise; try. -/
namespace Pv
open PySem PySem.Spec PyProof.Rows L2

section
variable {C : RC} {io : List Nat} {σ₀ σ : L2.St} {Z : Fp} {H : Hp} {env : En} {φ : Nat → Fp}
/-- a list or dict that nobody shares is written -/
theorem Ext.upd {a : Addr} {o u : HO} (h : H a = some u) (nz : ¬ Z a) (mu : isM (some u)) : Ext Z H Z (upd H a o) :=
  ⟨fun b w z e => by rw [upd_ne fun q : b = a => nz (by rw [← q]; exact z)]; exact e, fun _ z => z, fun b w e => by rw [upd_ne (ne_of e h fun q => by subst q; exact mu)]; exact e, fun b w v e => by rw [upd_ne (ne_of e h fun q => by subst q; exact mu)]; exact e⟩
theorem Stt.upd (S : Stt C io σ₀ Z σ H env φ) {i : Nat} {a : Addr} {o u : HO} {d : D} {k : Nat} (hv : σ[i]? = some (some (.ref a))) (hi : i < env.length) (h : H a = some u) (mu : isM (some u)) (hφ : φ i a) {A : Fp} (hA : ∀ b, A b → φ i b) (ow : Ow C Z (upd H a o) k (.ref a) d A) :
    Stt C io σ₀ Z σ (upd H a o) (env.set i (some (d, k))) (fun j => if j = i then A else φ j) ∧ Evo Z H (Tot φ) Z (upd H a o) (Tot fun j => if j = i then A else φ j) := by
  have nz := S.nz i a hφ
  have x : Ext Z H Z (L2.upd H a o) := Ext.upd h nz mu
  have Sd := S.drop i
  have S1 := Sd.go x (fun b w ⟨j, hj, z⟩ e => by
    rw [upd_ne fun q : b = a => hj (S.dj j i b z (by rw [q]; exact hφ))]; exact e) (fun b ⟨j, _, z⟩ => S.nz j b z) fun b z => by
      by_cases q : b = a
      · rw [q, upd_same]; exact Option.some_ne_none _
      · rw [upd_ne q]; exact S.zh b z
  have S2 := S1.reput (i := i) (by simpa using hi) hv ow (fun j b hj z y => hj (S.dj j i b z.2 (hA b y))) (fun b z => S.nz i b (hA b z))
  rw [List.set_set] at S2
  have e2 : (fun j => if j = i then A else fun b => j ≠ i ∧ φ j b) = fun j => if j = i then A else φ j := by
    funext j
    by_cases q : j = i
    · rw [if_pos q, if_pos q]
    · rw [if_neg q, if_neg q]
      funext b
      exact propext ⟨fun z => z.2, fun z => ⟨q, z⟩⟩
  rw [e2] at S2
  refine ⟨S2, ⟨fun b w e n => by rw [upd_ne fun q : b = a => n ⟨i, by rw [q]; exact hφ⟩]; exact e, fun _ z => z, fun _ z => .inl z, fun b ⟨j, z⟩ => .inl ?_⟩⟩
  by_cases q : j = i
  · simp only [if_pos q] at z; exact ⟨i, hA b z⟩
  · simp only [if_neg q] at z; exact ⟨j, z⟩
theorem Ow.lst_at {k : Nat} {v : V} {ds : List D} {A : Fp} (h : Ow C Z H k v (.lst ds) A) : ∃ a xs, v = .ref a ∧ H a = some (.lst xs) ∧ xs.length = ds.length := by
  cases k with
  | zero => cases h.1 with | lst s z r => exact ⟨_, _, rfl, s, r.length⟩
  | succ k =>
    rcases h with ⟨m, _⟩ | ⟨b, xs, ds', B, rfl, e0, hb, hl, _⟩ | ⟨_, _, _, _, _, e, _⟩
    · cases m
    · cases e0; exact ⟨b, xs, rfl, hb, hl⟩
    · cases e
end

section
variable {Γ : Ct} {x : Str} {p pos apos cpos : Pos} {e a b : Expr} {es : List Expr}
/-- y = [..] on one line -/
theorem es_setLc {elt tg iter : Expr} {ifs : List Expr} {scope : Scope} {i : Nat} {y : Str} {py spos : Pos} {own : List (Str × Nat)} {vs ws : List Nat} {fi : En → R (List D)} {g : D → En → Option En} {tt : En → R Bool} {te : En → R (D × Nat)} (m : Nat) (G : Good Γ) (hy : Γ.X.N[i]? = some y) (hyl : Γ.X.env.scope.names.lookup y = some .local) (hio : i ∉ Γ.io)
    (hsw : swapsWith (.ListComp elt [⟨tg, iter, ifs, 0⟩] scope pos) (some (.Name y py)) spos.line Γ.X.env = pure true)
    (hi : EvI Γ tg iter fi) (ok : BlkOk Γ.X.N Γ.X.env.scope scope own) (hvs : own.map (·.2) = vs) (hws : ∀ i ∈ ws, i ∈ vs)
    (hg : ∀ s H c cl fp, EvG (blkCt Γ scope s H c cl fp) tg ws g) (ht : ∀ s H c cl fp, EvPT (blkCt Γ scope s H c cl fp) ifs tt) (he : ∀ s H c cl fp, EvE (blkCt Γ scope s H c cl fp) elt te) (hs : ∀ x, foldedSetIterable iter Γ.X.env x = pure x := by intro _; rfl) :
    EvS Γ (.Assign [.Name y py] (.ListComp elt [⟨tg, iter, ifs, 0⟩] scope pos) spos) (setS i (comp fi g tt te m vs)) := by
  obtain ⟨wi, i1, i2⟩ := hi
  obtain ⟨tG, g1, g2⟩ := blk_g hg
  obtain ⟨tT, t1, t2⟩ := blk_t ht
  obtain ⟨tE, e1, e2⟩ := blk_e he
  have p0 := ps_setLc (i := i) (py := py) (spos := spos) (pos := pos) G.calm G.nd hy hyl hsw i1 ok g1 t1 e1 hs
  rw [hvs] at p0
  refine ⟨_, p0, fun σ H Z env φ S Dn P => ?_⟩
  refine (lc_ev m i2 g2 t2 e2 hws).then S P fun p env1 v H1 Z1 φ1 A e1 S1 o dj ev P1 => ?_
  exact put_ok hio S1 o dj P1
/-! ### xs.append(e), xs.extend(e), xs.pop() -/
def isLst (s : Option Sl) : Bool := match s with
  | some (some (.lst _, _)) => true
  | _ => false
def appS (i : Nat) (fe : En → R D) : En → SR := fun env => if isLst env[i]? = true then (fe env).then fun d env1 => match env1[i]? with
    | some (some (.lst ds, 1)) => if ds.length < lim then .nx (env1.set i (some (.lst (ds ++ [d]), 1))) else .no
    | _ => .no
  else .no
theorem isLst_at {σ : L2.St} {Z : Fp} {H : Hp} {env : En} {φ : Nat → Fp} (S : SttC Γ Z σ H env φ) {i : Nat} (h : isLst env[i]? = true) : ∃ a xs, σ[i]? = some (some (.ref a)) ∧ H a = some (.lst xs) := by
  unfold isLst at h
  split at h
  · rename_i ds k hi
    obtain ⟨v, hv, o⟩ := S.slot i _ _ hi
    obtain ⟨a, xs, rfl, ha, _⟩ := o.lst_at
    exact ⟨a, xs, hv, ha⟩
  · cases h
theorem es_app {i : Nat} {fe : En → R D} (G : Good Γ) (hN : Γ.X.N[i]? = some x) (hv : Vis Γ.X.env.scope x) (he : EvV Γ e fe) (hd : (x == ("__debug__" : Str)) = false := by decide) (hcd : (x == ("__classdict__" : Str)) = false := by decide)
    (hfew : ((backTo cpos (starEach [e] Γ.X.env)).all (fun x => !x.1) && (backToKw cpos (keywordEach [] Γ.X.env)).all (fun x => x.1.isSome) && decide ([e].length + ([] : List Keyword).length + (if ([] : List Keyword).isEmpty then 0 else 1) < 30)) = true := by rfl)
    (hline : (apos.endLine == cpos.line) = true := by rfl) (hs : starEach [e] Γ.X.env = (false, eval e Γ.X.env) :: starEach [] Γ.X.env := by rfl) (hsw : swapsWith (.Call (.Attribute (.Name x p) "append" apos) [e] [] cpos) none pos.line Γ.X.env = pure false := by rfl) :
    EvS Γ (.Expr (.Call (.Attribute (.Name x p) "append" apos) [e] [] cpos) pos) (appS i fe) := by
  obtain ⟨t, h1, h2⟩ := he
  refine ⟨_, ps_expr (pe_bm PySem.F.plainAttrs_list PySem.F.slot_list_append PySem.F.type_list_append mt_append (pe_var hN hv hd hcd) (pa_cons h1 pa_nil hs) rfl hfew hline hs rfl) hsw, fun σ H Z env φ S Dn P => ?_⟩
  unfold appS at P
  split at P
  · rename_i hl
    obtain ⟨a, xs, hv0, ha0⟩ := isLst_at S hl
    refine ⟨.ref a, hv0, .inl ⟨rfl, xs, SqL.of ha0⟩, ?_⟩
    refine h2.then S P fun d env1 w H1 Z1 φ1 A e1 S1 q1 dj1 ev1 P1 => ?_
    have P2 := P1.mono Evo.dropA
    split at P2
    · rename_i ds hds
      split at P2
      · rename_i hz
        obtain ⟨v, hv1, o⟩ := S1.slot i _ _ hds
        rw [hv0] at hv1; cases hv1
        obtain ⟨a', ys, e0, ha, r, hφ⟩ := o.lst_inv
        cases e0
        refine ⟨a, ys, w, rfl, rfl, ha, by rw [r.length]; exact Nat.lt_of_lt_of_le hz (lim_le (Nat.le_refl _)), ?_⟩
        have x : Ext Z1 H1 Z1 (upd H1 a (.lst (ys ++ [w]))) := Ext.upd ha (S1.nz i a ((hφ a).mpr rfl)) trivial
        obtain ⟨S2, ev2⟩ := S1.upd (o := .lst (ys ++ [w])) (A := fun b => b = a) hv0 (List.getElem?_eq_some_iff.mp hds).1 ha trivial ((hφ a).mpr rfl) (fun b hb => (hφ b).mpr hb) (Ow.lst1 upd_same ((r.snoc q1).ext x))
        exact PostS.here (P2.mono ev2) S2
      · exact P2.elim
    · exact P2.elim
  · exact P.elim
def extS (i : Nat) (fe : En → R D) : En → SR := fun env => if isLst env[i]? = true then (fe env).then fun d env1 => match env1[i]?, d with
    | some (some (.lst ds, 1)), .lst fs => if ds.length + fs.length ≤ lim then .nx (env1.set i (some (.lst (ds ++ fs), 1))) else .no
    | _, _ => .no
  else .no
theorem es_ext {i : Nat} {fe : En → R D} (G : Good Γ) (hN : Γ.X.N[i]? = some x) (hv : Vis Γ.X.env.scope x) (he : EvV Γ e fe) (hd : (x == ("__debug__" : Str)) = false := by decide) (hcd : (x == ("__classdict__" : Str)) = false := by decide)
    (hfew : ((backTo cpos (starEach [e] Γ.X.env)).all (fun x => !x.1) && (backToKw cpos (keywordEach [] Γ.X.env)).all (fun x => x.1.isSome) && decide ([e].length + ([] : List Keyword).length + (if ([] : List Keyword).isEmpty then 0 else 1) < 30)) = true := by rfl)
    (hline : (apos.endLine == cpos.line) = true := by rfl) (hs : starEach [e] Γ.X.env = (false, eval e Γ.X.env) :: starEach [] Γ.X.env := by rfl) (hsw : swapsWith (.Call (.Attribute (.Name x p) "extend" apos) [e] [] cpos) none pos.line Γ.X.env = pure false := by rfl) :
    EvS Γ (.Expr (.Call (.Attribute (.Name x p) "extend" apos) [e] [] cpos) pos) (extS i fe) := by
  obtain ⟨t, h1, h2⟩ := he
  refine ⟨_, ps_expr (pe_bm PySem.F.plainAttrs_list PySem.F.slot_list_extend PySem.F.type_list_extend mt_extend (pe_var hN hv hd hcd) (pa_cons h1 pa_nil hs) rfl hfew hline hs rfl) hsw, fun σ H Z env φ S Dn P => ?_⟩
  unfold extS at P
  split at P
  · rename_i hl
    obtain ⟨a, xs, hv0, ha0⟩ := isLst_at S hl
    refine ⟨.ref a, hv0, .inl ⟨rfl, xs, SqL.of ha0⟩, ?_⟩
    refine h2.then S P fun d env1 w H1 Z1 φ1 A e1 S1 q1 dj1 ev1 P1 => ?_
    have P2 := P1.mono Evo.dropA
    split at P2
    · rename_i ds fs hds
      split at P2
      · rename_i hz
        obtain ⟨v, hv1, o⟩ := S1.slot i _ _ hds
        rw [hv0] at hv1; cases hv1
        obtain ⟨a', ys, e0, ha, r, hφ⟩ := o.lst_inv
        cases e0
        have q1 : Sh Γ.C Z1 H1 w (.lst fs) := q1
        cases q1 with
        | @lst b us _ hb zb rb =>
          refine ⟨a, b, ys, us, rfl, rfl, ha, hb, by rw [r.length, rb.length]; exact lim_le hz, ?_⟩
          have x : Ext Z1 H1 Z1 (upd H1 a (.lst (ys ++ us))) := Ext.upd ha (S1.nz i a ((hφ a).mpr rfl)) trivial
          obtain ⟨S2, ev2⟩ := S1.upd (o := .lst (ys ++ us)) (A := fun b => b = a) hv0 (List.getElem?_eq_some_iff.mp hds).1 ha trivial ((hφ a).mpr rfl) (fun b hb => (hφ b).mpr hb) (Ow.lst1 upd_same ((r.append rb).ext x))
          exact PostS.here (P2.mono ev2) S2
      · exact P2.elim
    · exact P2.elim
  · exact P.elim

/-! ### found[x].append(y), x and y names or constants -/
/-- a value that is there without a step -/
def EvK (Γ : Ct) (e : Expr) (f : En → Option D) : Prop := ∃ t, PE Γ.X e t ∧ ∀ σ H Z env φ, SttC Γ Z σ H env φ → ∀ d, f env = some d → ∀ Q : VK, (∀ v, Sh Γ.C Z H v d → Q v H) → t σ H Q
def nmK (i : Nat) : En → Option D := fun env => match env[i]? with
  | some (some (d, k)) => if k = 0 ∨ d.isMut = false then some d else none
  | _ => none
theorem ek_name {i : Nat} (hN : Γ.X.N[i]? = some x) (hv : Vis Γ.X.env.scope x) (hd : (x == ("__debug__" : Str)) = false := by decide) (hcd : (x == ("__classdict__" : Str)) = false := by decide) : EvK Γ (.Name x pos) (nmK i) := by
  refine ⟨_, pe_var hN hv hd hcd, fun σ H Z env φ S d h Q q => ?_⟩
  unfold nmK at h
  split at h
  · rename_i d' k hi
    split at h
    · rename_i hk
      cases h
      obtain ⟨v, hv1, o⟩ := S.slot i d k hi
      refine ⟨v, hv1, q v ?_⟩
      rcases hk with rfl | hm
      · exact o.1
      · exact o.im_inv hm
    · cases h
  · cases h
theorem ek_int {i : Int} {j} : EvK Γ (.Constant (.int i) j pos) (fun _ => some (.int i)) := ⟨_, pe_int, fun σ H Z env φ S d h Q q => by cases h; exact q _ (.int i)⟩
def app2S (i : Nat) (fi fe : En → Option D) : En → SR := fun env => match env[i]?, fi env, fe env with
  | some (some (.lst dss, 2)), some (.int j), some d => (match ixN dss.length j with
    | some m => (match dss[m]? with
      | some (.lst ds) => if ds.length < lim then .nx (env.set i (some (.lst (dss.set m (.lst (ds ++ [d]))), 2))) else .no
      | _ => .no)
    | none => .no)
  | _, _, _ => .no
theorem es_app2 {i : Nat} {sp : Pos} {fi fe : En → Option D} {ie : Expr} (G : Good Γ) (hN : Γ.X.N[i]? = some x) (hv : Vis Γ.X.env.scope x) (hi : EvK Γ ie fi) (he : EvK Γ e fe) (hd : (x == ("__debug__" : Str)) = false := by decide) (hcd : (x == ("__classdict__" : Str)) = false := by decide) (hpi : PlainIx ie := by exact fun _ _ => rfl)
    (hfew : ((backTo cpos (starEach [e] Γ.X.env)).all (fun x => !x.1) && (backToKw cpos (keywordEach [] Γ.X.env)).all (fun x => x.1.isSome) && decide ([e].length + ([] : List Keyword).length + (if ([] : List Keyword).isEmpty then 0 else 1) < 30)) = true := by rfl)
    (hbase : attributeBase (.Subscript (.Name x p) ie sp) "append" Γ.X.env (eval (.Subscript (.Name x p) ie sp) Γ.X.env) = eval (.Subscript (.Name x p) ie sp) Γ.X.env := by rfl)
    (hline : (apos.endLine == cpos.line) = true := by rfl) (hs : starEach [e] Γ.X.env = (false, eval e Γ.X.env) :: starEach [] Γ.X.env := by rfl) (hsw : swapsWith (.Call (.Attribute (.Subscript (.Name x p) ie sp) "append" apos) [e] [] cpos) none pos.line Γ.X.env = pure false := by rfl) :
    EvS Γ (.Expr (.Call (.Attribute (.Subscript (.Name x p) ie sp) "append" apos) [e] [] cpos) pos) (app2S i fi fe) := by
  obtain ⟨ti, i1, i2⟩ := hi
  obtain ⟨t, h1, h2⟩ := he
  refine ⟨_, ps_expr (pe_bm PySem.F.plainAttrs_list PySem.F.slot_list_append PySem.F.type_list_append mt_append (pe_ix ix_list (pe_var hN hv hd hcd) i1 hpi) (pa_cons h1 pa_nil hs) hbase hfew hline hs rfl) hsw, fun σ H Z env φ S Dn P => ?_⟩
  unfold app2S at P
  split at P
  · rename_i dss j d hd1 hi1 he1
    split at P
    · rename_i m hm
      split at P
      · rename_i ds hds
        split at P
        · rename_i hz
          obtain ⟨v, hv1, o⟩ := S.slot i _ _ hd1
          have o0 := o
          rcases o with ⟨mm, _⟩ | ⟨A, xs, ds', B, rfl, e0, hA, hl, hc, hdj, hna, hoff, hφ⟩ | ⟨_, _, _, _, _, e, _⟩
          · cases mm
          · cases e0
            have hmx : m < xs.length := by rw [hl]; exact (List.getElem?_eq_some_iff.mp hds).1
            have hcm := hc m xs[m] (.lst ds) (List.getElem?_eq_getElem hmx) hds
            obtain ⟨q, us, eq, hq, r, hB⟩ := hcm.lst_inv
            refine ⟨.ref A, hv1, i2 σ H Z env φ S _ hi1 _ fun w hw => ?_⟩
            cases hw with
            | int _ =>
              refine ⟨A, xs, j, xs[m], rfl, rfl, SqL.of hA, ?_, ?_⟩
              · unfold atI
                rw [hl, hm]
                exact List.getElem?_eq_getElem hmx
              rw [eq]
              refine ⟨.inl ⟨rfl, us, SqL.of hq⟩, ?_⟩
              refine h2 σ H Z env φ S d he1 _ fun y hy => ?_
              have Bq : B m q := (hB q).mpr rfl
              have φq : φ i q := (hφ q).mpr (.inr ⟨m, Bq⟩)
              have nq : q ≠ A := fun z => hna m (by rw [← z]; exact Bq)
              refine ⟨q, us, y, rfl, rfl, hq, by rw [r.length]; exact Nat.lt_of_lt_of_le hz (lim_le (Nat.le_refl _)), ?_⟩
              have x : Ext Z H Z (upd H q (.lst (us ++ [y]))) := Ext.upd hq (S.nz i q φq) trivial
              have ow : Ow Γ.C Z (upd H q (.lst (us ++ [y]))) 2 (.ref A) (.lst (dss.set m (.lst (ds ++ [d])))) (φ i) := by
                refine .inr (.inl ⟨A, xs, _, B, rfl, rfl, by rw [upd_ne (Ne.symm nq)]; exact hA, by rw [List.length_set]; exact hl, fun l u f h1 h2 => ?_, hdj, hna, hoff, hφ⟩)
                by_cases hlm : l = m
                · subst hlm
                  rw [List.getElem?_set_self (by rw [← hl]; exact hmx)] at h2
                  cases h2
                  rw [List.getElem?_eq_getElem hmx] at h1
                  cases h1
                  rw [eq]
                  exact (Ow.lst1 upd_same ((r.snoc hy).ext x)).congr fun c => (hB c).symm
                · rw [List.getElem?_set_ne (Ne.symm hlm)] at h2
                  exact (hc l u f h1 h2).ext x fun c w z h => by
                    rw [upd_ne fun z2 : c = q => hlm (hdj l m c z (by rw [z2]; exact Bq))]; exact h
              -- the list of lists stands, its item was changed
              have Sd := S.drop i
              have S1 := Sd.go x (fun c w ⟨l, hl2, z⟩ h => by
                rw [upd_ne fun z2 : c = q => hl2 (S.dj l i c z (by rw [z2]; exact φq))]; exact h) (fun c ⟨l, _, z⟩ => S.nz l c z) fun c z => by
                  by_cases z2 : c = q
                  · rw [z2, upd_same]; exact Option.some_ne_none _
                  · rw [upd_ne z2]; exact S.zh c z
              have S2 := S1.reput (i := i) (by simpa using (List.getElem?_eq_some_iff.mp hd1).1) hv1 ow (fun l c hl2 z y => hl2 (S.dj l i c z.2 y)) (fun c z => S.nz i c z)
              rw [List.set_set] at S2
              refine P σ _ Z _ S2 ⟨fun c w h n => by rw [upd_ne fun z : c = q => n ⟨i, by rw [z]; exact φq⟩]; exact h, fun _ z => z, fun _ z => .inl z, fun c ⟨l, z⟩ => .inl ?_⟩
              by_cases z2 : l = i
              · simp only [if_pos z2] at z; exact ⟨i, z⟩
              · simp only [if_neg z2] at z; exact ⟨l, z.2⟩
          · cases e
        · exact P.elim
      · exact P.elim
    · exact P.elim
  · exact P.elim

/-! ### o[i] = e -/
def putVs (ks : List Key) (vs : List D) (k : Key) (d : D) : List D := (ks.zip vs).map fun q => if q.1 = k then d else q.2
def putD (d : D) (di v : D) : Option D :=
  match d with
  | .lst ds => match di with
    | .int j => (ixN ds.length j).map fun m => .lst (ds.set m v)
    | _ => none
  | .dic ks vs => (keyD di).bind fun k => if ks.length < lim then some (if hasK ks k then .dic ks (putVs ks vs k v) else .dic (ks ++ [k]) (vs ++ [v])) else none
  | _ => none
abbrev rSetA : TSet := fun o i v H Q => rSetL o i v H Q ∨ rSetD o i v H Q
theorem pset_or {X : Cx} {r r' : TSet} (h : PSet X r) (h' : PSet X r') : PSet X (fun o i v H Q => r o i v H Q ∨ r' o i v H Q) := by
  intro pins s σ H o i v ov iv u Q I ro ri rv q
  rcases q with q | q
  · exact h pins s σ H o i v ov iv u Q I ro ri rv q
  · exact h' pins s σ H o i v ov iv u Q I ro ri rv q
def sItS (i : Nat) (fe fi : En → R D) : En → SR := fun env => (fe env).then fun v env1 => match env1[i]? with
  | some (some _) => (fi env1).then fun di env2 => match env2[i]? with
    | some (some (d, 1)) => (match putD d di v with
      | some d' => .nx (env2.set i (some (d', 1)))
      | none => .no)
    | _ => .no
  | _ => .no
theorem put_zip {ks : List Key} {xs : List V} {k : Key} {y : V} (hl : ks.length = xs.length) : putK (ks.zip xs) k y = if hasK ks k = true then ks.zip ((ks.zip xs).map fun q => if q.1 = k then y else q.2) else (ks ++ [k]).zip (xs ++ [y]) := by
  unfold putK
  have e : ((ks.zip xs).any fun kv => decide (kv.1 = k)) = hasK ks k := by
    have := cval ks xs k hl
    rw [← this]
    exact valV_any k (ks.zip xs)
  rw [e]
  by_cases h : hasK ks k = true
  · rw [if_pos h, if_pos h]
    clear e h
    induction ks generalizing xs with
    | nil => rfl
    | cons j ks ih =>
      cases xs with
      | nil => rfl
      | cons x xs =>
        rw [List.zip_cons_cons, List.map_cons, List.map_cons, List.zip_cons_cons]
        rw [ih (by simpa using hl)]
        by_cases q : j = k
        · simp [q]
        · simp [q]
  · rw [if_neg h, if_neg h]
    rw [List.zip_append hl]
    rfl
theorem putVs_sh {C : RC} {Z : Fp} {H : Hp} {ks : List Key} {xs : List V} {ds : List D} {k : Key} {y : V} {d : D} (r : ShL C Z H xs ds) (h : Sh C Z H y d) (hl : ks.length = xs.length) : ShL C Z H ((ks.zip xs).map fun q => if q.1 = k then y else q.2) (putVs ks ds k d) := by
  unfold putVs
  induction ks generalizing xs ds with
  | nil => exact .nil
  | cons j ks ih =>
    cases r with
    | nil => exact .nil
    | cons h1 r =>
      rw [List.zip_cons_cons, List.zip_cons_cons, List.map_cons, List.map_cons]
      refine .cons ?_ (ih r (by simpa using hl))
      by_cases q : j = k
      · simp only [q, if_true]; exact h
      · simp only [q, if_false]; exact h1
theorem es_sub {i : Nat} {ie : Expr} {fe fi : En → R D} {k : Nat} (G : Good Γ) (hr : Room k Γ.X.A) (hN : Γ.X.N[i]? = some x) (hv : Vis Γ.X.env.scope x) (he : EvV Γ e fe) (hi : EvV Γ ie fi) (hd : (x == ("__debug__" : Str)) = false := by decide) (hcd : (x == ("__classdict__" : Str)) = false := by decide)
    (ha : ∀ v, assign (.Subscript (.Name x p) ie apos) Γ.X.env v = (do
      let ov ← holding [v] (eval (.Name x p) Γ.X.env)
      let iv ← holding [v, ov] (eval ie Γ.X.env)
      standAt apos
      holding [v, ov, iv] (setItem ov iv v)
      release [v, ov, iv] []) := by intro _; rfl)
    (hs : swapsWithSole [.Subscript (.Name x p) ie apos] e pos.line Γ.X.env = pure false := by rfl) (hw : swappedStores [.Subscript (.Name x p) ie apos] e Γ.X.env = pure none := by rfl)
    (h1 : (assignEach [.Subscript (.Name x p) ie apos] Γ.X.env).map (·.2) = [assign (.Subscript (.Name x p) ie apos) Γ.X.env] := by rfl) :
    EvS Γ (.Assign [.Subscript (.Name x p) ie apos] e pos) (sItS i fe fi) := by
  obtain ⟨t, a1, a2⟩ := he
  obtain ⟨u, b1, b2⟩ := hi
  refine ⟨_, ps_asg a1 (pg_sub (pe_var hN hv hd hcd) b1 (pset_or set_list (set_dict (hu_of hr))) ha) hs hw h1, fun σ H Z env φ S Dn P => ?_⟩
  refine a2.then S P fun v env1 vv H1 Z1 φ1 A e1 S1 q1 dj1 ev1 P1 => ?_
  have P1' := P1.mono Evo.dropA
  split at P1'
  · rename_i p0 hp0
    obtain ⟨ov, hov, _⟩ := S1.slot i p0.1 p0.2 hp0
    refine ⟨ov, hov, ?_⟩
    refine b2.then S1 P1' fun di env2 iv H2 Z2 φ2 B e2 S2 q2 dj2 ev2 P2 => ?_
    have P2' := P2.mono Evo.dropA
    have q1' : Sh Γ.C Z2 H2 vv v := Sh.ext (S1.ext ev2) v vv q1
    split at P2'
    · rename_i d hd2
      obtain ⟨ov', hov', o⟩ := S2.slot i _ _ hd2
      rw [hov] at hov'; cases hov'
      have hi2 := (List.getElem?_eq_some_iff.mp hd2).1
      cases ep : putD d di v with
      | none => rw [ep] at P2'; exact P2'.elim
      | some d' =>
        rw [ep] at P2'
        simp only at P2'
        unfold putD at ep
        split at ep
        · rename_i ds
          split at ep
          · rename_i j
            obtain ⟨m, hm, rfl⟩ := Option.map_eq_some_iff.mp ep
            obtain ⟨a, ys, rfl, ha2, r, hφ⟩ := o.lst_inv
            have q2 : Sh Γ.C Z2 H2 iv (.int j) := q2
            cases q2
            refine .inl ⟨a, ys, j, m, rfl, rfl, ha2, by rw [r.length]; exact hm, ?_⟩
            have x : Ext Z2 H2 Z2 (upd H2 a (.lst (ys.set m vv))) := Ext.upd ha2 (S2.nz i a ((hφ a).mpr rfl)) trivial
            obtain ⟨S3, ev3⟩ := S2.upd (o := .lst (ys.set m vv)) (A := fun b => b = a) hov hi2 ha2 trivial ((hφ a).mpr rfl) (fun b hb => (hφ b).mpr hb) (Ow.lst1 upd_same ((ShL.set q1' m r).ext x))
            exact PostS.here (P2'.mono ev3) S3
          · cases ep
        · rename_i ks vs
          obtain ⟨key, hk, ep⟩ := Option.bind_eq_some_iff.mp ep
          split at ep
          · rename_i hz
            obtain ⟨a, ys, rfl, ha2, hl, r, hφ⟩ := o.dic_inv
            have ei := keyD_eq hk (Rd1.sh (C := Γ.C) q2)
            subst ei
            have hlen : (ks.zip ys).length < sizeLine := by rw [List.length_zip, hl, Nat.min_self, ← hl]; exact Nat.lt_of_lt_of_le hz (lim_le (Nat.le_refl _))
            refine .inr ⟨a, _, rfl, DPut.k ha2 hlen, ?_⟩
            have pz := put_zip (k := key) (y := vv) hl
            by_cases hh : hasK ks key = true
            · rw [if_pos hh] at ep pz
              cases ep
              rw [pz]
              have x : Ext Z2 H2 Z2 (upd H2 a (.dK (ks.zip ((ks.zip ys).map fun q => if q.1 = key then vv else q.2)))) := Ext.upd ha2 (S2.nz i a ((hφ a).mpr rfl)) trivial
              have r2 := putVs_sh (k := key) r q1' hl
              obtain ⟨S3, ev3⟩ := S2.upd (o := .dK (ks.zip ((ks.zip ys).map fun q => if q.1 = key then vv else q.2))) (A := fun b => b = a) hov hi2 ha2 trivial ((hφ a).mpr rfl) (fun b hb => (hφ b).mpr hb)
                (Ow.dic1 upd_same (by rw [List.length_map, List.length_zip, hl, Nat.min_self]) (r2.ext x))
              exact PostS.here (P2'.mono ev3) S3
            · rw [if_neg hh] at ep pz
              cases ep
              rw [pz]
              have x : Ext Z2 H2 Z2 (upd H2 a (.dK ((ks ++ [key]).zip (ys ++ [vv])))) := Ext.upd ha2 (S2.nz i a ((hφ a).mpr rfl)) trivial
              obtain ⟨S3, ev3⟩ := S2.upd (o := .dK ((ks ++ [key]).zip (ys ++ [vv]))) (A := fun b => b = a) hov hi2 ha2 trivial ((hφ a).mpr rfl) (fun b hb => (hφ b).mpr hb)
                (Ow.dic1 upd_same (by rw [List.length_append, List.length_append, hl]; rfl) ((r.snoc q1').ext x))
              exact PostS.here (P2'.mono ev3) S3
          · cases ep
        · cases ep
    · exact P2'.elim
  · exact P1'.elim

/-! ### x op= e -/
def augS (g : D → D → Option (D × Nat)) (i : Nat) (fe : En → R D) : En → SR := fun env => match env[i]? with
  | some (some (d, _)) => if d.isMut = false then (fe env).then fun e env1 => (match g d e with
    | some q => putE env1 i q
    | none => .no) else .no
  | _ => .no
theorem es_aug {i : Nat} {fe : En → R D} {op : Operator} {g : D → D → Option (D × Nat)} {r : R2} (G : Good Γ) (ho : OpR Γ.X (inplaceOp op) r) (hD : Does2 Γ g r) (hi : Γ.X.N[i]? = some x) (hx : Loc Γ.X.env.scope x) (hio : i ∉ Γ.io) (he : EvV Γ e fe)
    (hf : Γ.X.fn x = true ∨ Γ.X.env.scope.names.lookup x = some .local := by first | exact .inl rfl | exact .inr rfl | assumption) : EvS Γ (.AugAssign (.Name x p) op e pos) (augS g i fe) := by
  obtain ⟨t, a1, a2⟩ := he
  refine ⟨_, ps_aug G.nd hi hx a1 (op := op) (ti := r) (fun pins s σ H x y v u Q I rx ry h => ho pins s σ H x y v u Q I rx ry h) hf, fun σ H Z env φ S Dn P => ?_⟩
  unfold augS at P
  split at P
  · rename_i d k hd
    split at P
    · rename_i hm
      obtain ⟨v, hv, o⟩ := S.slot i d k hd
      have sh := o.im_inv hm
      refine ⟨v, hv, ?_⟩
      refine a2.then S P fun e env1 w H1 Z1 φ1 A e1 S1 q1 dj1 ev1 P1 => ?_
      have P2 := P1.mono Evo.dropA
      cases eg : g d e with
      | none => rw [eg] at P2; exact P2.elim
      | some q =>
        rw [eg] at P2
        refine hD σ H1 Z1 env1 φ1 S1 v w d e q (.sh (Sh.ext (S.ext (ev1.sub (F2 := Tot φ1) fun _ z => .inl z)) d v sh)) (.sh q1) eg _ ?_
        exact fun b H' Z' φ' B S' ob dj ev => put_ok hio S' ob dj (PostS.mono P2 ev)
    · exact P.elim
  · exact P.elim
abbrev rAddI : R2 := fun x y H Q => rI0 (fun i j => .int (i + j)) x y H Q
def iaddD : D → D → Option (D × Nat)
  | .int i, .int j => some (.int (i + j), 0)
  | _, _ => none
def imulD : D → D → Option (D × Nat)
  | .int i, .int j => if mulOk i j then some (.int (i * j), 0) else none
  | _, _ => none
theorem iop_mulZ {X : Cx} : OpR X (inplaceOp .Mult) rMulZ := by
  intro pins s σ H x y v u Q I rx ry h
  obtain ⟨i, j, rfl, rfl, hc, q⟩ := h
  obtain ⟨t, rfl⟩ := rx
  obtain ⟨t', rfl⟩ := ry
  exact imul_int ⟨.int _, H, I.tok _, ⟨_, rfl⟩, q⟩ hc
theorem does_iadd : Does2 Γ iaddD (rI0 fun i j => .int (i + j)) := by
  intro σ H Z env φ S x y d e p hx hy hg Q P
  unfold iaddD at hg
  split at hg
  · cases hg
    rw [hx.intI, hy.intI]
    exact ⟨_, _, rfl, rfl, Post.here P S (Ow.sh (.int _))⟩
  · cases hg
theorem does_imul : Does2 Γ imulD rMulZ := by
  intro σ H Z env φ S x y d e p hx hy hg Q P
  unfold imulD at hg
  split at hg
  · split at hg
    · rename_i hz
      cases hg
      rw [hx.intI, hy.intI]
      exact ⟨_, _, rfl, rfl, mulOk.ok hz, Post.here P S (Ow.sh (.int _))⟩
    · cases hg
  · cases hg
theorem es_iadd {i : Nat} {fe : En → R D} (G : Good Γ) (hi : Γ.X.N[i]? = some x) (hx : Loc Γ.X.env.scope x) (hio : i ∉ Γ.io) (he : EvV Γ e fe) (hf : Γ.X.fn x = true ∨ Γ.X.env.scope.names.lookup x = some .local := by first | exact .inl rfl | exact .inr rfl | assumption) : EvS Γ (.AugAssign (.Name x p) .Add e pos) (augS iaddD i fe) := es_aug G iop_add does_iadd hi hx hio he hf
theorem es_isub {i : Nat} {fe : En → R D} (G : Good Γ) (hi : Γ.X.N[i]? = some x) (hx : Loc Γ.X.env.scope x) (hio : i ∉ Γ.io) (he : EvV Γ e fe) (hf : Γ.X.fn x = true ∨ Γ.X.env.scope.names.lookup x = some .local := by first | exact .inl rfl | exact .inr rfl | assumption) : EvS Γ (.AugAssign (.Name x p) .Sub e pos) (augS subD i fe) := es_aug G iop_sub does_sub hi hx hio he hf
theorem es_imul {i : Nat} {fe : En → R D} (G : Good Γ) (hi : Γ.X.N[i]? = some x) (hx : Loc Γ.X.env.scope x) (hio : i ∉ Γ.io) (he : EvV Γ e fe) (hf : Γ.X.fn x = true ∨ Γ.X.env.scope.names.lookup x = some .local := by first | exact .inl rfl | exact .inr rfl | assumption) : EvS Γ (.AugAssign (.Name x p) .Mult e pos) (augS imulD i fe) := es_aug G iop_mulZ does_imul hi hx hio he hf
theorem es_idiv {i : Nat} {fe : En → R D} (G : Good Γ) (hi : Γ.X.N[i]? = some x) (hx : Loc Γ.X.env.scope x) (hio : i ∉ Γ.io) (he : EvV Γ e fe) (hf : Γ.X.fn x = true ∨ Γ.X.env.scope.names.lookup x = some .local := by first | exact .inl rfl | exact .inr rfl | assumption) : EvS Γ (.AugAssign (.Name x p) .FloorDiv e pos) (augS fdivD i fe) := es_aug G iop_divZ does_fdiv hi hx hio he hf

/-! ### raise -/
/-- an error class without an __init__ of its own: its number, its facts -/
structure ExcC (Γ : Ct) (x : Str) (c : Nat) (a : Addr) : Prop where
  g : Γ.X.mg x = some (.ref a)
  k : PySem.W.keepIn Γ.X.K (.ref a) = true
  q : PySem.W.excIn Γ.X.K a [.type "ValueError", .type "Exception", .type "BaseException", .type "object"] "ValueError.__new__" = true
  r : Raises Γ.X (.ref a)
  n : Γ.C.ca c = some a
def raiseS (c : Nat) : En → SR := fun _ => .ex (.mk c [])
theorem es_raise {c : Nat} {a0 : Addr} {m : Str} {j : Nat} {p2 : Pos} (G : Good Γ) (E : ExcC Γ x c a0) (hg : Gl Γ.X x) (hdb : (x == ("__debug__" : Str)) = false := by decide) : EvS Γ (.Raise (some (.Call (.Name x p) [.Constant (.str m) j p2] [] cpos)) none pos) (raiseS c) := by
  refine ⟨_, ps_raise G.calm G.tk (pmk_own PySem.F.excBase_ValueError E.q E.g E.k E.r hg hdb), fun σ H Z env φ S Dn P => ?_⟩
  exact P σ S.io S.l0 (.ref a0) none H Z (Evo.refl.sub fun _ z => z.elim) S.zh ⟨a0, E.n, rfl, .inl rfl⟩
end
end Pv
end

section
set_option Elab.async false
set_option linter.all false
set_option maxRecDepth 100000
set_option maxHeartbeats 4000000
/-! Pv12: try .. except X: suite (the first clause takes what comes); the end of a law. -/
namespace Pv
open PySem PySem.Spec PyProof.Rows L2

/-- what the first clause wishes of an exception of the body -/
def wFst (K : PySem.W.Frag) (c : Value) (ts : Addr → Value → Option Addr → TS) (D : Ends) : WX := fun cls d σ H => PySem.W.exmOne K cls c = some true ∧ ∀ a, H a = none → ts a cls d D σ H
section
variable {X : Cx} {body : List Stmt} {pos : Pos} {tb : WX → TS}
theorem ps_try_fst {x : Str} {c : Value} {ts : Addr → Value → Option Addr → TS} {b₀ : Stmt} {suite : List Stmt} {np pos' : Pos} {hds : List ExceptHandler} (hs : X.stack = X.env :: X.outer) (hf : X.env.frame = some X.env.locals)
    (hb : ∀ (W : WX) (pn : List (Addr × Obj)) (xe : Value → Shared → Prop), Takes (X.tr pn xe) W → PassesOwn (model X.prog X.w) X.A X.env xe → PSs (X.tr pn xe) body (tb W))
    (hc : Names X x c) (hsu : ∀ (a : Addr) (oe : Obj) (cls : Value) (d : Option Addr) (pn : List (Addr × Obj)), Zc cls d oe → (∃ vs, oe.data = .fields vs) → PSs (X.suite a ((a, oe) :: pn)) (b₀ :: suite) (ts a cls d)) :
    PS X (.Try body (.ExceptHandler (some (.Name x np)) none (b₀ :: suite) pos' :: hds) [] [] pos) (fun D σ H => tb (wFst X.K c ts D) D σ H) := by
  refine ⟨fun pins s σ H D I h => ?_⟩
  have ok := I.ok
  have hfr : X.A.frames = some (X.env :: X.outer) := by rw [ok.frames, hs]
  refine wpAny_Try_except ?_
  refine wpAny_mono ((hb (wFst X.K c ts D) (X.pn ++ pins) (fun e s₁ => wpAny (model X.prog X.w) X.A (noteFrame e X.env) (fun _ s₂ => wpAny (model X.prog X.w) X.A (setFlight e none) (fun _ s₃ =>
    wpAny (model X.prog X.w) X.A (handleBy e X.env (.ExceptHandler (some (.Name x np)) none (b₀ :: suite) pos' :: hds)) (SP X pins D) X.xe s₃) X.xe s₂) X.xe s₁) (fun u s' xx => ?_) PassesOwn.looking).run [] s σ H D (I.toTry _) h) (fun f s1 hsp => ?_) (fun e s1 he => he)
  · obtain ⟨a, B, sI, pins', σ', H', cls, d, rfl, J', nb, up, sky, na, os, ag, w⟩ := xx
    have J : Inv X pins σ' H' sI := J'.ofTry ok
    have sky' : Sky B (X.env :: X.outer) a (Zc cls d) X.env.locals s'.heap := by rw [← hs]; exact sky
    show wpAny (model X.prog X.w) X.A (noteFrame (.ref a) X.env) _ _ _
    refine Sky.land Zc.steady hfr hf sky' fun h3 fl3 up3 => ?_
    have J3 : Inv X pins σ' H' { s' with heap := h3 } := J.landed nb fl3.1 (up.trans up3) os ag
    obtain ⟨oe3, vs3, he3, hz3, hd3⟩ := fl3.there
    have notFr : ∀ {h : Heap} {o : Obj} {vs : Array Value}, h.FunFrames B (X.env :: X.outer) → h.get? a = some o → o.data = .fields vs → a ∉ frs (X.env :: X.outer) := fun {h o vs} ff e dd hm => by
      obtain ⟨_, o', e', hnf⟩ := ff.mem hm
      rw [e] at e'; cases e'
      exact hnf _ dd
    have nfr := notFr fl3.2.2.1 he3 hd3
    have nL : a ≠ X.env.locals := fun z => nfr (List.mem_filterMap.mpr ⟨X.env, List.mem_cons_self, by rw [hf, z]⟩)
    have nF : a ∉ X.fs := fun hm => by
      obtain ⟨e, he, q⟩ := List.mem_filterMap.mp hm
      exact nfr (List.mem_filterMap.mpr ⟨e, List.mem_cons_of_mem _ he, q⟩)
    have S3 := J3.suite he3 hd3 na nL nF
    obtain ⟨hb1, hyes⟩ := w
    refine wpAny_handleBy_cons (codeAny_handlers_test ?_) (by intro q; cases q)
    have LT : PySem.W.Looks (model X.prog X.w) h3 (typeOf (.ref a)) cls := fun A Q E s k q => wpAny_typeOf_ref (k _ _ he3) (by rw [hz3.1]; exact q)
    have LM := PySem.W.exm_one (M := model X.prog X.w) (J3.kIn) LT hb1
    have test : ∀ {Q : Value → Shared → Prop} {E : Value → Shared → Prop}, Q c { s' with heap := h3 } → wpAny (model X.prog X.w) (X.A.mark (some (.ref a))) (eval (.Name x np) X.env) Q E { s' with heap := h3 } := fun {Q E} q => by
      obtain ⟨hg, hdbg, hm | ⟨hm, hv, hnn⟩⟩ := hc
      · exact ld_glob (X := X.suite a ((a, oe3) :: (X.pn ++ pins))) S3 hg hm q hdbg
      · exact ld_blt (X := X.suite a ((a, oe3) :: (X.pn ++ pins))) S3 hg hm hv q hnn hdbg
    refine test (LM.here ?_)
    refine codeAny_handlers_suite ?_
    refine HandSPX.lands_againZ fl3 fun h4 fl4 up4 => ?_
    have J4 : Inv X pins σ' H' { s' with heap := h4 } := J.landed nb fl4.1 ((up.trans up3).trans up4) os ag
    obtain ⟨oe4, vs4, he4, hz4, hd4⟩ := fl4.there
    have S4 := J4.suite he4 hd4 na nL nF
    refine wpAny_mono ((hsu a oe4 cls d (X.pn ++ pins) hz4 ⟨_, hd4⟩).run [] _ _ H' _ S4 (hyes a na)) (fun f s6 hsp => ?_) (fun _ _ z => False.elim z)
    cases f with
    | next =>
      obtain ⟨σ6, H6, S6, q6⟩ := hsp
      exact ⟨_, _, S6.unsuite ok, q6⟩
    | brk =>
      obtain ⟨σ6, H6, S6, q6⟩ := hsp
      exact ⟨_, _, S6.unsuite ok, q6⟩
    | cont =>
      obtain ⟨σ6, H6, S6, q6⟩ := hsp
      exact ⟨_, _, S6.unsuite ok, q6⟩
    | ret u =>
      obtain ⟨v6, σ6, H6, S6, r6, q6⟩ := hsp
      exact ⟨_, _, _, S6.unsuite ok, r6, q6⟩
  · cases f with
    | next =>
      obtain ⟨σ', H', J', q⟩ := hsp
      exact wpAny_execs_nil ⟨σ', H', J'.ofTry ok, q⟩
    | brk =>
      obtain ⟨σ', H', J', q⟩ := hsp
      exact ⟨σ', H', J'.ofTry ok, q⟩
    | cont =>
      obtain ⟨σ', H', J', q⟩ := hsp
      exact ⟨σ', H', J'.ofTry ok, q⟩
    | ret u =>
      obtain ⟨v, σ', H', J', r, q⟩ := hsp
      exact ⟨v, σ', H', J'.ofTry ok, r, q⟩
end

/-- the slots that a clause may read: those never stored, and of them what is shared -/
def keepE (io : List Nat) (env : En) : En := env.mapIdx fun i s => if i ∈ io then (match s with
  | some (d, 0) => some (d, 0)
  | _ => none) else none
theorem keepE_at {io : List Nat} {env : En} {i : Nat} {d : D} {k : Nat} (h : (keepE io env)[i]? = some (some (d, k))) : i ∈ io ∧ env[i]? = some (some (d, 0)) ∧ k = 0 := by
  unfold keepE at h
  rw [List.getElem?_mapIdx] at h
  cases e : env[i]? with
  | none => rw [e] at h; cases h
  | some s =>
    rw [e] at h
    have h := Option.some.inj h
    split at h
    · rename_i hi
      simp only at h
      split at h
      · cases h; exact ⟨hi, rfl, rfl⟩
      · cases h
    · cases h
abbrev tryCt (Γ : Ct) (pn : List (Addr × Obj)) (xe : Value → Shared → Prop) (W : WX) : Ct := ⟨Γ.X.tr pn xe, Γ.C, W, Γ.io, Γ.σ₀⟩
abbrev suiCt (Γ : Ct) (a : Addr) (oe : Obj) (pn : List (Addr × Obj)) : Ct := ⟨Γ.X.suite a ((a, oe) :: pn), Γ.C, fun _ _ _ _ => False, Γ.io, Γ.σ₀⟩
theorem Good.tryG {Γ : Ct} (G : Good Γ) {pn : List (Addr × Obj)} {xe : Value → Shared → Prop} {W : WX} (tk : Takes (Γ.X.tr pn xe) W) : Good (tryCt Γ pn xe W) := ⟨G.hK, G.nd, G.calm, tk⟩
def SR.noX (r : SR) : SR := match r with
  | .ex _ => .no
  | r => r
def tryS (io : List Nat) (c : Nat) (f h : En → SR) : En → SR := fun env => match f env with
  | .ex (.mk c' _) => if c' = c then (h (keepE io env)).noX else .no
  | r => r
section
variable {Γ : Ct} {body : List Stmt} {pos : Pos} {f g : En → SR}
theorem es_try {x : Str} {c : Nat} {a₀ : Addr} {b₀ : Stmt} {suite : List Stmt} {np pos' : Pos} {hds : List ExceptHandler} (G : Good Γ) (hs : Γ.X.stack = Γ.X.env :: Γ.X.outer) (hf : Γ.X.env.frame = some Γ.X.env.locals) (hio : Γ.io ≠ [])
    (hb : ∀ W pn xe, Takes (Γ.X.tr pn xe) W → PassesOwn (model Γ.X.prog Γ.X.w) Γ.X.A Γ.X.env xe → EvB (tryCt Γ pn xe W) body f)
    (hg : Gl Γ.X x) (hm : Γ.X.mg x = some (.ref a₀)) (hn : Γ.C.ca c = some a₀) (hx : PySem.W.exmOne Γ.X.K (.ref a₀) (.ref a₀) = some true) (hsu : ∀ a oe pn, EvB (suiCt Γ a oe pn) (b₀ :: suite) g) (hdb : (x == ("__debug__" : Str)) = false := by decide) :
    EvS Γ (.Try body (.ExceptHandler (some (.Name x np)) none (b₀ :: suite) pos' :: hds) [] [] pos) (tryS Γ.io c f g) := by
  have nm : Names Γ.X x (.ref a₀) := ⟨hg, hdb, .inl hm⟩
  refine ⟨_, ps_try_fst (tb := fun W D σ H => ∀ pn xe tk po, Classical.choose (hb W pn xe tk po) D σ H) (ts := fun a _ _ D σ H => ∀ oe pn, Classical.choose (hsu a oe pn) D σ H) hs hf (fun W pn xe tk po => ⟨fun pins s σ H D I h => (Classical.choose_spec (hb W pn xe tk po)).1.run pins s σ H D I (h pn xe tk po)⟩) nm
    (fun a oe cls d pn _ _ => ⟨fun pins s σ H D I h => (Classical.choose_spec (hsu a oe pn)).1.run pins s σ H D I (h oe pn)⟩), fun σ H Z env φ S Dn P pn xe tk po => ?_⟩
  refine (Classical.choose_spec (hb _ pn xe tk po)).2 σ H Z env φ S Dn ?_
  unfold tryS at P
  cases e : f env with
  | nx env1 => rw [e] at P; exact P
  | bk env1 => rw [e] at P; exact P
  | ct env1 => rw [e] at P; exact P
  | ret p env1 => rw [e] at P; exact P
  | no => rw [e] at P; exact P
  | ex x =>
    obtain ⟨c', fs⟩ := x
    rw [e] at P
    simp only at P
    by_cases hcc : c' = c
    · rw [if_pos hcc] at P
      subst hcc
      intro σ' k1 k2 cls dx H' Z' ev zh xr
      obtain ⟨a1, h1, rfl, _⟩ := xr
      have h1 : Γ.C.ca c' = some a1 := h1
      rw [hn] at h1; cases h1
      refine ⟨hx, fun a ha oe pn2 => ?_⟩
      have S' : SttC (suiCt Γ a oe pn2) Z' σ' H' (keepE Γ.io env) (fun _ _ => False) :=
        { len := by
            have l1 := S.l0 hio
            have l2 : σ'.length = Γ.σ₀.length := k2 hio
            have l3 := S.len
            show σ'.length = (keepE Γ.io env).length
            unfold keepE
            rw [List.length_mapIdx]
            omega
          slot := fun i d k h => by
            obtain ⟨hi, h0, rfl⟩ := keepE_at h
            obtain ⟨v, hv, o⟩ := S.slot i d 0 h0
            refine ⟨v, by rw [k1 i hi, ← S.io i hi]; exact hv, o.1.ext (S.ext ev), fun _ z => z⟩
          off := fun _ _ _ z => z
          dj := fun _ _ _ z => z.elim
          nz := fun _ _ z => z.elim
          zh := zh
          l0 := k2
          io := k1 }
      refine (Classical.choose_spec (hsu a oe pn2)).2 σ' H' Z' _ _ S' Dn ?_
      have P2 := PostS.mono P (ev.sub (F2 := Tot fun (_ : Nat) (_ : Addr) => False) fun a ⟨_, z⟩ => z.elim)
      cases eg : g (keepE Γ.io env) with
      | nx env1 => rw [eg] at P2; exact P2
      | bk env1 => rw [eg] at P2; exact P2
      | ct env1 => rw [eg] at P2; exact P2
      | ret p env1 => rw [eg] at P2; exact P2
      | no => rw [eg] at P2; exact P2
      | ex y => rw [eg] at P2; exact P2.elim
    · rw [if_neg hcc] at P; exact P.elim
end
end Pv
end

section
set_option Elab.async false
set_option linter.all false
set_option maxRecDepth 100000
set_option maxHeartbeats 4000000
/-! Pv13: sorted, ranges with a step, three stores at once, <= of tuples. -/
namespace Pv
open PySem PySem.Spec PyProof.Rows L2
open PySem.Calls (call_function_entry)

/-! ### sorted -/
def encD (d : D) : PyData := d.py.getD .none
structure SortOk (ds : List D) : Prop where
  py : ∀ d ∈ ds, d.py ≠ none
  al : PySem.W.AllAlike (ds.map encD)
  so : PySem.W.Sortable (ds.map encD)
  dp : ∀ d ∈ ds, (encD d).depth ≤ 16
/-- merging and sorting that can be reckoned out -/
def mrg {α : Type} (le : α → α → Bool) : Nat → List α → List α → List α
  | 0, xs, ys => xs ++ ys
  | k + 1, xs, ys => match xs, ys with
    | [], ys => ys
    | x :: xs, [] => x :: xs
    | x :: xs, y :: ys => if le x y then x :: mrg le k xs (y :: ys) else y :: mrg le k (x :: xs) ys
theorem mrg_eq {α : Type} (le : α → α → Bool) : ∀ (k : Nat) (xs ys : List α), xs.length + ys.length ≤ k → mrg le k xs ys = List.merge xs ys le
  | 0, xs, ys, h => by
    have h1 : xs = [] := List.length_eq_zero_iff.mp (by omega)
    have h2 : ys = [] := List.length_eq_zero_iff.mp (by omega)
    subst h1 h2
    simp [mrg]
  | k + 1, [], ys, h => by simp [mrg]
  | k + 1, x :: xs, [], h => by simp [mrg]
  | k + 1, x :: xs, y :: ys, h => by
    simp only [List.length_cons] at h
    show (if le x y then x :: mrg le k xs (y :: ys) else y :: mrg le k (x :: xs) ys) = _
    rw [List.merge, mrg_eq le k xs (y :: ys) (by simp; omega), mrg_eq le k (x :: xs) ys (by simp; omega)]
def msr {α : Type} (le : α → α → Bool) : Nat → List α → List α
  | 0, xs => xs
  | k + 1, xs => match xs with
    | [] => []
    | [a] => [a]
    | a :: b :: r => mrg le ((a :: b :: r).length) (msr le k ((a :: b :: r).take (((a :: b :: r).length + 1) / 2))) (msr le k ((a :: b :: r).drop (((a :: b :: r).length + 1) / 2)))
theorem msr_eq {α : Type} (le : α → α → Bool) : ∀ (k : Nat) (xs : List α), xs.length ≤ k + 1 → msr le k xs = xs.mergeSort le
  | 0, [], _ => by simp [msr]
  | 0, [a], _ => by simp [msr]
  | 0, _ :: _ :: _, h => by simp at h
  | k + 1, [], _ => by simp [msr]
  | k + 1, [a], _ => by simp [msr]
  | k + 1, a :: b :: r, h => by
    simp only [List.length_cons] at h
    unfold msr
    rw [List.mergeSort]
    simp only [List.MergeSort.Internal.splitInTwo_fst, List.MergeSort.Internal.splitInTwo_snd]
    have l1 : ((a :: b :: r).take (((a :: b :: r).length + 1) / 2)).length ≤ k + 1 := by simp; omega
    have l2 : ((a :: b :: r).drop (((a :: b :: r).length + 1) / 2)).length ≤ k + 1 := by simp; omega
    rw [msr_eq le k _ l1, msr_eq le k _ l2]
    exact mrg_eq le _ _ _ (by simp [List.length_mergeSort]; omega)
def lexLe : List Int → List Int → Bool
  | [], _ => true
  | _ :: _, [] => false
  | x :: xs, y :: ys => if x = y then lexLe xs ys else decide (x < y)
def leK : D → D → Bool
  | .tup xs, .tup ys => match D.ints xs, D.ints ys with
    | some ns, some ms => lexLe ns ms
    | _, _ => PySem.W.dataLe false encD (.tup xs) (.tup ys)
  | d, e => PySem.W.dataLe false encD d e
theorem pyL_ints : ∀ ns : List Int, D.pyL (ns.map D.int) = some (ns.map PyData.int)
  | [] => rfl
  | n :: ns => by
    show D.pyL (.int n :: ns.map D.int) = _
    rw [D.pyL, pyL_ints ns]
    rfl
theorem encD_ints (ns : List Int) : encD (.tup (ns.map D.int)) = .tuple (ns.map PyData.int) := by
  unfold encD
  rw [D.py, pyL_ints]
  rfl
theorem lexLe_eq : ∀ xs ys : List Int, lexLe xs ys = !decide (ys < xs)
  | [], ys => by
    have : ¬ ys < [] := List.not_lt_nil ys
    simp [lexLe, this]
  | x :: xs, [] => by simp [lexLe]
  | x :: xs, y :: ys => by
    unfold lexLe
    rw [lexLe_eq xs ys]
    simp only [List.cons_lt_cons_iff]
    by_cases h : x = y
    · subst h
      simp
    · have h' : ¬ y = x := fun e => h e.symm
      simp only [if_neg h, h', false_and, or_false]
      by_cases h2 : x < y
      · have : ¬ y < x := by omega
        simp [h2, this]
      · have : y < x := by omega
        simp [h2, this]
theorem leK_eq : leK = PySem.W.dataLe false encD := by
  funext d e
  unfold leK
  split
  · split
    · rename_i xs ys ns ms e1 e2
      rw [D.ints_eq e1, D.ints_eq e2, lexLe_eq]
      show _ = (!PySem.W.dataLt (encD (.tup (ms.map D.int))) (encD (.tup (ns.map D.int))))
      rw [encD_ints, encD_ints, PySem.W.dataLt_tuple]
      exact congrArg (!·) (PySem.W.dataLt_ints ms ns).symm
    · rfl
  · rfl
def srt (ds : List D) : List D := msr leK ds.length ds
theorem srt_eq (ds : List D) : srt ds = ds.mergeSort (PySem.W.dataLe false encD) := by
  unfold srt
  rw [msr_eq leK _ _ (Nat.le_succ _), leK_eq]
def intTup : D → Bool
  | .tup (x :: xs) => (D.ints (x :: xs)).isSome
  | _ => false
def isInt : D → Bool
  | .int _ => true
  | _ => false
def isStr : D → Bool
  | .str _ => true
  | _ => false
def neTup : PyData → Bool
  | .tuple (_ :: _) => true
  | _ => false
def noTup : PyData → Bool
  | .tuple _ => false
  | .none => false
  | _ => true
def sortOkG (ds : List D) : Bool := ds.all (fun d => d.py.isSome && decide ((encD d).depth ≤ 16)) && (ds.all (fun d => ds.all fun e => PySem.W.alike (encD d) (encD e)) && (ds.all (fun d => neTup (encD d)) || ds.all (fun d => noTup (encD d))))
def sortOkB (ds : List D) : Bool := ds.all intTup || ds.all isInt || ds.all isStr || sortOkG ds
theorem intTup_eq {d : D} (h : intTup d = true) : ∃ n ns, d = .tup ((n :: ns).map D.int) := by
  unfold intTup at h
  split at h
  · rename_i x xs
    cases e : D.ints (x :: xs) with
    | none => rw [e] at h; cases h
    | some ns =>
      have := D.ints_eq e
      cases ns with
      | nil => cases this
      | cons n ns => exact ⟨n, ns, by rw [this]⟩
  · cases h
theorem sortOk_of {ds : List D} (h : sortOkB ds = true) : SortOk ds := by
  unfold sortOkB at h
  simp only [Bool.or_eq_true, List.all_eq_true] at h
  rcases h with ((h | h) | h) | h
  · have q : ∀ d ∈ ds, ∃ n ns, d = .tup ((n :: ns).map D.int) := fun d hd => intTup_eq (h d hd)
    have pe : ∀ d ∈ ds, ∃ n ns, encD d = .tuple ((n :: ns).map PyData.int) := fun d hd => by
      obtain ⟨n, ns, rfl⟩ := q d hd
      exact ⟨n, ns, encD_ints _⟩
    refine ⟨fun d hd e => ?_, fun a ha b hb => ?_, .inl fun a ha => ?_, fun d hd => ?_⟩
    · obtain ⟨n, ns, rfl⟩ := q d hd
      rw [D.py, pyL_ints] at e; cases e
    · obtain ⟨d, hd, rfl⟩ := List.mem_map.mp ha
      obtain ⟨e, he, rfl⟩ := List.mem_map.mp hb
      obtain ⟨n, ns, e1⟩ := pe d hd
      obtain ⟨m, ms, e2⟩ := pe e he
      rw [e1, e2]
      show PySem.W.alikeAll _ _ = true
      exact PySem.W.alike_ints _ _
    · obtain ⟨d, hd, rfl⟩ := List.mem_map.mp ha
      obtain ⟨n, ns, e1⟩ := pe d hd
      exact ⟨_, _, e1⟩
    · obtain ⟨n, ns, e1⟩ := pe d hd
      rw [e1]
      simp only [PyData.depth]
      rw [PySem.W.depth_ints]
      omega
  · have q : ∀ d ∈ ds, ∃ n, d = .int n := fun d hd => by
      have := h d hd
      unfold isInt at this
      split at this
      · exact ⟨_, rfl⟩
      · cases this
    refine ⟨fun d hd e => ?_, fun a ha b hb => ?_, .inr fun a ha => ?_, fun d hd => ?_⟩
    · obtain ⟨n, rfl⟩ := q d hd
      cases e
    · obtain ⟨d, hd, rfl⟩ := List.mem_map.mp ha
      obtain ⟨e, he, rfl⟩ := List.mem_map.mp hb
      obtain ⟨n, rfl⟩ := q d hd
      obtain ⟨m, rfl⟩ := q e he
      rfl
    · obtain ⟨d, hd, rfl⟩ := List.mem_map.mp ha
      obtain ⟨n, rfl⟩ := q d hd
      exact ⟨nofun, fun xs => nofun⟩
    · obtain ⟨n, rfl⟩ := q d hd
      show PyData.depth (.int n) ≤ 16
      simp [PyData.depth]
  · have q : ∀ d ∈ ds, ∃ n, d = .str n := fun d hd => by
      have := h d hd
      unfold isStr at this
      split at this
      · exact ⟨_, rfl⟩
      · cases this
    refine ⟨fun d hd e => ?_, fun a ha b hb => ?_, .inr fun a ha => ?_, fun d hd => ?_⟩
    · obtain ⟨n, rfl⟩ := q d hd
      cases e
    · obtain ⟨d, hd, rfl⟩ := List.mem_map.mp ha
      obtain ⟨e, he, rfl⟩ := List.mem_map.mp hb
      obtain ⟨n, rfl⟩ := q d hd
      obtain ⟨m, rfl⟩ := q e he
      rfl
    · obtain ⟨d, hd, rfl⟩ := List.mem_map.mp ha
      obtain ⟨n, rfl⟩ := q d hd
      exact ⟨nofun, fun xs => nofun⟩
    · obtain ⟨n, rfl⟩ := q d hd
      show PyData.depth (.str n) ≤ 16
      simp [PyData.depth]
  · unfold sortOkG at h
    simp only [Bool.and_eq_true, Bool.or_eq_true, List.all_eq_true, decide_eq_true_eq] at h
    obtain ⟨h1, h2, h3⟩ := h
    refine ⟨fun d hd e => ?_, fun a ha b hb => ?_, ?_, fun d hd => (h1 d hd).2⟩
    · have := (h1 d hd).1
      rw [e] at this; cases this
    · obtain ⟨d, hd, rfl⟩ := List.mem_map.mp ha
      obtain ⟨e, he, rfl⟩ := List.mem_map.mp hb
      exact h2 d hd e he
    · rcases h3 with h3 | h3
      · refine .inl fun a ha => ?_
        obtain ⟨d, hd, rfl⟩ := List.mem_map.mp ha
        have := h3 d hd
        unfold neTup at this
        split at this
        · rename_i x r e; exact ⟨x, r, e⟩
        · cases this
      · refine .inr fun a ha => ?_
        obtain ⟨d, hd, rfl⟩ := List.mem_map.mp ha
        have := h3 d hd
        refine ⟨fun e => ?_, fun xs e => ?_⟩
        · rw [e] at this; cases this
        · rw [e] at this; cases this
def sortL (ds : List D) : Option (D × Nat) := if sortOkB ds = true then some (.lst (srt ds), 1) else none
theorem sortL_ok {ds : List D} {p : D × Nat} (h : sortL ds = some p) : SortOk ds ∧ p = (.lst (srt ds), 1) := by
  unfold sortL at h
  split at h
  · rename_i e
    cases h
    exact ⟨sortOk_of e, rfl⟩
  · cases h
def sortD : D → Option (D × Nat)
  | .lst ds => sortL ds
  | .tup ds => sortL ds
  | _ => none
section
variable {C : RC} {Z : Fp} {H : Hp}
theorem each_of : ∀ {xs : List V} {us : List Value} {ds : List D}, Vals xs us → ShL C Z H xs ds → PySem.W.EachIs (fun u d => ∃ v, RelV v u ∧ Sh C Z H v d) us ds
  | [], _, _, r, h => by cases r; cases h; exact .nil
  | x :: xs, u :: us, ds, r, h => by
    cases r with
    | cons r rr =>
      cases h with
      | cons h hh => exact PySem.W.EachIs.cons ⟨x, r, h⟩ (each_of rr hh)
theorem of_each : ∀ {us : List Value} {ds : List D}, PySem.W.EachIs (fun u d => ∃ v, RelV v u ∧ Sh C Z H v d) us ds → ∃ ys, Vals ys us ∧ ShL C Z H ys ds
  | _, _, .nil => ⟨[], .nil, .nil⟩
  | _, _, .cons ⟨v, r, h⟩ t => by
    obtain ⟨ys, a, b⟩ := of_each t
    exact ⟨v :: ys, .cons r a, .cons h b⟩
theorem each_reads {X : Cx} {pins : List (Addr × Obj)} {σ : L2.St} {s : Shared} (I : Inv X pins σ H s) (hK : C.K = X.K) : ∀ {us : List Value} {ds : List D}, (∀ d ∈ ds, d.py ≠ none) → PySem.W.EachIs (fun u d => ∃ v, RelV v u ∧ Sh C Z H v d) us ds → PySem.W.EachIs (fun u d => ∃ as, Reads s.heap u (encD d) as) us ds
  | _, _, _, .nil => .nil
  | _, d :: _, hp, .cons ⟨v, r, h⟩ t => by
    refine .cons ?_ (each_reads I hK (fun d hd => hp d (List.mem_cons_of_mem _ hd)) t)
    cases e : d.py with
    | none => exact absurd e (hp d List.mem_cons_self)
    | some p =>
      have q := Sh.dp d v p h e
      rw [hK] at q
      have e2 : encD d = p := by unfold encD; rw [e]; rfl
      rw [e2]
      exact Dp.reads I p v _ q r
end
/-- sorted(xs) over a sequence's object -/
theorem sorted_seq {prog : Program} {w : World} {A : Around} {E : Value → Shared → Prop} {s : Shared} {β : Type} {vs : List Value} {bs : List β} {enc : β → PyData} {R : Value → β → Prop} {l : Addr} {T : String} {o : Obj} {n : Nat} {Q : Value → Shared → Prop}
    (hT : T = "list" ∨ T = "tuple") (ho : s.heap.get? l = some o) (hc : o.cls = .type T) (hd : o.data = .seq vs.toArray n) (e : PySem.W.EachIs R vs bs) (er : PySem.W.EachIs (fun v b => ∃ as, Reads s.heap v (enc b) as) vs bs) (hal : PySem.W.AllAlike (bs.map enc)) (hk : PySem.W.Sortable (bs.map enc)) (hL : vs.length ≤ sizeLine)
    (hu : ∀ b, b ∈ bs → A.units + 2 + (enc b).depth < cLine) (h : ∀ (h1 : Heap) (out : List Value) (h' : Heap) (a e' : Nat), (∀ b u, s.heap.get? b = some u → h1.get? b = some u) → (∀ b u, h1.get? b = some u → h'.get? b = some u) → h1.objs.size ≤ a → h'.get? a = some (seqObj "list" (List.toArray out) e') → out.length = bs.length → PySem.W.EachIs R out (bs.mergeSort (PySem.W.dataLe false enc)) → Q (.ref a) { s with heap := h' }) :
    wpAny (model prog w) A (call (.builtin "sorted") [.ref l]) Q E s := by
  refine PySem.Calls.call_function_entry kind_sorted plain_sorted entry_sorted (args_sorted1 _) ?_
  unfold Builtin.«sorted»
  refine wpAny_bind (m := checkCount "sorted" 1 1 _) (wpAny_pure ?_)
  refine wpAny_bind (wpAny_collect_seq l hT ho hc hd (fun h1 k1 => ?_) (by simpa using hL))
  refine wpAny_bind (wpAny_newList ?_ hL)
  have ha : (h1.push (seqObj "list" vs.toArray 0)).get? h1.objs.size = some (seqObj "list" vs.toArray 0) := Heap.get?_push_size _ rfl
  have k2 : ∀ b u, s.heap.get? b = some u → (h1.push (seqObj "list" vs.toArray 0)).get? b = some u := fun b u q => by
    rw [Heap.get?_push_ne _ _ _ (Nat.ne_of_lt (Heap.lt_size (k1 b u q)))]; exact k1 b u q
  have nb : ∀ b u, s.heap.get? b = some u → b ≠ h1.objs.size := fun b u q => Nat.ne_of_lt (Heap.lt_size (k1 b u q))
  have er' : PySem.W.EachIs (fun v b => ∃ as, Reads (PySem.W.sortingHeap (h1.push (seqObj "list" vs.toArray 0)) h1.objs.size vs) v (enc b) as) vs bs := er.mono fun _ _ ⟨as, r⟩ => ⟨as, PyProof.Rows.Reads.keeps (fun b u q => PySem.W.sortingHeap_old (nb b u q) (k2 b u q)) r⟩
  refine wpAny_bind (wpAny_holding (wpAny_call_entry_kw slot_list_sort ⟨_, ha, rfl⟩ entry_list_sort ?body (args_list_sort _)))
  case body =>
    show wpAny (model prog w) A.in1.in1 (Builtin.«list.sort» ⟨[.ref h1.objs.size], []⟩) _ _ _
    refine PySem.W.list_sort_vals (κ := PySem.W.dataKind _ (bs.map enc)) ha (PySem.W.SortsAt.data (PySem.W.each_map (R := fun v d => ∃ as, Reads _ v d as) enc er') hal hk (PySem.W.bound_map hu)) hL ⟨_, rfl, wpAny_pure ⟨_, rfl, ?_⟩⟩
    obtain ⟨e9, he9⟩ := PyProof.Rows.sortedHeap_at (h := h1.push (seqObj "list" vs.toArray 0)) (out := (PySem.W.sortVals (PySem.W.dataKind (PySem.W.sortingHeap (h1.push (seqObj "list" vs.toArray 0)) h1.objs.size vs) (bs.map enc)) false vs vs).toArray) ha
    refine h h1 _ _ _ _ k1 (fun b u q => ?_) (Nat.le_refl _) he9 (by rw [PySem.W.sortVals_length false rfl]; exact e.length) (PySem.W.sortVals_data false e er' hal)
    have hb : (h1.push (seqObj "list" vs.toArray 0)).get? b = some u := by
      rw [Heap.get?_push_ne _ _ _ (Nat.ne_of_lt (Heap.lt_size q))]; exact q
    rw [PyProof.Rows.sortedHeap_old (Nat.ne_of_lt (Heap.lt_size q)) (Heap.lt_size hb)]
    exact hb

def rSortA (C : RC) (K : PySem.W.Frag) : List V → Hp → VK → Prop := fun vs H Q => ∃ a xs ds Z, vs = [V.ref a] ∧ (SqL K H a xs ∨ SqT K H a xs) ∧ ShL C Z H xs ds ∧ SortOk ds ∧ C.K = K ∧
  ∀ ys p, H p = none → ShL C Z H ys (srt ds) → Q (.ref p) (upd H p (.lst ys))
theorem cr_sortA {X : Cx} {C : RC} {k : Nat} (hr : Room k X.A) : CallR X (.builtin "sorted") (rSortA C X.K) := by
  intro pins s σ H vs us Q I r h
  obtain ⟨a, xs, ds, Z, rfl, hs, sh, ok, hK, q⟩ := h
  rw [Vals.ref1 r]
  obtain ⟨its, T, o, n, hT, rv, ho, hc, hd, hz⟩ : ∃ its T o n, (T = "list" ∨ T = "tuple") ∧ Vals xs its ∧ s.heap.get? a = some o ∧ o.cls = .type T ∧ o.data = .seq its.toArray n ∧ its.length ≤ sizeLine := by
    rcases hs with hs | hs
    · obtain ⟨its, rv, ⟨o, n, ho, hc, _, hd⟩, hz⟩ := I.list hs
      exact ⟨its, "list", o, n, .inl rfl, rv, ho, hc, hd, by rw [← rv.length]; exact hz⟩
    · obtain ⟨its, rv, ⟨o, ho, hc, n, hd⟩, hz⟩ := I.tuple hs
      exact ⟨its, "tuple", o, n, .inr rfl, rv, ho, hc, hd, by rw [← rv.length]; exact hz⟩
  have e := each_of rv sh
  refine sorted_seq hT ho hc hd e (each_reads I hK ok.py e) ok.al ok.so hz (fun d hd => by have := ok.dp d hd; have := hr.un; omega) fun h1 out h' p e9 k1 k2 hp hat hlen ee => ?_
  obtain ⟨ys, ry, sy⟩ := of_each ee
  rw [← srt_eq] at sy
  have I1 := I.kept (t' := s.toks) k1
  have hlen2 : ys.length ≤ sizeLine := by rw [ry.length, hlen, ← e.length]; exact hz
  exact ⟨.ref p, upd H p (.lst ys), I1.laid (t' := s.toks) k2 hp ⟨hlen2, out, e9, ry, hat⟩, rfl, q ys p (I1.hok.fresh hp) sy⟩
section
variable {Γ : Ct} {e a b c : Expr} {fa fb fc : En → R Opd} {pos p q : Pos} {x : Str}
theorem ev_sorted (G : Good Γ) {k : Nat} (hr : Room k Γ.X.A) (hg : Gl Γ.X "sorted") (hm : Γ.X.mg "sorted" = none) (ha : EvO Γ a fa) (hs : starEach [a] Γ.X.env = [(false, eval a Γ.X.env)] := by rfl) : EvE Γ (.Call (.Name "sorted" p) [a] [] pos) (op1 sortD fa) :=
  ev_b1 (cr_sortA (C := Γ.C) hr) (fun σ H Z env φ S x d p hx hg Q P => by
    unfold sortD at hg
    split at hg
    · obtain ⟨ok, rfl⟩ := sortL_ok hg
      obtain ⟨a, us, rfl, ha, r⟩ := hx.lstI
      exact ⟨a, us, _, Z, rfl, .inl (SqL.of ha), r, ok, G.hK, fun ys l hl sy => Post.newL P S hl (Ow.lst1 upd_same (sy.ext (Ext.new hl)))⟩
    · obtain ⟨ok, rfl⟩ := sortL_ok hg
      obtain ⟨a, us, rfl, ha, r⟩ := hx.tupI
      rw [G.hK] at ha
      exact ⟨a, us, _, Z, rfl, .inr ha, r, ok, G.hK, fun ys l hl sy => Post.newL P S hl (Ow.lst1 upd_same (sy.ext (Ext.new hl)))⟩
    · cases hg) hg hm (by decide +kernel) ha (hs := hs)

/-! ### range(i, j, c) -/
def rg3D : List D → Option (List D)
  | [.int i, .int j, .int c] => if c ≠ 0 ∧ c.natAbs < 1073741824 ∧ Builtin.Range.small i j c = true ∧ 0 ≤ Builtin.Range.rangeSize i j c then some ((List.range (Builtin.Range.rangeSize i j c).toNat).map fun k : Nat => .int (i + k * c)) else none
  | _ => none
theorem itc_d {C : RC} {lo c : Int} {n : Nat} {Z : Fp} {H : Hp} : ItD C (Itc lo c n) ((List.range n).map fun k : Nat => .int (lo + k * c)) Z H := fun Z2 H2 x => by
  refine ⟨(show n ≤ ((List.range n).map fun k : Nat => D.int (lo + k * c)).length by simp), fun i d hd => ?_⟩
  rw [List.getElem?_map] at hd
  obtain ⟨j, hj, rfl⟩ := Option.map_eq_some_iff.mp hd
  obtain ⟨h1, h2⟩ := List.getElem?_eq_some_iff.mp hj
  rw [List.length_range] at h1
  rw [List.getElem_range] at h2
  subst h2
  exact ⟨h1, fun y H' ⟨e1, e2⟩ => by subst e1 e2; exact ⟨.int _, .inl rfl⟩⟩
def rg3 (f : En → R (List D)) : En → R (List D) := fun env => (f env).bind fun ds env1 => R.of (rg3D ds) env1
theorem ei_rg3 {tg : Expr} {f : En → R (List D)} (hg : Gl Γ.X "range") (hm : Γ.X.mg "range" = none) (ha : EvA Γ [a, b, c] f) (hs : starEach [a, b, c] Γ.X.env = (false, eval a Γ.X.env) :: starEach [b, c] Γ.X.env := by rfl) (hpl : (backTo pos (starEach [b, c] Γ.X.env)).any (·.1) = false := by rfl) : EvI Γ tg (.Call (.Name "range" p) [a, b, c] [] pos) (rg3 f) := by
  obtain ⟨t, h1, h2⟩ := ha
  refine ⟨_, pi_range3 hg hm h1 hs hpl, fun σ H Z env φ S R P => ?_⟩
  refine h2 σ H Z env φ S _ ?_
  unfold rg3 at P
  cases e : f env with
  | ex x => rw [e] at P; exact P
  | no => rw [e] at P; exact P
  | ok ds env1 =>
    rw [e] at P
    simp only [Pv.R.bind_ok] at P
    intro vs H1 Z1 φ1 A S1 sh0 dj ev
    have ev' := ev.sub (F2 := Tot φ1) fun _ z => .inl z
    have sh : ShL Γ.C Z1 H1 vs ds := sh0
    cases eD : rg3D ds with
    | none => rw [eD] at P; exact P.elim
    | some items =>
      rw [eD] at P
      unfold rg3D at eD
      split at eD
      · rename_i i j c
        cases sh with
        | cons h r =>
          cases r with
          | cons h' r =>
            cases r with
            | cons h'' r =>
              cases r
              cases h
              cases h'
              cases h''
              split at eD
              · rename_i hb
                cases eD
                exact ⟨i, j, c, _, rfl, ⟨hb.1, hb.2.1, hb.2.2.1, by rw [Int.toNat_of_nonneg hb.2.2.2]⟩, P _ H1 Z1 φ1 S1 itc_d ev'⟩
              · cases eD
      · cases eD

/-! ### <= of tuples of ints -/
def leTD : D → D → Option (D × Nat)
  | .int i, .int j => some (.bl (decide (i ≤ j)), 0)
  | .tup xs, .tup ys => match D.ints xs, D.ints ys with
    | some ns, some ms => some (.bl (Ob.lexAt (fun j => decide (ns.getD j 0 = ms.getD j 0)) (fun j => decide (ns.getD j 0 ≤ ms.getD j 0)) (decide (ns.length ≤ ms.length)) 0 (min ns.length ms.length)), 0)
    | _, _ => none
  | _, _ => none
theorem does_leT (G : Good Γ) : Does2 Γ leTD (fun x y H Q => rI0 (fun i j => .bl (decide (i ≤ j))) x y H Q ∨ rLeT Γ.X.K x y H Q) := by
  intro σ H Z env φ S x y d e p hx hy hg Q P
  unfold leTD at hg
  split at hg
  · cases hg
    exact .inl ⟨_, _, hx.intI, hy.intI, Post.here P S (Ow.sh (.bl _))⟩
  · split at hg
    · rename_i ns ms e1 e2
      cases hg
      obtain ⟨a, us, rfl, ha, r⟩ := hx.tupI
      obtain ⟨b, ws, rfl, hb, r'⟩ := hy.tupI
      rw [D.ints_eq e1] at r
      rw [D.ints_eq e2] at r'
      rw [r.ints] at ha
      rw [r'.ints] at hb
      rw [G.hK] at ha hb
      exact .inr ⟨a, b, ns, ms, rfl, rfl, ha, hb, Post.here P S (Ow.sh (.bl _))⟩
    · cases hg
  · cases hg
def cLeT (G : Good Γ) {k : Nat} (hr : Room k Γ.X.A) : CmpR Γ .LtE leTD := ⟨_, op_le.or (op_leT hr.units0), does_leT G⟩

/-! ### a, b, c = x, y, z -/
def par3S (i j l : Nat) (fa : En → R (List (D × Nat))) : En → SR := fun env => (fa env).then fun ps env1 => match ps with
  | [p, q, r] => if i < env1.length ∧ j < env1.length ∧ l < env1.length then .nx (((env1.set i (some p)).set j (some q)).set l (some r)) else .no
  | _ => .no
theorem es_par3 {i j l : Nat} {x y z : Str} {a b c : Expr} {fa : En → R (List (D × Nat))} {px py pz pt : Pos} {kt k2 : Nat} {pt2 : Pos} (G : Good Γ) (hi : Γ.X.N[i]? = some x) (hj : Γ.X.N[j]? = some y) (hl : Γ.X.N[l]? = some z) (hij : i ≠ j) (hil : i ≠ l) (hjl : j ≠ l) (hio : i ∉ Γ.io) (hjo : j ∉ Γ.io) (hlo : l ∉ Γ.io)
    (hx : Γ.X.env.scope.names.lookup x = some .local) (hy : Γ.X.env.scope.names.lookup y = some .local) (hz : Γ.X.env.scope.names.lookup z = some .local) (ha : EvL Γ [a, b, c] fa)
    (hw : swappedStores [.Tuple [.Name x px, .Name y py, .Name z pz] kt pt] (.Tuple [a, b, c] k2 pt2) Γ.X.env = pure (some [x, y, z]) := by rfl)
    (hs : swapsWithSole [.Tuple [.Name x px, .Name y py, .Name z pz] kt pt] (.Tuple [a, b, c] k2 pt2) pos.line Γ.X.env = pure false := by rfl) :
    EvS Γ (.Assign [.Tuple [.Name x px, .Name y py, .Name z pz] kt pt] (.Tuple [a, b, c] k2 pt2) pos) (par3S i j l fa) := by
  obtain ⟨t, h1, h2⟩ := ha
  refine ⟨_, ps_par3 G.calm G.nd hi hj hl hij hil hjl hx hy hz h1 hw hs, fun σ H Z env φ S Dn P => ?_⟩
  refine h2.then S P fun ps env1 vs H1 Z1 φ1 A e1 S1 q1 dj1 ev1 P1 => ?_
  have q1 : OwL Γ.C Z1 H1 vs ps A := q1
  cases q1 with
  | nil _ => exact P1.elim
  | @cons v vs p ps A1 B U o r d1 u1 =>
    cases r with
    | nil _ => exact P1.elim
    | @cons w ws q qs A2 B2 U2 o2 r2 d2 u2 =>
      cases r2 with
      | nil _ => exact P1.elim
      | @cons w3 ws3 q3 qs3 A3 B3 U3 o3 r3 d3 u3 =>
        cases r3 with
        | cons _ _ _ _ => exact P1.elim
        | nil n3 =>
          refine ⟨v, w, w3, rfl, ?_⟩
          simp only at P1
          have a1 : ∀ a, A1 a → A a := fun a z => (u1 a).mpr (.inl z)
          have a2 : ∀ a, A2 a → A a := fun a z => (u1 a).mpr (.inr ((u2 a).mpr (.inl z)))
          have a3 : ∀ a, A3 a → A a := fun a z => (u1 a).mpr (.inr ((u2 a).mpr (.inr ((u3 a).mpr (.inl z)))))
          have n12 : ∀ a, A1 a → ¬ A2 a := fun a z y => d1 a z ((u2 a).mpr (.inl y))
          have n13 : ∀ a, A1 a → ¬ A3 a := fun a z y => d1 a z ((u2 a).mpr (.inr ((u3 a).mpr (.inl y))))
          have n23 : ∀ a, A2 a → ¬ A3 a := fun a z y => d2 a z ((u3 a).mpr (.inl y))
          split at P1
          · rename_i hl
            have S2 := S1.put hl.1 hio o (fun j a _ h z => (dj1 a (a1 a z)).1 ⟨j, h⟩) fun a z => (dj1 a (a1 a z)).2
            have S3 := S2.put (i := j) (by simpa using hl.2.1) hjo o2 (fun m a hm h z => by
              by_cases q : m = i
              · simp only [if_pos q] at h
                exact n12 a h z
              · simp only [if_neg q] at h
                exact (dj1 a (a2 a z)).1 ⟨m, h⟩) fun a z => (dj1 a (a2 a z)).2
            have S4 := S3.put (i := l) (by simpa using hl.2.2) hlo o3 (fun m a hm h z => by
              by_cases q : m = j
              · simp only [if_pos q] at h
                exact n23 a h z
              · simp only [if_neg q] at h
                by_cases q2 : m = i
                · simp only [if_pos q2] at h
                  exact n13 a h z
                · simp only [if_neg q2] at h
                  exact (dj1 a (a3 a z)).1 ⟨m, h⟩) fun a z => (dj1 a (a3 a z)).2
            refine P1 _ H1 Z1 _ S4 ⟨fun _ _ q _ => q, fun _ z => z, fun _ z => .inl z, fun x ⟨m, z⟩ => .inl ?_⟩
            by_cases q : m = l
            · simp only [if_pos q] at z; exact .inr (a3 x z)
            · simp only [if_neg q] at z
              by_cases q2 : m = j
              · simp only [if_pos q2] at z; exact .inr (a2 x z)
              · simp only [if_neg q2] at z
                by_cases q3 : m = i
                · simp only [if_pos q3] at z; exact .inr (a1 x z)
                · simp only [if_neg q3] at z; exact .inl ⟨m, z⟩
          · exact P1.elim
end
end Pv
end

section
set_option Elab.async false
set_option linter.all false
set_option maxRecDepth 100000
set_option maxHeartbeats 4000000
/-! Pv14: a law's facts, its end. -/
namespace Pv
open PySem PySem.Spec PyProof.Rows L2

/-- a def of the program: where it stands -/
structure DA (K : PySem.W.Frag) (mg : Str → Option Value) (x : Str) (st : Stmt) (ps : List Str) where
  f : Addr
  fd : FuncData
  F : Fun K x x st f fd
  m : mg x = some (.ref f)
  b : Binds K fd ps []
def DA.of {K : PySem.W.Frag} {h : Heap} {mg : Str → Option Value} (X : K.In h) (G : h.Ns mainGlobals mg) {x : Str} {st : Stmt} {ps : List Str} {f : Addr} {oc : Value} {od an : Option Addr} {sl : Array (Option Value)} {kV dc pm cd ct : Value}
    (a : PySem.W.nsIn K mainGlobals x = some (some (.ref f))) (l : K.lookup f = some ⟨oc, od, .func (PySem.W.fnOf x x (defArgs st) (defBody st) (defScope st) .none kV dc pm an cd ct), sl⟩) (c : PySem.W.codeIn K cd x = true) (k : PySem.W.keepIn K (.ref f) = true)
    (hb : ∀ (kV doc pm : Value) (an : Option Addr) (cdv ct : Value) (us : List Value), us.length = ps.length → bindArgs (PySem.W.fnOf x x (defArgs st) (defBody st) (defScope st) .none kV doc pm an cdv ct) ⟨us, []⟩ = pure (ps.zip us)) : DA K mg x st ps :=
  ⟨f, _, fun_mk l c k, PySem.W.mg_of X G a, (fun_mk l c k).binds hb⟩
/-- an error class of the program without an __init__ -/
structure XA (K : PySem.W.Frag) (mg : Str → Option Value) (x : Str) where
  a : Addr
  m : mg x = some (.ref a)
  k : PySem.W.keepIn K (.ref a) = true
  q : PySem.W.excIn K a [.type "ValueError", .type "Exception", .type "BaseException", .type "object"] "ValueError.__new__" = true
  s : PySem.W.subIn K (.ref a) (.type "BaseException") = some true
  t : PySem.W.typeIn K (.ref a) = some (.type "type")
  i : PySem.W.isClsIn K a = true
  f : PySem.W.subIn K (.ref a) (.ref a) = some true
theorem XA.e {K : PySem.W.Frag} {mg : Str → Option Value} {x : Str} (A : XA K mg x) : PySem.W.exmOne K (.ref A.a) (.ref A.a) = some true := by
  have h1 := A.s
  have h2 := A.i
  have h3 := A.t
  have h4 := A.f
  have e1 : (PySem.W.subIn K (.ref A.a) (.type "BaseException") == some true) = true := by rw [h1]; rfl
  have e2 : ((PySem.W.clsIn K A.a).isSome && PySem.W.typeIn K (.ref A.a) == some (.type "type")) = true := by
    have h2' : (PySem.W.clsIn K A.a).isSome = true := h2
    rw [h2', h3]; rfl
  show (if (PySem.W.subIn K (.ref A.a) (.type "BaseException") == some true) = true then (if ((PySem.W.clsIn K A.a).isSome && PySem.W.typeIn K (.ref A.a) == some (.type "type")) = true then PySem.W.subIn K (.ref A.a) (.ref A.a) else none) else none) = some true
  rw [if_pos e1, if_pos e2]
  exact h4
theorem XA.excC {K : PySem.W.Frag} {mg : Str → Option Value} {x : Str} (A : XA K mg x) {Γ : Ct} {c : Nat} (hn : Γ.C.ca c = some A.a) (hm : Γ.X.mg = mg := by rfl) (hK : Γ.X.K = K := by rfl) : ExcC Γ x c A.a := by
  subst hm hK
  exact ⟨A.m, A.k, A.q, raises_own A.s A.t, hn⟩
theorem fnV_no {P : Program} {w : World} {K : PySem.W.Frag} {mg : Str → Option Value} {base : Heap} {C : RC} {k : Nat} {f : Addr} {fd : FuncData} {ps : List Str} {io : Bool} : FnV P w K mg base C k f fd ps io (fun _ _ => .no) :=
  ⟨fun _ _ _ _ h => h.1, fun A outer s H args us vs Q E _ _ _ _ h => by
    obtain ⟨_, h⟩ := h
    cases io with
    | false =>
      obtain ⟨_, _, _, _, q⟩ := h
      exact q.elim
    | true =>
      cases vs with
      | nil => exact h.elim
      | cons v vs =>
        obtain ⟨_, _, _, _, _, _, _, _, q⟩ := h
        exact q.elim⟩
def lawSp (K : PySem.W.Frag) (F : Sl → List D → FR) : Sp := fun vs H Q E => vs.length = 1 ∧ ∀ C : RC, C.K = K → spF C 1 false F vs H Q E
theorem lawSp_of {P : Program} {w : World} {K : PySem.W.Frag} {mg : Str → Option Value} {base : Heap} {C : RC} {k : Nat} {f : Addr} {fd : FuncData} {x : Str} {F : Sl → List D → FR} (hC : C.K = K) (h : FnV P w K mg base C k f fd [x] false F) : FnOk P w K mg base (L2.CX P w) k f fd [x] (lawSp K F) :=
  FnOk.imp h fun vs H Q E q => q.2 C hC
theorem lawSp_in {K : PySem.W.Frag} {F : Sl → List D → FR} {H : Hp} {a : Addr} {ns : List Int} (hO : L2.Only H) (hS : SqL K H a (ns.map V.int)) (hF : ∃ fin, F none [.scr ns] = .ok (.bl true, 0) fin) : lawSp K F [.ref a] H (fun v _ => v = .bl true) fun _ _ _ => False := by
  refine ⟨rfl, fun C hC => ⟨rfl, [.scr ns], fun _ => False, .cons (.scr ?_) .nil, fun _ z => z.elim, ?_⟩⟩
  · rw [← hC] at hS
    rcases hS with (hS | ⟨o, hS⟩) | hS
    · rcases hO a with e | ⟨o, xs, e⟩
      · rw [hS] at e; cases e
      · rw [hS] at e; cases e
    · exact .inl ⟨o, hS⟩
    · exact .inr (.inr hS)
  · obtain ⟨fin, e⟩ := hF
    rw [e]
    intro v H' Z' A o _ _ _
    have := o.1
    cases this
    rfl
theorem cx_no {P : Program} {w : World} {H : Hp} {s s' : Shared} {e : Value} (h : L2.CX P w [] H s (fun _ _ _ => False) e s') : False := by
  obtain ⟨_, _, _, _, _, _, _, _, _, _, _, _, h⟩ := h
  exact h
section
variable {Γ : Ct} {scope : Scope} {s : Shared} {H : Hp} {c : Addr} {cl : List (Str × Addr)} {fp : List Addr}
theorem blkG {tg : Expr} {ws : List Nat} {g : D → En → Option En} (G : Good Γ) (h : Good (blkCt Γ scope s H c cl fp) → EvG (blkCt Γ scope s H c cl fp) tg ws g) : EvG (blkCt Γ scope s H c cl fp) tg ws g := h G.blk
theorem blkT {ifs : List Expr} {f : En → R Bool} (G : Good Γ) (h : Good (blkCt Γ scope s H c cl fp) → EvPT (blkCt Γ scope s H c cl fp) ifs f) : EvPT (blkCt Γ scope s H c cl fp) ifs f := h G.blk
theorem blkE {e : Expr} {f : En → R (D × Nat)} (G : Good Γ) (h : Good (blkCt Γ scope s H c cl fp) → EvE (blkCt Γ scope s H c cl fp) e f) : EvE (blkCt Γ scope s H c cl fp) e f := h G.blk
end
end Pv
end

section
set_option Elab.async false
set_option linter.all false
set_option maxRecDepth 100000
set_option maxHeartbeats 4000000
/-! Pv15: reckoning with the combinators. -/
namespace Pv
open PySem PySem.Spec PyProof.Rows L2

theorem at_0 {α : Type} {x : α} {xs : List α} : atI (x :: xs) 0 = some x := by simp [atI, ixN]
theorem at_1 {α : Type} {x y : α} {xs : List α} : atI (x :: y :: xs) 1 = some y := by
  have h : (1 : Int) < (xs.length : Int) + 1 + 1 := by omega
  simp [atI, ixN, h]
theorem at_nat {α : Type} {xs : List α} {k : Nat} (h : k < xs.length) : atI xs (k : Int) = some xs[k] := by
  have h1 : (0 : Int) ≤ (k : Int) := by omega
  have h2 : (k : Int) < (xs.length : Int) := by omega
  simp [atI, ixN, h1, h2, h]
@[simp] theorem le_lim {n : Nat} (h : n ≤ 100000) : n ≤ lim := Nat.le_trans h (by decide)
@[simp] theorem lt_lim {n : Nat} (h : n < 100000) : n < lim := Nat.lt_of_lt_of_le h (by decide)
theorem seqS_nx {f g : En → SR} {env e : En} (h : f env = .nx e) : seqS f g env = g e := by
  unfold seqS; rw [h]
theorem seqS_ret {f g : En → SR} {env e : En} {p : D × Nat} (h : f env = .ret p e) : seqS f g env = .ret p e := by
  unfold seqS; rw [h]
theorem seqS_ex {f g : En → SR} {env : En} {x : Xn} (h : f env = .ex x) : seqS f g env = .ex x := by
  unfold seqS; rw [h]
theorem fnF_ret {n : Nat} {g : En → SR} {ds : List D} {p : D × Nat} {e : En} (h : g (en0 n none ds) = .ret p e) : fnF n false g none ds = .ok p none := by
  unfold fnF; rw [h]; rfl
theorem fnF_nx {n : Nat} {g : En → SR} {ds : List D} {e : En} (h : g (en0 n none ds) = .nx e) : fnF n false g none ds = .ok (.non, 0) none := by
  unfold fnF; rw [h]; rfl
theorem fnF_ex {n : Nat} {g : En → SR} {ds : List D} {x : Xn} (h : g (en0 n none ds) = .ex x) : fnF n false g none ds = .ex x := by
  unfold fnF; rw [h]
theorem iteS_t {c : En → R Bool} {f g : En → SR} {env e : En} (h : c env = .ok true e) : iteS c f g env = f e := by
  unfold iteS; rw [h]; rfl
theorem iteS_f {c : En → R Bool} {f g : En → SR} {env e : En} (h : c env = .ok false e) : iteS c f g env = g e := by
  unfold iteS; rw [h]; rfl
/-- a comprehension's turns: what each item gives -/
theorem compL_map {g : D → En → Option En} {tt : En → R Bool} {te : En → R (D × Nat)} {m : Nat} {vs : List Nat} (I : En → Prop) (f : D → D) : ∀ (ds : List D) (env : En) (acc : List D), I env → acc.length + ds.length ≤ lim →
    (∀ d ∈ ds, ∀ env, I env → ∃ e1 e2 e3, g d env = some e1 ∧ tt e1 = .ok true e2 ∧ te e2 = .ok (f d, m) e3 ∧ I (wipeE e3 vs)) → ∃ e, compL g tt te m vs ds env acc = .ok (acc ++ ds.map f) e ∧ I e
  | [], env, acc, hI, _, _ => ⟨env, by simp [compL], hI⟩
  | d :: ds, env, acc, hI, hl, h => by
    obtain ⟨e1, e2, e3, h1, h2, h3, h4⟩ := h d List.mem_cons_self env hI
    have hl' : acc.length < lim := by simp only [List.length_cons] at hl; omega
    obtain ⟨e, q1, q2⟩ := compL_map I f ds (wipeE e3 vs) (acc ++ [f d]) h4 (by simp only [List.length_append, List.length_cons, List.length_nil] at hl ⊢; omega) fun d' hd => h d' (List.mem_cons_of_mem _ hd)
    refine ⟨e, ?_, q2⟩
    unfold compL
    rw [h1]
    simp only [h2, h3, R.noX_ok, R.bind_ok, if_true, hl', and_self, q1, List.append_assoc, List.singleton_append, List.map_cons]
theorem comp_fix {fi : En → R (List D)} {g : D → En → Option En} {tt : En → R Bool} {te : En → R (D × Nat)} {m : Nat} {vs : List Nat} (f : D → D) {env env1 env0 env2 : En} {ds : List D} (hfi : fi env = .ok ds env1) (h0 : wipeE env1 vs = env0) (hb : backE env1 env0 vs = env2) (hl : ds.length ≤ lim)
    (h : ∀ d ∈ ds, ∃ e1 e2 e3, g d env0 = some e1 ∧ tt e1 = .ok true e2 ∧ te e2 = .ok (f d, m) e3 ∧ wipeE e3 vs = env0) : comp fi g tt te m vs env = .ok (.lst (ds.map f), m + 1) env2 := by
  obtain ⟨e, q1, q2⟩ := compL_map (g := g) (tt := tt) (te := te) (m := m) (vs := vs) (fun e => e = env0) f ds (wipeE env1 vs) [] h0 (by simpa using hl) (fun d hd e he => by subst he; exact h d hd)
  subst q2
  unfold comp
  rw [hfi]
  simp only [R.bind_ok, q1, List.nil_append, hb]
/-- with a test that each item answers -/
theorem compL_filter {g : D → En → Option En} {tt : En → R Bool} {te : En → R (D × Nat)} {m : Nat} {vs : List Nat} (env0 : En) (q : D → Bool) (f : D → D) : ∀ (ds : List D) (acc : List D), acc.length + ds.length ≤ lim →
    (∀ d ∈ ds, ∃ e1 e2, g d env0 = some e1 ∧ tt e1 = .ok (q d) e2 ∧ (q d = false → wipeE e2 vs = env0) ∧ (q d = true → ∃ e3, te e2 = .ok (f d, m) e3 ∧ wipeE e3 vs = env0)) → compL g tt te m vs ds env0 acc = .ok (acc ++ (ds.filter q).map f) env0
  | [], acc, _, _ => by simp [compL]
  | d :: ds, acc, hl, h => by
    obtain ⟨e1, e2, h1, h2, h3, h4⟩ := h d List.mem_cons_self
    have hl' : acc.length < lim := by simp only [List.length_cons] at hl; omega
    unfold compL
    rw [h1]
    simp only [h2, R.noX_ok, R.bind_ok]
    cases hq : q d with
    | false =>
      have ih := compL_filter env0 q f ds acc (by simp only [List.length_cons] at hl; omega) fun d' hd => h d' (List.mem_cons_of_mem _ hd)
      simp only [Bool.false_eq_true, if_false, h3 hq, ih, List.filter_cons, hq]
    | true =>
      obtain ⟨e3, h5, h6⟩ := h4 hq
      have ih := compL_filter env0 q f ds (acc ++ [f d]) (by simp only [List.length_append, List.length_cons, List.length_nil] at hl ⊢; omega) fun d' hd => h d' (List.mem_cons_of_mem _ hd)
      simp only [if_true, h5, R.noX_ok, R.bind_ok, hl', and_self, h6, ih, List.filter_cons, hq, List.map_cons, List.append_assoc, List.singleton_append]
theorem comp_filter {fi : En → R (List D)} {g : D → En → Option En} {tt : En → R Bool} {te : En → R (D × Nat)} {m : Nat} {vs : List Nat} (q : D → Bool) (f : D → D) {env env1 env0 env2 : En} {ds : List D} (hfi : fi env = .ok ds env1) (h0 : wipeE env1 vs = env0) (hb : backE env1 env0 vs = env2) (hl : ds.length ≤ lim)
    (h : ∀ d ∈ ds, ∃ e1 e2, g d env0 = some e1 ∧ tt e1 = .ok (q d) e2 ∧ (q d = false → wipeE e2 vs = env0) ∧ (q d = true → ∃ e3, te e2 = .ok (f d, m) e3 ∧ wipeE e3 vs = env0)) : comp fi g tt te m vs env = .ok (.lst ((ds.filter q).map f), m + 1) env2 := by
  have h1 := compL_filter (g := g) (tt := tt) (te := te) (m := m) (vs := vs) env0 q f ds [] (by simpa using hl) h
  subst h0
  unfold comp
  rw [hfi]
  simp only [R.bind_ok, h1, List.nil_append, hb]
/-- a loop that keeps what P tells -/
theorem loopS_inv {g : D → En → Option En} {body : En → SR} (P : En → Prop) : ∀ (ds : List D) (env : En), P env → (∀ d ∈ ds, ∀ env, P env → ∃ e1 e2, g d env = some e1 ∧ body e1 = .nx e2 ∧ P e2) → ∃ e, loopS g body ds env = .nx e ∧ P e
  | [], env, hP, _ => ⟨env, rfl, hP⟩
  | d :: ds, env, hP, h => by
    obtain ⟨e1, e2, h1, h2, h3⟩ := h d List.mem_cons_self env hP
    obtain ⟨e, q1, q2⟩ := loopS_inv P ds e2 h3 fun d' hd => h d' (List.mem_cons_of_mem _ hd)
    refine ⟨e, ?_, q2⟩
    unfold loopS
    rw [h1]
    simp only [h2]
    exact q1
theorem rgD_ok {l n : Nat} (hl : l ≤ 16000000) (hn : n ≤ 16000000) : rgD l n = some ((List.range (n - l)).map fun k : Nat => .int (l + k : Nat)) := by
  have h1 : (n : Int) < 4611686018427387904 := by omega
  have h2 : -4611686018427387904 ≤ (n : Int) := by omega
  have h3 : (l : Int) < 4611686018427387904 := by omega
  have h4 : -4611686018427387904 ≤ (l : Int) := by omega
  have e : ((n : Int) - (l : Int)).toNat = n - l := by omega
  unfold rgD
  have hb : rgB l n = true := by
    unfold rgB
    rw [Bool.and_eq_true]
    exact ⟨Nat.ble_eq_true_of_le (by omega), Nat.ble_eq_true_of_le (by omega)⟩
  rw [if_pos hb, e]
  simp
theorem rg2D_ok {l n : Nat} (hl : l ≤ 16000000) (hn : n ≤ 16000000) : rg2D [.int l, .int n] = some ((List.range (n - l)).map fun k : Nat => .int (l + k : Nat)) := by
  unfold rg2D
  exact rgD_ok hl hn
theorem rg1D_ok {n : Nat} (hn : n ≤ 16000000) : rg1D [.int n] = some ((List.range n).map fun k : Nat => .int k) := by
  have h := rgD_ok (l := 0) (Nat.zero_le _) hn
  simp only [Nat.zero_add, Nat.sub_zero] at h
  exact h
theorem rg1_ok {f : En → R (List D)} {env env1 : En} {n : Nat} (h : f env = .ok [.int n] env1) (hn : n ≤ 16000000) : rg1 f env = .ok ((List.range n).map fun k : Nat => .int k) env1 := by
  unfold rg1
  rw [h, R.bind_ok, rg1D_ok hn, R.of_some]
theorem rg2_ok {f : En → R (List D)} {env env1 : En} {l n : Nat} (h : f env = .ok [.int l, .int n] env1) (hl : l ≤ 16000000) (hn : n ≤ 16000000) : rg2 f env = .ok ((List.range (n - l)).map fun k : Nat => .int (l + k : Nat)) env1 := by
  unfold rg2
  rw [h, R.bind_ok, rg2D_ok hl hn, R.of_some]
/-- a for loop's turns -/
theorem loopS_map {α β : Type} {g : D → En → Option En} {body : En → SR} (f : β → D) (T : α → β → α) (J : α → En) (P : α → Prop) : ∀ (bs : List β) (a : α), P a →
    (∀ b ∈ bs, ∀ a, P a → ∃ e1, g (f b) (J a) = some e1 ∧ body e1 = .nx (J (T a b)) ∧ P (T a b)) → loopS g body (bs.map f) (J a) = .nx (J (bs.foldl T a)) ∧ P (bs.foldl T a)
  | [], a, hP, _ => ⟨rfl, hP⟩
  | b :: bs, a, hP, h => by
    obtain ⟨e1, h1, h2, h3⟩ := h b List.mem_cons_self a hP
    have ih := loopS_map (g := g) (body := body) f T J P bs (T a b) h3 fun b' hb => h b' (List.mem_cons_of_mem _ hb)
    rw [List.map_cons, List.foldl_cons]
    refine ⟨?_, ih.2⟩
    unfold loopS
    rw [h1]
    simp only [h2]
    exact ih.1
/-- a for loop, turn by turn -/
theorem loopS_idx {β : Type} {g : D → En → Option En} {body : En → SR} (f : β → D) : ∀ (bs : List β) (J : Nat → En),
    (∀ i (h : i < bs.length), ∃ e1, g (f bs[i]) (J i) = some e1 ∧ body e1 = .nx (J (i + 1))) → loopS g body (bs.map f) (J 0) = .nx (J bs.length)
  | [], J, _ => rfl
  | b :: bs, J, h => by
    obtain ⟨e1, h1, h2⟩ := h 0 (by simp)
    have ih := loopS_idx (g := g) (body := body) f bs (fun i => J (i + 1)) fun i hi => by
      obtain ⟨e2, q1, q2⟩ := h (i + 1) (by simpa using hi)
      exact ⟨e2, by simpa using q1, q2⟩
    rw [List.map_cons]
    unfold loopS
    rw [show g (f b) (J 0) = some e1 from h1]
    simp only [h2]
    exact ih
theorem loopS_ex {β : Type} {g : D → En → Option En} {body : En → SR} (f : β → D) : ∀ (bs : List β) (P : Nat → En → Prop) (env : En), P 0 env →
    (∀ i (h : i < bs.length) env, P i env → ∃ e1 e2, g (f bs[i]) env = some e1 ∧ body e1 = .nx e2 ∧ P (i + 1) e2) → ∃ e, loopS g body (bs.map f) env = .nx e ∧ P bs.length e
  | [], P, env, h0, _ => ⟨env, rfl, h0⟩
  | b :: bs, P, env, h0, h => by
    obtain ⟨e1, e2, h1, h2, h3⟩ := h 0 (by simp) env h0
    obtain ⟨e, q1, q2⟩ := loopS_ex (g := g) (body := body) f bs (fun i => P (i + 1)) e2 h3 fun i hi env hP => by
      obtain ⟨a, b, r1, r2, r3⟩ := h (i + 1) (by simpa using hi) env hP
      exact ⟨a, b, by simpa using r1, r2, r3⟩
    refine ⟨e, ?_, q2⟩
    rw [List.map_cons]
    unfold loopS
    rw [show g (f b) env = some e1 from h1]
    simp only [h2]
    exact q1
theorem loopS_range {g : D → En → Option En} {body : En → SR} (f : Nat → D) (n : Nat) (J : Nat → En)
    (h : ∀ i, i < n → ∃ e1, g (f i) (J i) = some e1 ∧ body e1 = .nx (J (i + 1))) : loopS g body ((List.range n).map f) (J 0) = .nx (J n) := by
  have := loopS_idx (g := g) (body := body) f (List.range n) J fun i hi => by
    simp only [List.length_range] at hi
    simpa using h i hi
  simpa using this
theorem forS_ok {fi : En → R (List D)} {g : D → En → Option En} {body : En → SR} {env env1 : En} {ds : List D} (h : fi env = .ok ds env1) : forS fi g body env = loopS g body ds env1 := by
  unfold forS
  rw [h]
  rfl
@[simp] theorem eqB_int (i j : Int) : eqB (.int i) (.int j) = some (decide (i = j)) := by
  simp [eqB, D.py, SeqAt.shaped, PyData.eqv, PyData.canLay0, PyData.depth]
  first | rfl | (cases i <;> cases j <;> rfl)
@[simp] theorem eqB_bl (i j : Bool) : eqB (.bl i) (.bl j) = some (decide (i = j)) := by
  simp [eqB, D.py, SeqAt.shaped, PyData.eqv, PyData.canLay0, PyData.depth]
  first | rfl | (cases i <;> cases j <;> rfl)
theorem eqB_str {i j : Str} (h : PyData.strOk i = true) (h' : PyData.strOk j = true) : eqB (.str i) (.str j) = some (decide (i = j)) := by
  simp [eqB, D.py, SeqAt.shaped, PyData.eqv, PyData.canLay0, PyData.depth, h, h']
  by_cases e : i = j
  · simp [e]
  · simp [e]
@[simp] theorem eqD_int (i j : Int) : eqD (.int i) (.int j) = some (.bl (decide (i = j)), 0) := by simp [eqD]
@[simp] theorem eqD_bl (i j : Bool) : eqD (.bl i) (.bl j) = some (.bl (decide (i = j)), 0) := by simp [eqD]
theorem eqD_str {i j : Str} (h : PyData.strOk i = true) (h' : PyData.strOk j = true) : eqD (.str i) (.str j) = some (.bl (decide (i = j)), 0) := by simp [eqD, eqB_str h h']
@[simp] theorem neD_int (i j : Int) : neD (.int i) (.int j) = some (.bl (!decide (i = j)), 0) := by simp [neD]
theorem neD_str {i j : Str} (h : PyData.strOk i = true) (h' : PyData.strOk j = true) : neD (.str i) (.str j) = some (.bl (!decide (i = j)), 0) := by simp [neD, eqB_str h h']
/-- sorting goes through a map -/
theorem mrg_map {α β : Type} {le : α → α → Bool} {le' : β → β → Bool} {f : β → α} (h : ∀ a b, le (f a) (f b) = le' a b) : ∀ (k : Nat) (xs ys : List β), mrg le k (xs.map f) (ys.map f) = (mrg le' k xs ys).map f
  | 0, xs, ys => by simp [mrg]
  | k + 1, [], ys => by simp [mrg]
  | k + 1, x :: xs, [] => by simp [mrg]
  | k + 1, x :: xs, y :: ys => by
    show (if le (f x) (f y) then f x :: mrg le k (xs.map f) ((y :: ys).map f) else f y :: mrg le k ((x :: xs).map f) (ys.map f)) = (if le' x y then x :: mrg le' k xs (y :: ys) else y :: mrg le' k (x :: xs) ys).map f
    rw [h, mrg_map h k xs (y :: ys), mrg_map h k (x :: xs) ys]
    split <;> rfl
theorem msr_map {α β : Type} {le : α → α → Bool} {le' : β → β → Bool} {f : β → α} (h : ∀ a b, le (f a) (f b) = le' a b) : ∀ (k : Nat) (xs : List β), msr le k (xs.map f) = (msr le' k xs).map f
  | 0, xs => by simp [msr]
  | k + 1, [] => by simp [msr]
  | k + 1, [a] => by simp [msr]
  | k + 1, a :: b :: r => by
    show mrg le (((a :: b :: r).map f).length) (msr le k (((a :: b :: r).map f).take ((((a :: b :: r).map f).length + 1) / 2))) (msr le k (((a :: b :: r).map f).drop ((((a :: b :: r).map f).length + 1) / 2))) = (mrg le' ((a :: b :: r).length) (msr le' k ((a :: b :: r).take (((a :: b :: r).length + 1) / 2))) (msr le' k ((a :: b :: r).drop (((a :: b :: r).length + 1) / 2)))).map f
    rw [List.length_map, ← List.map_take, ← List.map_drop, msr_map h k, msr_map h k, mrg_map h]
theorem msr_perm {α : Type} (le : α → α → Bool) (xs : List α) : (msr le xs.length xs).Perm xs := by
  rw [msr_eq le _ _ (Nat.le_succ _)]
  exact List.mergeSort_perm _ _
end Pv
end

section
set_option Elab.async false
set_option linter.all false
set_option maxRecDepth 100000
set_option maxHeartbeats 4000000
/-! Pv16: how each law draws its numbers. -/
namespace Pv
open PySem PySem.Spec PyProof.Rows L2

def stB : En → SR := (seqS
  (setS 1 ((op2 addD (oOfV ((vOfE (op2 mulD (nmO 1) (oOfV (kI 1000003)))))) (oOfV ((vOfE (op1 absD (nmO 3)))))))) (setS 2 ((op2 modD (oOfV ((vOfE (op1 intD (oOfV ((vOfE (op2 addD (oOfV ((vOfE (op2 mulD (nmO 2) (oOfV (kI 48271)))))) (nmO 3))))))))) (oOfV (kI 2147483647))))))
def lawState : Sl → List D → FR := fnF 4 false (seqS (setS 1 ((eOfV (kI 0)))) (seqS (setS 2 ((eOfV (kI 1)))) (seqS (forS (seqI' ((vOfE (opS (nmO 0) pNone (pSome (kI 63)))))) (nameG 3) stB) (retS ((lstE (aCons ((nmV 1)) (aCons ((nmV 2)) aNil))))))))
def lawTake : Sl → List D → FR := fnF 3 true (seqS
  (iteS (tst (op2 (cmpD fun i j => decide (j < i)) (oOfV ((vOfE (op2 idxD (nmO 0) (oOfV (kI 0)))))) (oOfV (kI 0)))) (seqS
  (setS 2 ((op2 modD (oOfV ((vOfE (op1 intD (oOfV ((vOfE (op2 idxD (nmO 0) (oOfV (kI 0)))))))))) (nmO 1)))) (seqS
  (sItS 0 ((vOfE (op2 fdivD (oOfV ((vOfE (op2 idxD (nmO 0) (oOfV (kI 0)))))) (nmO 1)))) (kI 0)) (retM 2))) passS) (seqS
  (sItS 0 ((vOfE (op2 modD (oOfV ((vOfE (op1 intD (oOfV ((vOfE (op2 addD (oOfV ((vOfE (op2 mulD (oOfV ((vOfE (op2 idxD (nmO 0) (oOfV (kI 1)))))) (oOfV (kI 48271)))))) (oOfV (kI 11)))))))))) (oOfV (kI 2147483647))))) (kI 1)) (retS ((op2 modD (oOfV ((vOfE (op1 intD (oOfV ((vOfE (op2 fdivD (oOfV ((vOfE (op2 idxD (nmO 0) (oOfV (kI 1)))))) (oOfV (kI 7)))))))))) (nmO 1))))))
theorem sml1 : sml 1000003 = true := by decide
theorem sml2 : sml 48271 = true := by decide
theorem mul1 (a : Int) : mulD (.int a) (.int 1000003) = some (.int (a * 1000003), 0) := by simp [mulD, mulOk, sml1]
theorem mul2 (a : Int) : mulD (.int a) (.int 48271) = some (.int (a * 48271), 0) := by simp [mulD, mulOk, sml2]
theorem state_step (s z : Sl) (a b c : Int) : stB [s, some (.int a, 0), some (.int b, 0), some (.int c, 0)] = .nx [s, some (.int (a * 1000003 + if c < 0 then -c else c), 0), some (.int ((b * 48271 + c).fmod 2147483647), 0), some (.int c, 0)] := by
  unfold stB
  refine (seqS_nx (show setS 1 _ _ = .nx [s, some (.int (a * 1000003 + if c < 0 then -c else c), 0), some (.int b, 0), some (.int c, 0)] by simp [-List.map_map, fnF, en0, seqS, passS, noS, exprS, retS, retN, retM, putE, setS, iteS, vOfE, eOfV, oOfV, kI, kB, kS, kN, nmV, nmO, op1, op2, opC, tst, tru, truD, notT, andT, orT, blV, vbl, andV, orV, notV, iteE, aNil, aCons, lNil, lCons, tupE, lstE, dicE, Opd.get, callF, frR, callI, callL, own1, addD, subD, negD, cmpD, lenD, intD, tupD, lisD, absD, isiD, tyD, min2D, max2D, R.of, raiseS, asgS, nameG, nilG, consG, tupG, isD, nisD, isNB, opS, pNone, pSome, seqI', itsD, sItS, putD, wipeE, backE, mul1])).trans ?_
  simp [-List.map_map, fnF, en0, seqS, passS, noS, exprS, retS, retN, retM, putE, setS, iteS, vOfE, eOfV, oOfV, kI, kB, kS, kN, nmV, nmO, op1, op2, opC, tst, tru, truD, notT, andT, orT, blV, vbl, andV, orV, notV, iteE, aNil, aCons, lNil, lCons, tupE, lstE, dicE, Opd.get, callF, frR, callI, callL, own1, addD, subD, negD, cmpD, lenD, intD, tupD, lisD, absD, isiD, tyD, min2D, max2D, R.of, raiseS, asgS, nameG, nilG, consG, tupG, isD, nisD, isNB, opS, pNone, pSome, seqI', itsD, sItS, putD, wipeE, backE, mul2, modD]
theorem lawState_ok (ns : List Int) : ∃ a b : Int, lawState none [.scr ns] = .ok (.lst [.int a, .int b], 1) none := by
  have hl := loopS_map (g := nameG 3) (body := stB) D.int (fun (q : (Int × Int) × Sl) (c : Int) => ((q.1.1 * 1000003 + (if c < 0 then -c else c), (q.1.2 * 48271 + c).fmod 2147483647), some (.int c, 0)))
    (fun q => [some (.scr ns, 0), some (.int q.1.1, 0), some (.int q.1.2, 0), q.2]) (fun _ => True) (cutD ns none (some 63)) ((0, 1), none) trivial (fun c _ q _ => ⟨[some (.scr ns, 0), some (.int q.1.1, 0), some (.int q.1.2, 0), some (.int c, 0)], by simp [-List.map_map, fnF, en0, seqS, passS, noS, exprS, retS, retN, retM, putE, setS, iteS, vOfE, eOfV, oOfV, kI, kB, kS, kN, nmV, nmO, op1, op2, opC, tst, tru, truD, notT, andT, orT, blV, vbl, andV, orV, notV, iteE, aNil, aCons, lNil, lCons, tupE, lstE, dicE, Opd.get, callF, frR, callI, callL, own1, addD, subD, negD, cmpD, lenD, intD, tupD, lisD, absD, isiD, tyD, min2D, max2D, R.of, raiseS, asgS, nameG, nilG, consG, tupG, isD, nisD, isNB, opS, pNone, pSome, seqI', itsD, sItS, putD, wipeE, backE], state_step _ none _ _ _, trivial⟩)
  have hf : forS (seqI' ((vOfE (opS (nmO 0) pNone (pSome (kI 63)))))) (nameG 3) stB [some (.scr ns, 0), some (.int 0, 0), some (.int 1, 0), none] = loopS (nameG 3) stB ((cutD ns none (some 63)).map D.int) [some (.scr ns, 0), some (.int 0, 0), some (.int 1, 0), none] := forS_ok (by simp [-List.map_map, fnF, en0, seqS, passS, noS, exprS, retS, retN, retM, putE, setS, iteS, vOfE, eOfV, oOfV, kI, kB, kS, kN, nmV, nmO, op1, op2, opC, tst, tru, truD, notT, andT, orT, blV, vbl, andV, orV, notV, iteE, aNil, aCons, lNil, lCons, tupE, lstE, dicE, Opd.get, callF, frR, callI, callL, own1, addD, subD, negD, cmpD, lenD, intD, tupD, lisD, absD, isiD, tyD, min2D, max2D, R.of, raiseS, asgS, nameG, nilG, consG, tupG, isD, nisD, isNB, opS, pNone, pSome, seqI', itsD, sItS, putD, wipeE, backE, slD])
  have h2 := hf.trans hl.1
  generalize hq : List.foldl (fun (q : (Int × Int) × Sl) (c : Int) => ((q.1.1 * 1000003 + (if c < 0 then -c else c), (q.1.2 * 48271 + c).fmod 2147483647), some (D.int c, 0))) ((0, 1), none) (cutD ns none (some 63)) = q at h2
  refine ⟨q.1.1, q.1.2, fnF_ret (e := [some (.scr ns, 0), some (.int q.1.1, 0), some (.int q.1.2, 0), q.2]) ((seqS_nx (show setS 1 _ (en0 4 none [.scr ns]) = .nx [some (.scr ns, 0), some (.int 0, 0), none, none] by simp [-List.map_map, fnF, en0, seqS, passS, noS, exprS, retS, retN, retM, putE, setS, iteS, vOfE, eOfV, oOfV, kI, kB, kS, kN, nmV, nmO, op1, op2, opC, tst, tru, truD, notT, andT, orT, blV, vbl, andV, orV, notV, iteE, aNil, aCons, lNil, lCons, tupE, lstE, dicE, Opd.get, callF, frR, callI, callL, own1, addD, subD, negD, cmpD, lenD, intD, tupD, lisD, absD, isiD, tyD, min2D, max2D, R.of, raiseS, asgS, nameG, nilG, consG, tupG, isD, nisD, isNB, opS, pNone, pSome, seqI', itsD, sItS, putD, wipeE, backE])).trans ((seqS_nx (show setS 2 _ _ = .nx [some (.scr ns, 0), some (.int 0, 0), some (.int 1, 0), none] by simp [-List.map_map, fnF, en0, seqS, passS, noS, exprS, retS, retN, retM, putE, setS, iteS, vOfE, eOfV, oOfV, kI, kB, kS, kN, nmV, nmO, op1, op2, opC, tst, tru, truD, notT, andT, orT, blV, vbl, andV, orV, notV, iteE, aNil, aCons, lNil, lCons, tupE, lstE, dicE, Opd.get, callF, frR, callI, callL, own1, addD, subD, negD, cmpD, lenD, intD, tupD, lisD, absD, isiD, tyD, min2D, max2D, R.of, raiseS, asgS, nameG, nilG, consG, tupG, isD, nisD, isNB, opS, pNone, pSome, seqI', itsD, sItS, putD, wipeE, backE])).trans ((seqS_nx h2).trans (by simp [-List.map_map, fnF, en0, seqS, passS, noS, exprS, retS, retN, retM, putE, setS, iteS, vOfE, eOfV, oOfV, kI, kB, kS, kN, nmV, nmO, op1, op2, opC, tst, tru, truD, notT, andT, orT, blV, vbl, andV, orV, notV, iteE, aNil, aCons, lNil, lCons, tupE, lstE, dicE, Opd.get, callF, frR, callI, callL, own1, addD, subD, negD, cmpD, lenD, intD, tupD, lisD, absD, isiD, tyD, min2D, max2D, R.of, raiseS, asgS, nameG, nilG, consG, tupG, isD, nisD, isNB, opS, pNone, pSome, seqI', itsD, sItS, putD, wipeE, backE]))))⟩
theorem log7 : Nat.log2 7 < 9000 := by decide
theorem lawTake_ok (a b : Int) (m : Int) (hm : 0 < m) (hl : m.natAbs.log2 < 9000) : ∃ v a' b' : Int, lawTake (some (.lst [.int a, .int b], 1)) [.int m] = .ok (.int v, 0) (some (.lst [.int a', .int b'], 1)) ∧ 0 ≤ v ∧ v < m := by
  have hm0 : m ≠ 0 := by omega
  by_cases h : 0 < a
  · refine ⟨a.fmod m, a.fdiv m, b, ?_, Int.fmod_nonneg_of_pos _ hm, Int.fmod_lt_of_pos _ hm⟩
    unfold lawTake
    simp [-List.map_map, fnF, en0, seqS, passS, noS, exprS, retS, retN, retM, putE, setS, iteS, vOfE, eOfV, oOfV, kI, kB, kS, kN, nmV, nmO, op1, op2, opC, tst, tru, truD, notT, andT, orT, blV, vbl, andV, orV, notV, iteE, aNil, aCons, lNil, lCons, tupE, lstE, dicE, Opd.get, callF, frR, callI, callL, own1, addD, subD, negD, cmpD, lenD, intD, tupD, lisD, absD, isiD, tyD, min2D, max2D, R.of, raiseS, asgS, nameG, nilG, consG, tupG, isD, nisD, isNB, opS, pNone, pSome, seqI', itsD, sItS, putD, wipeE, backE, at_0, at_1, idxD, h, modD, fdivD, hm0, hl, ixN]
  · refine ⟨(((b * 48271 + 11).fmod 2147483647).fdiv 7).fmod m, a, (b * 48271 + 11).fmod 2147483647, ?_, Int.fmod_nonneg_of_pos _ hm, Int.fmod_lt_of_pos _ hm⟩
    unfold lawTake
    simp [-List.map_map, fnF, en0, seqS, passS, noS, exprS, retS, retN, retM, putE, setS, iteS, vOfE, eOfV, oOfV, kI, kB, kS, kN, nmV, nmO, op1, op2, opC, tst, tru, truD, notT, andT, orT, blV, vbl, andV, orV, notV, iteE, aNil, aCons, lNil, lCons, tupE, lstE, dicE, Opd.get, callF, frR, callI, callL, own1, addD, subD, negD, cmpD, lenD, intD, tupD, lisD, absD, isiD, tyD, min2D, max2D, R.of, raiseS, asgS, nameG, nilG, consG, tupG, isD, nisD, isNB, opS, pNone, pSome, seqI', itsD, sItS, putD, wipeE, backE, at_0, at_1, idxD, h, modD, fdivD, hm0, hl, mul2, ixN, log7]
end Pv
end

section
open PySem PySem.Spec PyProof.Rows L2 Pv
namespace L51
def topS (i : Nat) : Stmt := PySem.Challenge.pw_momentroads_k51_whole_paths_rings_and_cl.main.body.getD i (.Pass ⟨0, 0, 0, 0⟩)
abbrev s__law_state : Stmt := topS 29
theorem sc__law_state : FnScope ["script", "seed", "total", "cell"] ["script"] (defScope s__law_state) := ⟨rfl, rfl, rfl, by decide +kernel, rfl, by decide +kernel, by decide +kernel⟩
abbrev s_is_integer : Stmt := topS 5
theorem sc_is_integer : FnScope ["value"] ["value"] (defScope s_is_integer) := ⟨rfl, rfl, rfl, by decide +kernel, rfl, by decide +kernel, by decide +kernel⟩
abbrev s_made_graph : Stmt := topS 21
theorem sc_made_graph : FnScope ["n", "edges", "x", "y"] ["n", "edges"] (defScope s_made_graph) := ⟨rfl, rfl, rfl, by decide +kernel, rfl, by decide +kernel, by decide +kernel⟩
abbrev s_near_points : Stmt := topS 16
theorem sc_near_points : FnScope ["G", "found", "x", "y", "_"] ["G"] (defScope s_near_points) := ⟨rfl, rfl, rfl, by decide +kernel, rfl, by decide +kernel, by decide +kernel⟩
abbrev s_start_row : Stmt := topS 18
theorem sc_start_row : FnScope ["n", "x", "y"] ["n", "x"] (defScope s_start_row) := ⟨rfl, rfl, rfl, by decide +kernel, rfl, by decide +kernel, by decide +kernel⟩
abbrev s_led : Stmt := topS 17
theorem sc_led : FnScope ["near", "row", "others", "y"] ["near", "row"] (defScope s_led) := ⟨rfl, rfl, rfl, by decide +kernel, rfl, by decide +kernel, by decide +kernel⟩
abbrev s__law_take : Stmt := topS 30
theorem sc__law_take : FnScope ["state", "m", "value"] ["state", "m"] (defScope s__law_take) := ⟨rfl, rfl, rfl, by decide +kernel, rfl, by decide +kernel, by decide +kernel⟩
abbrev s_check_sizes : Stmt := topS 22
theorem sc_check_sizes : FnScope ["n", "edges"] ["n", "edges"] (defScope s_check_sizes) := ⟨rfl, rfl, rfl, by decide +kernel, rfl, by decide +kernel, by decide +kernel⟩
abbrev s_check_between : Stmt := topS 24
theorem sc_check_between : FnScope ["n", "least"] ["n", "least"] (defScope s_check_between) := ⟨rfl, rfl, rfl, by decide +kernel, rfl, by decide +kernel, by decide +kernel⟩
abbrev s_is_point : Stmt := topS 11
theorem sc_is_point : FnScope ["value", "n"] ["value", "n"] (defScope s_is_point) := ⟨rfl, rfl, rfl, by decide +kernel, rfl, by decide +kernel, by decide +kernel⟩
abbrev s_check_length : Stmt := topS 15
theorem sc_check_length : FnScope ["n", "most"] ["n", "most"] (defScope s_check_length) := ⟨rfl, rfl, rfl, by decide +kernel, rfl, by decide +kernel, by decide +kernel⟩
abbrev s_walk_counts : Stmt := topS 19
theorem sc_walk_counts : FnScope ["G", "n", "_", "near", "row", "found"] ["G", "n"] (defScope s_walk_counts) := ⟨rfl, rfl, rfl, by decide +kernel, rfl, by decide +kernel, by decide +kernel⟩
abbrev s_ring_graph : Stmt := topS 26
theorem sc_ring_graph : FnScope ["n", "k"] ["n"] (defScope s_ring_graph) := ⟨rfl, rfl, rfl, by decide +kernel, rfl, by decide +kernel, by decide +kernel⟩
abbrev s_is_edge : Stmt := topS 12
theorem sc_is_edge : FnScope ["value", "n"] ["value", "n"] (defScope s_is_edge) := ⟨rfl, rfl, rfl, by decide +kernel, rfl, by decide +kernel, by decide +kernel⟩
abbrev s_path_graph : Stmt := topS 25
theorem sc_path_graph : FnScope ["n", "k"] ["n"] (defScope s_path_graph) := ⟨rfl, rfl, rfl, by decide +kernel, rfl, by decide +kernel, by decide +kernel⟩
abbrev s_clique_graph : Stmt := topS 27
theorem sc_clique_graph : FnScope ["n", "edges", "y", "x"] ["n"] (defScope s_clique_graph) := ⟨rfl, rfl, rfl, by decide +kernel, rfl, by decide +kernel, by decide +kernel⟩
abbrev s_is_rooted_graph : Stmt := topS 13
theorem sc_is_rooted_graph : FnScope ["value", "n", "edges", "edge", "one", "two"] ["value"] (defScope s_is_rooted_graph) := ⟨rfl, rfl, rfl, by decide +kernel, rfl, by decide +kernel, by decide +kernel⟩
abbrev s_check_graph : Stmt := topS 14
theorem sc_check_graph : FnScope ["G"] ["G"] (defScope s_check_graph) := ⟨rfl, rfl, rfl, by decide +kernel, rfl, by decide +kernel, by decide +kernel⟩
abbrev s_closed_walks : Stmt := topS 20
theorem sc_closed_walks : FnScope ["G", "n", "c"] ["G", "n"] (defScope s_closed_walks) := ⟨rfl, rfl, rfl, by decide +kernel, rfl, by decide +kernel, by decide +kernel⟩
abbrev s_cartesian_product : Stmt := topS 23
theorem sc_cartesian_product : FnScope ["G", "H", "m", "edges", "x", "z", "y"] ["G", "H"] (defScope s_cartesian_product) := ⟨rfl, rfl, rfl, by decide +kernel, rfl, by decide +kernel, by decide +kernel⟩
abbrev s__law_told : Stmt := topS 32
theorem sc__law_told : FnScope ["f", "given"] ["f", "given"] (defScope s__law_told) := ⟨rfl, rfl, rfl, by decide +kernel, rfl, by decide +kernel, by decide +kernel⟩
abbrev s__law_same : Stmt := topS 31
theorem sc__law_same : FnScope ["value", "due", "k"] ["value", "due"] (defScope s__law_same) := ⟨rfl, rfl, rfl, by decide +kernel, rfl, by decide +kernel, by decide +kernel⟩
abbrev s__law_is_told : Stmt := topS 33
theorem sc__law_is_told : FnScope ["pair", "due"] ["pair", "due"] (defScope s__law_is_told) := ⟨rfl, rfl, rfl, by decide +kernel, rfl, by decide +kernel, by decide +kernel⟩
abbrev s__law_is_raised : Stmt := topS 34
theorem sc__law_is_raised : FnScope ["pair", "reason"] ["pair", "reason"] (defScope s__law_is_raised) := ⟨rfl, rfl, rfl, by decide +kernel, rfl, by decide +kernel, by decide +kernel⟩
abbrev s_law : Stmt := topS 35
theorem sc_law : FnScope ["script", "state", "n", "path", "clique", "x", "told", "walks", "catalan", "k", "square", "bad", "row", "back", "power", "turn", "act", "y", "m"] ["script"] (defScope s_law) := ⟨rfl, rfl, rfl, by decide +kernel, rfl, by decide +kernel, by decide +kernel⟩
/-- where the program's top has left its things -/
structure Facts (K : PySem.W.Frag) (mg : Str → Option Value) where
  d__law_state : DA K mg "_law_state" s__law_state ["script"]
  d_is_integer : DA K mg "is_integer" s_is_integer ["value"]
  d_made_graph : DA K mg "made_graph" s_made_graph ["n", "edges"]
  d_near_points : DA K mg "near_points" s_near_points ["G"]
  d_start_row : DA K mg "start_row" s_start_row ["n", "x"]
  d_led : DA K mg "led" s_led ["near", "row"]
  d__law_take : DA K mg "_law_take" s__law_take ["state", "m"]
  d_check_sizes : DA K mg "check_sizes" s_check_sizes ["n", "edges"]
  d_check_between : DA K mg "check_between" s_check_between ["n", "least"]
  d_is_point : DA K mg "is_point" s_is_point ["value", "n"]
  d_check_length : DA K mg "check_length" s_check_length ["n", "most"]
  d_walk_counts : DA K mg "walk_counts" s_walk_counts ["G", "n"]
  d_ring_graph : DA K mg "ring_graph" s_ring_graph ["n"]
  d_is_edge : DA K mg "is_edge" s_is_edge ["value", "n"]
  d_path_graph : DA K mg "path_graph" s_path_graph ["n"]
  d_clique_graph : DA K mg "clique_graph" s_clique_graph ["n"]
  d_is_rooted_graph : DA K mg "is_rooted_graph" s_is_rooted_graph ["value"]
  d_check_graph : DA K mg "check_graph" s_check_graph ["G"]
  d_closed_walks : DA K mg "closed_walks" s_closed_walks ["G", "n"]
  d_cartesian_product : DA K mg "cartesian_product" s_cartesian_product ["G", "H"]
  d__law_told : DA K mg "_law_told" s__law_told ["f", "given"]
  d__law_same : DA K mg "_law_same" s__law_same ["value", "due"]
  d__law_is_told : DA K mg "_law_is_told" s__law_is_told ["pair", "due"]
  d__law_is_raised : DA K mg "_law_is_raised" s__law_is_raised ["pair", "reason"]
  d_law : DA K mg "law" s_law ["script"]
  x_Malformed : XA K mg "Malformed"
  t_MOST_COMPARED : Tok
  c_MOST_COMPARED : mg "MOST_COMPARED" = some (.int 60 t_MOST_COMPARED)
  t_MOST_EDGES : Tok
  c_MOST_EDGES : mg "MOST_EDGES" = some (.int 4000 t_MOST_EDGES)
  t_MOST_LENGTH : Tok
  c_MOST_LENGTH : mg "MOST_LENGTH" = some (.int 12 t_MOST_LENGTH)
  t_MOST_POINTS : Tok
  c_MOST_POINTS : mg "MOST_POINTS" = some (.int 400 t_MOST_POINTS)
  b_abs : mg "abs" = none
  b_all : mg "all" = none
  b_any : mg "any" = none
  b_bool : mg "bool" = none
  b_int : mg "int" = none
  b_isinstance : mg "isinstance" = none
  b_len : mg "len" = none
  b_max : mg "max" = none
  b_min : mg "min" = none
  b_range : mg "range" = none
  b_sorted : mg "sorted" = none
  b_str : mg "str" = none
  b_sum : mg "sum" = none
  b_tuple : mg "tuple" = none
  b_zip : mg "zip" = none
def Facts.C {K : PySem.W.Frag} {mg : Str → Option Value} (E : Facts K mg) : RC := ⟨K, fun i => match i with
  | 0 => some E.d_ring_graph.f
  | 1 => some E.d_closed_walks.f
  | 2 => some E.d_path_graph.f
  | 3 => some E.d_clique_graph.f
  | _ => none, fun i => match i with
  | 1 => some E.x_Malformed.a
  | _ => none⟩
variable {P : Program} {w : World} {K : PySem.W.Frag} {mg : Str → Option Value} {base : Heap} (E : Facts K mg)
abbrev g__law_state_1 : En → SR := (setS 1 ((eOfV (kI 0))))
abbrev g__law_state_2 : En → SR := (setS 2 ((eOfV (kI 1))))
abbrev g__law_state_3 : En → SR := (forS (seqI' ((vOfE (opS (nmO 0) pNone (pSome (kI 63)))))) (nameG 3) (seqS
  (setS 1 ((op2 addD (oOfV ((vOfE (op2 mulD (nmO 1) (oOfV (kI 1000003)))))) (oOfV ((vOfE (op1 absD (nmO 3)))))))) (setS 2 ((op2 modD (oOfV ((vOfE (op1 intD (oOfV ((vOfE (op2 addD (oOfV ((vOfE (op2 mulD (nmO 2) (oOfV (kI 48271)))))) (nmO 3))))))))) (oOfV (kI 2147483647)))))))
abbrev g__law_state_4 : En → SR := (retS ((lstE (aCons ((nmV 1)) (aCons ((nmV 2)) aNil)))))
def g__law_state : En → SR := (seqS g__law_state_1 (seqS g__law_state_2 (seqS g__law_state_3 g__law_state_4)))
def F__law_state : Sl → List D → FR := fnF 4 false g__law_state
set_option maxRecDepth 100000 in
theorem ok__law_state : FnV P w K mg base E.C 1 E.d__law_state.f E.d__law_state.fd ["script"] false F__law_state :=
  fnV_of E.d__law_state.F sc__law_state false [] rfl (fun h => nomatch h) fun cdv A outer s H X σ₀ hr G => by
    exact (eb_cons
  (es_set (i := 1) G rfl (by first | exact .inl rfl | exact .inr rfl) (show (1 : Nat) ∉ ([] : List Nat) by decide) (EvV.toE ev_int)) (eb_cons
  (es_set (i := 2) G rfl (by first | exact .inl rfl | exact .inr rfl) (show (2 : Nat) ∉ ([] : List Nat) by decide) (EvV.toE ev_int)) (eb_cons
  (es_for G (passes_of rfl) (ei_seq G (EvE.toV (ev_slice G (ev_nameO (i := 0) rfl (by first | exact .inl rfl | exact .inr (.inl rfl) | exact .inr (.inr rfl))) ep_none (ep_some ev_int)))) (eg_name (i := 3) G rfl (by first | exact .inl rfl | exact .inr rfl) (show (3 : Nat) ∉ ([] : List Nat) by decide)) (eb_cons
  (es_set (i := 1) G rfl (by first | exact .inl rfl | exact .inr rfl) (show (1 : Nat) ∉ ([] : List Nat) by decide) (ev_add G (EvV.toO (EvE.toV (ev_mul G (ev_nameO (i := 1) rfl (by first | exact .inl rfl | exact .inr (.inl rfl) | exact .inr (.inr rfl))) (EvV.toO ev_int)))) (EvV.toO (EvE.toV (ev_abs (by rfl) E.b_abs (ev_nameO (i := 3) rfl (by first | exact .inl rfl | exact .inr (.inl rfl) | exact .inr (.inr rfl)))))))) (eb_one (es_set (i := 2) G rfl (by first | exact .inl rfl | exact .inr rfl) (show (2 : Nat) ∉ ([] : List Nat) by decide) (ev_mod (EvV.toO (EvE.toV (ev_int1 (by rfl) E.b_int (EvV.toO (EvE.toV (ev_add G (EvV.toO (EvE.toV (ev_mul G (ev_nameO (i := 2) rfl (by first | exact .inl rfl | exact .inr (.inl rfl) | exact .inr (.inr rfl))) (EvV.toO ev_int)))) (ev_nameO (i := 3) rfl (by first | exact .inl rfl | exact .inr (.inl rfl) | exact .inr (.inr rfl))))))))) (EvV.toO ev_int)))))) (eb_one (es_ret (ev_lst (ea_cons (ev_name (i := 1) rfl (by first | exact .inl rfl | exact .inr (.inl rfl) | exact .inr (.inr rfl))) (ea_cons (ev_name (i := 2) rfl (by first | exact .inl rfl | exact .inr (.inl rfl) | exact .inr (.inr rfl))) ea_nil))))))))
def g_is_integer : En → SR := (retS ((eOfV ((andV ((vOfE (op1 (isiD "int") (nmO 0)))) ((notV ((vOfE (op1 (isiD "bool") (nmO 0)))))))))))
def F_is_integer : Sl → List D → FR := fnF 1 false g_is_integer
set_option maxRecDepth 100000 in
theorem ok_is_integer : FnV P w K mg base E.C 1 E.d_is_integer.f E.d_is_integer.fd ["value"] false F_is_integer :=
  fnV_of E.d_is_integer.F sc_is_integer false [] rfl (fun h => nomatch h) fun cdv A outer s H X σ₀ hr G => by
    exact (eb_one (es_ret (EvV.toE (ev_and (EvE.toV (ev_isi G (T := "int") (by decide) (by decide +kernel) (by rfl) E.b_isinstance (by rfl) E.b_int (ev_nameO (i := 0) rfl (by first | exact .inl rfl | exact .inr (.inl rfl) | exact .inr (.inr rfl))))) (ev_one (ev_not (EvE.toV (ev_isi G (T := "bool") (by decide) (by decide +kernel) (by rfl) E.b_isinstance (by rfl) E.b_bool (ev_nameO (i := 0) rfl (by first | exact .inl rfl | exact .inr (.inl rfl) | exact .inr (.inr rfl)))))))))))
abbrev g_made_graph_1 : En → SR := (iteS (orT (tst (op2 (cmpD fun i j => decide (j < i)) (nmO 0) (oOfV (kI 400)))) (tst (op2 (cmpD fun i j => decide (j < i)) (oOfV ((vOfE (op1 lenD (nmO 1))))) (oOfV (kI 4000))))) noS passS)
abbrev g_made_graph_2 : En → SR := (retS ((eOfV ((tupE (aCons ((nmV 0)) (aCons ((vOfE (op1 tupD (oOfV ((vOfE (op1 sortD (oOfV ((vOfE (comp (seqI' ((nmV 1))) (tupG 2 (consG (nameG 2) (consG (nameG 3) nilG))) (yesT) ((eOfV ((tupE (aCons ((vOfE (op2 min2D (nmO 2) (nmO 3)))) (aCons ((vOfE (op2 max2D (nmO 2) (nmO 3)))) aNil)))))) 0 [2, 3]))))))))))) aNil)))))))
def g_made_graph : En → SR := (seqS g_made_graph_1 g_made_graph_2)
def F_made_graph : Sl → List D → FR := fnF 4 false g_made_graph
set_option maxRecDepth 100000 in
theorem ok_made_graph : FnV P w K mg base E.C 1 E.d_made_graph.f E.d_made_graph.fd ["n", "edges"] false F_made_graph :=
  fnV_of E.d_made_graph.F sc_made_graph false [] rfl (fun h => nomatch h) fun cdv A outer s H X σ₀ hr G => by
    exact (eb_cons
  (es_if (EvW.t (ew_or (et_cmp (cGt) (ev_nameO (i := 0) rfl (by first | exact .inl rfl | exact .inr (.inl rfl) | exact .inr (.inr rfl))) (EvV.toO (ev_gint (by rfl) E.c_MOST_POINTS))) (ew_or1 (et_cmp (cGt) (EvV.toO (EvE.toV (ev_len G (by rfl) E.b_len (ev_nameO (i := 1) rfl (by first | exact .inl rfl | exact .inr (.inl rfl) | exact .inr (.inr rfl)))))) (EvV.toO (ev_gint (by rfl) E.c_MOST_EDGES)))))) (eb_one es_no) eb_nil) (eb_one (es_ret (EvV.toE (ev_tup (ea_cons (ev_name (i := 0) rfl (by first | exact .inl rfl | exact .inr (.inl rfl) | exact .inr (.inr rfl))) (ea_cons (EvE.toV (ev_tuple G (by rfl) E.b_tuple (EvV.toO (EvE.toV (ev_sorted G hr (by rfl) E.b_sorted (EvV.toO (EvE.toV (ev_lc (own := [((PySem.Str.ofString "x"), 2), ((PySem.Str.ofString "y"), 3)]) (vs := [2, 3]) (ws := ([2] ++ ([3] ++ []))) 0 G (ei_seq G (ev_name (i := 1) rfl (by first | exact .inl rfl | exact .inr (.inl rfl) | exact .inr (.inr rfl)))) (blkOk_by (by kernel_rfl)) rfl (by decide) (fun _ _ _ _ _ => blkG G fun G => (eg_tup G (egs_cons (eg_name (i := 2) G rfl (by first | exact .inl rfl | exact .inr rfl) (show (2 : Nat) ∉ ([] : List Nat) by decide)) (egs_cons (eg_name (i := 3) G rfl (by first | exact .inl rfl | exact .inr rfl) (show (3 : Nat) ∉ ([] : List Nat) by decide)) egs_nil)))) (fun _ _ _ _ _ => blkT G fun G => ept_nil) (fun _ _ _ _ _ => blkE G fun G => (EvV.toE (ev_tup (ea_cons (EvE.toV (ev_min2 G (by rfl) E.b_min (ev_nameO (i := 2) rfl (by first | exact .inl rfl | exact .inr (.inl rfl) | exact .inr (.inr rfl))) (ev_nameO (i := 3) rfl (by first | exact .inl rfl | exact .inr (.inl rfl) | exact .inr (.inr rfl))))) (ea_cons (EvE.toV (ev_max2 G (by rfl) E.b_max (ev_nameO (i := 2) rfl (by first | exact .inl rfl | exact .inr (.inl rfl) | exact .inr (.inr rfl))) (ev_nameO (i := 3) rfl (by first | exact .inl rfl | exact .inr (.inl rfl) | exact .inr (.inr rfl))))) ea_nil))))))))))))) ea_nil)))))))
abbrev g_near_points_1 : En → SR := (setS 1 (comp (rg1 (aCons ((vOfE (op2 idxD (nmO 0) (oOfV (kI 0))))) aNil)) (nameG 4) (yesT) ((lstE aNil)) 1 [4]))
abbrev g_near_points_2 : En → SR := (forS (seqI' ((vOfE (op2 idxD (nmO 0) (oOfV (kI 1)))))) (tupG 2 (consG (nameG 2) (consG (nameG 3) nilG))) (seqS
  (app2S 1 (nmK 2) (nmK 3)) (iteS (tst (op2 neD (nmO 2) (nmO 3))) (app2S 1 (nmK 3) (nmK 2)) passS)))
abbrev g_near_points_3 : En → SR := (retM 1)
def g_near_points : En → SR := (seqS g_near_points_1 (seqS g_near_points_2 g_near_points_3))
def F_near_points : Sl → List D → FR := fnF 5 false g_near_points
set_option maxRecDepth 100000 in
theorem ok_near_points : FnV P w K mg base E.C 1 E.d_near_points.f E.d_near_points.fd ["G"] false F_near_points :=
  fnV_of E.d_near_points.F sc_near_points false [] rfl (fun h => nomatch h) fun cdv A outer s H X σ₀ hr G => by
    exact (eb_cons
  (es_setLc (i := 1) (own := [((PySem.Str.ofString "_"), 4)]) (vs := [4]) (ws := [4]) 1 G rfl rfl (show (1 : Nat) ∉ ([] : List Nat) by decide) (sw_true rfl rfl rfl rfl) (ei_rg1 (by rfl) E.b_range (ea_cons (EvE.toV (ev_idx G hr (ev_nameO (i := 0) rfl (by first | exact .inl rfl | exact .inr (.inl rfl) | exact .inr (.inr rfl))) (EvV.toO ev_int))) ea_nil)) (blkOk_by (by kernel_rfl)) rfl (by decide) (fun _ _ _ _ _ => blkG G fun G => (eg_name (i := 4) G rfl (by first | exact .inl rfl | exact .inr rfl) (show (4 : Nat) ∉ ([] : List Nat) by decide))) (fun _ _ _ _ _ => blkT G fun G => ept_nil) (fun _ _ _ _ _ => blkE G fun G => (ev_lst ea_nil))) (eb_cons
  (es_for G (passes_of rfl) (ei_seq G (EvE.toV (ev_idx G hr (ev_nameO (i := 0) rfl (by first | exact .inl rfl | exact .inr (.inl rfl) | exact .inr (.inr rfl))) (EvV.toO ev_int)))) (eg_tup G (egs_cons (eg_name (i := 2) G rfl (by first | exact .inl rfl | exact .inr rfl) (show (2 : Nat) ∉ ([] : List Nat) by decide)) (egs_cons (eg_name (i := 3) G rfl (by first | exact .inl rfl | exact .inr rfl) (show (3 : Nat) ∉ ([] : List Nat) by decide)) egs_nil))) (eb_cons
  (es_app2 (i := 1) G rfl (by first | exact .inl rfl | exact .inr (.inl rfl) | exact .inr (.inr rfl)) (ek_name (i := 2) rfl (by first | exact .inl rfl | exact .inr (.inl rfl) | exact .inr (.inr rfl))) (ek_name (i := 3) rfl (by first | exact .inl rfl | exact .inr (.inl rfl) | exact .inr (.inr rfl)))) (eb_one (es_if (et_cmp (cNe G hr) (ev_nameO (i := 2) rfl (by first | exact .inl rfl | exact .inr (.inl rfl) | exact .inr (.inr rfl))) (ev_nameO (i := 3) rfl (by first | exact .inl rfl | exact .inr (.inl rfl) | exact .inr (.inr rfl)))) (eb_one (es_app2 (i := 1) G rfl (by first | exact .inl rfl | exact .inr (.inl rfl) | exact .inr (.inr rfl)) (ek_name (i := 3) rfl (by first | exact .inl rfl | exact .inr (.inl rfl) | exact .inr (.inr rfl))) (ek_name (i := 2) rfl (by first | exact .inl rfl | exact .inr (.inl rfl) | exact .inr (.inr rfl))))) eb_nil)))) (eb_one (es_retM (i := 1) rfl (by first | exact .inl rfl | exact .inr (.inl rfl) | exact .inr (.inr rfl))))))
def g_start_row : En → SR := (retS ((comp (rg1 (aCons ((nmV 0)) aNil)) (nameG 2) (yesT) ((eOfV ((vOfE (op1 intD (oOfV ((vOfE (op2 eqD (nmO 2) (nmO 1)))))))))) 0 [2])))
def F_start_row : Sl → List D → FR := fnF 3 false g_start_row
set_option maxRecDepth 100000 in
theorem ok_start_row : FnV P w K mg base E.C 1 E.d_start_row.f E.d_start_row.fd ["n", "x"] false F_start_row :=
  fnV_of E.d_start_row.F sc_start_row false [] rfl (fun h => nomatch h) fun cdv A outer s H X σ₀ hr G => by
    exact (eb_one (es_ret (ev_lc (own := [((PySem.Str.ofString "y"), 2)]) (vs := [2]) (ws := [2]) 0 G (ei_rg1 (by rfl) E.b_range (ea_cons (ev_name (i := 0) rfl (by first | exact .inl rfl | exact .inr (.inl rfl) | exact .inr (.inr rfl))) ea_nil)) (blkOk_by (by kernel_rfl)) rfl (by decide) (fun _ _ _ _ _ => blkG G fun G => (eg_name (i := 2) G rfl (by first | exact .inl rfl | exact .inr rfl) (show (2 : Nat) ∉ ([] : List Nat) by decide))) (fun _ _ _ _ _ => blkT G fun G => ept_nil) (fun _ _ _ _ _ => blkE G fun G => (EvV.toE (EvE.toV (ev_int1 (by rfl) E.b_int (EvV.toO (EvE.toV (ev_cmp (cEq G hr) (ev_nameO (i := 2) rfl (by first | exact .inl rfl | exact .inr (.inl rfl) | exact .inr (.inr rfl))) (ev_nameO (i := 1) rfl (by first | exact .inl rfl | exact .inr (.inl rfl) | exact .inr (.inr rfl)))))))))))))
def g_led : En → SR := (retS ((comp (seqI' ((nmV 0))) (nameG 2) (yesT) ((eOfV ((vOfE (op1 sumD (oOfV ((vOfE (comp (seqI' ((nmV 2))) (nameG 3) (yesT) ((eOfV ((vOfE (op2 idxD (nmO 1) (nmO 3)))))) 0 [3]))))))))) 0 [2])))
def F_led : Sl → List D → FR := fnF 4 false g_led
set_option maxRecDepth 100000 in
theorem ok_led : FnV P w K mg base E.C 1 E.d_led.f E.d_led.fd ["near", "row"] false F_led :=
  fnV_of E.d_led.F sc_led false [] rfl (fun h => nomatch h) fun cdv A outer s H X σ₀ hr G => by
    exact (eb_one (es_ret (ev_lc (own := [((PySem.Str.ofString "others"), 2)]) (vs := [2]) (ws := [2]) 0 G (ei_seq G (ev_name (i := 0) rfl (by first | exact .inl rfl | exact .inr (.inl rfl) | exact .inr (.inr rfl)))) (blkOk_by (by kernel_rfl)) rfl (by decide) (fun _ _ _ _ _ => blkG G fun G => (eg_name (i := 2) G rfl (by first | exact .inl rfl | exact .inr rfl) (show (2 : Nat) ∉ ([] : List Nat) by decide))) (fun _ _ _ _ _ => blkT G fun G => ept_nil) (fun _ _ _ _ _ => blkE G fun G => (EvV.toE (EvE.toV (ev_sum G (by rfl) E.b_sum (EvV.toO (EvE.toV (ev_lc (own := [((PySem.Str.ofString "y"), 3)]) (vs := [3]) (ws := [3]) 0 G (ei_seq G (ev_name (i := 2) rfl (by first | exact .inl rfl | exact .inr (.inl rfl) | exact .inr (.inr rfl)))) (blkOk_by (by kernel_rfl)) rfl (by decide) (fun _ _ _ _ _ => blkG G fun G => (eg_name (i := 3) G rfl (by first | exact .inl rfl | exact .inr rfl) (show (3 : Nat) ∉ ([] : List Nat) by decide))) (fun _ _ _ _ _ => blkT G fun G => ept_nil) (fun _ _ _ _ _ => blkE G fun G => (EvV.toE (EvE.toV (ev_idx G hr (ev_nameO (i := 1) rfl (by first | exact .inl rfl | exact .inr (.inl rfl) | exact .inr (.inr rfl))) (ev_nameO (i := 3) rfl (by first | exact .inl rfl | exact .inr (.inl rfl) | exact .inr (.inr rfl)))))))))))))))))
abbrev g__law_take_1 : En → SR := (iteS (tst (op2 (cmpD fun i j => decide (j < i)) (oOfV ((vOfE (op2 idxD (nmO 0) (oOfV (kI 0)))))) (oOfV (kI 0)))) (seqS
  (setS 2 ((op2 modD (oOfV ((vOfE (op1 intD (oOfV ((vOfE (op2 idxD (nmO 0) (oOfV (kI 0)))))))))) (nmO 1)))) (seqS
  (sItS 0 ((vOfE (op2 fdivD (oOfV ((vOfE (op2 idxD (nmO 0) (oOfV (kI 0)))))) (nmO 1)))) (kI 0)) (retM 2))) passS)
abbrev g__law_take_2 : En → SR := (sItS 0 ((vOfE (op2 modD (oOfV ((vOfE (op1 intD (oOfV ((vOfE (op2 addD (oOfV ((vOfE (op2 mulD (oOfV ((vOfE (op2 idxD (nmO 0) (oOfV (kI 1)))))) (oOfV (kI 48271)))))) (oOfV (kI 11)))))))))) (oOfV (kI 2147483647))))) (kI 1))
abbrev g__law_take_3 : En → SR := (retS ((op2 modD (oOfV ((vOfE (op1 intD (oOfV ((vOfE (op2 fdivD (oOfV ((vOfE (op2 idxD (nmO 0) (oOfV (kI 1)))))) (oOfV (kI 7)))))))))) (nmO 1))))
def g__law_take : En → SR := (seqS g__law_take_1 (seqS g__law_take_2 g__law_take_3))
def F__law_take : Sl → List D → FR := fnF 3 true g__law_take
set_option maxRecDepth 100000 in
theorem ok__law_take : FnV P w K mg base E.C 1 E.d__law_take.f E.d__law_take.fd ["state", "m"] true F__law_take :=
  fnV_of E.d__law_take.F sc__law_take true [0] rfl (fun _ => ⟨by decide, by decide⟩) fun cdv A outer s H X σ₀ hr G => by
    exact (eb_cons
  (es_if (et_cmp (cGt) (EvV.toO (EvE.toV (ev_idx G hr (ev_nameO (i := 0) rfl (by first | exact .inl rfl | exact .inr (.inl rfl) | exact .inr (.inr rfl))) (EvV.toO ev_int)))) (EvV.toO ev_int)) (eb_cons
  (es_set (i := 2) G rfl (by first | exact .inl rfl | exact .inr rfl) (show (2 : Nat) ∉ ([0] : List Nat) by decide) (ev_mod (EvV.toO (EvE.toV (ev_int1 (by rfl) E.b_int (EvV.toO (EvE.toV (ev_idx G hr (ev_nameO (i := 0) rfl (by first | exact .inl rfl | exact .inr (.inl rfl) | exact .inr (.inr rfl))) (EvV.toO ev_int))))))) (ev_nameO (i := 1) rfl (by first | exact .inl rfl | exact .inr (.inl rfl) | exact .inr (.inr rfl))))) (eb_cons
  (es_sub (i := 0) G hr rfl (by first | exact .inl rfl | exact .inr (.inl rfl) | exact .inr (.inr rfl)) (EvE.toV (ev_fdiv (EvV.toO (EvE.toV (ev_idx G hr (ev_nameO (i := 0) rfl (by first | exact .inl rfl | exact .inr (.inl rfl) | exact .inr (.inr rfl))) (EvV.toO ev_int)))) (ev_nameO (i := 1) rfl (by first | exact .inl rfl | exact .inr (.inl rfl) | exact .inr (.inr rfl))))) ev_int) (eb_one (es_retM (i := 2) rfl (by first | exact .inl rfl | exact .inr (.inl rfl) | exact .inr (.inr rfl)))))) eb_nil) (eb_cons
  (es_sub (i := 0) G hr rfl (by first | exact .inl rfl | exact .inr (.inl rfl) | exact .inr (.inr rfl)) (EvE.toV (ev_mod (EvV.toO (EvE.toV (ev_int1 (by rfl) E.b_int (EvV.toO (EvE.toV (ev_add G (EvV.toO (EvE.toV (ev_mul G (EvV.toO (EvE.toV (ev_idx G hr (ev_nameO (i := 0) rfl (by first | exact .inl rfl | exact .inr (.inl rfl) | exact .inr (.inr rfl))) (EvV.toO ev_int)))) (EvV.toO ev_int)))) (EvV.toO ev_int))))))) (EvV.toO ev_int))) ev_int) (eb_one (es_ret (ev_mod (EvV.toO (EvE.toV (ev_int1 (by rfl) E.b_int (EvV.toO (EvE.toV (ev_fdiv (EvV.toO (EvE.toV (ev_idx G hr (ev_nameO (i := 0) rfl (by first | exact .inl rfl | exact .inr (.inl rfl) | exact .inr (.inr rfl))) (EvV.toO ev_int)))) (EvV.toO ev_int))))))) (ev_nameO (i := 1) rfl (by first | exact .inl rfl | exact .inr (.inl rfl) | exact .inr (.inr rfl))))))))
def g_check_sizes : En → SR := (iteS (orT (tst (op2 (cmpD fun i j => decide (j < i)) (nmO 0) (oOfV (kI 400)))) (tst (op2 (cmpD fun i j => decide (j < i)) (nmO 1) (oOfV (kI 4000))))) noS passS)
def F_check_sizes : Sl → List D → FR := fnF 2 false g_check_sizes
set_option maxRecDepth 100000 in
theorem ok_check_sizes : FnV P w K mg base E.C 1 E.d_check_sizes.f E.d_check_sizes.fd ["n", "edges"] false F_check_sizes :=
  fnV_of E.d_check_sizes.F sc_check_sizes false [] rfl (fun h => nomatch h) fun cdv A outer s H X σ₀ hr G => by
    exact (eb_one (es_if (EvW.t (ew_or (et_cmp (cGt) (ev_nameO (i := 0) rfl (by first | exact .inl rfl | exact .inr (.inl rfl) | exact .inr (.inr rfl))) (EvV.toO (ev_gint (by rfl) E.c_MOST_POINTS))) (ew_or1 (et_cmp (cGt) (ev_nameO (i := 1) rfl (by first | exact .inl rfl | exact .inr (.inl rfl) | exact .inr (.inr rfl))) (EvV.toO (ev_gint (by rfl) E.c_MOST_EDGES)))))) (eb_one es_no) eb_nil))
def g_check_between : En → SR := (iteS (orT (notT (tru (oOfV ((vOfE (callF 1 (F_is_integer) (aCons ((nmV 0)) aNil))))))) (orT (tst (op2 (cmpD fun i j => decide (i < j)) (nmO 0) (nmO 1))) (tst (op2 (cmpD fun i j => decide (j < i)) (nmO 0) (oOfV (kI 60)))))) (raiseS 1) passS)
def F_check_between : Sl → List D → FR := fnF 2 false g_check_between
set_option maxRecDepth 100000 in
theorem ok_check_between : FnV P w K mg base E.C 2 E.d_check_between.f E.d_check_between.fd ["n", "least"] false F_check_between :=
  fnV_of E.d_check_between.F sc_check_between false [] rfl (fun h => nomatch h) fun cdv A outer s H X σ₀ hr G => by
    exact (eb_one (es_if (EvW.t (ew_or (et_not (et_tru G (EvV.toO (EvE.toV (ev_call G (ok_is_integer E) (hr.mono (by decide)) (by rfl) E.d_is_integer.m E.d_is_integer.F.kp E.d_is_integer.b (ea_cons (ev_name (i := 0) rfl (by first | exact .inl rfl | exact .inr (.inl rfl) | exact .inr (.inr rfl))) ea_nil)))))) (ew_or (et_cmp (cLt) (ev_nameO (i := 0) rfl (by first | exact .inl rfl | exact .inr (.inl rfl) | exact .inr (.inr rfl))) (ev_nameO (i := 1) rfl (by first | exact .inl rfl | exact .inr (.inl rfl) | exact .inr (.inr rfl)))) (ew_or1 (et_cmp (cGt) (ev_nameO (i := 0) rfl (by first | exact .inl rfl | exact .inr (.inl rfl) | exact .inr (.inr rfl))) (EvV.toO (ev_gint (by rfl) E.c_MOST_COMPARED))))))) (eb_one (es_raise (c := 1) G (E.x_Malformed.excC rfl) (by rfl))) eb_nil))
def g_is_point : En → SR := (retS ((eOfV ((andV ((vOfE (callF 1 (F_is_integer) (aCons ((nmV 0)) aNil)))) ((vOfE (opC (cmpD fun i j => decide (i ≤ j)) (cmpD fun i j => decide (i < j)) (oOfV (kI 0)) (nmO 0) (nmO 1)))))))))
def F_is_point : Sl → List D → FR := fnF 2 false g_is_point
set_option maxRecDepth 100000 in
theorem ok_is_point : FnV P w K mg base E.C 2 E.d_is_point.f E.d_is_point.fd ["value", "n"] false F_is_point :=
  fnV_of E.d_is_point.F sc_is_point false [] rfl (fun h => nomatch h) fun cdv A outer s H X σ₀ hr G => by
    exact (eb_one (es_ret (EvV.toE (ev_and (EvE.toV (ev_call G (ok_is_integer E) (hr.mono (by decide)) (by rfl) E.d_is_integer.m E.d_is_integer.F.kp E.d_is_integer.b (ea_cons (ev_name (i := 0) rfl (by first | exact .inl rfl | exact .inr (.inl rfl) | exact .inr (.inr rfl))) ea_nil))) (ev_one (EvE.toV (ev_chain (bLe) (cLt) (EvV.toO ev_int) (ev_nameO (i := 0) rfl (by first | exact .inl rfl | exact .inr (.inl rfl) | exact .inr (.inr rfl))) (ev_nameO (i := 1) rfl (by first | exact .inl rfl | exact .inr (.inl rfl) | exact .inr (.inr rfl))))))))))
def g_check_length : En → SR := (iteS (orT (notT (tru (oOfV ((vOfE (callF 1 (F_is_integer) (aCons ((nmV 0)) aNil))))))) (orT (tst (op2 (cmpD fun i j => decide (i < j)) (nmO 0) (oOfV (kI 0)))) (tst (op2 (cmpD fun i j => decide (j < i)) (nmO 0) (nmO 1))))) (raiseS 1) passS)
def F_check_length : Sl → List D → FR := fnF 2 false g_check_length
set_option maxRecDepth 100000 in
theorem ok_check_length : FnV P w K mg base E.C 2 E.d_check_length.f E.d_check_length.fd ["n", "most"] false F_check_length :=
  fnV_of E.d_check_length.F sc_check_length false [] rfl (fun h => nomatch h) fun cdv A outer s H X σ₀ hr G => by
    exact (eb_one (es_if (EvW.t (ew_or (et_not (et_tru G (EvV.toO (EvE.toV (ev_call G (ok_is_integer E) (hr.mono (by decide)) (by rfl) E.d_is_integer.m E.d_is_integer.F.kp E.d_is_integer.b (ea_cons (ev_name (i := 0) rfl (by first | exact .inl rfl | exact .inr (.inl rfl) | exact .inr (.inr rfl))) ea_nil)))))) (ew_or (et_cmp (cLt) (ev_nameO (i := 0) rfl (by first | exact .inl rfl | exact .inr (.inl rfl) | exact .inr (.inr rfl))) (EvV.toO ev_int)) (ew_or1 (et_cmp (cGt) (ev_nameO (i := 0) rfl (by first | exact .inl rfl | exact .inr (.inl rfl) | exact .inr (.inr rfl))) (ev_nameO (i := 1) rfl (by first | exact .inl rfl | exact .inr (.inl rfl) | exact .inr (.inr rfl)))))))) (eb_one (es_raise (c := 1) G (E.x_Malformed.excC rfl) (by rfl))) eb_nil))
abbrev g_walk_counts_1 : En → SR := (par3S 3 4 5 (lCons ((callF 1 (F_near_points) (aCons ((nmV 0)) aNil))) (lCons ((callF 2 (F_start_row) (aCons ((vOfE (op2 idxD (nmO 0) (oOfV (kI 0))))) (aCons (kI 0) aNil)))) (lCons ((lstE (aCons (kI 1) aNil))) lNil))))
abbrev g_walk_counts_2 : En → SR := (forS (rg1 (aCons ((nmV 1)) aNil)) (nameG 2) (seqS
  (setS 4 ((callF 2 (F_led) (aCons ((nmV 3)) (aCons ((nmV 4)) aNil))))) (appS 5 ((vOfE (op2 idxD (nmO 4) (oOfV (kI 0))))))))
abbrev g_walk_counts_3 : En → SR := (retM 5)
def g_walk_counts : En → SR := (seqS g_walk_counts_1 (seqS g_walk_counts_2 g_walk_counts_3))
def F_walk_counts : Sl → List D → FR := fnF 6 false g_walk_counts
set_option maxRecDepth 100000 in
theorem ok_walk_counts : FnV P w K mg base E.C 2 E.d_walk_counts.f E.d_walk_counts.fd ["G", "n"] false F_walk_counts :=
  fnV_of E.d_walk_counts.F sc_walk_counts false [] rfl (fun h => nomatch h) fun cdv A outer s H X σ₀ hr G => by
    exact (eb_cons
  (es_par3 (i := 3) (j := 4) (l := 5) G rfl rfl rfl (by decide) (by decide) (by decide) (show (3 : Nat) ∉ ([] : List Nat) by decide) (show (4 : Nat) ∉ ([] : List Nat) by decide) (show (5 : Nat) ∉ ([] : List Nat) by decide) rfl rfl rfl (el_cons (ev_call G (ok_near_points E) (hr.mono (by decide)) (by rfl) E.d_near_points.m E.d_near_points.F.kp E.d_near_points.b (ea_cons (ev_name (i := 0) rfl (by first | exact .inl rfl | exact .inr (.inl rfl) | exact .inr (.inr rfl))) ea_nil)) (el_cons (ev_call G (ok_start_row E) (hr.mono (by decide)) (by rfl) E.d_start_row.m E.d_start_row.F.kp E.d_start_row.b (ea_cons (EvE.toV (ev_idx G hr (ev_nameO (i := 0) rfl (by first | exact .inl rfl | exact .inr (.inl rfl) | exact .inr (.inr rfl))) (EvV.toO ev_int))) (ea_cons ev_int ea_nil))) (el_cons (ev_lst (ea_cons ev_int ea_nil)) el_nil)))) (eb_cons
  (es_for G (passes_of rfl) (ei_rg1 (by rfl) E.b_range (ea_cons (ev_name (i := 1) rfl (by first | exact .inl rfl | exact .inr (.inl rfl) | exact .inr (.inr rfl))) ea_nil)) (eg_name (i := 2) G rfl (by first | exact .inl rfl | exact .inr rfl) (show (2 : Nat) ∉ ([] : List Nat) by decide)) (eb_cons
  (es_set (i := 4) G rfl (by first | exact .inl rfl | exact .inr rfl) (show (4 : Nat) ∉ ([] : List Nat) by decide) (ev_call G (ok_led E) (hr.mono (by decide)) (by rfl) E.d_led.m E.d_led.F.kp E.d_led.b (ea_cons (ev_name (i := 3) rfl (by first | exact .inl rfl | exact .inr (.inl rfl) | exact .inr (.inr rfl))) (ea_cons (ev_name (i := 4) rfl (by first | exact .inl rfl | exact .inr (.inl rfl) | exact .inr (.inr rfl))) ea_nil)))) (eb_one (es_app (i := 5) G rfl (by first | exact .inl rfl | exact .inr (.inl rfl) | exact .inr (.inr rfl)) (EvE.toV (ev_idx G hr (ev_nameO (i := 4) rfl (by first | exact .inl rfl | exact .inr (.inl rfl) | exact .inr (.inr rfl))) (EvV.toO ev_int))))))) (eb_one (es_retM (i := 5) rfl (by first | exact .inl rfl | exact .inr (.inl rfl) | exact .inr (.inr rfl))))))
abbrev g_ring_graph_1 : En → SR := (exprS (callF 2 (F_check_between) (aCons ((nmV 0)) (aCons (kI 3) aNil))))
abbrev g_ring_graph_2 : En → SR := (retS ((callF 2 (F_made_graph) (aCons ((nmV 0)) (aCons ((vOfE (op2 addD (oOfV ((vOfE (comp (rg1 (aCons ((vOfE (op2 subD (nmO 0) (oOfV (kI 1))))) aNil)) (nameG 1) (yesT) ((eOfV ((tupE (aCons ((nmV 1)) (aCons ((vOfE (op2 addD (nmO 1) (oOfV (kI 1))))) aNil)))))) 0 [1])))) (oOfV ((vOfE (lstE (aCons ((tupE (aCons (kI 0) (aCons ((vOfE (op2 subD (nmO 0) (oOfV (kI 1))))) aNil)))) aNil)))))))) aNil)))))
def g_ring_graph : En → SR := (seqS g_ring_graph_1 g_ring_graph_2)
def F_ring_graph : Sl → List D → FR := fnF 2 false g_ring_graph
set_option maxRecDepth 100000 in
theorem ok_ring_graph : FnV P w K mg base E.C 3 E.d_ring_graph.f E.d_ring_graph.fd ["n"] false F_ring_graph :=
  fnV_of E.d_ring_graph.F sc_ring_graph false [] rfl (fun h => nomatch h) fun cdv A outer s H X σ₀ hr G => by
    exact (eb_cons
  (es_expr (ev_call G (ok_check_between E) (hr.mono (by decide)) (by rfl) E.d_check_between.m E.d_check_between.F.kp E.d_check_between.b (ea_cons (ev_name (i := 0) rfl (by first | exact .inl rfl | exact .inr (.inl rfl) | exact .inr (.inr rfl))) (ea_cons ev_int ea_nil)))) (eb_one (es_ret (ev_call G (ok_made_graph E) (hr.mono (by decide)) (by rfl) E.d_made_graph.m E.d_made_graph.F.kp E.d_made_graph.b (ea_cons (ev_name (i := 0) rfl (by first | exact .inl rfl | exact .inr (.inl rfl) | exact .inr (.inr rfl))) (ea_cons (EvE.toV (ev_add G (EvV.toO (EvE.toV (ev_lc (own := [((PySem.Str.ofString "k"), 1)]) (vs := [1]) (ws := [1]) 0 G (ei_rg1 (by rfl) E.b_range (ea_cons (EvE.toV (ev_sub (ev_nameO (i := 0) rfl (by first | exact .inl rfl | exact .inr (.inl rfl) | exact .inr (.inr rfl))) (EvV.toO ev_int))) ea_nil)) (blkOk_by (by kernel_rfl)) rfl (by decide) (fun _ _ _ _ _ => blkG G fun G => (eg_name (i := 1) G rfl (by first | exact .inl rfl | exact .inr rfl) (show (1 : Nat) ∉ ([] : List Nat) by decide))) (fun _ _ _ _ _ => blkT G fun G => ept_nil) (fun _ _ _ _ _ => blkE G fun G => (EvV.toE (ev_tup (ea_cons (ev_name (i := 1) rfl (by first | exact .inl rfl | exact .inr (.inl rfl) | exact .inr (.inr rfl))) (ea_cons (EvE.toV (ev_add G (ev_nameO (i := 1) rfl (by first | exact .inl rfl | exact .inr (.inl rfl) | exact .inr (.inr rfl))) (EvV.toO ev_int))) ea_nil)))))))) (EvV.toO (EvE.toV (ev_lst (ea_cons (ev_tup (ea_cons ev_int (ea_cons (EvE.toV (ev_sub (ev_nameO (i := 0) rfl (by first | exact .inl rfl | exact .inr (.inl rfl) | exact .inr (.inr rfl))) (EvV.toO ev_int))) ea_nil))) ea_nil)))))) ea_nil))))))
abbrev g_is_edge_1 : En → SR := (iteS (orT (notT (tru (oOfV ((vOfE (op1 (isiD "tuple") (nmO 0))))))) (tst (op2 neD (oOfV ((vOfE (op1 lenD (nmO 0))))) (oOfV (kI 2))))) (retS ((eOfV (kB false)))) passS)
abbrev g_is_edge_2 : En → SR := (retS ((eOfV ((andV ((vOfE (callF 2 (F_is_point) (aCons ((vOfE (op2 idxD (nmO 0) (oOfV (kI 0))))) (aCons ((nmV 1)) aNil))))) ((andV ((vOfE (callF 2 (F_is_point) (aCons ((vOfE (op2 idxD (nmO 0) (oOfV (kI 1))))) (aCons ((nmV 1)) aNil))))) ((vOfE (op2 (cmpD fun i j => decide (i ≤ j)) (oOfV ((vOfE (op2 idxD (nmO 0) (oOfV (kI 0)))))) (oOfV ((vOfE (op2 idxD (nmO 0) (oOfV (kI 1))))))))))))))))
def g_is_edge : En → SR := (seqS g_is_edge_1 g_is_edge_2)
def F_is_edge : Sl → List D → FR := fnF 2 false g_is_edge
set_option maxRecDepth 100000 in
theorem ok_is_edge : FnV P w K mg base E.C 3 E.d_is_edge.f E.d_is_edge.fd ["value", "n"] false F_is_edge :=
  fnV_of E.d_is_edge.F sc_is_edge false [] rfl (fun h => nomatch h) fun cdv A outer s H X σ₀ hr G => by
    exact (eb_cons
  (es_if (EvW.t (ew_or (et_not (et_tru G (EvV.toO (EvE.toV (ev_isi G (T := "tuple") (by decide) (by decide +kernel) (by rfl) E.b_isinstance (by rfl) E.b_tuple (ev_nameO (i := 0) rfl (by first | exact .inl rfl | exact .inr (.inl rfl) | exact .inr (.inr rfl)))))))) (ew_or1 (et_cmp (cNe G hr) (EvV.toO (EvE.toV (ev_len G (by rfl) E.b_len (ev_nameO (i := 0) rfl (by first | exact .inl rfl | exact .inr (.inl rfl) | exact .inr (.inr rfl)))))) (EvV.toO ev_int))))) (eb_one (es_ret (EvV.toE ev_bl))) eb_nil) (eb_one (es_ret (EvV.toE (ev_and (EvE.toV (ev_call G (ok_is_point E) (hr.mono (by decide)) (by rfl) E.d_is_point.m E.d_is_point.F.kp E.d_is_point.b (ea_cons (EvE.toV (ev_idx G hr (ev_nameO (i := 0) rfl (by first | exact .inl rfl | exact .inr (.inl rfl) | exact .inr (.inr rfl))) (EvV.toO ev_int))) (ea_cons (ev_name (i := 1) rfl (by first | exact .inl rfl | exact .inr (.inl rfl) | exact .inr (.inr rfl))) ea_nil)))) (ev_and (EvE.toV (ev_call G (ok_is_point E) (hr.mono (by decide)) (by rfl) E.d_is_point.m E.d_is_point.F.kp E.d_is_point.b (ea_cons (EvE.toV (ev_idx G hr (ev_nameO (i := 0) rfl (by first | exact .inl rfl | exact .inr (.inl rfl) | exact .inr (.inr rfl))) (EvV.toO ev_int))) (ea_cons (ev_name (i := 1) rfl (by first | exact .inl rfl | exact .inr (.inl rfl) | exact .inr (.inr rfl))) ea_nil)))) (ev_one (EvE.toV (ev_cmp (cLe) (EvV.toO (EvE.toV (ev_idx G hr (ev_nameO (i := 0) rfl (by first | exact .inl rfl | exact .inr (.inl rfl) | exact .inr (.inr rfl))) (EvV.toO ev_int)))) (EvV.toO (EvE.toV (ev_idx G hr (ev_nameO (i := 0) rfl (by first | exact .inl rfl | exact .inr (.inl rfl) | exact .inr (.inr rfl))) (EvV.toO ev_int)))))))))))))
abbrev g_path_graph_1 : En → SR := (exprS (callF 2 (F_check_between) (aCons ((nmV 0)) (aCons (kI 1) aNil))))
abbrev g_path_graph_2 : En → SR := (retS ((eOfV ((tupE (aCons ((nmV 0)) (aCons ((vOfE (op1 tupD (oOfV ((vOfE (comp (rg1 (aCons ((vOfE (op2 subD (nmO 0) (oOfV (kI 1))))) aNil)) (nameG 1) (yesT) ((eOfV ((tupE (aCons ((nmV 1)) (aCons ((vOfE (op2 addD (nmO 1) (oOfV (kI 1))))) aNil)))))) 0 [1]))))))) aNil)))))))
def g_path_graph : En → SR := (seqS g_path_graph_1 g_path_graph_2)
def F_path_graph : Sl → List D → FR := fnF 2 false g_path_graph
set_option maxRecDepth 100000 in
theorem ok_path_graph : FnV P w K mg base E.C 3 E.d_path_graph.f E.d_path_graph.fd ["n"] false F_path_graph :=
  fnV_of E.d_path_graph.F sc_path_graph false [] rfl (fun h => nomatch h) fun cdv A outer s H X σ₀ hr G => by
    exact (eb_cons
  (es_expr (ev_call G (ok_check_between E) (hr.mono (by decide)) (by rfl) E.d_check_between.m E.d_check_between.F.kp E.d_check_between.b (ea_cons (ev_name (i := 0) rfl (by first | exact .inl rfl | exact .inr (.inl rfl) | exact .inr (.inr rfl))) (ea_cons ev_int ea_nil)))) (eb_one (es_ret (EvV.toE (ev_tup (ea_cons (ev_name (i := 0) rfl (by first | exact .inl rfl | exact .inr (.inl rfl) | exact .inr (.inr rfl))) (ea_cons (EvE.toV (ev_tuple G (by rfl) E.b_tuple (EvV.toO (EvE.toV (ev_lc (own := [((PySem.Str.ofString "k"), 1)]) (vs := [1]) (ws := [1]) 0 G (ei_rg1 (by rfl) E.b_range (ea_cons (EvE.toV (ev_sub (ev_nameO (i := 0) rfl (by first | exact .inl rfl | exact .inr (.inl rfl) | exact .inr (.inr rfl))) (EvV.toO ev_int))) ea_nil)) (blkOk_by (by kernel_rfl)) rfl (by decide) (fun _ _ _ _ _ => blkG G fun G => (eg_name (i := 1) G rfl (by first | exact .inl rfl | exact .inr rfl) (show (1 : Nat) ∉ ([] : List Nat) by decide))) (fun _ _ _ _ _ => blkT G fun G => ept_nil) (fun _ _ _ _ _ => blkE G fun G => (EvV.toE (ev_tup (ea_cons (ev_name (i := 1) rfl (by first | exact .inl rfl | exact .inr (.inl rfl) | exact .inr (.inr rfl))) (ea_cons (EvE.toV (ev_add G (ev_nameO (i := 1) rfl (by first | exact .inl rfl | exact .inr (.inl rfl) | exact .inr (.inr rfl))) (EvV.toO ev_int))) ea_nil)))))))))) ea_nil)))))))
abbrev g_clique_graph_1 : En → SR := (exprS (callF 2 (F_check_between) (aCons ((nmV 0)) (aCons (kI 1) aNil))))
abbrev g_clique_graph_2 : En → SR := (setS 1 ((lstE aNil)))
abbrev g_clique_graph_3 : En → SR := (forS (rg1 (aCons ((nmV 0)) aNil)) (nameG 2) (extS 1 ((vOfE (comp (rg1 (aCons ((nmV 2)) aNil)) (nameG 3) (yesT) ((eOfV ((tupE (aCons ((nmV 3)) (aCons ((nmV 2)) aNil)))))) 0 [3])))))
abbrev g_clique_graph_4 : En → SR := (retS ((callF 2 (F_made_graph) (aCons ((nmV 0)) (aCons ((nmV 1)) aNil)))))
def g_clique_graph : En → SR := (seqS g_clique_graph_1 (seqS g_clique_graph_2 (seqS g_clique_graph_3 g_clique_graph_4)))
def F_clique_graph : Sl → List D → FR := fnF 4 false g_clique_graph
set_option maxRecDepth 100000 in
theorem ok_clique_graph : FnV P w K mg base E.C 3 E.d_clique_graph.f E.d_clique_graph.fd ["n"] false F_clique_graph :=
  fnV_of E.d_clique_graph.F sc_clique_graph false [] rfl (fun h => nomatch h) fun cdv A outer s H X σ₀ hr G => by
    exact (eb_cons
  (es_expr (ev_call G (ok_check_between E) (hr.mono (by decide)) (by rfl) E.d_check_between.m E.d_check_between.F.kp E.d_check_between.b (ea_cons (ev_name (i := 0) rfl (by first | exact .inl rfl | exact .inr (.inl rfl) | exact .inr (.inr rfl))) (ea_cons ev_int ea_nil)))) (eb_cons
  (es_set (i := 1) G rfl (by first | exact .inl rfl | exact .inr rfl) (show (1 : Nat) ∉ ([] : List Nat) by decide) (ev_lst ea_nil)) (eb_cons
  (es_for G (passes_of rfl) (ei_rg1 (by rfl) E.b_range (ea_cons (ev_name (i := 0) rfl (by first | exact .inl rfl | exact .inr (.inl rfl) | exact .inr (.inr rfl))) ea_nil)) (eg_name (i := 2) G rfl (by first | exact .inl rfl | exact .inr rfl) (show (2 : Nat) ∉ ([] : List Nat) by decide)) (eb_one (es_ext (i := 1) G rfl (by first | exact .inl rfl | exact .inr (.inl rfl) | exact .inr (.inr rfl)) (EvE.toV (ev_lc (own := [((PySem.Str.ofString "x"), 3)]) (vs := [3]) (ws := [3]) 0 G (ei_rg1 (by rfl) E.b_range (ea_cons (ev_name (i := 2) rfl (by first | exact .inl rfl | exact .inr (.inl rfl) | exact .inr (.inr rfl))) ea_nil)) (blkOk_by (by kernel_rfl)) rfl (by decide) (fun _ _ _ _ _ => blkG G fun G => (eg_name (i := 3) G rfl (by first | exact .inl rfl | exact .inr rfl) (show (3 : Nat) ∉ ([] : List Nat) by decide))) (fun _ _ _ _ _ => blkT G fun G => ept_nil) (fun _ _ _ _ _ => blkE G fun G => (EvV.toE (ev_tup (ea_cons (ev_name (i := 3) rfl (by first | exact .inl rfl | exact .inr (.inl rfl) | exact .inr (.inr rfl))) (ea_cons (ev_name (i := 2) rfl (by first | exact .inl rfl | exact .inr (.inl rfl) | exact .inr (.inr rfl))) ea_nil)))))))))) (eb_one (es_ret (ev_call G (ok_made_graph E) (hr.mono (by decide)) (by rfl) E.d_made_graph.m E.d_made_graph.F.kp E.d_made_graph.b (ea_cons (ev_name (i := 0) rfl (by first | exact .inl rfl | exact .inr (.inl rfl) | exact .inr (.inr rfl))) (ea_cons (ev_name (i := 1) rfl (by first | exact .inl rfl | exact .inr (.inl rfl) | exact .inr (.inr rfl))) ea_nil))))))))
abbrev g_is_rooted_graph_1 : En → SR := (iteS (orT (notT (tru (oOfV ((vOfE (op1 (isiD "tuple") (nmO 0))))))) (orT (tst (op2 neD (oOfV ((vOfE (op1 lenD (nmO 0))))) (oOfV (kI 2)))) (notT (tru (oOfV ((vOfE (callF 1 (F_is_integer) (aCons ((vOfE (op2 idxD (nmO 0) (oOfV (kI 0))))) aNil))))))))) (retS ((eOfV (kB false)))) passS)
abbrev g_is_rooted_graph_2 : En → SR := (asgS (tupG 2 (consG (nameG 1) (consG (nameG 2) nilG))) ((nmV 0)))
abbrev g_is_rooted_graph_3 : En → SR := (iteS (orT (tst (op2 (cmpD fun i j => decide (i < j)) (nmO 1) (oOfV (kI 1)))) (orT (tst (op2 (cmpD fun i j => decide (j < i)) (nmO 1) (oOfV (kI 400)))) (orT (notT (tru (oOfV ((vOfE (op1 (isiD "tuple") (nmO 2))))))) (tst (op2 (cmpD fun i j => decide (j < i)) (oOfV ((vOfE (op1 lenD (nmO 2))))) (oOfV (kI 4000))))))) (retS ((eOfV (kB false)))) passS)
abbrev g_is_rooted_graph_4 : En → SR := (retS ((eOfV ((andV ((vOfE (op1 allD (oOfV ((vOfE (comp (seqI' ((nmV 2))) (nameG 3) (yesT) ((eOfV ((vOfE (callF 2 (F_is_edge) (aCons ((nmV 3)) (aCons ((nmV 1)) aNil))))))) 0 [3]))))))) ((vOfE (op1 allD (oOfV ((vOfE (comp (zipI (aCons ((nmV 2)) (aCons ((vOfE (opS (nmO 2) (pSome (kI 1)) pNone))) aNil))) (tupG 2 (consG (nameG 4) (consG (nameG 5) nilG))) (yesT) ((eOfV ((vOfE (op2 leTD (nmO 4) (nmO 5)))))) 0 [4, 5]))))))))))))
def g_is_rooted_graph : En → SR := (seqS g_is_rooted_graph_1 (seqS g_is_rooted_graph_2 (seqS g_is_rooted_graph_3 g_is_rooted_graph_4)))
def F_is_rooted_graph : Sl → List D → FR := fnF 6 false g_is_rooted_graph
set_option maxRecDepth 100000 in
theorem ok_is_rooted_graph : FnV P w K mg base E.C 4 E.d_is_rooted_graph.f E.d_is_rooted_graph.fd ["value"] false F_is_rooted_graph :=
  fnV_of E.d_is_rooted_graph.F sc_is_rooted_graph false [] rfl (fun h => nomatch h) fun cdv A outer s H X σ₀ hr G => by
    exact (eb_cons
  (es_if (EvW.t (ew_or (et_not (et_tru G (EvV.toO (EvE.toV (ev_isi G (T := "tuple") (by decide) (by decide +kernel) (by rfl) E.b_isinstance (by rfl) E.b_tuple (ev_nameO (i := 0) rfl (by first | exact .inl rfl | exact .inr (.inl rfl) | exact .inr (.inr rfl)))))))) (ew_or (et_cmp (cNe G hr) (EvV.toO (EvE.toV (ev_len G (by rfl) E.b_len (ev_nameO (i := 0) rfl (by first | exact .inl rfl | exact .inr (.inl rfl) | exact .inr (.inr rfl)))))) (EvV.toO ev_int)) (ew_or1 (et_not (et_tru G (EvV.toO (EvE.toV (ev_call G (ok_is_integer E) (hr.mono (by decide)) (by rfl) E.d_is_integer.m E.d_is_integer.F.kp E.d_is_integer.b (ea_cons (EvE.toV (ev_idx G hr (ev_nameO (i := 0) rfl (by first | exact .inl rfl | exact .inr (.inl rfl) | exact .inr (.inr rfl))) (EvV.toO ev_int))) ea_nil)))))))))) (eb_one (es_ret (EvV.toE ev_bl))) eb_nil) (eb_cons
  (es_asg (ev_name (i := 0) rfl (by first | exact .inl rfl | exact .inr (.inl rfl) | exact .inr (.inr rfl))) (eg_tup G (egs_cons (eg_name (i := 1) G rfl (by first | exact .inl rfl | exact .inr rfl) (show (1 : Nat) ∉ ([] : List Nat) by decide)) (egs_cons (eg_name (i := 2) G rfl (by first | exact .inl rfl | exact .inr rfl) (show (2 : Nat) ∉ ([] : List Nat) by decide)) egs_nil)))) (eb_cons
  (es_if (EvW.t (ew_or (et_cmp (cLt) (ev_nameO (i := 1) rfl (by first | exact .inl rfl | exact .inr (.inl rfl) | exact .inr (.inr rfl))) (EvV.toO ev_int)) (ew_or (et_cmp (cGt) (ev_nameO (i := 1) rfl (by first | exact .inl rfl | exact .inr (.inl rfl) | exact .inr (.inr rfl))) (EvV.toO (ev_gint (by rfl) E.c_MOST_POINTS))) (ew_or (et_not (et_tru G (EvV.toO (EvE.toV (ev_isi G (T := "tuple") (by decide) (by decide +kernel) (by rfl) E.b_isinstance (by rfl) E.b_tuple (ev_nameO (i := 2) rfl (by first | exact .inl rfl | exact .inr (.inl rfl) | exact .inr (.inr rfl)))))))) (ew_or1 (et_cmp (cGt) (EvV.toO (EvE.toV (ev_len G (by rfl) E.b_len (ev_nameO (i := 2) rfl (by first | exact .inl rfl | exact .inr (.inl rfl) | exact .inr (.inr rfl)))))) (EvV.toO (ev_gint (by rfl) E.c_MOST_EDGES)))))))) (eb_one (es_ret (EvV.toE ev_bl))) eb_nil) (eb_one (es_ret (EvV.toE (ev_and (EvE.toV (ev_all G (by rfl) E.b_all (EvV.toO (EvE.toV (ev_lc (own := [((PySem.Str.ofString "edge"), 3)]) (vs := [3]) (ws := [3]) 0 G (ei_seq G (ev_name (i := 2) rfl (by first | exact .inl rfl | exact .inr (.inl rfl) | exact .inr (.inr rfl)))) (blkOk_by (by kernel_rfl)) rfl (by decide) (fun _ _ _ _ _ => blkG G fun G => (eg_name (i := 3) G rfl (by first | exact .inl rfl | exact .inr rfl) (show (3 : Nat) ∉ ([] : List Nat) by decide))) (fun _ _ _ _ _ => blkT G fun G => ept_nil) (fun _ _ _ _ _ => blkE G fun G => (EvV.toE (EvE.toV (ev_call G (ok_is_edge E) (hr.mono (by decide)) (by rfl) E.d_is_edge.m E.d_is_edge.F.kp E.d_is_edge.b (ea_cons (ev_name (i := 3) rfl (by first | exact .inl rfl | exact .inr (.inl rfl) | exact .inr (.inr rfl))) (ea_cons (ev_name (i := 1) rfl (by first | exact .inl rfl | exact .inr (.inl rfl) | exact .inr (.inr rfl))) ea_nil))))))))))) (ev_one (EvE.toV (ev_all G (by rfl) E.b_all (EvV.toO (EvE.toV (ev_lc (own := [((PySem.Str.ofString "one"), 4), ((PySem.Str.ofString "two"), 5)]) (vs := [4, 5]) (ws := ([4] ++ ([5] ++ []))) 0 G (ei_zip G (by rfl) E.b_zip (ea_cons (ev_name (i := 2) rfl (by first | exact .inl rfl | exact .inr (.inl rfl) | exact .inr (.inr rfl))) (ea_cons (EvE.toV (ev_slice G (ev_nameO (i := 2) rfl (by first | exact .inl rfl | exact .inr (.inl rfl) | exact .inr (.inr rfl))) (ep_some ev_int) ep_none)) ea_nil))) (blkOk_by (by kernel_rfl)) rfl (by decide) (fun _ _ _ _ _ => blkG G fun G => (eg_tup G (egs_cons (eg_name (i := 4) G rfl (by first | exact .inl rfl | exact .inr rfl) (show (4 : Nat) ∉ ([] : List Nat) by decide)) (egs_cons (eg_name (i := 5) G rfl (by first | exact .inl rfl | exact .inr rfl) (show (5 : Nat) ∉ ([] : List Nat) by decide)) egs_nil)))) (fun _ _ _ _ _ => blkT G fun G => ept_nil) (fun _ _ _ _ _ => blkE G fun G => (EvV.toE (EvE.toV (ev_cmp (cLeT G hr) (ev_nameO (i := 4) rfl (by first | exact .inl rfl | exact .inr (.inl rfl) | exact .inr (.inr rfl))) (ev_nameO (i := 5) rfl (by first | exact .inl rfl | exact .inr (.inl rfl) | exact .inr (.inr rfl))))))))))))))))))))
def g_check_graph : En → SR := (iteS (notT (tru (oOfV ((vOfE (callF 1 (F_is_rooted_graph) (aCons ((nmV 0)) aNil))))))) (raiseS 1) passS)
def F_check_graph : Sl → List D → FR := fnF 1 false g_check_graph
set_option maxRecDepth 100000 in
theorem ok_check_graph : FnV P w K mg base E.C 5 E.d_check_graph.f E.d_check_graph.fd ["G"] false F_check_graph :=
  fnV_of E.d_check_graph.F sc_check_graph false [] rfl (fun h => nomatch h) fun cdv A outer s H X σ₀ hr G => by
    exact (eb_one (es_if (et_not (et_tru G (EvV.toO (EvE.toV (ev_call G (ok_is_rooted_graph E) (hr.mono (by decide)) (by rfl) E.d_is_rooted_graph.m E.d_is_rooted_graph.F.kp E.d_is_rooted_graph.b (ea_cons (ev_name (i := 0) rfl (by first | exact .inl rfl | exact .inr (.inl rfl) | exact .inr (.inr rfl))) ea_nil)))))) (eb_one (es_raise (c := 1) G (E.x_Malformed.excC rfl) (by rfl))) eb_nil))
abbrev g_closed_walks_1 : En → SR := (exprS (callF 1 (F_check_graph) (aCons ((nmV 0)) aNil)))
abbrev g_closed_walks_2 : En → SR := (exprS (callF 2 (F_check_length) (aCons ((nmV 1)) (aCons (kI 12) aNil))))
abbrev g_closed_walks_3 : En → SR := (retS ((op1 tupD (oOfV ((vOfE (comp (seqI' ((vOfE (opS (oOfV ((vOfE (callF 2 (F_walk_counts) (aCons ((nmV 0)) (aCons ((nmV 1)) aNil)))))) (pSome (kI 1)) pNone)))) (nameG 2) (yesT) ((eOfV ((tupE (aCons ((nmV 2)) (aCons (kI 1) aNil)))))) 0 [2])))))))
def g_closed_walks : En → SR := (seqS g_closed_walks_1 (seqS g_closed_walks_2 g_closed_walks_3))
def F_closed_walks : Sl → List D → FR := fnF 3 false g_closed_walks
set_option maxRecDepth 100000 in
theorem ok_closed_walks : FnV P w K mg base E.C 6 E.d_closed_walks.f E.d_closed_walks.fd ["G", "n"] false F_closed_walks :=
  fnV_of E.d_closed_walks.F sc_closed_walks false [] rfl (fun h => nomatch h) fun cdv A outer s H X σ₀ hr G => by
    exact (eb_cons
  (es_expr (ev_call G (ok_check_graph E) (hr.mono (by decide)) (by rfl) E.d_check_graph.m E.d_check_graph.F.kp E.d_check_graph.b (ea_cons (ev_name (i := 0) rfl (by first | exact .inl rfl | exact .inr (.inl rfl) | exact .inr (.inr rfl))) ea_nil))) (eb_cons
  (es_expr (ev_call G (ok_check_length E) (hr.mono (by decide)) (by rfl) E.d_check_length.m E.d_check_length.F.kp E.d_check_length.b (ea_cons (ev_name (i := 1) rfl (by first | exact .inl rfl | exact .inr (.inl rfl) | exact .inr (.inr rfl))) (ea_cons (ev_gint (by rfl) E.c_MOST_LENGTH) ea_nil)))) (eb_one (es_ret (ev_tuple G (by rfl) E.b_tuple (EvV.toO (EvE.toV (ev_lc (own := [((PySem.Str.ofString "c"), 2)]) (vs := [2]) (ws := [2]) 0 G (ei_seq G (EvE.toV (ev_slice G (EvV.toO (EvE.toV (ev_call G (ok_walk_counts E) (hr.mono (by decide)) (by rfl) E.d_walk_counts.m E.d_walk_counts.F.kp E.d_walk_counts.b (ea_cons (ev_name (i := 0) rfl (by first | exact .inl rfl | exact .inr (.inl rfl) | exact .inr (.inr rfl))) (ea_cons (ev_name (i := 1) rfl (by first | exact .inl rfl | exact .inr (.inl rfl) | exact .inr (.inr rfl))) ea_nil))))) (ep_some ev_int) ep_none))) (blkOk_by (by kernel_rfl)) rfl (by decide) (fun _ _ _ _ _ => blkG G fun G => (eg_name (i := 2) G rfl (by first | exact .inl rfl | exact .inr rfl) (show (2 : Nat) ∉ ([] : List Nat) by decide))) (fun _ _ _ _ _ => blkT G fun G => ept_nil) (fun _ _ _ _ _ => blkE G fun G => (EvV.toE (ev_tup (ea_cons (ev_name (i := 2) rfl (by first | exact .inl rfl | exact .inr (.inl rfl) | exact .inr (.inr rfl))) (ea_cons ev_int ea_nil)))))))))))))
abbrev g_cartesian_product_1 : En → SR := (exprS (callF 1 (F_check_graph) (aCons ((nmV 0)) aNil)))
abbrev g_cartesian_product_2 : En → SR := (exprS (callF 1 (F_check_graph) (aCons ((nmV 1)) aNil)))
abbrev g_cartesian_product_3 : En → SR := (setS 2 ((op2 idxD (nmO 1) (oOfV (kI 0)))))
abbrev g_cartesian_product_4 : En → SR := (exprS (callF 2 (F_check_sizes) (aCons ((vOfE (op2 mulD (oOfV ((vOfE (op2 idxD (nmO 0) (oOfV (kI 0)))))) (nmO 2)))) (aCons ((vOfE (op2 addD (oOfV ((vOfE (op2 mulD (oOfV ((vOfE (op1 lenD (oOfV ((vOfE (op2 idxD (nmO 0) (oOfV (kI 1)))))))))) (nmO 2))))) (oOfV ((vOfE (op2 mulD (oOfV ((vOfE (op1 lenD (oOfV ((vOfE (op2 idxD (nmO 1) (oOfV (kI 1)))))))))) (oOfV ((vOfE (op2 idxD (nmO 0) (oOfV (kI 0))))))))))))) aNil))))
abbrev g_cartesian_product_5 : En → SR := (setS 3 ((lstE aNil)))
abbrev g_cartesian_product_6 : En → SR := (forS (seqI' ((vOfE (op2 idxD (nmO 0) (oOfV (kI 1)))))) (tupG 2 (consG (nameG 4) (consG (nameG 5) nilG))) (extS 3 ((vOfE (comp (rg1 (aCons ((nmV 2)) aNil)) (nameG 6) (yesT) ((eOfV ((tupE (aCons ((vOfE (op2 addD (oOfV ((vOfE (op2 mulD (nmO 4) (nmO 2))))) (nmO 6)))) (aCons ((vOfE (op2 addD (oOfV ((vOfE (op2 mulD (nmO 5) (nmO 2))))) (nmO 6)))) aNil)))))) 0 [6])))))
abbrev g_cartesian_product_7 : En → SR := (forS (seqI' ((vOfE (op2 idxD (nmO 1) (oOfV (kI 1)))))) (tupG 2 (consG (nameG 6) (consG (nameG 5) nilG))) (extS 3 ((vOfE (comp (rg1 (aCons ((vOfE (op2 idxD (nmO 0) (oOfV (kI 0))))) aNil)) (nameG 4) (yesT) ((eOfV ((tupE (aCons ((vOfE (op2 addD (oOfV ((vOfE (op2 mulD (nmO 4) (nmO 2))))) (nmO 6)))) (aCons ((vOfE (op2 addD (oOfV ((vOfE (op2 mulD (nmO 4) (nmO 2))))) (nmO 5)))) aNil)))))) 0 [4])))))
abbrev g_cartesian_product_8 : En → SR := (retS ((callF 2 (F_made_graph) (aCons ((vOfE (op2 mulD (oOfV ((vOfE (op2 idxD (nmO 0) (oOfV (kI 0)))))) (nmO 2)))) (aCons ((nmV 3)) aNil)))))
def g_cartesian_product : En → SR := (seqS g_cartesian_product_1 (seqS g_cartesian_product_2 (seqS g_cartesian_product_3 (seqS g_cartesian_product_4 (seqS g_cartesian_product_5 (seqS g_cartesian_product_6 (seqS g_cartesian_product_7 g_cartesian_product_8)))))))
def F_cartesian_product : Sl → List D → FR := fnF 7 false g_cartesian_product
set_option maxRecDepth 100000 in
theorem ok_cartesian_product : FnV P w K mg base E.C 6 E.d_cartesian_product.f E.d_cartesian_product.fd ["G", "H"] false F_cartesian_product :=
  fnV_of E.d_cartesian_product.F sc_cartesian_product false [] rfl (fun h => nomatch h) fun cdv A outer s H X σ₀ hr G => by
    exact (eb_cons
  (es_expr (ev_call G (ok_check_graph E) (hr.mono (by decide)) (by rfl) E.d_check_graph.m E.d_check_graph.F.kp E.d_check_graph.b (ea_cons (ev_name (i := 0) rfl (by first | exact .inl rfl | exact .inr (.inl rfl) | exact .inr (.inr rfl))) ea_nil))) (eb_cons
  (es_expr (ev_call G (ok_check_graph E) (hr.mono (by decide)) (by rfl) E.d_check_graph.m E.d_check_graph.F.kp E.d_check_graph.b (ea_cons (ev_name (i := 1) rfl (by first | exact .inl rfl | exact .inr (.inl rfl) | exact .inr (.inr rfl))) ea_nil))) (eb_cons
  (es_set (i := 2) G rfl (by first | exact .inl rfl | exact .inr rfl) (show (2 : Nat) ∉ ([] : List Nat) by decide) (ev_idx G hr (ev_nameO (i := 1) rfl (by first | exact .inl rfl | exact .inr (.inl rfl) | exact .inr (.inr rfl))) (EvV.toO ev_int))) (eb_cons
  (es_expr (ev_call G (ok_check_sizes E) (hr.mono (by decide)) (by rfl) E.d_check_sizes.m E.d_check_sizes.F.kp E.d_check_sizes.b (ea_cons (EvE.toV (ev_mul G (EvV.toO (EvE.toV (ev_idx G hr (ev_nameO (i := 0) rfl (by first | exact .inl rfl | exact .inr (.inl rfl) | exact .inr (.inr rfl))) (EvV.toO ev_int)))) (ev_nameO (i := 2) rfl (by first | exact .inl rfl | exact .inr (.inl rfl) | exact .inr (.inr rfl))))) (ea_cons (EvE.toV (ev_add G (EvV.toO (EvE.toV (ev_mul G (EvV.toO (EvE.toV (ev_len G (by rfl) E.b_len (EvV.toO (EvE.toV (ev_idx G hr (ev_nameO (i := 0) rfl (by first | exact .inl rfl | exact .inr (.inl rfl) | exact .inr (.inr rfl))) (EvV.toO ev_int))))))) (ev_nameO (i := 2) rfl (by first | exact .inl rfl | exact .inr (.inl rfl) | exact .inr (.inr rfl)))))) (EvV.toO (EvE.toV (ev_mul G (EvV.toO (EvE.toV (ev_len G (by rfl) E.b_len (EvV.toO (EvE.toV (ev_idx G hr (ev_nameO (i := 1) rfl (by first | exact .inl rfl | exact .inr (.inl rfl) | exact .inr (.inr rfl))) (EvV.toO ev_int))))))) (EvV.toO (EvE.toV (ev_idx G hr (ev_nameO (i := 0) rfl (by first | exact .inl rfl | exact .inr (.inl rfl) | exact .inr (.inr rfl))) (EvV.toO ev_int))))))))) ea_nil)))) (eb_cons
  (es_set (i := 3) G rfl (by first | exact .inl rfl | exact .inr rfl) (show (3 : Nat) ∉ ([] : List Nat) by decide) (ev_lst ea_nil)) (eb_cons
  (es_for G (passes_of rfl) (ei_seq G (EvE.toV (ev_idx G hr (ev_nameO (i := 0) rfl (by first | exact .inl rfl | exact .inr (.inl rfl) | exact .inr (.inr rfl))) (EvV.toO ev_int)))) (eg_tup G (egs_cons (eg_name (i := 4) G rfl (by first | exact .inl rfl | exact .inr rfl) (show (4 : Nat) ∉ ([] : List Nat) by decide)) (egs_cons (eg_name (i := 5) G rfl (by first | exact .inl rfl | exact .inr rfl) (show (5 : Nat) ∉ ([] : List Nat) by decide)) egs_nil))) (eb_one (es_ext (i := 3) G rfl (by first | exact .inl rfl | exact .inr (.inl rfl) | exact .inr (.inr rfl)) (EvE.toV (ev_lc (own := [((PySem.Str.ofString "y"), 6)]) (vs := [6]) (ws := [6]) 0 G (ei_rg1 (by rfl) E.b_range (ea_cons (ev_name (i := 2) rfl (by first | exact .inl rfl | exact .inr (.inl rfl) | exact .inr (.inr rfl))) ea_nil)) (blkOk_by (by kernel_rfl)) rfl (by decide) (fun _ _ _ _ _ => blkG G fun G => (eg_name (i := 6) G rfl (by first | exact .inl rfl | exact .inr rfl) (show (6 : Nat) ∉ ([] : List Nat) by decide))) (fun _ _ _ _ _ => blkT G fun G => ept_nil) (fun _ _ _ _ _ => blkE G fun G => (EvV.toE (ev_tup (ea_cons (EvE.toV (ev_add G (EvV.toO (EvE.toV (ev_mul G (ev_nameO (i := 4) rfl (by first | exact .inl rfl | exact .inr (.inl rfl) | exact .inr (.inr rfl))) (ev_nameO (i := 2) rfl (by first | exact .inl rfl | exact .inr (.inl rfl) | exact .inr (.inr rfl)))))) (ev_nameO (i := 6) rfl (by first | exact .inl rfl | exact .inr (.inl rfl) | exact .inr (.inr rfl))))) (ea_cons (EvE.toV (ev_add G (EvV.toO (EvE.toV (ev_mul G (ev_nameO (i := 5) rfl (by first | exact .inl rfl | exact .inr (.inl rfl) | exact .inr (.inr rfl))) (ev_nameO (i := 2) rfl (by first | exact .inl rfl | exact .inr (.inl rfl) | exact .inr (.inr rfl)))))) (ev_nameO (i := 6) rfl (by first | exact .inl rfl | exact .inr (.inl rfl) | exact .inr (.inr rfl))))) ea_nil)))))))))) (eb_cons
  (es_for G (passes_of rfl) (ei_seq G (EvE.toV (ev_idx G hr (ev_nameO (i := 1) rfl (by first | exact .inl rfl | exact .inr (.inl rfl) | exact .inr (.inr rfl))) (EvV.toO ev_int)))) (eg_tup G (egs_cons (eg_name (i := 6) G rfl (by first | exact .inl rfl | exact .inr rfl) (show (6 : Nat) ∉ ([] : List Nat) by decide)) (egs_cons (eg_name (i := 5) G rfl (by first | exact .inl rfl | exact .inr rfl) (show (5 : Nat) ∉ ([] : List Nat) by decide)) egs_nil))) (eb_one (es_ext (i := 3) G rfl (by first | exact .inl rfl | exact .inr (.inl rfl) | exact .inr (.inr rfl)) (EvE.toV (ev_lc (own := [((PySem.Str.ofString "x"), 4)]) (vs := [4]) (ws := [4]) 0 G (ei_rg1 (by rfl) E.b_range (ea_cons (EvE.toV (ev_idx G hr (ev_nameO (i := 0) rfl (by first | exact .inl rfl | exact .inr (.inl rfl) | exact .inr (.inr rfl))) (EvV.toO ev_int))) ea_nil)) (blkOk_by (by kernel_rfl)) rfl (by decide) (fun _ _ _ _ _ => blkG G fun G => (eg_name (i := 4) G rfl (by first | exact .inl rfl | exact .inr rfl) (show (4 : Nat) ∉ ([] : List Nat) by decide))) (fun _ _ _ _ _ => blkT G fun G => ept_nil) (fun _ _ _ _ _ => blkE G fun G => (EvV.toE (ev_tup (ea_cons (EvE.toV (ev_add G (EvV.toO (EvE.toV (ev_mul G (ev_nameO (i := 4) rfl (by first | exact .inl rfl | exact .inr (.inl rfl) | exact .inr (.inr rfl))) (ev_nameO (i := 2) rfl (by first | exact .inl rfl | exact .inr (.inl rfl) | exact .inr (.inr rfl)))))) (ev_nameO (i := 6) rfl (by first | exact .inl rfl | exact .inr (.inl rfl) | exact .inr (.inr rfl))))) (ea_cons (EvE.toV (ev_add G (EvV.toO (EvE.toV (ev_mul G (ev_nameO (i := 4) rfl (by first | exact .inl rfl | exact .inr (.inl rfl) | exact .inr (.inr rfl))) (ev_nameO (i := 2) rfl (by first | exact .inl rfl | exact .inr (.inl rfl) | exact .inr (.inr rfl)))))) (ev_nameO (i := 5) rfl (by first | exact .inl rfl | exact .inr (.inl rfl) | exact .inr (.inr rfl))))) ea_nil)))))))))) (eb_one (es_ret (ev_call G (ok_made_graph E) (hr.mono (by decide)) (by rfl) E.d_made_graph.m E.d_made_graph.F.kp E.d_made_graph.b (ea_cons (EvE.toV (ev_mul G (EvV.toO (EvE.toV (ev_idx G hr (ev_nameO (i := 0) rfl (by first | exact .inl rfl | exact .inr (.inl rfl) | exact .inr (.inr rfl))) (EvV.toO ev_int)))) (ev_nameO (i := 2) rfl (by first | exact .inl rfl | exact .inr (.inl rfl) | exact .inr (.inr rfl))))) (ea_cons (ev_name (i := 3) rfl (by first | exact .inl rfl | exact .inr (.inl rfl) | exact .inr (.inr rfl))) ea_nil))))))))))))
def tab : Nat → Option (Nat × (Sl → List D → FR)) := fun i => match i with
  | 0 => some (1, F_ring_graph)
  | 1 => some (2, F_closed_walks)
  | 2 => some (1, F_path_graph)
  | 3 => some (1, F_clique_graph)
  | _ => none
theorem tab_ok {Γ : Ct} (hp : Γ.X.prog = P := by rfl) (hw : Γ.X.w = w := by rfl) (hK : Γ.X.K = K := by rfl) (hm : Γ.X.mg = mg := by rfl) (hb : Γ.X.base = base := by rfl) (hC : Γ.C = E.C := by rfl) : FnT Γ 6 tab := by
  refine ⟨fun i n F h a ha => ?_⟩
  unfold FnC; rw [hC] at ha ⊢; rw [hp, hw, hK, hm, hb]
  match i, h, ha with
  | 0, h, ha => cases h; cases ha; exact ⟨_, _, (ok_ring_graph E).mono (by decide), E.d_ring_graph.F.kp, E.d_ring_graph.b, rfl⟩
  | 1, h, ha => cases h; cases ha; exact ⟨_, _, (ok_closed_walks E).mono (by decide), E.d_closed_walks.F.kp, E.d_closed_walks.b, rfl⟩
  | 2, h, ha => cases h; cases ha; exact ⟨_, _, (ok_path_graph E).mono (by decide), E.d_path_graph.F.kp, E.d_path_graph.b, rfl⟩
  | 3, h, ha => cases h; cases ha; exact ⟨_, _, (ok_clique_graph E).mono (by decide), E.d_clique_graph.F.kp, E.d_clique_graph.b, rfl⟩
  | _ + 4, h, _ => cases h
def g__law_told : En → SR := (tryS [0, 1] 1 (seqS
  (iteS (tst (op2 eqD (oOfV ((vOfE (op1 lenD (nmO 1))))) (oOfV (kI 1)))) (retS ((eOfV ((tupE (aCons (kS (PySem.Str.ofString "told")) (aCons ((vOfE (callL tab 0 (aCons ((vOfE (op2 idxD (nmO 1) (oOfV (kI 0))))) aNil)))) aNil))))))) passS) (seqS
  (iteS (tst (op2 eqD (oOfV ((vOfE (op1 lenD (nmO 1))))) (oOfV (kI 2)))) (retS ((eOfV ((tupE (aCons (kS (PySem.Str.ofString "told")) (aCons ((vOfE (callL tab 0 (aCons ((vOfE (op2 idxD (nmO 1) (oOfV (kI 0))))) (aCons ((vOfE (op2 idxD (nmO 1) (oOfV (kI 1))))) aNil))))) aNil))))))) passS) (seqS
  (iteS (tst (op2 eqD (oOfV ((vOfE (op1 lenD (nmO 1))))) (oOfV (kI 3)))) (retS ((eOfV ((tupE (aCons (kS (PySem.Str.ofString "told")) (aCons ((vOfE (callL tab 0 (aCons ((vOfE (op2 idxD (nmO 1) (oOfV (kI 0))))) (aCons ((vOfE (op2 idxD (nmO 1) (oOfV (kI 1))))) (aCons ((vOfE (op2 idxD (nmO 1) (oOfV (kI 2))))) aNil)))))) aNil))))))) passS) (retS ((eOfV ((tupE (aCons (kS (PySem.Str.ofString "told")) (aCons ((vOfE (callL tab 0 (aCons ((vOfE (op2 idxD (nmO 1) (oOfV (kI 0))))) (aCons ((vOfE (op2 idxD (nmO 1) (oOfV (kI 1))))) (aCons ((vOfE (op2 idxD (nmO 1) (oOfV (kI 2))))) (aCons ((vOfE (op2 idxD (nmO 1) (oOfV (kI 3))))) aNil))))))) aNil)))))))))) (retS ((eOfV ((tupE (aCons (kS (PySem.Str.ofString "raised")) (aCons (kS (PySem.Str.ofString "malformed")) aNil))))))))
def F__law_told : Sl → List D → FR := fnF 2 false g__law_told
set_option maxRecDepth 100000 in
theorem ok__law_told : FnV P w K mg base E.C 7 E.d__law_told.f E.d__law_told.fd ["f", "given"] false F__law_told :=
  fnV_of E.d__law_told.F sc__law_told false [0, 1] rfl (fun h => nomatch h) fun cdv A outer s H X σ₀ hr G => by
    exact (eb_one (es_try G rfl rfl (List.cons_ne_nil _ _) (fun _ _ _ tk po => by have G := G.tryG tk; exact (eb_cons
  (es_if (et_cmp (cEq G hr) (EvV.toO (EvE.toV (ev_len G (by rfl) E.b_len (ev_nameO (i := 1) rfl (by first | exact .inl rfl | exact .inr (.inl rfl) | exact .inr (.inr rfl)))))) (EvV.toO ev_int)) (eb_one (es_ret (EvV.toE (ev_tup (ea_cons ev_str (ea_cons (EvE.toV (ev_callL G (tab_ok E) (hr.mono (by decide)) (i := 0) rfl (by first | exact .inl rfl | exact .inr (.inl rfl) | exact .inr (.inr rfl)) (ea_cons (EvE.toV (ev_idx G hr (ev_nameO (i := 1) rfl (by first | exact .inl rfl | exact .inr (.inl rfl) | exact .inr (.inr rfl))) (EvV.toO ev_int))) ea_nil))) ea_nil)))))) eb_nil) (eb_cons
  (es_if (et_cmp (cEq G hr) (EvV.toO (EvE.toV (ev_len G (by rfl) E.b_len (ev_nameO (i := 1) rfl (by first | exact .inl rfl | exact .inr (.inl rfl) | exact .inr (.inr rfl)))))) (EvV.toO ev_int)) (eb_one (es_ret (EvV.toE (ev_tup (ea_cons ev_str (ea_cons (EvE.toV (ev_callL G (tab_ok E) (hr.mono (by decide)) (i := 0) rfl (by first | exact .inl rfl | exact .inr (.inl rfl) | exact .inr (.inr rfl)) (ea_cons (EvE.toV (ev_idx G hr (ev_nameO (i := 1) rfl (by first | exact .inl rfl | exact .inr (.inl rfl) | exact .inr (.inr rfl))) (EvV.toO ev_int))) (ea_cons (EvE.toV (ev_idx G hr (ev_nameO (i := 1) rfl (by first | exact .inl rfl | exact .inr (.inl rfl) | exact .inr (.inr rfl))) (EvV.toO ev_int))) ea_nil)))) ea_nil)))))) eb_nil) (eb_cons
  (es_if (et_cmp (cEq G hr) (EvV.toO (EvE.toV (ev_len G (by rfl) E.b_len (ev_nameO (i := 1) rfl (by first | exact .inl rfl | exact .inr (.inl rfl) | exact .inr (.inr rfl)))))) (EvV.toO ev_int)) (eb_one (es_ret (EvV.toE (ev_tup (ea_cons ev_str (ea_cons (EvE.toV (ev_callL G (tab_ok E) (hr.mono (by decide)) (i := 0) rfl (by first | exact .inl rfl | exact .inr (.inl rfl) | exact .inr (.inr rfl)) (ea_cons (EvE.toV (ev_idx G hr (ev_nameO (i := 1) rfl (by first | exact .inl rfl | exact .inr (.inl rfl) | exact .inr (.inr rfl))) (EvV.toO ev_int))) (ea_cons (EvE.toV (ev_idx G hr (ev_nameO (i := 1) rfl (by first | exact .inl rfl | exact .inr (.inl rfl) | exact .inr (.inr rfl))) (EvV.toO ev_int))) (ea_cons (EvE.toV (ev_idx G hr (ev_nameO (i := 1) rfl (by first | exact .inl rfl | exact .inr (.inl rfl) | exact .inr (.inr rfl))) (EvV.toO ev_int))) ea_nil))))) ea_nil)))))) eb_nil) (eb_one (es_ret (EvV.toE (ev_tup (ea_cons ev_str (ea_cons (EvE.toV (ev_callL G (tab_ok E) (hr.mono (by decide)) (i := 0) rfl (by first | exact .inl rfl | exact .inr (.inl rfl) | exact .inr (.inr rfl)) (ea_cons (EvE.toV (ev_idx G hr (ev_nameO (i := 1) rfl (by first | exact .inl rfl | exact .inr (.inl rfl) | exact .inr (.inr rfl))) (EvV.toO ev_int))) (ea_cons (EvE.toV (ev_idx G hr (ev_nameO (i := 1) rfl (by first | exact .inl rfl | exact .inr (.inl rfl) | exact .inr (.inr rfl))) (EvV.toO ev_int))) (ea_cons (EvE.toV (ev_idx G hr (ev_nameO (i := 1) rfl (by first | exact .inl rfl | exact .inr (.inl rfl) | exact .inr (.inr rfl))) (EvV.toO ev_int))) (ea_cons (EvE.toV (ev_idx G hr (ev_nameO (i := 1) rfl (by first | exact .inl rfl | exact .inr (.inl rfl) | exact .inr (.inr rfl))) (EvV.toO ev_int))) ea_nil)))))) ea_nil)))))))))) (by rfl) E.x_Malformed.m rfl E.x_Malformed.e (fun _ _ _ => (eb_one (es_ret (EvV.toE (ev_tup (ea_cons ev_str (ea_cons ev_str ea_nil)))))))))
abbrev g__law_same_1 (rec : Sl → List D → FR) : En → SR := (iteS (tru (oOfV ((vOfE (op1 (isiD "tuple") (nmO 1)))))) (retS ((eOfV ((andV ((vOfE (op1 (isiD "tuple") (nmO 0)))) ((andV ((vOfE (op2 eqD (oOfV ((vOfE (op1 lenD (nmO 0))))) (oOfV ((vOfE (op1 lenD (nmO 1)))))))) ((vOfE (op1 allD (oOfV ((vOfE (comp (rg1 (aCons ((vOfE (op1 lenD (nmO 1)))) aNil)) (nameG 2) (yesT) ((eOfV ((vOfE (callF 2 (rec) (aCons ((vOfE (op2 idxD (nmO 0) (nmO 2)))) (aCons ((vOfE (op2 idxD (nmO 1) (nmO 2)))) aNil))))))) 0 [2])))))))))))))) passS)
abbrev g__law_same_2 (rec : Sl → List D → FR) : En → SR := (iteS (tst (op2 isD (nmO 1) (oOfV (kN)))) (retS ((op2 isD (nmO 0) (oOfV (kN))))) passS)
abbrev g__law_same_3 (rec : Sl → List D → FR) : En → SR := (iteS (tru (oOfV ((vOfE (op1 (isiD "bool") (nmO 1)))))) (retS ((eOfV ((andV ((vOfE (op1 (isiD "bool") (nmO 0)))) ((vOfE (op2 eqD (nmO 0) (nmO 1))))))))) passS)
abbrev g__law_same_4 (rec : Sl → List D → FR) : En → SR := (iteS (tru (oOfV ((vOfE (op1 (isiD "str") (nmO 1)))))) (retS ((eOfV ((andV ((vOfE (op1 (isiD "str") (nmO 0)))) ((vOfE (op2 eqD (nmO 0) (nmO 1))))))))) passS)
abbrev g__law_same_5 (rec : Sl → List D → FR) : En → SR := (retS ((eOfV ((andV ((vOfE (op1 (isiD "int") (nmO 0)))) ((andV ((notV ((vOfE (op1 (isiD "bool") (nmO 0)))))) ((vOfE (op2 eqD (nmO 0) (nmO 1)))))))))))
def g__law_same (rec : Sl → List D → FR) : En → SR := (seqS (g__law_same_1 rec) (seqS (g__law_same_2 rec) (seqS (g__law_same_3 rec) (seqS (g__law_same_4 rec) (g__law_same_5 rec)))))
def F__law_same : Nat → Sl → List D → FR
  | 0 => fun _ _ => .no
  | k + 1 => fnF 3 false (g__law_same (F__law_same k))
set_option maxRecDepth 100000 in
theorem ok__law_same : ∀ kk : Nat, FnV P w K mg base E.C (1 + kk) E.d__law_same.f E.d__law_same.fd ["value", "due"] false (F__law_same kk)
  | 0 => fnV_no
  | kk + 1 => fnV_of E.d__law_same.F sc__law_same false [] rfl (fun h => nomatch h) fun cdv A outer s H X σ₀ hr G => by
    exact (eb_cons
  (es_if (et_tru G (EvV.toO (EvE.toV (ev_isi G (T := "tuple") (by decide) (by decide +kernel) (by rfl) E.b_isinstance (by rfl) E.b_tuple (ev_nameO (i := 1) rfl (by first | exact .inl rfl | exact .inr (.inl rfl) | exact .inr (.inr rfl))))))) (eb_one (es_ret (EvV.toE (ev_and (EvE.toV (ev_isi G (T := "tuple") (by decide) (by decide +kernel) (by rfl) E.b_isinstance (by rfl) E.b_tuple (ev_nameO (i := 0) rfl (by first | exact .inl rfl | exact .inr (.inl rfl) | exact .inr (.inr rfl))))) (ev_and (EvE.toV (ev_cmp (cEq G hr) (EvV.toO (EvE.toV (ev_len G (by rfl) E.b_len (ev_nameO (i := 0) rfl (by first | exact .inl rfl | exact .inr (.inl rfl) | exact .inr (.inr rfl)))))) (EvV.toO (EvE.toV (ev_len G (by rfl) E.b_len (ev_nameO (i := 1) rfl (by first | exact .inl rfl | exact .inr (.inl rfl) | exact .inr (.inr rfl)))))))) (ev_one (EvE.toV (ev_all G (by rfl) E.b_all (EvV.toO (EvE.toV (ev_lc (own := [((PySem.Str.ofString "k"), 2)]) (vs := [2]) (ws := [2]) 0 G (ei_rg1 (by rfl) E.b_range (ea_cons (EvE.toV (ev_len G (by rfl) E.b_len (ev_nameO (i := 1) rfl (by first | exact .inl rfl | exact .inr (.inl rfl) | exact .inr (.inr rfl))))) ea_nil)) (blkOk_by (by kernel_rfl)) rfl (by decide) (fun _ _ _ _ _ => blkG G fun G => (eg_name (i := 2) G rfl (by first | exact .inl rfl | exact .inr rfl) (show (2 : Nat) ∉ ([] : List Nat) by decide))) (fun _ _ _ _ _ => blkT G fun G => ept_nil) (fun _ _ _ _ _ => blkE G fun G => (EvV.toE (EvE.toV (ev_call G (ok__law_same kk) hr (by rfl) E.d__law_same.m E.d__law_same.F.kp E.d__law_same.b (ea_cons (EvE.toV (ev_idx G hr (ev_nameO (i := 0) rfl (by first | exact .inl rfl | exact .inr (.inl rfl) | exact .inr (.inr rfl))) (ev_nameO (i := 2) rfl (by first | exact .inl rfl | exact .inr (.inl rfl) | exact .inr (.inr rfl))))) (ea_cons (EvE.toV (ev_idx G hr (ev_nameO (i := 1) rfl (by first | exact .inl rfl | exact .inr (.inl rfl) | exact .inr (.inr rfl))) (ev_nameO (i := 2) rfl (by first | exact .inl rfl | exact .inr (.inl rfl) | exact .inr (.inr rfl))))) ea_nil))))))))))))))))) eb_nil) (eb_cons
  (es_if (et_cmp (cIs) (ev_nameO (i := 1) rfl (by first | exact .inl rfl | exact .inr (.inl rfl) | exact .inr (.inr rfl))) (EvV.toO ev_non)) (eb_one (es_ret (ev_cmp (cIs) (ev_nameO (i := 0) rfl (by first | exact .inl rfl | exact .inr (.inl rfl) | exact .inr (.inr rfl))) (EvV.toO ev_non)))) eb_nil) (eb_cons
  (es_if (et_tru G (EvV.toO (EvE.toV (ev_isi G (T := "bool") (by decide) (by decide +kernel) (by rfl) E.b_isinstance (by rfl) E.b_bool (ev_nameO (i := 1) rfl (by first | exact .inl rfl | exact .inr (.inl rfl) | exact .inr (.inr rfl))))))) (eb_one (es_ret (EvV.toE (ev_and (EvE.toV (ev_isi G (T := "bool") (by decide) (by decide +kernel) (by rfl) E.b_isinstance (by rfl) E.b_bool (ev_nameO (i := 0) rfl (by first | exact .inl rfl | exact .inr (.inl rfl) | exact .inr (.inr rfl))))) (ev_one (EvE.toV (ev_cmp (cEq G hr) (ev_nameO (i := 0) rfl (by first | exact .inl rfl | exact .inr (.inl rfl) | exact .inr (.inr rfl))) (ev_nameO (i := 1) rfl (by first | exact .inl rfl | exact .inr (.inl rfl) | exact .inr (.inr rfl)))))))))) eb_nil) (eb_cons
  (es_if (et_tru G (EvV.toO (EvE.toV (ev_isi G (T := "str") (by decide) (by decide +kernel) (by rfl) E.b_isinstance (by rfl) E.b_str (ev_nameO (i := 1) rfl (by first | exact .inl rfl | exact .inr (.inl rfl) | exact .inr (.inr rfl))))))) (eb_one (es_ret (EvV.toE (ev_and (EvE.toV (ev_isi G (T := "str") (by decide) (by decide +kernel) (by rfl) E.b_isinstance (by rfl) E.b_str (ev_nameO (i := 0) rfl (by first | exact .inl rfl | exact .inr (.inl rfl) | exact .inr (.inr rfl))))) (ev_one (EvE.toV (ev_cmp (cEq G hr) (ev_nameO (i := 0) rfl (by first | exact .inl rfl | exact .inr (.inl rfl) | exact .inr (.inr rfl))) (ev_nameO (i := 1) rfl (by first | exact .inl rfl | exact .inr (.inl rfl) | exact .inr (.inr rfl)))))))))) eb_nil) (eb_one (es_ret (EvV.toE (ev_and (EvE.toV (ev_isi G (T := "int") (by decide) (by decide +kernel) (by rfl) E.b_isinstance (by rfl) E.b_int (ev_nameO (i := 0) rfl (by first | exact .inl rfl | exact .inr (.inl rfl) | exact .inr (.inr rfl))))) (ev_and (ev_not (EvE.toV (ev_isi G (T := "bool") (by decide) (by decide +kernel) (by rfl) E.b_isinstance (by rfl) E.b_bool (ev_nameO (i := 0) rfl (by first | exact .inl rfl | exact .inr (.inl rfl) | exact .inr (.inr rfl)))))) (ev_one (EvE.toV (ev_cmp (cEq G hr) (ev_nameO (i := 0) rfl (by first | exact .inl rfl | exact .inr (.inl rfl) | exact .inr (.inr rfl))) (ev_nameO (i := 1) rfl (by first | exact .inl rfl | exact .inr (.inl rfl) | exact .inr (.inr rfl)))))))))))))))
def g__law_is_told : En → SR := (retS ((eOfV ((andV ((vOfE (op2 eqD (oOfV ((vOfE (op2 idxD (nmO 0) (oOfV (kI 0)))))) (oOfV (kS (PySem.Str.ofString "told")))))) ((vOfE (callF 2 (F__law_same 6) (aCons ((vOfE (op2 idxD (nmO 0) (oOfV (kI 1))))) (aCons ((nmV 1)) aNil))))))))))
def F__law_is_told : Sl → List D → FR := fnF 2 false g__law_is_told
set_option maxRecDepth 100000 in
theorem ok__law_is_told : FnV P w K mg base E.C 8 E.d__law_is_told.f E.d__law_is_told.fd ["pair", "due"] false F__law_is_told :=
  fnV_of E.d__law_is_told.F sc__law_is_told false [] rfl (fun h => nomatch h) fun cdv A outer s H X σ₀ hr G => by
    exact (eb_one (es_ret (EvV.toE (ev_and (EvE.toV (ev_cmp (cEq G hr) (EvV.toO (EvE.toV (ev_idx G hr (ev_nameO (i := 0) rfl (by first | exact .inl rfl | exact .inr (.inl rfl) | exact .inr (.inr rfl))) (EvV.toO ev_int)))) (EvV.toO ev_str))) (ev_one (EvE.toV (ev_call G (ok__law_same E 6) (hr.mono (by decide)) (by rfl) E.d__law_same.m E.d__law_same.F.kp E.d__law_same.b (ea_cons (EvE.toV (ev_idx G hr (ev_nameO (i := 0) rfl (by first | exact .inl rfl | exact .inr (.inl rfl) | exact .inr (.inr rfl))) (EvV.toO ev_int))) (ea_cons (ev_name (i := 1) rfl (by first | exact .inl rfl | exact .inr (.inl rfl) | exact .inr (.inr rfl))) ea_nil)))))))))
def g__law_is_raised : En → SR := (retS ((eOfV ((andV ((vOfE (op2 eqD (oOfV ((vOfE (op2 idxD (nmO 0) (oOfV (kI 0)))))) (oOfV (kS (PySem.Str.ofString "raised")))))) ((vOfE (callF 2 (F__law_same 6) (aCons ((vOfE (op2 idxD (nmO 0) (oOfV (kI 1))))) (aCons ((nmV 1)) aNil))))))))))
def F__law_is_raised : Sl → List D → FR := fnF 2 false g__law_is_raised
set_option maxRecDepth 100000 in
theorem ok__law_is_raised : FnV P w K mg base E.C 8 E.d__law_is_raised.f E.d__law_is_raised.fd ["pair", "reason"] false F__law_is_raised :=
  fnV_of E.d__law_is_raised.F sc__law_is_raised false [] rfl (fun h => nomatch h) fun cdv A outer s H X σ₀ hr G => by
    exact (eb_one (es_ret (EvV.toE (ev_and (EvE.toV (ev_cmp (cEq G hr) (EvV.toO (EvE.toV (ev_idx G hr (ev_nameO (i := 0) rfl (by first | exact .inl rfl | exact .inr (.inl rfl) | exact .inr (.inr rfl))) (EvV.toO ev_int)))) (EvV.toO ev_str))) (ev_one (EvE.toV (ev_call G (ok__law_same E 6) (hr.mono (by decide)) (by rfl) E.d__law_same.m E.d__law_same.F.kp E.d__law_same.b (ea_cons (EvE.toV (ev_idx G hr (ev_nameO (i := 0) rfl (by first | exact .inl rfl | exact .inr (.inl rfl) | exact .inr (.inr rfl))) (EvV.toO ev_int))) (ea_cons (ev_name (i := 1) rfl (by first | exact .inl rfl | exact .inr (.inl rfl) | exact .inr (.inr rfl))) ea_nil)))))))))
abbrev g_law_1 : En → SR := (setS 1 ((callF 1 (F__law_state) (aCons ((nmV 0)) aNil))))
abbrev g_law_2 : En → SR := (setS 2 ((op2 addD (oOfV (kI 1)) (oOfV ((vOfE (callI 2 (F__law_take) 1 (aCons ((vOfE (op2 idxD (oOfV ((vOfE (lstE (aCons (kI 8) (aCons (kI 60) aNil)))))) (oOfV ((vOfE (callI 2 (F__law_take) 1 (aCons (kI 2) aNil)))))))) aNil))))))))
abbrev g_law_3 : En → SR := (setS 3 ((op1 tupD (oOfV ((vOfE (comp (rg1 (aCons ((vOfE (op2 subD (nmO 2) (oOfV (kI 1))))) aNil)) (nameG 9) (yesT) ((eOfV ((tupE (aCons ((nmV 9)) (aCons ((vOfE (op2 addD (nmO 9) (oOfV (kI 1))))) aNil)))))) 0 [9])))))))
abbrev g_law_4 : En → SR := (iteS (notT (tru (oOfV ((vOfE (callF 2 (F__law_is_told) (aCons ((vOfE (callF 2 (F__law_told) (aCons ((fun env => .ok (.fn 2) env)) (aCons ((tupE (aCons ((nmV 2)) aNil))) aNil))))) (aCons ((tupE (aCons ((nmV 2)) (aCons ((nmV 3)) aNil)))) aNil)))))))) (retS ((eOfV (kB false)))) passS)
abbrev g_law_5 : En → SR := (setS 4 ((lstE aNil)))
abbrev g_law_6 : En → SR := (forS (rg1 (aCons ((nmV 2)) aNil)) (nameG 5) (setS 4 ((op2 addD (nmO 4) (oOfV ((vOfE (comp (rg2 (aCons ((vOfE (op2 addD (nmO 5) (oOfV (kI 1))))) (aCons ((nmV 2)) aNil))) (nameG 17) (yesT) ((eOfV ((tupE (aCons ((nmV 5)) (aCons ((nmV 17)) aNil)))))) 0 [17]))))))))
abbrev g_law_7 : En → SR := (iteS (orT (notT (tru (oOfV ((vOfE (callF 2 (F__law_is_told) (aCons ((vOfE (callF 2 (F__law_told) (aCons ((fun env => .ok (.fn 3) env)) (aCons ((tupE (aCons ((nmV 2)) aNil))) aNil))))) (aCons ((tupE (aCons ((nmV 2)) (aCons ((vOfE (op1 tupD (nmO 4)))) aNil)))) aNil)))))))) (tst (op2 nisD (oOfV ((vOfE (callF 1 (F_is_rooted_graph) (aCons ((vOfE (callF 1 (F_clique_graph) (aCons ((nmV 2)) aNil)))) aNil))))) (oOfV (kB true))))) (retS ((eOfV (kB false)))) passS)
abbrev g_law_8 : En → SR := (setS 6 ((callF 2 (F__law_told) (aCons ((fun env => .ok (.fn 0) env)) (aCons ((tupE (aCons ((nmV 2)) aNil))) aNil)))))
abbrev g_law_9 : En → SR := (iteS (orT (andT (tst (op2 (cmpD fun i j => decide (i < j)) (nmO 2) (oOfV (kI 3)))) (notT (tru (oOfV ((vOfE (callF 2 (F__law_is_raised) (aCons ((nmV 6)) (aCons (kS (PySem.Str.ofString "malformed")) aNil))))))))) (andT (tst (op2 (cmpD fun i j => decide (j < i)) (nmO 2) (oOfV (kI 2)))) (notT (tru (oOfV ((vOfE (callF 2 (F__law_is_told) (aCons ((nmV 6)) (aCons ((tupE (aCons ((nmV 2)) (aCons ((vOfE (op1 tupD (oOfV ((vOfE (op1 sortD (oOfV ((vOfE (op2 addD (nmO 3) (oOfV ((tupE (aCons ((tupE (aCons (kI 0) (aCons ((vOfE (op2 subD (nmO 2) (oOfV (kI 1))))) aNil)))) aNil))))))))))))))) aNil)))) aNil)))))))))) (retS ((eOfV (kB false)))) passS)
abbrev g_law_10 : En → SR := (setS 7 ((callF 2 (F__law_told) (aCons ((fun env => .ok (.fn 1) env)) (aCons ((tupE (aCons ((vOfE (callF 1 (F_path_graph) (aCons ((nmV 2)) aNil)))) (aCons (kI 12) aNil)))) aNil)))))
abbrev g_law_11 : En → SR := (setS 8 ((lstE (aCons (kI 1) (aCons (kI 1) (aCons (kI 2) (aCons (kI 5) (aCons (kI 14) (aCons (kI 42) (aCons (kI 132) aNil))))))))))
abbrev g_law_12 : En → SR := (iteS (orT (tst (op2 neD (oOfV ((vOfE (op2 idxD (nmO 7) (oOfV (kI 0)))))) (oOfV (kS (PySem.Str.ofString "told"))))) (tru (oOfV ((vOfE (op1 anyD (oOfV ((vOfE (comp (rg3 (aCons (kI 0) (aCons (kI 12) (aCons (kI 2) aNil)))) (nameG 9) (yesT) ((eOfV ((notV ((vOfE (callF 2 (F__law_same 6) (aCons ((vOfE (op2 idxD (oOfV ((vOfE (op2 idxD (nmO 7) (oOfV (kI 1)))))) (nmO 9)))) (aCons ((tupE (aCons (kI 0) (aCons (kI 1) aNil)))) aNil))))))))) 0 [9])))))))))) (retS ((eOfV (kB false)))) passS)
abbrev g_law_13 : En → SR := (iteS (tru (oOfV ((vOfE (op1 anyD (oOfV ((vOfE (comp (rg2 (aCons (kI 1) (aCons (kI 7) aNil))) (nameG 9) ((tst (op2 (cmpD fun i j => decide (i < j)) (nmO 9) (nmO 2)))) ((eOfV ((notV ((vOfE (callF 2 (F__law_same 6) (aCons ((vOfE (op2 idxD (oOfV ((vOfE (op2 idxD (nmO 7) (oOfV (kI 1)))))) (oOfV ((vOfE (op2 subD (oOfV ((vOfE (op2 mulD (oOfV (kI 2)) (nmO 9))))) (oOfV (kI 1))))))))) (aCons ((tupE (aCons ((vOfE (op2 idxD (nmO 8) (nmO 9)))) (aCons (kI 1) aNil)))) aNil))))))))) 0 [9]))))))))) (retS ((eOfV (kB false)))) passS)
abbrev g_law_14 : En → SR := (parS 12 13 (lCons ((lstE aNil)) (lCons ((eOfV (kI 1))) lNil)))
abbrev g_law_15 : En → SR := (forS (rg1 (aCons (kI 12) aNil)) (nameG 9) (seqS
  (setS 14 ((eOfV (kI 1)))) (seqS
  (forS (rg1 (aCons ((nmV 9)) aNil)) (nameG 15) (setS 14 ((op2 mulD (nmO 14) (oOfV ((vOfE (op2 subD (nmO 2) (oOfV (kI 1)))))))))) (seqS
  (setS 13 ((iteE ((tst (op2 (cmpD fun i j => decide (j < i)) (nmO 9) (oOfV (kI 0))))) ((op2 subD (nmO 14) (nmO 13))) ((eOfV (kI 0)))))) (appS 12 ((nmV 13)))))))
abbrev g_law_16 : En → SR := (setS 6 ((callF 2 (F__law_told) (aCons ((fun env => .ok (.fn 1) env)) (aCons ((tupE (aCons ((vOfE (callF 1 (F_clique_graph) (aCons ((nmV 2)) aNil)))) (aCons (kI 12) aNil)))) aNil)))))
abbrev g_law_17 : En → SR := (iteS (notT (tru (oOfV ((vOfE (callF 2 (F__law_is_told) (aCons ((nmV 6)) (aCons ((vOfE (op1 tupD (oOfV ((vOfE (comp (seqI' ((nmV 12))) (nameG 18) (yesT) ((eOfV ((tupE (aCons ((nmV 18)) (aCons (kI 1) aNil)))))) 0 [18]))))))) aNil)))))))) (retS ((eOfV (kB false)))) passS)
abbrev g_law_18 : En → SR := (setS 10 ((iteE ((tst (op2 (cmpD fun i j => decide (j < i)) (nmO 2) (oOfV (kI 5))))) ((callF 2 (F_closed_walks) (aCons ((vOfE (callF 2 (F_cartesian_product) (aCons ((vOfE (callF 1 (F_ring_graph) (aCons (kI 4) aNil)))) (aCons ((vOfE (callF 1 (F_ring_graph) (aCons (kI 4) aNil)))) aNil))))) (aCons (kI 4) aNil)))) ((callF 2 (F_closed_walks) (aCons ((vOfE (callF 2 (F_cartesian_product) (aCons ((vOfE (callF 1 (F_path_graph) (aCons (kI 2) aNil)))) (aCons ((vOfE (callF 1 (F_path_graph) (aCons (kI 2) aNil)))) aNil))))) (aCons (kI 4) aNil)))))))
abbrev g_law_19 : En → SR := (iteS (notT (tru (oOfV ((vOfE (callF 2 (F__law_same 6) (aCons ((nmV 10)) (aCons ((vOfE (iteE ((tst (op2 (cmpD fun i j => decide (j < i)) (nmO 2) (oOfV (kI 5))))) ((eOfV ((tupE (aCons ((tupE (aCons (kI 0) (aCons (kI 1) aNil)))) (aCons ((tupE (aCons (kI 4) (aCons (kI 1) aNil)))) (aCons ((tupE (aCons (kI 0) (aCons (kI 1) aNil)))) (aCons ((tupE (aCons (kI 40) (aCons (kI 1) aNil)))) aNil)))))))) ((eOfV ((tupE (aCons ((tupE (aCons (kI 0) (aCons (kI 1) aNil)))) (aCons ((tupE (aCons (kI 2) (aCons (kI 1) aNil)))) (aCons ((tupE (aCons (kI 0) (aCons (kI 1) aNil)))) (aCons ((tupE (aCons (kI 8) (aCons (kI 1) aNil)))) aNil))))))))))) aNil)))))))) (retS ((eOfV (kB false)))) passS)
abbrev g_law_20 : En → SR := (forS (seqI' ((vOfE (lstE (aCons (kI 0) (aCons ((vOfE (op1 negD (oOfV (kI 1))))) (aCons (kI 61) (aCons (kN) (aCons (kB true) (aCons (kS (PySem.Str.ofString "3")) (aCons ((tupE (aCons (kI 3) aNil))) aNil))))))))))) (nameG 11) (forS (seqI' ((tupE (aCons ((fun env => .ok (.fn 2) env)) (aCons ((fun env => .ok (.fn 0) env)) (aCons ((fun env => .ok (.fn 3) env)) aNil)))))) (nameG 16) (iteS (notT (tru (oOfV ((vOfE (callF 2 (F__law_is_raised) (aCons ((vOfE (callF 2 (F__law_told) (aCons ((nmV 16)) (aCons ((tupE (aCons ((nmV 11)) aNil))) aNil))))) (aCons (kS (PySem.Str.ofString "malformed")) aNil)))))))) (retS ((eOfV (kB false)))) passS)))
abbrev g_law_21 : En → SR := (retS ((eOfV ((andV ((vOfE (callF 2 (F__law_is_raised) (aCons ((vOfE (callF 2 (F__law_told) (aCons ((fun env => .ok (.fn 0) env)) (aCons ((tupE (aCons (kI 2) aNil))) aNil))))) (aCons (kS (PySem.Str.ofString "malformed")) aNil))))) ((vOfE (callF 2 (F__law_is_told) (aCons ((vOfE (callF 2 (F__law_told) (aCons ((fun env => .ok (.fn 0) env)) (aCons ((tupE (aCons (kI 3) aNil))) aNil))))) (aCons ((tupE (aCons (kI 3) (aCons ((tupE (aCons ((tupE (aCons (kI 0) (aCons (kI 1) aNil)))) (aCons ((tupE (aCons (kI 0) (aCons (kI 2) aNil)))) (aCons ((tupE (aCons (kI 1) (aCons (kI 2) aNil)))) aNil))))) aNil)))) aNil))))))))))
def g_law : En → SR := (seqS g_law_1 (seqS g_law_2 (seqS g_law_3 (seqS g_law_4 (seqS g_law_5 (seqS g_law_6 (seqS g_law_7 (seqS g_law_8 (seqS g_law_9 (seqS g_law_10 (seqS g_law_11 (seqS g_law_12 (seqS g_law_13 (seqS g_law_14 (seqS g_law_15 (seqS g_law_16 (seqS g_law_17 (seqS g_law_18 (seqS g_law_19 (seqS g_law_20 g_law_21))))))))))))))))))))
def F_law : Sl → List D → FR := fnF 19 false g_law
set_option maxRecDepth 100000 in
theorem ok_law : FnV P w K mg base E.C 9 E.d_law.f E.d_law.fd ["script"] false F_law :=
  fnV_of E.d_law.F sc_law false [] rfl (fun h => nomatch h) fun cdv A outer s H X σ₀ hr G => by
    exact (eb_cons
  (es_set (i := 1) G rfl (by first | exact .inl rfl | exact .inr rfl) (show (1 : Nat) ∉ ([] : List Nat) by decide) (ev_call G (ok__law_state E) (hr.mono (by decide)) (by rfl) E.d__law_state.m E.d__law_state.F.kp E.d__law_state.b (ea_cons (ev_name (i := 0) rfl (by first | exact .inl rfl | exact .inr (.inl rfl) | exact .inr (.inr rfl))) ea_nil))) (eb_cons
  (es_set (i := 2) G rfl (by first | exact .inl rfl | exact .inr rfl) (show (2 : Nat) ∉ ([] : List Nat) by decide) (ev_add G (EvV.toO ev_int) (EvV.toO (EvE.toV (ev_callI G (ok__law_take E) (hr.mono (by decide)) (by rfl) E.d__law_take.m E.d__law_take.F.kp E.d__law_take.b (i := 1) rfl (by first | exact .inl rfl | exact .inr (.inl rfl) | exact .inr (.inr rfl)) (ea_cons (EvE.toV (ev_idx G hr (EvV.toO (EvE.toV (ev_lst (ea_cons ev_int (ea_cons ev_int ea_nil))))) (EvV.toO (EvE.toV (ev_callI G (ok__law_take E) (hr.mono (by decide)) (by rfl) E.d__law_take.m E.d__law_take.F.kp E.d__law_take.b (i := 1) rfl (by first | exact .inl rfl | exact .inr (.inl rfl) | exact .inr (.inr rfl)) (ea_cons ev_int ea_nil)))))) ea_nil)))))) (eb_cons
  (es_set (i := 3) G rfl (by first | exact .inl rfl | exact .inr rfl) (show (3 : Nat) ∉ ([] : List Nat) by decide) (ev_tuple G (by rfl) E.b_tuple (EvV.toO (EvE.toV (ev_lc (own := [((PySem.Str.ofString "k"), 9)]) (vs := [9]) (ws := [9]) 0 G (ei_rg1 (by rfl) E.b_range (ea_cons (EvE.toV (ev_sub (ev_nameO (i := 2) rfl (by first | exact .inl rfl | exact .inr (.inl rfl) | exact .inr (.inr rfl))) (EvV.toO ev_int))) ea_nil)) (blkOk_by (by kernel_rfl)) rfl (by decide) (fun _ _ _ _ _ => blkG G fun G => (eg_name (i := 9) G rfl (by first | exact .inl rfl | exact .inr rfl) (show (9 : Nat) ∉ ([] : List Nat) by decide))) (fun _ _ _ _ _ => blkT G fun G => ept_nil) (fun _ _ _ _ _ => blkE G fun G => (EvV.toE (ev_tup (ea_cons (ev_name (i := 9) rfl (by first | exact .inl rfl | exact .inr (.inl rfl) | exact .inr (.inr rfl))) (ea_cons (EvE.toV (ev_add G (ev_nameO (i := 9) rfl (by first | exact .inl rfl | exact .inr (.inl rfl) | exact .inr (.inr rfl))) (EvV.toO ev_int))) ea_nil)))))))))) (eb_cons
  (es_if (et_not (et_tru G (EvV.toO (EvE.toV (ev_call G (ok__law_is_told E) (hr.mono (by decide)) (by rfl) E.d__law_is_told.m E.d__law_is_told.F.kp E.d__law_is_told.b (ea_cons (EvE.toV (ev_call G (ok__law_told E) (hr.mono (by decide)) (by rfl) E.d__law_told.m E.d__law_told.F.kp E.d__law_told.b (ea_cons (ev_fn (n := 2) (by rfl) E.d_path_graph.m rfl) (ea_cons (ev_tup (ea_cons (ev_name (i := 2) rfl (by first | exact .inl rfl | exact .inr (.inl rfl) | exact .inr (.inr rfl))) ea_nil)) ea_nil)))) (ea_cons (ev_tup (ea_cons (ev_name (i := 2) rfl (by first | exact .inl rfl | exact .inr (.inl rfl) | exact .inr (.inr rfl))) (ea_cons (ev_name (i := 3) rfl (by first | exact .inl rfl | exact .inr (.inl rfl) | exact .inr (.inr rfl))) ea_nil))) ea_nil))))))) (eb_one (es_ret (EvV.toE ev_bl))) eb_nil) (eb_cons
  (es_set (i := 4) G rfl (by first | exact .inl rfl | exact .inr rfl) (show (4 : Nat) ∉ ([] : List Nat) by decide) (ev_lst ea_nil)) (eb_cons
  (es_for G (passes_of rfl) (ei_rg1 (by rfl) E.b_range (ea_cons (ev_name (i := 2) rfl (by first | exact .inl rfl | exact .inr (.inl rfl) | exact .inr (.inr rfl))) ea_nil)) (eg_name (i := 5) G rfl (by first | exact .inl rfl | exact .inr rfl) (show (5 : Nat) ∉ ([] : List Nat) by decide)) (eb_one (es_set (i := 4) G rfl (by first | exact .inl rfl | exact .inr rfl) (show (4 : Nat) ∉ ([] : List Nat) by decide) (ev_add G (ev_nameO (i := 4) rfl (by first | exact .inl rfl | exact .inr (.inl rfl) | exact .inr (.inr rfl))) (EvV.toO (EvE.toV (ev_lc (own := [((PySem.Str.ofString "y"), 17)]) (vs := [17]) (ws := [17]) 0 G (ei_rg2 (by rfl) E.b_range (ea_cons (EvE.toV (ev_add G (ev_nameO (i := 5) rfl (by first | exact .inl rfl | exact .inr (.inl rfl) | exact .inr (.inr rfl))) (EvV.toO ev_int))) (ea_cons (ev_name (i := 2) rfl (by first | exact .inl rfl | exact .inr (.inl rfl) | exact .inr (.inr rfl))) ea_nil))) (blkOk_by (by kernel_rfl)) rfl (by decide) (fun _ _ _ _ _ => blkG G fun G => (eg_name (i := 17) G rfl (by first | exact .inl rfl | exact .inr rfl) (show (17 : Nat) ∉ ([] : List Nat) by decide))) (fun _ _ _ _ _ => blkT G fun G => ept_nil) (fun _ _ _ _ _ => blkE G fun G => (EvV.toE (ev_tup (ea_cons (ev_name (i := 5) rfl (by first | exact .inl rfl | exact .inr (.inl rfl) | exact .inr (.inr rfl))) (ea_cons (ev_name (i := 17) rfl (by first | exact .inl rfl | exact .inr (.inl rfl) | exact .inr (.inr rfl))) ea_nil)))))))))))) (eb_cons
  (es_if (EvW.t (ew_or (et_not (et_tru G (EvV.toO (EvE.toV (ev_call G (ok__law_is_told E) (hr.mono (by decide)) (by rfl) E.d__law_is_told.m E.d__law_is_told.F.kp E.d__law_is_told.b (ea_cons (EvE.toV (ev_call G (ok__law_told E) (hr.mono (by decide)) (by rfl) E.d__law_told.m E.d__law_told.F.kp E.d__law_told.b (ea_cons (ev_fn (n := 3) (by rfl) E.d_clique_graph.m rfl) (ea_cons (ev_tup (ea_cons (ev_name (i := 2) rfl (by first | exact .inl rfl | exact .inr (.inl rfl) | exact .inr (.inr rfl))) ea_nil)) ea_nil)))) (ea_cons (ev_tup (ea_cons (ev_name (i := 2) rfl (by first | exact .inl rfl | exact .inr (.inl rfl) | exact .inr (.inr rfl))) (ea_cons (EvE.toV (ev_tuple G (by rfl) E.b_tuple (ev_nameO (i := 4) rfl (by first | exact .inl rfl | exact .inr (.inl rfl) | exact .inr (.inr rfl))))) ea_nil))) ea_nil))))))) (ew_or1 (et_cmp (cNis) (EvV.toO (EvE.toV (ev_call G (ok_is_rooted_graph E) (hr.mono (by decide)) (by rfl) E.d_is_rooted_graph.m E.d_is_rooted_graph.F.kp E.d_is_rooted_graph.b (ea_cons (EvE.toV (ev_call G (ok_clique_graph E) (hr.mono (by decide)) (by rfl) E.d_clique_graph.m E.d_clique_graph.F.kp E.d_clique_graph.b (ea_cons (ev_name (i := 2) rfl (by first | exact .inl rfl | exact .inr (.inl rfl) | exact .inr (.inr rfl))) ea_nil))) ea_nil)))) (EvV.toO ev_bl))))) (eb_one (es_ret (EvV.toE ev_bl))) eb_nil) (eb_cons
  (es_set (i := 6) G rfl (by first | exact .inl rfl | exact .inr rfl) (show (6 : Nat) ∉ ([] : List Nat) by decide) (ev_call G (ok__law_told E) (hr.mono (by decide)) (by rfl) E.d__law_told.m E.d__law_told.F.kp E.d__law_told.b (ea_cons (ev_fn (n := 0) (by rfl) E.d_ring_graph.m rfl) (ea_cons (ev_tup (ea_cons (ev_name (i := 2) rfl (by first | exact .inl rfl | exact .inr (.inl rfl) | exact .inr (.inr rfl))) ea_nil)) ea_nil)))) (eb_cons
  (es_if (EvW.t (ew_or (EvW.t (ew_and (et_cmp (cLt) (ev_nameO (i := 2) rfl (by first | exact .inl rfl | exact .inr (.inl rfl) | exact .inr (.inr rfl))) (EvV.toO ev_int)) (ew_and1 (et_not (et_tru G (EvV.toO (EvE.toV (ev_call G (ok__law_is_raised E) (hr.mono (by decide)) (by rfl) E.d__law_is_raised.m E.d__law_is_raised.F.kp E.d__law_is_raised.b (ea_cons (ev_name (i := 6) rfl (by first | exact .inl rfl | exact .inr (.inl rfl) | exact .inr (.inr rfl))) (ea_cons ev_str ea_nil)))))))))) (ew_or1 (EvW.t (ew_and (et_cmp (cGt) (ev_nameO (i := 2) rfl (by first | exact .inl rfl | exact .inr (.inl rfl) | exact .inr (.inr rfl))) (EvV.toO ev_int)) (ew_and1 (et_not (et_tru G (EvV.toO (EvE.toV (ev_call G (ok__law_is_told E) (hr.mono (by decide)) (by rfl) E.d__law_is_told.m E.d__law_is_told.F.kp E.d__law_is_told.b (ea_cons (ev_name (i := 6) rfl (by first | exact .inl rfl | exact .inr (.inl rfl) | exact .inr (.inr rfl))) (ea_cons (ev_tup (ea_cons (ev_name (i := 2) rfl (by first | exact .inl rfl | exact .inr (.inl rfl) | exact .inr (.inr rfl))) (ea_cons (EvE.toV (ev_tuple G (by rfl) E.b_tuple (EvV.toO (EvE.toV (ev_sorted G hr (by rfl) E.b_sorted (EvV.toO (EvE.toV (ev_add G (ev_nameO (i := 3) rfl (by first | exact .inl rfl | exact .inr (.inl rfl) | exact .inr (.inr rfl))) (EvV.toO (ev_tup (ea_cons (ev_tup (ea_cons ev_int (ea_cons (EvE.toV (ev_sub (ev_nameO (i := 2) rfl (by first | exact .inl rfl | exact .inr (.inl rfl) | exact .inr (.inr rfl))) (EvV.toO ev_int))) ea_nil))) ea_nil))))))))))) ea_nil))) ea_nil))))))))))))) (eb_one (es_ret (EvV.toE ev_bl))) eb_nil) (eb_cons
  (es_set (i := 7) G rfl (by first | exact .inl rfl | exact .inr rfl) (show (7 : Nat) ∉ ([] : List Nat) by decide) (ev_call G (ok__law_told E) (hr.mono (by decide)) (by rfl) E.d__law_told.m E.d__law_told.F.kp E.d__law_told.b (ea_cons (ev_fn (n := 1) (by rfl) E.d_closed_walks.m rfl) (ea_cons (ev_tup (ea_cons (EvE.toV (ev_call G (ok_path_graph E) (hr.mono (by decide)) (by rfl) E.d_path_graph.m E.d_path_graph.F.kp E.d_path_graph.b (ea_cons (ev_name (i := 2) rfl (by first | exact .inl rfl | exact .inr (.inl rfl) | exact .inr (.inr rfl))) ea_nil))) (ea_cons ev_int ea_nil))) ea_nil)))) (eb_cons
  (es_set (i := 8) G rfl (by first | exact .inl rfl | exact .inr rfl) (show (8 : Nat) ∉ ([] : List Nat) by decide) (ev_lst (ea_cons ev_int (ea_cons ev_int (ea_cons ev_int (ea_cons ev_int (ea_cons ev_int (ea_cons ev_int (ea_cons ev_int ea_nil))))))))) (eb_cons
  (es_if (EvW.t (ew_or (et_cmp (cNe G hr) (EvV.toO (EvE.toV (ev_idx G hr (ev_nameO (i := 7) rfl (by first | exact .inl rfl | exact .inr (.inl rfl) | exact .inr (.inr rfl))) (EvV.toO ev_int)))) (EvV.toO ev_str)) (ew_or1 (et_tru G (EvV.toO (EvE.toV (ev_any G (by rfl) E.b_any (EvV.toO (EvE.toV (ev_lc (own := [((PySem.Str.ofString "k"), 9)]) (vs := [9]) (ws := [9]) 0 G (ei_rg3 (by rfl) E.b_range (ea_cons ev_int (ea_cons ev_int (ea_cons ev_int ea_nil)))) (blkOk_by (by kernel_rfl)) rfl (by decide) (fun _ _ _ _ _ => blkG G fun G => (eg_name (i := 9) G rfl (by first | exact .inl rfl | exact .inr rfl) (show (9 : Nat) ∉ ([] : List Nat) by decide))) (fun _ _ _ _ _ => blkT G fun G => ept_nil) (fun _ _ _ _ _ => blkE G fun G => (EvV.toE (ev_not (EvE.toV (ev_call G (ok__law_same E 6) (hr.mono (by decide)) (by rfl) E.d__law_same.m E.d__law_same.F.kp E.d__law_same.b (ea_cons (EvE.toV (ev_idx G hr (EvV.toO (EvE.toV (ev_idx G hr (ev_nameO (i := 7) rfl (by first | exact .inl rfl | exact .inr (.inl rfl) | exact .inr (.inr rfl))) (EvV.toO ev_int)))) (ev_nameO (i := 9) rfl (by first | exact .inl rfl | exact .inr (.inl rfl) | exact .inr (.inr rfl))))) (ea_cons (ev_tup (ea_cons ev_int (ea_cons ev_int ea_nil))) ea_nil))))))))))))))))) (eb_one (es_ret (EvV.toE ev_bl))) eb_nil) (eb_cons
  (es_if (et_tru G (EvV.toO (EvE.toV (ev_any G (by rfl) E.b_any (EvV.toO (EvE.toV (ev_lc (own := [((PySem.Str.ofString "k"), 9)]) (vs := [9]) (ws := [9]) 0 G (ei_rg2 (by rfl) E.b_range (ea_cons ev_int (ea_cons ev_int ea_nil))) (blkOk_by (by kernel_rfl)) rfl (by decide) (fun _ _ _ _ _ => blkG G fun G => (eg_name (i := 9) G rfl (by first | exact .inl rfl | exact .inr rfl) (show (9 : Nat) ∉ ([] : List Nat) by decide))) (fun _ _ _ _ _ => blkT G fun G => (ept_one (et_cmp (cLt) (ev_nameO (i := 9) rfl (by first | exact .inl rfl | exact .inr (.inl rfl) | exact .inr (.inr rfl))) (ev_nameO (i := 2) rfl (by first | exact .inl rfl | exact .inr (.inl rfl) | exact .inr (.inr rfl)))))) (fun _ _ _ _ _ => blkE G fun G => (EvV.toE (ev_not (EvE.toV (ev_call G (ok__law_same E 6) (hr.mono (by decide)) (by rfl) E.d__law_same.m E.d__law_same.F.kp E.d__law_same.b (ea_cons (EvE.toV (ev_idx G hr (EvV.toO (EvE.toV (ev_idx G hr (ev_nameO (i := 7) rfl (by first | exact .inl rfl | exact .inr (.inl rfl) | exact .inr (.inr rfl))) (EvV.toO ev_int)))) (EvV.toO (EvE.toV (ev_sub (EvV.toO (EvE.toV (ev_mul G (EvV.toO ev_int) (ev_nameO (i := 9) rfl (by first | exact .inl rfl | exact .inr (.inl rfl) | exact .inr (.inr rfl)))))) (EvV.toO ev_int)))))) (ea_cons (ev_tup (ea_cons (EvE.toV (ev_idx G hr (ev_nameO (i := 8) rfl (by first | exact .inl rfl | exact .inr (.inl rfl) | exact .inr (.inr rfl))) (ev_nameO (i := 9) rfl (by first | exact .inl rfl | exact .inr (.inl rfl) | exact .inr (.inr rfl))))) (ea_cons ev_int ea_nil))) ea_nil)))))))))))))) (eb_one (es_ret (EvV.toE ev_bl))) eb_nil) (eb_cons
  (es_par (i := 12) (j := 13) G rfl rfl (by decide) (show (12 : Nat) ∉ ([] : List Nat) by decide) (show (13 : Nat) ∉ ([] : List Nat) by decide) rfl rfl (el_cons (ev_lst ea_nil) (el_cons (EvV.toE ev_int) el_nil))) (eb_cons
  (es_for G (passes_of rfl) (ei_rg1 (by rfl) E.b_range (ea_cons ev_int ea_nil)) (eg_name (i := 9) G rfl (by first | exact .inl rfl | exact .inr rfl) (show (9 : Nat) ∉ ([] : List Nat) by decide)) (eb_cons
  (es_set (i := 14) G rfl (by first | exact .inl rfl | exact .inr rfl) (show (14 : Nat) ∉ ([] : List Nat) by decide) (EvV.toE ev_int)) (eb_cons
  (es_for G (passes_of rfl) (ei_rg1 (by rfl) E.b_range (ea_cons (ev_name (i := 9) rfl (by first | exact .inl rfl | exact .inr (.inl rfl) | exact .inr (.inr rfl))) ea_nil)) (eg_name (i := 15) G rfl (by first | exact .inl rfl | exact .inr rfl) (show (15 : Nat) ∉ ([] : List Nat) by decide)) (eb_one (es_set (i := 14) G rfl (by first | exact .inl rfl | exact .inr rfl) (show (14 : Nat) ∉ ([] : List Nat) by decide) (ev_mul G (ev_nameO (i := 14) rfl (by first | exact .inl rfl | exact .inr (.inl rfl) | exact .inr (.inr rfl))) (EvV.toO (EvE.toV (ev_sub (ev_nameO (i := 2) rfl (by first | exact .inl rfl | exact .inr (.inl rfl) | exact .inr (.inr rfl))) (EvV.toO ev_int)))))))) (eb_cons
  (es_set (i := 13) G rfl (by first | exact .inl rfl | exact .inr rfl) (show (13 : Nat) ∉ ([] : List Nat) by decide) (ev_ite (et_cmp (cGt) (ev_nameO (i := 9) rfl (by first | exact .inl rfl | exact .inr (.inl rfl) | exact .inr (.inr rfl))) (EvV.toO ev_int)) (ev_sub (ev_nameO (i := 14) rfl (by first | exact .inl rfl | exact .inr (.inl rfl) | exact .inr (.inr rfl))) (ev_nameO (i := 13) rfl (by first | exact .inl rfl | exact .inr (.inl rfl) | exact .inr (.inr rfl)))) (EvV.toE ev_int))) (eb_one (es_app (i := 12) G rfl (by first | exact .inl rfl | exact .inr (.inl rfl) | exact .inr (.inr rfl)) (ev_name (i := 13) rfl (by first | exact .inl rfl | exact .inr (.inl rfl) | exact .inr (.inr rfl))))))))) (eb_cons
  (es_set (i := 6) G rfl (by first | exact .inl rfl | exact .inr rfl) (show (6 : Nat) ∉ ([] : List Nat) by decide) (ev_call G (ok__law_told E) (hr.mono (by decide)) (by rfl) E.d__law_told.m E.d__law_told.F.kp E.d__law_told.b (ea_cons (ev_fn (n := 1) (by rfl) E.d_closed_walks.m rfl) (ea_cons (ev_tup (ea_cons (EvE.toV (ev_call G (ok_clique_graph E) (hr.mono (by decide)) (by rfl) E.d_clique_graph.m E.d_clique_graph.F.kp E.d_clique_graph.b (ea_cons (ev_name (i := 2) rfl (by first | exact .inl rfl | exact .inr (.inl rfl) | exact .inr (.inr rfl))) ea_nil))) (ea_cons ev_int ea_nil))) ea_nil)))) (eb_cons
  (es_if (et_not (et_tru G (EvV.toO (EvE.toV (ev_call G (ok__law_is_told E) (hr.mono (by decide)) (by rfl) E.d__law_is_told.m E.d__law_is_told.F.kp E.d__law_is_told.b (ea_cons (ev_name (i := 6) rfl (by first | exact .inl rfl | exact .inr (.inl rfl) | exact .inr (.inr rfl))) (ea_cons (EvE.toV (ev_tuple G (by rfl) E.b_tuple (EvV.toO (EvE.toV (ev_lc (own := [((PySem.Str.ofString "m"), 18)]) (vs := [18]) (ws := [18]) 0 G (ei_seq G (ev_name (i := 12) rfl (by first | exact .inl rfl | exact .inr (.inl rfl) | exact .inr (.inr rfl)))) (blkOk_by (by kernel_rfl)) rfl (by decide) (fun _ _ _ _ _ => blkG G fun G => (eg_name (i := 18) G rfl (by first | exact .inl rfl | exact .inr rfl) (show (18 : Nat) ∉ ([] : List Nat) by decide))) (fun _ _ _ _ _ => blkT G fun G => ept_nil) (fun _ _ _ _ _ => blkE G fun G => (EvV.toE (ev_tup (ea_cons (ev_name (i := 18) rfl (by first | exact .inl rfl | exact .inr (.inl rfl) | exact .inr (.inr rfl))) (ea_cons ev_int ea_nil)))))))))) ea_nil))))))) (eb_one (es_ret (EvV.toE ev_bl))) eb_nil) (eb_cons
  (es_set (i := 10) G rfl (by first | exact .inl rfl | exact .inr rfl) (show (10 : Nat) ∉ ([] : List Nat) by decide) (ev_ite (et_cmp (cGt) (ev_nameO (i := 2) rfl (by first | exact .inl rfl | exact .inr (.inl rfl) | exact .inr (.inr rfl))) (EvV.toO ev_int)) (ev_call G (ok_closed_walks E) (hr.mono (by decide)) (by rfl) E.d_closed_walks.m E.d_closed_walks.F.kp E.d_closed_walks.b (ea_cons (EvE.toV (ev_call G (ok_cartesian_product E) (hr.mono (by decide)) (by rfl) E.d_cartesian_product.m E.d_cartesian_product.F.kp E.d_cartesian_product.b (ea_cons (EvE.toV (ev_call G (ok_ring_graph E) (hr.mono (by decide)) (by rfl) E.d_ring_graph.m E.d_ring_graph.F.kp E.d_ring_graph.b (ea_cons ev_int ea_nil))) (ea_cons (EvE.toV (ev_call G (ok_ring_graph E) (hr.mono (by decide)) (by rfl) E.d_ring_graph.m E.d_ring_graph.F.kp E.d_ring_graph.b (ea_cons ev_int ea_nil))) ea_nil)))) (ea_cons ev_int ea_nil))) (ev_call G (ok_closed_walks E) (hr.mono (by decide)) (by rfl) E.d_closed_walks.m E.d_closed_walks.F.kp E.d_closed_walks.b (ea_cons (EvE.toV (ev_call G (ok_cartesian_product E) (hr.mono (by decide)) (by rfl) E.d_cartesian_product.m E.d_cartesian_product.F.kp E.d_cartesian_product.b (ea_cons (EvE.toV (ev_call G (ok_path_graph E) (hr.mono (by decide)) (by rfl) E.d_path_graph.m E.d_path_graph.F.kp E.d_path_graph.b (ea_cons ev_int ea_nil))) (ea_cons (EvE.toV (ev_call G (ok_path_graph E) (hr.mono (by decide)) (by rfl) E.d_path_graph.m E.d_path_graph.F.kp E.d_path_graph.b (ea_cons ev_int ea_nil))) ea_nil)))) (ea_cons ev_int ea_nil))))) (eb_cons
  (es_if (et_not (et_tru G (EvV.toO (EvE.toV (ev_call G (ok__law_same E 6) (hr.mono (by decide)) (by rfl) E.d__law_same.m E.d__law_same.F.kp E.d__law_same.b (ea_cons (ev_name (i := 10) rfl (by first | exact .inl rfl | exact .inr (.inl rfl) | exact .inr (.inr rfl))) (ea_cons (EvE.toV (ev_ite (et_cmp (cGt) (ev_nameO (i := 2) rfl (by first | exact .inl rfl | exact .inr (.inl rfl) | exact .inr (.inr rfl))) (EvV.toO ev_int)) (EvV.toE (ev_tup (ea_cons (ev_tup (ea_cons ev_int (ea_cons ev_int ea_nil))) (ea_cons (ev_tup (ea_cons ev_int (ea_cons ev_int ea_nil))) (ea_cons (ev_tup (ea_cons ev_int (ea_cons ev_int ea_nil))) (ea_cons (ev_tup (ea_cons ev_int (ea_cons ev_int ea_nil))) ea_nil)))))) (EvV.toE (ev_tup (ea_cons (ev_tup (ea_cons ev_int (ea_cons ev_int ea_nil))) (ea_cons (ev_tup (ea_cons ev_int (ea_cons ev_int ea_nil))) (ea_cons (ev_tup (ea_cons ev_int (ea_cons ev_int ea_nil))) (ea_cons (ev_tup (ea_cons ev_int (ea_cons ev_int ea_nil))) ea_nil)))))))) ea_nil))))))) (eb_one (es_ret (EvV.toE ev_bl))) eb_nil) (eb_cons
  (es_for G (passes_of rfl) (ei_seq G (EvE.toV (ev_lst (ea_cons ev_int (ea_cons (EvE.toV (ev_neg (EvV.toO ev_int))) (ea_cons ev_int (ea_cons ev_non (ea_cons ev_bl (ea_cons ev_str (ea_cons (ev_tup (ea_cons ev_int ea_nil)) ea_nil)))))))))) (eg_name (i := 11) G rfl (by first | exact .inl rfl | exact .inr rfl) (show (11 : Nat) ∉ ([] : List Nat) by decide)) (eb_one (es_for G (passes_of rfl) (ei_seq G (ev_tup (ea_cons (ev_fn (n := 2) (by rfl) E.d_path_graph.m rfl) (ea_cons (ev_fn (n := 0) (by rfl) E.d_ring_graph.m rfl) (ea_cons (ev_fn (n := 3) (by rfl) E.d_clique_graph.m rfl) ea_nil))))) (eg_name (i := 16) G rfl (by first | exact .inl rfl | exact .inr rfl) (show (16 : Nat) ∉ ([] : List Nat) by decide)) (eb_one (es_if (et_not (et_tru G (EvV.toO (EvE.toV (ev_call G (ok__law_is_raised E) (hr.mono (by decide)) (by rfl) E.d__law_is_raised.m E.d__law_is_raised.F.kp E.d__law_is_raised.b (ea_cons (EvE.toV (ev_call G (ok__law_told E) (hr.mono (by decide)) (by rfl) E.d__law_told.m E.d__law_told.F.kp E.d__law_told.b (ea_cons (ev_name (i := 16) rfl (by first | exact .inl rfl | exact .inr (.inl rfl) | exact .inr (.inr rfl))) (ea_cons (ev_tup (ea_cons (ev_name (i := 11) rfl (by first | exact .inl rfl | exact .inr (.inl rfl) | exact .inr (.inr rfl))) ea_nil)) ea_nil)))) (ea_cons ev_str ea_nil))))))) (eb_one (es_ret (EvV.toE ev_bl))) eb_nil))))) (eb_one (es_ret (EvV.toE (ev_and (EvE.toV (ev_call G (ok__law_is_raised E) (hr.mono (by decide)) (by rfl) E.d__law_is_raised.m E.d__law_is_raised.F.kp E.d__law_is_raised.b (ea_cons (EvE.toV (ev_call G (ok__law_told E) (hr.mono (by decide)) (by rfl) E.d__law_told.m E.d__law_told.F.kp E.d__law_told.b (ea_cons (ev_fn (n := 0) (by rfl) E.d_ring_graph.m rfl) (ea_cons (ev_tup (ea_cons ev_int ea_nil)) ea_nil)))) (ea_cons ev_str ea_nil)))) (ev_one (EvE.toV (ev_call G (ok__law_is_told E) (hr.mono (by decide)) (by rfl) E.d__law_is_told.m E.d__law_is_told.F.kp E.d__law_is_told.b (ea_cons (EvE.toV (ev_call G (ok__law_told E) (hr.mono (by decide)) (by rfl) E.d__law_told.m E.d__law_told.F.kp E.d__law_told.b (ea_cons (ev_fn (n := 0) (by rfl) E.d_ring_graph.m rfl) (ea_cons (ev_tup (ea_cons ev_int ea_nil)) ea_nil)))) (ea_cons (ev_tup (ea_cons ev_int (ea_cons (ev_tup (ea_cons (ev_tup (ea_cons ev_int (ea_cons ev_int ea_nil))) (ea_cons (ev_tup (ea_cons ev_int (ea_cons ev_int ea_nil))) (ea_cons (ev_tup (ea_cons ev_int (ea_cons ev_int ea_nil))) ea_nil)))) ea_nil))) ea_nil)))))))))))))))))))))))))))))
end L51
end

section
open Pv L51 PySem
set_option Elab.async false
set_option linter.all false
namespace L51
def pr (p : Nat × Nat) : D := .tup [.int p.1, .int p.2]
def Gd (n : Nat) (es : List (Nat × Nat)) : D := .tup [.int n, .tup (es.map pr)]
def pathE (n : Nat) : List (Nat × Nat) := (List.range (n - 1)).map fun k => (k, k + 1)
theorem isint (n : Int) : F_is_integer none [.int n] = .ok (.bl true, 0) none := by
  unfold F_is_integer g_is_integer
  simp [-List.map_map, fnF, en0, seqS, passS, noS, exprS, retS, retN, retM, putE, setS, iteS, vOfE, eOfV, oOfV, kI, kB, kS, kN, nmV, nmO, op1, op2, opC, tst, tru, truD, notT, andT, orT, blV, vbl, andV, orV, notV, iteE, aNil, aCons, lNil, lCons, tupE, lstE, dicE, Opd.get, callF, frR, callI, callL, own1, addD, subD, negD, cmpD, lenD, intD, tupD, lisD, absD, isiD, tyD, min2D, max2D, R.of, raiseS, asgS, nameG, nilG, consG, tupG, isD, nisD, isNB, opS, pNone, pSome, seqI', itsD, sItS, putD, wipeE, backE]
theorem between_ok (n l : Int) (h : l ≤ n) (h2 : n ≤ 60) : F_check_between none [.int n, .int l] = .ok (.non, 0) none := by
  unfold F_check_between g_check_between
  have h1 : ¬ n < l := by omega
  have h3 : ¬ 60 < n := by omega
  simp [-List.map_map, fnF, en0, seqS, passS, noS, exprS, retS, retN, retM, putE, setS, iteS, vOfE, eOfV, oOfV, kI, kB, kS, kN, nmV, nmO, op1, op2, opC, tst, tru, truD, notT, andT, orT, blV, vbl, andV, orV, notV, iteE, aNil, aCons, lNil, lCons, tupE, lstE, dicE, Opd.get, callF, frR, callI, callL, own1, addD, subD, negD, cmpD, lenD, intD, tupD, lisD, absD, isiD, tyD, min2D, max2D, R.of, raiseS, asgS, nameG, nilG, consG, tupG, isD, nisD, isNB, opS, pNone, pSome, seqI', itsD, sItS, putD, wipeE, backE, isint, h1, h3]
theorem between_no (n l : Int) (h : n < l ∨ 60 < n) : F_check_between none [.int n, .int l] = .ex (.mk 1 []) := by
  unfold F_check_between g_check_between
  by_cases h1 : n < l
  · simp [-List.map_map, fnF, en0, seqS, passS, noS, exprS, retS, retN, retM, putE, setS, iteS, vOfE, eOfV, oOfV, kI, kB, kS, kN, nmV, nmO, op1, op2, opC, tst, tru, truD, notT, andT, orT, blV, vbl, andV, orV, notV, iteE, aNil, aCons, lNil, lCons, tupE, lstE, dicE, Opd.get, callF, frR, callI, callL, own1, addD, subD, negD, cmpD, lenD, intD, tupD, lisD, absD, isiD, tyD, min2D, max2D, R.of, raiseS, asgS, nameG, nilG, consG, tupG, isD, nisD, isNB, opS, pNone, pSome, seqI', itsD, sItS, putD, wipeE, backE, isint, h1]
  · have h3 : 60 < n := by omega
    simp [-List.map_map, fnF, en0, seqS, passS, noS, exprS, retS, retN, retM, putE, setS, iteS, vOfE, eOfV, oOfV, kI, kB, kS, kN, nmV, nmO, op1, op2, opC, tst, tru, truD, notT, andT, orT, blV, vbl, andV, orV, notV, iteE, aNil, aCons, lNil, lCons, tupE, lstE, dicE, Opd.get, callF, frR, callI, callL, own1, addD, subD, negD, cmpD, lenD, intD, tupD, lisD, absD, isiD, tyD, min2D, max2D, R.of, raiseS, asgS, nameG, nilG, consG, tupG, isD, nisD, isNB, opS, pNone, pSome, seqI', itsD, sItS, putD, wipeE, backE, isint, h1, h3]
theorem path_comp (n : Nat) (e : En) (hn : 1 ≤ n) (h60 : n ≤ 60) (i j : Nat) (h : e = [some (.int n, 0), none]) : comp (rg1 (aCons ((vOfE (op2 subD (nmO 0) (oOfV (kI 1))))) aNil)) (nameG 1) (yesT) ((eOfV ((tupE (aCons ((nmV 1)) (aCons ((vOfE (op2 addD (nmO 1) (oOfV (kI 1))))) aNil)))))) 0 [1] e = .ok (.lst ((pathE n).map pr), 1) e := by
  subst h
  have e1 : (n : Int) - 1 = ((n - 1 : Nat) : Int) := by omega
  rw [comp_fix (ds := (List.range (n - 1)).map fun k : Nat => .int k) (f := fun d => match d with
    | .int k => .tup [.int k, .int (k + 1)]
    | d => d) (rg1_ok (n := n - 1) (env1 := [some (.int n, 0), none]) (by simp [-List.map_map, fnF, en0, seqS, passS, noS, exprS, retS, retN, retM, putE, setS, iteS, vOfE, eOfV, oOfV, kI, kB, kS, kN, nmV, nmO, op1, op2, opC, tst, tru, truD, notT, andT, orT, blV, vbl, andV, orV, notV, iteE, aNil, aCons, lNil, lCons, tupE, lstE, dicE, Opd.get, callF, frR, callI, callL, own1, addD, subD, negD, cmpD, lenD, intD, tupD, lisD, absD, isiD, tyD, min2D, max2D, R.of, raiseS, asgS, nameG, nilG, consG, tupG, isD, nisD, isNB, opS, pNone, pSome, seqI', itsD, sItS, putD, wipeE, backE, e1]) (by apply le_lim; simp; omega)) (env0 := [some (.int n, 0), none]) (env2 := [some (.int n, 0), none]) rfl rfl (by apply le_lim; simp; omega) ?_]
  · simp [pathE, pr, Function.comp_def]
  · intro d hd
    obtain ⟨k, _, rfl⟩ := List.mem_map.mp hd
    exact ⟨[some (.int n, 0), some (.int k, 0)], [some (.int n, 0), some (.int k, 0)], [some (.int n, 0), some (.int k, 0)], by simp [-List.map_map, fnF, en0, seqS, passS, noS, exprS, retS, retN, retM, putE, setS, iteS, vOfE, eOfV, oOfV, kI, kB, kS, kN, nmV, nmO, op1, op2, opC, tst, tru, truD, notT, andT, orT, blV, vbl, andV, orV, notV, iteE, aNil, aCons, lNil, lCons, tupE, lstE, dicE, Opd.get, callF, frR, callI, callL, own1, addD, subD, negD, cmpD, lenD, intD, tupD, lisD, absD, isiD, tyD, min2D, max2D, R.of, raiseS, asgS, nameG, nilG, consG, tupG, isD, nisD, isNB, opS, pNone, pSome, seqI', itsD, sItS, putD, wipeE, backE], rfl, by simp [-List.map_map, fnF, en0, seqS, passS, noS, exprS, retS, retN, retM, putE, setS, iteS, vOfE, eOfV, oOfV, kI, kB, kS, kN, nmV, nmO, op1, op2, opC, tst, tru, truD, notT, andT, orT, blV, vbl, andV, orV, notV, iteE, aNil, aCons, lNil, lCons, tupE, lstE, dicE, Opd.get, callF, frR, callI, callL, own1, addD, subD, negD, cmpD, lenD, intD, tupD, lisD, absD, isiD, tyD, min2D, max2D, R.of, raiseS, asgS, nameG, nilG, consG, tupG, isD, nisD, isNB, opS, pNone, pSome, seqI', itsD, sItS, putD, wipeE, backE], rfl⟩
theorem path_ok (n : Nat) (hn : 1 ≤ n) (h60 : n ≤ 60) : F_path_graph none [.int n] = .ok (Gd n (pathE n), 0) none := by
  unfold F_path_graph g_path_graph
  simp [-List.map_map, fnF, en0, seqS, passS, noS, exprS, retS, retN, retM, putE, setS, iteS, vOfE, eOfV, oOfV, kI, kB, kS, kN, nmV, nmO, op1, op2, opC, tst, tru, truD, notT, andT, orT, blV, vbl, andV, orV, notV, iteE, aNil, aCons, lNil, lCons, tupE, lstE, dicE, Opd.get, callF, frR, callI, callL, own1, addD, subD, negD, cmpD, lenD, intD, tupD, lisD, absD, isiD, tyD, min2D, max2D, R.of, raiseS, asgS, nameG, nilG, consG, tupG, isD, nisD, isNB, opS, pNone, pSome, seqI', itsD, sItS, putD, wipeE, backE, between_ok n 1 (by omega) (by omega), path_comp n [some (.int n, 0), none] hn h60 0 0 rfl, Gd]
end L51
end

section
open Pv PySem
set_option Elab.async false
set_option linter.all false
set_option maxRecDepth 100000
namespace L51
abbrev E2 := Nat × Nat
def leN (p q : E2) : Bool := if p.1 = q.1 then decide (p.2 ≤ q.2) else decide (p.1 < q.1)
def sortP (es : List E2) : List E2 := msr leN es.length es
def normP (p : E2) : E2 := (min p.1 p.2, max p.1 p.2)
theorem leK_pr (p q : E2) : leK (pr p) (pr q) = leN p q := by
  obtain ⟨a, b⟩ := p
  obtain ⟨c, d⟩ := q
  show (if (a : Int) = c then (if (b : Int) = d then true else decide ((b : Int) < d)) else decide ((a : Int) < c)) = (if a = c then decide (b ≤ d) else decide (a < c))
  by_cases h : a = c
  · have h' : (a : Int) = c := by omega
    rw [if_pos h, if_pos h']
    by_cases h3 : b = d
    · have h4 : (b : Int) = d := by omega
      rw [if_pos h4]
      have : b ≤ d := by omega
      simp [this]
    · have h4 : ¬ (b : Int) = d := by omega
      rw [if_neg h4]
      have : ((b : Int) < d) ↔ b ≤ d := by omega
      exact decide_eq_decide.mpr this
  · have h' : ¬ (a : Int) = c := by omega
    rw [if_neg h, if_neg h']
    exact decide_eq_decide.mpr (by omega)
theorem sort_pr (es : List E2) : sortL (es.map pr) = some (.lst ((sortP es).map pr), 1) := by
  have h : sortOkB (es.map pr) = true := by
    have : (es.map pr).all intTup = true := by
      rw [List.all_eq_true]
      intro d hd
      obtain ⟨p, _, rfl⟩ := List.mem_map.mp hd
      rfl
    simp [sortOkB, this]
  unfold sortL
  rw [if_pos h]
  unfold srt sortP
  rw [List.length_map, msr_map leK_pr]
theorem sortP_len (es : List E2) : (sortP es).length = es.length := (msr_perm leN es).length_eq
theorem made_ok (n : Nat) (es : List E2) (hn : n ≤ 400) (he : es.length ≤ 4000) : F_made_graph none [.int n, .lst (es.map pr)] = .ok (Gd n (sortP (es.map normP)), 0) none := by
  unfold F_made_graph g_made_graph
  have h1 : ¬ (400 : Int) < n := by omega
  have h2 : ¬ (4000 : Int) < es.length := by omega
  have hc := comp_fix (fi := seqI' (nmV 1)) (g := tupG 2 (consG (nameG 2) (consG (nameG 3) nilG))) (tt := yesT) (te := eOfV (tupE (aCons (vOfE (op2 min2D (nmO 2) (nmO 3))) (aCons (vOfE (op2 max2D (nmO 2) (nmO 3))) aNil)))) (m := 0) (vs := [2, 3]) (ds := es.map pr)
    (f := fun d => match d with
      | .tup [.int a, .int b] => .tup [.int (min a b), .int (max a b)]
      | d => d) (env := [some (.int n, 0), some (.lst (es.map pr), 0), none, none]) (env1 := [some (.int n, 0), some (.lst (es.map pr), 0), none, none]) (env0 := [some (.int n, 0), some (.lst (es.map pr), 0), none, none]) (env2 := [some (.int n, 0), some (.lst (es.map pr), 0), none, none])
    (by simp [-List.map_map, fnF, en0, seqS, passS, noS, exprS, retS, retN, retM, putE, setS, iteS, vOfE, eOfV, oOfV, kI, kB, kS, kN, nmV, nmO, op1, op2, opC, tst, tru, truD, notT, andT, orT, blV, vbl, andV, orV, notV, iteE, aNil, aCons, lNil, lCons, tupE, lstE, dicE, Opd.get, callF, frR, callI, callL, own1, addD, subD, negD, cmpD, lenD, intD, tupD, lisD, absD, isiD, tyD, min2D, max2D, R.of, raiseS, asgS, nameG, nilG, consG, tupG, isD, nisD, isNB, opS, pNone, pSome, seqI', itsD, sItS, putD, wipeE, backE]) rfl rfl (by apply le_lim; simp; omega) (fun d hd => by
      obtain ⟨p, _, rfl⟩ := List.mem_map.mp hd
      exact ⟨[some (.int n, 0), some (.lst (es.map pr), 0), some (.int p.1, 0), some (.int p.2, 0)], [some (.int n, 0), some (.lst (es.map pr), 0), some (.int p.1, 0), some (.int p.2, 0)], [some (.int n, 0), some (.lst (es.map pr), 0), some (.int p.1, 0), some (.int p.2, 0)], by simp [-List.map_map, fnF, en0, seqS, passS, noS, exprS, retS, retN, retM, putE, setS, iteS, vOfE, eOfV, oOfV, kI, kB, kS, kN, nmV, nmO, op1, op2, opC, tst, tru, truD, notT, andT, orT, blV, vbl, andV, orV, notV, iteE, aNil, aCons, lNil, lCons, tupE, lstE, dicE, Opd.get, callF, frR, callI, callL, own1, addD, subD, negD, cmpD, lenD, intD, tupD, lisD, absD, isiD, tyD, min2D, max2D, R.of, raiseS, asgS, nameG, nilG, consG, tupG, isD, nisD, isNB, opS, pNone, pSome, seqI', itsD, sItS, putD, wipeE, backE, pr], rfl, by simp [-List.map_map, fnF, en0, seqS, passS, noS, exprS, retS, retN, retM, putE, setS, iteS, vOfE, eOfV, oOfV, kI, kB, kS, kN, nmV, nmO, op1, op2, opC, tst, tru, truD, notT, andT, orT, blV, vbl, andV, orV, notV, iteE, aNil, aCons, lNil, lCons, tupE, lstE, dicE, Opd.get, callF, frR, callI, callL, own1, addD, subD, negD, cmpD, lenD, intD, tupD, lisD, absD, isiD, tyD, min2D, max2D, R.of, raiseS, asgS, nameG, nilG, consG, tupG, isD, nisD, isNB, opS, pNone, pSome, seqI', itsD, sItS, putD, wipeE, backE, pr], rfl⟩)
  have hm : (es.map pr).map (fun d => match d with
      | .tup [.int a, .int b] => .tup [.int (min a b), .int (max a b)]
      | d => d) = (es.map normP).map pr := by
    rw [List.map_map, List.map_map]
    apply List.map_congr_left
    intro p _
    simp only [Function.comp_def, pr, normP]
    have e1 : ((min p.1 p.2 : Nat) : Int) = min (p.1 : Int) p.2 := by omega
    have e2 : ((max p.1 p.2 : Nat) : Int) = max (p.1 : Int) p.2 := by omega
    rw [e1, e2]
  rw [hm] at hc
  simp [-List.map_map, fnF, en0, seqS, passS, noS, exprS, retS, retN, retM, putE, setS, iteS, vOfE, eOfV, oOfV, kI, kB, kS, kN, nmV, nmO, op1, op2, opC, tst, tru, truD, notT, andT, orT, blV, vbl, andV, orV, notV, iteE, aNil, aCons, lNil, lCons, tupE, lstE, dicE, Opd.get, callF, frR, callI, callL, own1, addD, subD, negD, cmpD, lenD, intD, tupD, lisD, absD, isiD, tyD, min2D, max2D, R.of, raiseS, asgS, nameG, nilG, consG, tupG, isD, nisD, isNB, opS, pNone, pSome, seqI', itsD, sItS, putD, wipeE, backE, h1, h2, hc, sortD, sort_pr, Gd]
end L51
end

section
open Pv PySem
set_option Elab.async false
set_option linter.all false
set_option maxRecDepth 100000
namespace L51
theorem ring_ok (n : Nat) (hn : 3 ≤ n) (h60 : n ≤ 60) : F_ring_graph none [.int n] = .ok (Gd n (sortP ((pathE n ++ [(0, n - 1)]).map normP)), 0) none := by
  unfold F_ring_graph g_ring_graph
  have e1 : (n : Int) - 1 = ((n - 1 : Nat) : Int) := by omega
  have h := made_ok n (pathE n ++ [(0, n - 1)]) (by omega) (by simp [pathE]; omega)
  have hl : (pathE n).length + 1 ≤ lim := by apply le_lim; simp [pathE]; omega
  have e2 : pr (0, n - 1) = .tup [.int 0, .int ((n - 1 : Nat) : Int)] := rfl
  rw [List.map_append, List.map_singleton, e2] at h
  simp [-List.map_map, fnF, en0, seqS, passS, noS, exprS, retS, retN, retM, putE, setS, iteS, vOfE, eOfV, oOfV, kI, kB, kS, kN, nmV, nmO, op1, op2, opC, tst, tru, truD, notT, andT, orT, blV, vbl, andV, orV, notV, iteE, aNil, aCons, lNil, lCons, tupE, lstE, dicE, Opd.get, callF, frR, callI, callL, own1, addD, subD, negD, cmpD, lenD, intD, tupD, lisD, absD, isiD, tyD, min2D, max2D, R.of, raiseS, asgS, nameG, nilG, consG, tupG, isD, nisD, isNB, opS, pNone, pSome, seqI', itsD, sItS, putD, wipeE, backE, between_ok n 3 (by omega) (by omega), path_comp n [some (.int n, 0), none] (by omega) h60 0 0 rfl, hl, e1, h]
def clqR : Nat → List E2
  | 0 => []
  | n + 1 => clqR n ++ (List.range n).map fun x => (x, n)
theorem clqR_len : ∀ n : Nat, n ≤ 60 → (clqR n).length ≤ n * 60
  | 0, _ => by simp [clqR]
  | n + 1, h => by
    have ih := clqR_len n (by omega)
    simp only [clqR, List.length_append, List.length_map, List.length_range]
    omega
abbrev cqB : En → R (D × Nat) := comp (rg1 (aCons ((nmV 2)) aNil)) (nameG 3) (yesT) ((eOfV ((tupE (aCons ((nmV 3)) (aCons ((nmV 2)) aNil)))))) 0 [3]
theorem clique_comp (n y : Nat) (a : List E2) (hy : y ≤ 60) : cqB [some (.int n, 0), some (.lst (a.map pr), 1), some (.int y, 0), none] = .ok (.lst (((List.range y).map fun x => (x, y)).map pr), 1) [some (.int n, 0), some (.lst (a.map pr), 1), some (.int y, 0), none] := by
  unfold cqB
  rw [comp_fix (ds := (List.range y).map fun k : Nat => .int k) (f := fun d => .tup [d, .int y]) (rg1_ok (n := y) (env1 := [some (.int n, 0), some (.lst (a.map pr), 1), some (.int y, 0), none]) (by simp [-List.map_map, fnF, en0, seqS, passS, noS, exprS, retS, retN, retM, putE, setS, iteS, vOfE, eOfV, oOfV, kI, kB, kS, kN, nmV, nmO, op1, op2, opC, tst, tru, truD, notT, andT, orT, blV, vbl, andV, orV, notV, iteE, aNil, aCons, lNil, lCons, tupE, lstE, dicE, Opd.get, callF, frR, callI, callL, own1, addD, subD, negD, cmpD, lenD, intD, tupD, lisD, absD, isiD, tyD, min2D, max2D, R.of, raiseS, asgS, nameG, nilG, consG, tupG, isD, nisD, isNB, opS, pNone, pSome, seqI', itsD, sItS, putD, wipeE, backE]) (by omega)) rfl rfl (by apply le_lim; simp; omega) ?_]
  · simp [pr, Function.comp_def]; rfl
  · intro d hd
    obtain ⟨k, _, rfl⟩ := List.mem_map.mp hd
    exact ⟨[some (.int n, 0), some (.lst (a.map pr), 1), some (.int y, 0), some (.int k, 0)], [some (.int n, 0), some (.lst (a.map pr), 1), some (.int y, 0), some (.int k, 0)], [some (.int n, 0), some (.lst (a.map pr), 1), some (.int y, 0), some (.int k, 0)], by simp [-List.map_map, fnF, en0, seqS, passS, noS, exprS, retS, retN, retM, putE, setS, iteS, vOfE, eOfV, oOfV, kI, kB, kS, kN, nmV, nmO, op1, op2, opC, tst, tru, truD, notT, andT, orT, blV, vbl, andV, orV, notV, iteE, aNil, aCons, lNil, lCons, tupE, lstE, dicE, Opd.get, callF, frR, callI, callL, own1, addD, subD, negD, cmpD, lenD, intD, tupD, lisD, absD, isiD, tyD, min2D, max2D, R.of, raiseS, asgS, nameG, nilG, consG, tupG, isD, nisD, isNB, opS, pNone, pSome, seqI', itsD, sItS, putD, wipeE, backE], rfl, by simp [-List.map_map, fnF, en0, seqS, passS, noS, exprS, retS, retN, retM, putE, setS, iteS, vOfE, eOfV, oOfV, kI, kB, kS, kN, nmV, nmO, op1, op2, opC, tst, tru, truD, notT, andT, orT, blV, vbl, andV, orV, notV, iteE, aNil, aCons, lNil, lCons, tupE, lstE, dicE, Opd.get, callF, frR, callI, callL, own1, addD, subD, negD, cmpD, lenD, intD, tupD, lisD, absD, isiD, tyD, min2D, max2D, R.of, raiseS, asgS, nameG, nilG, consG, tupG, isD, nisD, isNB, opS, pNone, pSome, seqI', itsD, sItS, putD, wipeE, backE], rfl⟩
theorem clique_step (n i : Nat) (hi : i < 60) : extS 1 (vOfE cqB) [some (.int n, 0), some (.lst ((clqR i).map pr), 1), some (.int i, 0), none] = .nx [some (.int n, 0), some (.lst ((clqR (i + 1)).map pr), 1), some (.int i, 0), none] := by
  have l1 := clqR_len i (by omega)
  have l3 : ((clqR i).map pr).length + (((List.range i).map fun x => (x, i)).map pr).length ≤ lim := by
    simp only [List.length_map, List.length_range]
    exact le_lim (by omega)
  unfold extS
  rw [if_pos (by rfl)]
  unfold vOfE
  rw [clique_comp n i _ (by omega)]
  simp only [R.bind_ok, R.then_ok]
  show (if _ ≤ lim then _ else _) = _
  rw [if_pos l3, ← List.map_append]
  rfl
theorem clique_loop (n : Nat) (hn : 1 ≤ n) (h60 : n ≤ 60) : forS (rg1 (aCons ((nmV 0)) aNil)) (nameG 2) (extS 1 (vOfE cqB)) [some (.int n, 0), some (.lst [], 1), none, none] = .nx [some (.int n, 0), some (.lst ((clqR n).map pr), 1), some (.int (n - 1 : Nat), 0), none] := by
  rw [forS_ok (rg1_ok (n := n) (env1 := [some (.int n, 0), some (.lst [], 1), none, none]) (by simp [-List.map_map, fnF, en0, seqS, passS, noS, exprS, retS, retN, retM, putE, setS, iteS, vOfE, eOfV, oOfV, kI, kB, kS, kN, nmV, nmO, op1, op2, opC, tst, tru, truD, notT, andT, orT, blV, vbl, andV, orV, notV, iteE, aNil, aCons, lNil, lCons, tupE, lstE, dicE, Opd.get, callF, frR, callI, callL, own1, addD, subD, negD, cmpD, lenD, intD, tupD, lisD, absD, isiD, tyD, min2D, max2D, R.of, raiseS, asgS, nameG, nilG, consG, tupG, isD, nisD, isNB, opS, pNone, pSome, seqI', itsD, sItS, putD, wipeE, backE]) (by omega))]
  have hl := loopS_range (g := nameG 2) (body := extS 1 (vOfE cqB)) (fun y : Nat => .int y) n
    (fun i => [some (.int n, 0), some (.lst ((clqR i).map pr), 1), if i = 0 then none else some (.int (i - 1 : Nat), 0), none]) (fun i hi => by
      refine ⟨[some (.int n, 0), some (.lst ((clqR i).map pr), 1), some (.int i, 0), none], by simp [-List.map_map, fnF, en0, seqS, passS, noS, exprS, retS, retN, retM, putE, setS, iteS, vOfE, eOfV, oOfV, kI, kB, kS, kN, nmV, nmO, op1, op2, opC, tst, tru, truD, notT, andT, orT, blV, vbl, andV, orV, notV, iteE, aNil, aCons, lNil, lCons, tupE, lstE, dicE, Opd.get, callF, frR, callI, callL, own1, addD, subD, negD, cmpD, lenD, intD, tupD, lisD, absD, isiD, tyD, min2D, max2D, R.of, raiseS, asgS, nameG, nilG, consG, tupG, isD, nisD, isNB, opS, pNone, pSome, seqI', itsD, sItS, putD, wipeE, backE], ?_⟩
      rw [clique_step n i (by omega)]
      rfl)
  have hn0 : n ≠ 0 := by omega
  simp only [hn0, if_false] at hl
  exact hl
theorem c1 (n : Nat) (hn : 1 ≤ n) (h60 : n ≤ 60) : exprS (callF 2 (F_check_between) (aCons ((nmV 0)) (aCons (kI 1) aNil))) (en0 4 none [.int n]) = .nx [some (.int n, 0), none, none, none] := by
  simp [-List.map_map, fnF, en0, seqS, passS, noS, exprS, retS, retN, retM, putE, setS, iteS, vOfE, eOfV, oOfV, kI, kB, kS, kN, nmV, nmO, op1, op2, opC, tst, tru, truD, notT, andT, orT, blV, vbl, andV, orV, notV, iteE, aNil, aCons, lNil, lCons, tupE, lstE, dicE, Opd.get, callF, frR, callI, callL, own1, addD, subD, negD, cmpD, lenD, intD, tupD, lisD, absD, isiD, tyD, min2D, max2D, R.of, raiseS, asgS, nameG, nilG, consG, tupG, isD, nisD, isNB, opS, pNone, pSome, seqI', itsD, sItS, putD, wipeE, backE, between_ok n 1 (by omega) (by omega)]
theorem c2 (n : Nat) : setS 1 ((lstE aNil)) [some (.int n, 0), none, none, none] = .nx [some (.int n, 0), some (.lst [], 1), none, none] := by
  simp [-List.map_map, fnF, en0, seqS, passS, noS, exprS, retS, retN, retM, putE, setS, iteS, vOfE, eOfV, oOfV, kI, kB, kS, kN, nmV, nmO, op1, op2, opC, tst, tru, truD, notT, andT, orT, blV, vbl, andV, orV, notV, iteE, aNil, aCons, lNil, lCons, tupE, lstE, dicE, Opd.get, callF, frR, callI, callL, own1, addD, subD, negD, cmpD, lenD, intD, tupD, lisD, absD, isiD, tyD, min2D, max2D, R.of, raiseS, asgS, nameG, nilG, consG, tupG, isD, nisD, isNB, opS, pNone, pSome, seqI', itsD, sItS, putD, wipeE, backE]
theorem c3 (n : Nat) (h60 : n ≤ 60) : retS ((callF 2 (F_made_graph) (aCons ((nmV 0)) (aCons ((nmV 1)) aNil)))) [some (.int n, 0), some (.lst ((clqR n).map pr), 1), some (.int (n - 1 : Nat), 0), none] = .ret (Gd n (sortP ((clqR n).map normP)), 0) [some (.int n, 0), some (.lst ((clqR n).map pr), 0), some (.int (n - 1 : Nat), 0), none] := by
  have hlen : (clqR n).length ≤ 4000 := by
    have := clqR_len n h60
    omega
  have h := made_ok n (clqR n) (by omega) hlen
  simp [-List.map_map, fnF, en0, seqS, passS, noS, exprS, retS, retN, retM, putE, setS, iteS, vOfE, eOfV, oOfV, kI, kB, kS, kN, nmV, nmO, op1, op2, opC, tst, tru, truD, notT, andT, orT, blV, vbl, andV, orV, notV, iteE, aNil, aCons, lNil, lCons, tupE, lstE, dicE, Opd.get, callF, frR, callI, callL, own1, addD, subD, negD, cmpD, lenD, intD, tupD, lisD, absD, isiD, tyD, min2D, max2D, R.of, raiseS, asgS, nameG, nilG, consG, tupG, isD, nisD, isNB, opS, pNone, pSome, seqI', itsD, sItS, putD, wipeE, backE, h]
theorem clique_ok (n : Nat) (hn : 1 ≤ n) (h60 : n ≤ 60) : F_clique_graph none [.int n] = .ok (Gd n (sortP ((clqR n).map normP)), 0) none := by
  exact fnF_ret ((seqS_nx (c1 n hn h60)).trans ((seqS_nx (c2 n)).trans ((seqS_nx (clique_loop n hn h60)).trans (c3 n h60))))
end L51
end

section
open Pv PySem
set_option Elab.async false
set_option linter.all false
set_option maxRecDepth 100000
namespace L51
def okE (n : Nat) (p : E2) : Bool := decide (p.1 < n) && (decide (p.2 < n) && decide (p.1 ≤ p.2))
theorem is_point_ok (x n : Nat) (h : x < n) : F_is_point none [.int x, .int n] = .ok (.bl true, 0) none := by
  unfold F_is_point g_is_point
  simp [-List.map_map, fnF, en0, seqS, passS, noS, exprS, retS, retN, retM, putE, setS, iteS, vOfE, eOfV, oOfV, kI, kB, kS, kN, nmV, nmO, op1, op2, opC, tst, tru, truD, notT, andT, orT, blV, vbl, andV, orV, notV, iteE, aNil, aCons, lNil, lCons, tupE, lstE, dicE, Opd.get, callF, frR, callI, callL, own1, addD, subD, negD, cmpD, lenD, intD, tupD, lisD, absD, isiD, tyD, min2D, max2D, R.of, raiseS, asgS, nameG, nilG, consG, tupG, isD, nisD, isNB, opS, pNone, pSome, seqI', itsD, sItS, putD, wipeE, backE, isint, h]
theorem is_edge_ok (n : Nat) (p : E2) (h : okE n p = true) : F_is_edge none [pr p, .int n] = .ok (.bl true, 0) none := by
  obtain ⟨a, b⟩ := p
  simp [okE] at h
  obtain ⟨h1, h2, h3⟩ := h
  unfold F_is_edge g_is_edge
  simp [-List.map_map, fnF, en0, seqS, passS, noS, exprS, retS, retN, retM, putE, setS, iteS, vOfE, eOfV, oOfV, kI, kB, kS, kN, nmV, nmO, op1, op2, opC, tst, tru, truD, notT, andT, orT, blV, vbl, andV, orV, notV, iteE, aNil, aCons, lNil, lCons, tupE, lstE, dicE, Opd.get, callF, frR, callI, callL, own1, addD, subD, negD, cmpD, lenD, intD, tupD, lisD, absD, isiD, tyD, min2D, max2D, R.of, raiseS, asgS, nameG, nilG, consG, tupG, isD, nisD, isNB, opS, pNone, pSome, seqI', itsD, sItS, putD, wipeE, backE, pr, is_point_ok, h1, h2, h3, at_0, at_1, idxD]
theorem le_pr (p q : E2) : leTD (pr p) (pr q) = some (.bl (leN p q), 0) := by
  obtain ⟨a, b⟩ := p
  obtain ⟨c, d⟩ := q
  have e : leTD (pr (a, b)) (pr (c, d)) = some (.bl (if (a : Int) = c then (if (b : Int) = d then true else decide ((b : Int) ≤ d)) else decide ((a : Int) ≤ c)), 0) := by
    simp [leTD, pr, D.ints, Ob.lexAt]
  rw [e]
  unfold leN
  congr 3
  by_cases h : a = c
  · have h' : (a : Int) = c := by omega
    rw [if_pos h', if_pos h]
    by_cases h3 : b = d
    · have h4 : (b : Int) = d := by omega
      rw [if_pos h4]
      have : b ≤ d := by omega
      simp [this]
    · have h4 : ¬ (b : Int) = d := by omega
      rw [if_neg h4]
      exact decide_eq_decide.mpr (by omega)
  · have h' : ¬ (a : Int) = c := by omega
    rw [if_neg h', if_neg h]
    exact decide_eq_decide.mpr (by omega)
def chain (es : List E2) : Bool := (es.zip (es.drop 1)).all fun q => leN q.1 q.2
theorem cut1 (xs : List D) : cutD xs (some 1) none = xs.drop 1 := by
  unfold cutD
  rw [HT.sIx_none]
  have : HT.sIx xs.length 0 (some 1) = min 1 xs.length := HT.sIx_nat xs.length 0 1
  rw [this]
  cases xs with
  | nil => rfl
  | cons x xs => simp
theorem bls_true : ∀ n : Nat, D.bls (List.replicate n (.bl true)) = some (List.replicate n true)
  | 0 => rfl
  | n + 1 => by
    rw [List.replicate_succ, D.bls, bls_true n]
    rfl
theorem allD_true (n : Nat) : allD (.lst (List.replicate n (.bl true))) = some (.bl true, 0) := by
  simp [allD, bls_true]
theorem map_true {α : Type} (f : α → D) (xs : List α) (h : ∀ x ∈ xs, f x = .bl true) : xs.map f = List.replicate xs.length (.bl true) := by
  induction xs with
  | nil => rfl
  | cons x xs ih =>
    rw [List.map_cons, h x List.mem_cons_self, ih fun y hy => h y (List.mem_cons_of_mem _ hy)]
    rfl
abbrev rgE (n : Nat) (es : List E2) : En := [some (Gd n es, 0), some (.int n, 0), some (.tup (es.map pr), 0), none, none, none]
theorem rooted_c1 (n : Nat) (es : List E2) (hl : es.length ≤ 4000) (h : es.all (okE n) = true) : comp (seqI' (nmV 2)) (nameG 3) yesT (eOfV (vOfE (callF 2 F_is_edge (aCons (nmV 3) (aCons (nmV 1) aNil))))) 0 [3] (rgE n es) = .ok (.lst (List.replicate es.length (.bl true)), 1) (rgE n es) := by
  rw [comp_fix (ds := es.map pr) (f := fun _ => .bl true) (env1 := rgE n es) (env0 := rgE n es) (env2 := rgE n es) (by simp [-List.map_map, fnF, en0, seqS, passS, noS, exprS, retS, retN, retM, putE, setS, iteS, vOfE, eOfV, oOfV, kI, kB, kS, kN, nmV, nmO, op1, op2, opC, tst, tru, truD, notT, andT, orT, blV, vbl, andV, orV, notV, iteE, aNil, aCons, lNil, lCons, tupE, lstE, dicE, Opd.get, callF, frR, callI, callL, own1, addD, subD, negD, cmpD, lenD, intD, tupD, lisD, absD, isiD, tyD, min2D, max2D, R.of, raiseS, asgS, nameG, nilG, consG, tupG, isD, nisD, isNB, opS, pNone, pSome, seqI', itsD, sItS, putD, wipeE, backE]) rfl rfl (by apply le_lim; simp; omega) ?_]
  · rw [List.map_map]
    rw [map_true ((fun _ => D.bl true) ∘ pr) es fun _ _ => rfl]
  · intro d hd
    obtain ⟨p, hp, rfl⟩ := List.mem_map.mp hd
    have hk := is_edge_ok n p (List.all_eq_true.mp h p hp)
    exact ⟨[some (Gd n es, 0), some (.int n, 0), some (.tup (es.map pr), 0), some (pr p, 0), none, none], [some (Gd n es, 0), some (.int n, 0), some (.tup (es.map pr), 0), some (pr p, 0), none, none], [some (Gd n es, 0), some (.int n, 0), some (.tup (es.map pr), 0), some (pr p, 0), none, none], by simp [-List.map_map, fnF, en0, seqS, passS, noS, exprS, retS, retN, retM, putE, setS, iteS, vOfE, eOfV, oOfV, kI, kB, kS, kN, nmV, nmO, op1, op2, opC, tst, tru, truD, notT, andT, orT, blV, vbl, andV, orV, notV, iteE, aNil, aCons, lNil, lCons, tupE, lstE, dicE, Opd.get, callF, frR, callI, callL, own1, addD, subD, negD, cmpD, lenD, intD, tupD, lisD, absD, isiD, tyD, min2D, max2D, R.of, raiseS, asgS, nameG, nilG, consG, tupG, isD, nisD, isNB, opS, pNone, pSome, seqI', itsD, sItS, putD, wipeE, backE], rfl, by simp [-List.map_map, fnF, en0, seqS, passS, noS, exprS, retS, retN, retM, putE, setS, iteS, vOfE, eOfV, oOfV, kI, kB, kS, kN, nmV, nmO, op1, op2, opC, tst, tru, truD, notT, andT, orT, blV, vbl, andV, orV, notV, iteE, aNil, aCons, lNil, lCons, tupE, lstE, dicE, Opd.get, callF, frR, callI, callL, own1, addD, subD, negD, cmpD, lenD, intD, tupD, lisD, absD, isiD, tyD, min2D, max2D, R.of, raiseS, asgS, nameG, nilG, consG, tupG, isD, nisD, isNB, opS, pNone, pSome, seqI', itsD, sItS, putD, wipeE, backE, hk], rfl⟩
theorem rooted_c2 (n : Nat) (es : List E2) (hl : es.length ≤ 4000) (h : chain es = true) : comp (zipI (aCons (nmV 2) (aCons (vOfE (opS (nmO 2) (pSome (kI 1)) pNone)) aNil))) (tupG 2 (consG (nameG 4) (consG (nameG 5) nilG))) yesT (eOfV (vOfE (op2 leTD (nmO 4) (nmO 5)))) 0 [4, 5] (rgE n es) = .ok (.lst (List.replicate (es.zip (es.drop 1)).length (.bl true)), 1) (rgE n es) := by
  rw [comp_fix (ds := (es.zip (es.drop 1)).map fun q => .tup [pr q.1, pr q.2]) (f := fun _ => .bl true) (env1 := rgE n es) (env0 := rgE n es) (env2 := rgE n es) ?_ rfl rfl (by apply le_lim; simp; omega) ?_]
  · rw [List.map_map]
    rw [map_true ((fun _ => D.bl true) ∘ fun q : E2 × E2 => D.tup [pr q.1, pr q.2]) (es.zip (es.drop 1)) fun _ _ => rfl]
  · have hz : ((es.map pr).zip (es.map pr).tail).map (fun q : D × D => D.tup [q.1, q.2]) = (es.zip es.tail).map fun q => .tup [pr q.1, pr q.2] := by
      rw [← List.map_tail, List.zip_map, List.map_map]
      rfl
    simp [-List.map_map, fnF, en0, seqS, passS, noS, exprS, retS, retN, retM, putE, setS, iteS, vOfE, eOfV, oOfV, kI, kB, kS, kN, nmV, nmO, op1, op2, opC, tst, tru, truD, notT, andT, orT, blV, vbl, andV, orV, notV, iteE, aNil, aCons, lNil, lCons, tupE, lstE, dicE, Opd.get, callF, frR, callI, callL, own1, addD, subD, negD, cmpD, lenD, intD, tupD, lisD, absD, isiD, tyD, min2D, max2D, R.of, raiseS, asgS, nameG, nilG, consG, tupG, isD, nisD, isNB, opS, pNone, pSome, seqI', itsD, sItS, putD, wipeE, backE, zipI, zipD2, zipD, slD, cut1, hz]
  · intro d hd
    obtain ⟨q, hq, rfl⟩ := List.mem_map.mp hd
    have hk := List.all_eq_true.mp h q hq
    exact ⟨[some (Gd n es, 0), some (.int n, 0), some (.tup (es.map pr), 0), none, some (pr q.1, 0), some (pr q.2, 0)], [some (Gd n es, 0), some (.int n, 0), some (.tup (es.map pr), 0), none, some (pr q.1, 0), some (pr q.2, 0)], [some (Gd n es, 0), some (.int n, 0), some (.tup (es.map pr), 0), none, some (pr q.1, 0), some (pr q.2, 0)], by simp [-List.map_map, fnF, en0, seqS, passS, noS, exprS, retS, retN, retM, putE, setS, iteS, vOfE, eOfV, oOfV, kI, kB, kS, kN, nmV, nmO, op1, op2, opC, tst, tru, truD, notT, andT, orT, blV, vbl, andV, orV, notV, iteE, aNil, aCons, lNil, lCons, tupE, lstE, dicE, Opd.get, callF, frR, callI, callL, own1, addD, subD, negD, cmpD, lenD, intD, tupD, lisD, absD, isiD, tyD, min2D, max2D, R.of, raiseS, asgS, nameG, nilG, consG, tupG, isD, nisD, isNB, opS, pNone, pSome, seqI', itsD, sItS, putD, wipeE, backE], rfl, by simp [-List.map_map, fnF, en0, seqS, passS, noS, exprS, retS, retN, retM, putE, setS, iteS, vOfE, eOfV, oOfV, kI, kB, kS, kN, nmV, nmO, op1, op2, opC, tst, tru, truD, notT, andT, orT, blV, vbl, andV, orV, notV, iteE, aNil, aCons, lNil, lCons, tupE, lstE, dicE, Opd.get, callF, frR, callI, callL, own1, addD, subD, negD, cmpD, lenD, intD, tupD, lisD, absD, isiD, tyD, min2D, max2D, R.of, raiseS, asgS, nameG, nilG, consG, tupG, isD, nisD, isNB, opS, pNone, pSome, seqI', itsD, sItS, putD, wipeE, backE, le_pr, hk], rfl⟩
structure Okg (n : Nat) (es : List E2) : Prop where
  n1 : 1 ≤ n
  n4 : n ≤ 400
  l : es.length ≤ 4000
  e : es.all (okE n) = true
  c : chain es = true
theorem rooted_ok {n : Nat} {es : List E2} (g : Okg n es) : F_is_rooted_graph none [Gd n es] = .ok (.bl true, 0) none := by
  unfold F_is_rooted_graph g_is_rooted_graph
  have h1 : ¬ (n : Int) < 1 := by have := g.n1; omega
  have h2 : ¬ (400 : Int) < n := by have := g.n4; omega
  have h3 : ¬ (4000 : Int) < es.length := by have := g.l; omega
  have c1 := rooted_c1 n es g.l g.e
  have c2 := rooted_c2 n es g.l g.c
  unfold rgE at c1 c2
  simp only [Gd] at c1 c2
  simp [-List.map_map, fnF, en0, seqS, passS, noS, exprS, retS, retN, retM, putE, setS, iteS, vOfE, eOfV, oOfV, kI, kB, kS, kN, nmV, nmO, op1, op2, opC, tst, tru, truD, notT, andT, orT, blV, vbl, andV, orV, notV, iteE, aNil, aCons, lNil, lCons, tupE, lstE, dicE, Opd.get, callF, frR, callI, callL, own1, addD, subD, negD, cmpD, lenD, intD, tupD, lisD, absD, isiD, tyD, min2D, max2D, R.of, raiseS, asgS, nameG, nilG, consG, tupG, isD, nisD, isNB, opS, pNone, pSome, seqI', itsD, sItS, putD, wipeE, backE, Gd, isint, h1, h2, h3, at_0, at_1, idxD, c1, c2, allD_true]
theorem check_ok {n : Nat} {es : List E2} (g : Okg n es) : F_check_graph none [Gd n es] = .ok (.non, 0) none := by
  unfold F_check_graph g_check_graph
  simp [-List.map_map, fnF, en0, seqS, passS, noS, exprS, retS, retN, retM, putE, setS, iteS, vOfE, eOfV, oOfV, kI, kB, kS, kN, nmV, nmO, op1, op2, opC, tst, tru, truD, notT, andT, orT, blV, vbl, andV, orV, notV, iteE, aNil, aCons, lNil, lCons, tupE, lstE, dicE, Opd.get, callF, frR, callI, callL, own1, addD, subD, negD, cmpD, lenD, intD, tupD, lisD, absD, isiD, tyD, min2D, max2D, R.of, raiseS, asgS, nameG, nilG, consG, tupG, isD, nisD, isNB, opS, pNone, pSome, seqI', itsD, sItS, putD, wipeE, backE, rooted_ok g]
theorem clen_ok (n : Nat) (h : n ≤ 12) : F_check_length none [.int n, .int 12] = .ok (.non, 0) none := by
  unfold F_check_length g_check_length
  have h1 : ¬ (n : Int) < 0 := by omega
  have h2 : ¬ (12 : Int) < n := by omega
  simp [-List.map_map, fnF, en0, seqS, passS, noS, exprS, retS, retN, retM, putE, setS, iteS, vOfE, eOfV, oOfV, kI, kB, kS, kN, nmV, nmO, op1, op2, opC, tst, tru, truD, notT, andT, orT, blV, vbl, andV, orV, notV, iteE, aNil, aCons, lNil, lCons, tupE, lstE, dicE, Opd.get, callF, frR, callI, callL, own1, addD, subD, negD, cmpD, lenD, intD, tupD, lisD, absD, isiD, tyD, min2D, max2D, R.of, raiseS, asgS, nameG, nilG, consG, tupG, isD, nisD, isNB, opS, pNone, pSome, seqI', itsD, sItS, putD, wipeE, backE, isint, h1, h2]
end L51
end

section
open Pv PySem
set_option Elab.async false
set_option linter.all false
set_option maxRecDepth 100000
namespace L51
def nD (k : Nat) : D := .int k
def rowD (l : List Nat) : D := .lst (l.map nD)
def nearD (near : List (List Nat)) : D := .lst (near.map rowD)
def addTo : List (List Nat) → Nat → Nat → List (List Nat)
  | [], _, _ => []
  | l :: ls, 0, y => (l ++ [y]) :: ls
  | l :: ls, x + 1, y => l :: addTo ls x y
theorem addTo_len : ∀ (ls : List (List Nat)) (x y : Nat), (addTo ls x y).length = ls.length
  | [], _, _ => rfl
  | _ :: _, 0, _ => rfl
  | _ :: ls, x + 1, y => by simp [addTo, addTo_len ls x y]
theorem addTo_set : ∀ (ls : List (List Nat)) (x y : Nat) (l : List Nat), ls[x]? = some l → addTo ls x y = ls.set x (l ++ [y])
  | l :: ls, 0, y, l', h => by cases h; rfl
  | l :: ls, x + 1, y, l', h => by
    rw [addTo, List.set_cons_succ, addTo_set ls x y l' (by simpa using h)]
def stepN (near : List (List Nat)) (p : E2) : List (List Nat) := if p.1 = p.2 then addTo near p.1 p.2 else addTo (addTo near p.1 p.2) p.2 p.1
def nearP (n : Nat) (es : List E2) : List (List Nat) := es.foldl stepN (List.replicate n [])
/-- no list is longer than m -/
def Fit (n m : Nat) (near : List (List Nat)) : Prop := near.length = n ∧ ∀ l ∈ near, l.length ≤ m
theorem fit_add {n m x y : Nat} {near : List (List Nat)} (h : Fit n m near) : Fit n (m + 1) (addTo near x y) := by
  refine ⟨by rw [addTo_len]; exact h.1, ?_⟩
  have : ∀ (ls : List (List Nat)) (x : Nat), (∀ l ∈ ls, l.length ≤ m) → ∀ l ∈ addTo ls x y, l.length ≤ m + 1 := by
    intro ls
    induction ls with
    | nil => intro x _ l hl; cases hl
    | cons a ls ih =>
      intro x hh l hl
      cases x with
      | zero =>
        rcases List.mem_cons.mp hl with rfl | hl
        · have := hh a List.mem_cons_self
          simp; omega
        · exact Nat.le_succ_of_le (hh l (List.mem_cons_of_mem _ hl))
      | succ x =>
        rcases List.mem_cons.mp hl with rfl | hl
        · exact Nat.le_succ_of_le (hh _ List.mem_cons_self)
        · exact ih x (fun l hl => hh l (List.mem_cons_of_mem _ hl)) l hl
  exact this near x h.2
theorem fit_mono {n m m' : Nat} {near : List (List Nat)} (h : Fit n m near) (hm : m ≤ m') : Fit n m' near := ⟨h.1, fun l hl => Nat.le_trans (h.2 l hl) hm⟩
theorem fit_step {n m : Nat} {p : E2} {near : List (List Nat)} (h : Fit n m near) : Fit n (m + 2) (stepN near p) := by
  unfold stepN
  split
  · exact fit_mono (fit_add h) (by omega)
  · exact fit_add (fit_add h)
theorem ixN_nat {n k : Nat} (h : k < n) : L2.ixN n (k : Int) = some k := by
  have h1 : (0 : Int) ≤ (k : Int) := by omega
  have h2 : (k : Int) < (n : Int) := by omega
  simp [L2.ixN, h1, h2]
theorem app2_ok {i : Nat} {fi fe : En → Option D} {env : En} {near : List (List Nat)} {x y n m : Nat} (he : env[i]? = some (some (nearD near, 2))) (h1 : fi env = some (.int x)) (h2 : fe env = some (.int y)) (hf : Fit n m near) (hx : x < n) (hm : m < 100000) :
    app2S i fi fe env = .nx (env.set i (some (nearD (addTo near x y), 2))) := by
  have hx' : x < near.length := by rw [hf.1]; exact hx
  have hl : near[x]? = some near[x] := List.getElem?_eq_getElem hx'
  have hlen : near[x].length ≤ m := hf.2 _ (List.getElem_mem hx')
  unfold app2S
  rw [he, h1, h2]
  simp only [nearD, List.length_map]
  rw [ixN_nat hx']
  simp only [List.getElem?_map, hl, Option.map_some, rowD, List.length_map]
  rw [if_pos (lt_lim (by omega)), addTo_set near x y _ hl, List.map_set]
  simp [rowD, nD]
abbrev npB : En → SR := (seqS
  (app2S 1 (nmK 2) (nmK 3)) (iteS (tst (op2 neD (nmO 2) (nmO 3))) (app2S 1 (nmK 3) (nmK 2)) passS))
theorem np_step (g : D) (z : Sl) (n m : Nat) (near : List (List Nat)) (p : E2) (hf : Fit n m near) (h1 : p.1 < n) (h2 : p.2 < n) (hm : m < 90000) : npB [some (g, 0), some (nearD near, 2), some (.int p.1, 0), some (.int p.2, 0), z] = .nx [some (g, 0), some (nearD (stepN near p), 2), some (.int p.1, 0), some (.int p.2, 0), z] := by
  unfold npB seqS
  rw [app2_ok (x := p.1) (y := p.2) (n := n) (m := m) rfl rfl rfl hf h1 (by omega)]
  by_cases h : p.1 = p.2
  · have h' : (p.1 : Int) = p.2 := by omega
    simp only [List.set_cons_succ, List.set_cons_zero]
    simp [-List.map_map, fnF, en0, seqS, passS, noS, exprS, retS, retN, retM, putE, setS, iteS, vOfE, eOfV, oOfV, kI, kB, kS, kN, nmV, nmO, op1, op2, opC, tst, tru, truD, notT, andT, orT, blV, vbl, andV, orV, notV, iteE, aNil, aCons, lNil, lCons, tupE, lstE, dicE, Opd.get, callF, frR, callI, callL, own1, addD, subD, negD, cmpD, lenD, intD, tupD, lisD, absD, isiD, tyD, min2D, max2D, R.of, raiseS, asgS, nameG, nilG, consG, tupG, isD, nisD, isNB, opS, pNone, pSome, seqI', itsD, sItS, putD, wipeE, backE, h', stepN, h]
  · have h' : ¬ (p.1 : Int) = p.2 := by omega
    simp only [List.set_cons_succ, List.set_cons_zero]
    have := app2_ok (i := 1) (fi := nmK 3) (fe := nmK 2) (env := [some (g, 0), some (nearD (addTo near p.1 p.2), 2), some (.int p.1, 0), some (.int p.2, 0), z]) (x := p.2) (y := p.1) (n := n) (m := m + 1) rfl rfl rfl (fit_add hf) h2 (by omega)
    simp [-List.map_map, fnF, en0, seqS, passS, noS, exprS, retS, retN, retM, putE, setS, iteS, vOfE, eOfV, oOfV, kI, kB, kS, kN, nmV, nmO, op1, op2, opC, tst, tru, truD, notT, andT, orT, blV, vbl, andV, orV, notV, iteE, aNil, aCons, lNil, lCons, tupE, lstE, dicE, Opd.get, callF, frR, callI, callL, own1, addD, subD, negD, cmpD, lenD, intD, tupD, lisD, absD, isiD, tyD, min2D, max2D, R.of, raiseS, asgS, nameG, nilG, consG, tupG, isD, nisD, isNB, opS, pNone, pSome, seqI', itsD, sItS, putD, wipeE, backE, h', stepN, h, this]
theorem near_ok {n : Nat} {es : List E2} (g : Okg n es) : F_near_points none [Gd n es] = .ok (nearD (nearP n es), 2) none := by
  have c : comp (rg1 (aCons (vOfE (op2 idxD (nmO 0) (oOfV (kI 0)))) aNil)) (nameG 4) yesT (lstE aNil) 1 [4] [some (Gd n es, 0), none, none, none, none] = .ok (nearD (List.replicate n []), 2) [some (Gd n es, 0), none, none, none, none] := by
    rw [comp_fix (ds := (List.range n).map fun k : Nat => .int k) (f := fun _ => .lst []) (rg1_ok (n := n) (env1 := [some (Gd n es, 0), none, none, none, none]) (by simp [-List.map_map, fnF, en0, seqS, passS, noS, exprS, retS, retN, retM, putE, setS, iteS, vOfE, eOfV, oOfV, kI, kB, kS, kN, nmV, nmO, op1, op2, opC, tst, tru, truD, notT, andT, orT, blV, vbl, andV, orV, notV, iteE, aNil, aCons, lNil, lCons, tupE, lstE, dicE, Opd.get, callF, frR, callI, callL, own1, addD, subD, negD, cmpD, lenD, intD, tupD, lisD, absD, isiD, tyD, min2D, max2D, R.of, raiseS, asgS, nameG, nilG, consG, tupG, isD, nisD, isNB, opS, pNone, pSome, seqI', itsD, sItS, putD, wipeE, backE, Gd, idxD, at_0]) (by have := g.n4; omega)) (env0 := [some (Gd n es, 0), none, none, none, none]) (env2 := [some (Gd n es, 0), none, none, none, none]) rfl rfl (by apply le_lim; have := g.n4; simp; omega) ?_]
    · simp only [nearD, List.map_replicate]
      rw [List.map_map]
      have : (List.range n).map ((fun _ => D.lst []) ∘ fun k : Nat => D.int k) = List.replicate n (rowD []) := by
        have : (fun _ => D.lst []) ∘ (fun k : Nat => D.int k) = fun _ : Nat => rowD [] := rfl
        rw [this, List.map_const', List.length_range]
      rw [this]
    · intro d hd
      exact ⟨[some (Gd n es, 0), none, none, none, some (d, 0)], [some (Gd n es, 0), none, none, none, some (d, 0)], [some (Gd n es, 0), none, none, none, some (d, 0)], by simp [-List.map_map, fnF, en0, seqS, passS, noS, exprS, retS, retN, retM, putE, setS, iteS, vOfE, eOfV, oOfV, kI, kB, kS, kN, nmV, nmO, op1, op2, opC, tst, tru, truD, notT, andT, orT, blV, vbl, andV, orV, notV, iteE, aNil, aCons, lNil, lCons, tupE, lstE, dicE, Opd.get, callF, frR, callI, callL, own1, addD, subD, negD, cmpD, lenD, intD, tupD, lisD, absD, isiD, tyD, min2D, max2D, R.of, raiseS, asgS, nameG, nilG, consG, tupG, isD, nisD, isNB, opS, pNone, pSome, seqI', itsD, sItS, putD, wipeE, backE], rfl, by simp [-List.map_map, fnF, en0, seqS, passS, noS, exprS, retS, retN, retM, putE, setS, iteS, vOfE, eOfV, oOfV, kI, kB, kS, kN, nmV, nmO, op1, op2, opC, tst, tru, truD, notT, andT, orT, blV, vbl, andV, orV, notV, iteE, aNil, aCons, lNil, lCons, tupE, lstE, dicE, Opd.get, callF, frR, callI, callL, own1, addD, subD, negD, cmpD, lenD, intD, tupD, lisD, absD, isiD, tyD, min2D, max2D, R.of, raiseS, asgS, nameG, nilG, consG, tupG, isD, nisD, isNB, opS, pNone, pSome, seqI', itsD, sItS, putD, wipeE, backE], rfl⟩
  have hl := loopS_idx (g := tupG 2 (consG (nameG 2) (consG (nameG 3) nilG))) (body := npB) pr es
    (fun i => [some (Gd n es, 0), some (nearD ((es.take i).foldl stepN (List.replicate n [])), 2), if i = 0 then none else some (.int (es.getD (i - 1) (0, 0)).1, 0), if i = 0 then none else some (.int (es.getD (i - 1) (0, 0)).2, 0), none]) (fun i hi => by
      have hfit : ∀ i, Fit n (2 * i) ((es.take i).foldl stepN (List.replicate n [])) := by
        intro i
        induction i with
        | zero => exact ⟨by simp, fun l hl => by simp at hl; simp [hl.2]⟩
        | succ i ih =>
          by_cases hi : i < es.length
          · rw [List.take_succ_eq_append_getElem hi, List.foldl_append]
            exact fit_step ih
          · rw [List.take_of_length_le (by omega)]
            rw [List.take_of_length_le (by omega)] at ih
            exact fit_mono ih (by omega)
      have hp := List.all_eq_true.mp g.e es[i] (List.getElem_mem hi)
      simp [okE] at hp
      refine ⟨[some (Gd n es, 0), some (nearD ((es.take i).foldl stepN (List.replicate n [])), 2), some (.int es[i].1, 0), some (.int es[i].2, 0), none], by simp [-List.map_map, fnF, en0, seqS, passS, noS, exprS, retS, retN, retM, putE, setS, iteS, vOfE, eOfV, oOfV, kI, kB, kS, kN, nmV, nmO, op1, op2, opC, tst, tru, truD, notT, andT, orT, blV, vbl, andV, orV, notV, iteE, aNil, aCons, lNil, lCons, tupE, lstE, dicE, Opd.get, callF, frR, callI, callL, own1, addD, subD, negD, cmpD, lenD, intD, tupD, lisD, absD, isiD, tyD, min2D, max2D, R.of, raiseS, asgS, nameG, nilG, consG, tupG, isD, nisD, isNB, opS, pNone, pSome, seqI', itsD, sItS, putD, wipeE, backE, pr], ?_⟩
      rw [np_step (Gd n es) none n (2 * i) _ es[i] (hfit i) hp.1 hp.2.1 (by have := g.l; omega), List.take_succ_eq_append_getElem hi, List.foldl_append]
      simp [hi])
  rw [List.take_zero, List.take_length] at hl
  have hf : forS (seqI' (vOfE (op2 idxD (nmO 0) (oOfV (kI 1))))) (tupG 2 (consG (nameG 2) (consG (nameG 3) nilG))) npB [some (Gd n es, 0), some (nearD (List.replicate n []), 2), none, none, none] = .nx [some (Gd n es, 0), some (nearD (nearP n es), 2), if es.length = 0 then none else some (.int (es.getD (es.length - 1) (0, 0)).1, 0), if es.length = 0 then none else some (.int (es.getD (es.length - 1) (0, 0)).2, 0), none] := by
    rw [forS_ok (ds := es.map pr) (env1 := [some (Gd n es, 0), some (nearD (List.replicate n []), 2), none, none, none]) (by simp [-List.map_map, fnF, en0, seqS, passS, noS, exprS, retS, retN, retM, putE, setS, iteS, vOfE, eOfV, oOfV, kI, kB, kS, kN, nmV, nmO, op1, op2, opC, tst, tru, truD, notT, andT, orT, blV, vbl, andV, orV, notV, iteE, aNil, aCons, lNil, lCons, tupE, lstE, dicE, Opd.get, callF, frR, callI, callL, own1, addD, subD, negD, cmpD, lenD, intD, tupD, lisD, absD, isiD, tyD, min2D, max2D, R.of, raiseS, asgS, nameG, nilG, consG, tupG, isD, nisD, isNB, opS, pNone, pSome, seqI', itsD, sItS, putD, wipeE, backE, Gd, idxD, at_1])]
    exact hl
  exact fnF_ret (e := _) ((seqS_nx (show setS 1 _ (en0 5 none [Gd n es]) = .nx [some (Gd n es, 0), some (nearD (List.replicate n []), 2), none, none, none] by simp [-List.map_map, fnF, en0, seqS, passS, noS, exprS, retS, retN, retM, putE, setS, iteS, vOfE, eOfV, oOfV, kI, kB, kS, kN, nmV, nmO, op1, op2, opC, tst, tru, truD, notT, andT, orT, blV, vbl, andV, orV, notV, iteE, aNil, aCons, lNil, lCons, tupE, lstE, dicE, Opd.get, callF, frR, callI, callL, own1, addD, subD, negD, cmpD, lenD, intD, tupD, lisD, absD, isiD, tyD, min2D, max2D, R.of, raiseS, asgS, nameG, nilG, consG, tupG, isD, nisD, isNB, opS, pNone, pSome, seqI', itsD, sItS, putD, wipeE, backE, c])).trans ((seqS_nx hf).trans (by simp [-List.map_map, fnF, en0, seqS, passS, noS, exprS, retS, retN, retM, putE, setS, iteS, vOfE, eOfV, oOfV, kI, kB, kS, kN, nmV, nmO, op1, op2, opC, tst, tru, truD, notT, andT, orT, blV, vbl, andV, orV, notV, iteE, aNil, aCons, lNil, lCons, tupE, lstE, dicE, Opd.get, callF, frR, callI, callL, own1, addD, subD, negD, cmpD, lenD, intD, tupD, lisD, absD, isiD, tyD, min2D, max2D, R.of, raiseS, asgS, nameG, nilG, consG, tupG, isD, nisD, isNB, opS, pNone, pSome, seqI', itsD, sItS, putD, wipeE, backE]; rfl)))
end L51
end

section
open Pv PySem
set_option Elab.async false
set_option linter.all false
set_option maxRecDepth 100000
namespace L51
def nth : List Nat → Nat → Nat
  | [], _ => 0
  | x :: _, 0 => x
  | _ :: xs, n + 1 => nth xs n
def sumN : List Nat → Nat
  | [] => 0
  | x :: xs => x + sumN xs
theorem nth_at : ∀ (l : List Nat) (i : Nat), i < l.length → l[i]? = some (nth l i)
  | x :: l, 0, _ => rfl
  | x :: l, i + 1, h => by simpa [nth] using nth_at l i (by simpa using h)
def ledN (near : List (List Nat)) (row : List Nat) : List Nat := near.map fun o => sumN (o.map fun y => nth row y)
theorem ints_nD : ∀ l : List Nat, D.ints (l.map nD) = some (l.map Int.ofNat)
  | [] => rfl
  | x :: l => by
    show (D.ints (l.map nD)).map (Int.ofNat x :: ·) = _
    rw [ints_nD l]
    rfl
theorem sum_cast : ∀ l : List Nat, (l.map Int.ofNat).sum = (sumN l : Int)
  | [] => rfl
  | x :: l => by
    simp only [List.map_cons, List.sum_cons, sumN]
    rw [sum_cast l]
    simp
theorem sum_nD (l : List Nat) : sumD (.lst (l.map nD)) = some (.int (sumN l), 0) := by
  simp only [sumD, ints_nD, Option.map_some, sum_cast]
theorem idx_row {row : List Nat} {y : Nat} (h : y < row.length) : idxD (rowD row) (.int y) = some (nD (nth row y), 0) := by
  have : L2.atI (row.map nD) (y : Int) = some (nD (nth row y)) := by
    unfold L2.atI
    rw [List.length_map, ixN_nat h]
    simp [nth_at row y h]
  show (L2.atI (row.map nD) (y : Int)).map (·, 0) = _
  rw [this]
  rfl
theorem led_ok (near : List (List Nat)) (row : List Nat) (hl : near.length ≤ 100000) (h1 : ∀ o ∈ near, o.length ≤ 100000) (h2 : ∀ o ∈ near, ∀ y ∈ o, y < row.length) : F_led none [nearD near, rowD row] = .ok (rowD (ledN near row), 1) none := by
  have inner : ∀ o ∈ near, comp (seqI' (nmV 2)) (nameG 3) yesT (eOfV (vOfE (op2 idxD (nmO 1) (nmO 3)))) 0 [3] [some (nearD near, 0), some (rowD row, 0), some (rowD o, 0), none] = .ok (.lst ((o.map fun y => nth row y).map nD), 1) [some (nearD near, 0), some (rowD row, 0), some (rowD o, 0), none] := by
    intro o ho
    rw [comp_fix (ds := o.map nD) (f := fun d => match d with
      | .int (.ofNat y) => nD (nth row y)
      | d => d) (env1 := [some (nearD near, 0), some (rowD row, 0), some (rowD o, 0), none]) (env0 := [some (nearD near, 0), some (rowD row, 0), some (rowD o, 0), none]) (env2 := [some (nearD near, 0), some (rowD row, 0), some (rowD o, 0), none]) (by simp [-List.map_map, fnF, en0, seqS, passS, noS, exprS, retS, retN, retM, putE, setS, iteS, vOfE, eOfV, oOfV, kI, kB, kS, kN, nmV, nmO, op1, op2, opC, tst, tru, truD, notT, andT, orT, blV, vbl, andV, orV, notV, iteE, aNil, aCons, lNil, lCons, tupE, lstE, dicE, Opd.get, callF, frR, callI, callL, own1, addD, subD, negD, cmpD, lenD, intD, tupD, lisD, absD, isiD, tyD, min2D, max2D, R.of, raiseS, asgS, nameG, nilG, consG, tupG, isD, nisD, isNB, opS, pNone, pSome, seqI', itsD, sItS, putD, wipeE, backE, rowD]) rfl rfl (by apply le_lim; simpa using h1 o ho) ?_]
    · rw [List.map_map, List.map_map]
      rfl
    · intro d hd
      obtain ⟨y, hy, rfl⟩ := List.mem_map.mp hd
      have hi := idx_row (h2 o ho y hy)
      refine ⟨[some (nearD near, 0), some (rowD row, 0), some (rowD o, 0), some (.int y, 0)], [some (nearD near, 0), some (rowD row, 0), some (rowD o, 0), some (.int y, 0)], [some (nearD near, 0), some (rowD row, 0), some (rowD o, 0), some (.int y, 0)], by simp [-List.map_map, fnF, en0, seqS, passS, noS, exprS, retS, retN, retM, putE, setS, iteS, vOfE, eOfV, oOfV, kI, kB, kS, kN, nmV, nmO, op1, op2, opC, tst, tru, truD, notT, andT, orT, blV, vbl, andV, orV, notV, iteE, aNil, aCons, lNil, lCons, tupE, lstE, dicE, Opd.get, callF, frR, callI, callL, own1, addD, subD, negD, cmpD, lenD, intD, tupD, lisD, absD, isiD, tyD, min2D, max2D, R.of, raiseS, asgS, nameG, nilG, consG, tupG, isD, nisD, isNB, opS, pNone, pSome, seqI', itsD, sItS, putD, wipeE, backE, nD], rfl, ?_, rfl⟩
      simp [-List.map_map, fnF, en0, seqS, passS, noS, exprS, retS, retN, retM, putE, setS, iteS, vOfE, eOfV, oOfV, kI, kB, kS, kN, nmV, nmO, op1, op2, opC, tst, tru, truD, notT, andT, orT, blV, vbl, andV, orV, notV, iteE, aNil, aCons, lNil, lCons, tupE, lstE, dicE, Opd.get, callF, frR, callI, callL, own1, addD, subD, negD, cmpD, lenD, intD, tupD, lisD, absD, isiD, tyD, min2D, max2D, R.of, raiseS, asgS, nameG, nilG, consG, tupG, isD, nisD, isNB, opS, pNone, pSome, seqI', itsD, sItS, putD, wipeE, backE, hi]
      rfl
  have outer : comp (seqI' (nmV 0)) (nameG 2) yesT (eOfV (vOfE (op1 sumD (oOfV (vOfE (comp (seqI' (nmV 2)) (nameG 3) yesT (eOfV (vOfE (op2 idxD (nmO 1) (nmO 3)))) 0 [3])))))) 0 [2] [some (nearD near, 0), some (rowD row, 0), none, none] = .ok (rowD (ledN near row), 1) [some (nearD near, 0), some (rowD row, 0), none, none] := by
    rw [comp_fix (ds := near.map rowD) (f := fun d => match d with
      | .lst ds => (match sumD (.lst (ds.map fun d => match d with
        | .int (.ofNat y) => nD (nth row y)
        | d => d)) with
        | some p => p.1
        | none => .non)
      | d => d) (env1 := [some (nearD near, 0), some (rowD row, 0), none, none]) (env0 := [some (nearD near, 0), some (rowD row, 0), none, none]) (env2 := [some (nearD near, 0), some (rowD row, 0), none, none]) (by simp [-List.map_map, fnF, en0, seqS, passS, noS, exprS, retS, retN, retM, putE, setS, iteS, vOfE, eOfV, oOfV, kI, kB, kS, kN, nmV, nmO, op1, op2, opC, tst, tru, truD, notT, andT, orT, blV, vbl, andV, orV, notV, iteE, aNil, aCons, lNil, lCons, tupE, lstE, dicE, Opd.get, callF, frR, callI, callL, own1, addD, subD, negD, cmpD, lenD, intD, tupD, lisD, absD, isiD, tyD, min2D, max2D, R.of, raiseS, asgS, nameG, nilG, consG, tupG, isD, nisD, isNB, opS, pNone, pSome, seqI', itsD, sItS, putD, wipeE, backE, nearD]) rfl rfl (by apply le_lim; simpa using hl) ?_]
    · rw [List.map_map]
      have e : ∀ o : List Nat, (o.map nD).map (fun d => match d with
        | .int (.ofNat y) => nD (nth row y)
        | d => d) = (o.map fun y => nth row y).map nD := by
        intro o
        rw [List.map_map, List.map_map]
        rfl
      have : (near.map ((fun d => match d with
      | .lst ds => (match sumD (.lst (ds.map fun d => match d with
        | .int (.ofNat y) => nD (nth row y)
        | d => d)) with
        | some p => p.1
        | none => .non)
      | d => d) ∘ rowD)) = (ledN near row).map nD := by
        unfold ledN
        rw [List.map_map]
        apply List.map_congr_left
        intro o ho
        simp only [Function.comp_def, rowD]
        rw [e o, sum_nD]
        rfl
      rw [this]
      rfl
    · intro d hd
      obtain ⟨o, ho, rfl⟩ := List.mem_map.mp hd
      refine ⟨[some (nearD near, 0), some (rowD row, 0), some (rowD o, 0), none], [some (nearD near, 0), some (rowD row, 0), some (rowD o, 0), none], [some (nearD near, 0), some (rowD row, 0), some (rowD o, 0), none], by simp [-List.map_map, fnF, en0, seqS, passS, noS, exprS, retS, retN, retM, putE, setS, iteS, vOfE, eOfV, oOfV, kI, kB, kS, kN, nmV, nmO, op1, op2, opC, tst, tru, truD, notT, andT, orT, blV, vbl, andV, orV, notV, iteE, aNil, aCons, lNil, lCons, tupE, lstE, dicE, Opd.get, callF, frR, callI, callL, own1, addD, subD, negD, cmpD, lenD, intD, tupD, lisD, absD, isiD, tyD, min2D, max2D, R.of, raiseS, asgS, nameG, nilG, consG, tupG, isD, nisD, isNB, opS, pNone, pSome, seqI', itsD, sItS, putD, wipeE, backE], rfl, ?_, rfl⟩
      have e : (o.map nD).map (fun d => match d with
        | .int (.ofNat y) => nD (nth row y)
        | d => d) = (o.map fun y => nth row y).map nD := by
        rw [List.map_map, List.map_map]
        rfl
      simp [-List.map_map, fnF, en0, seqS, passS, noS, exprS, retS, retN, retM, putE, setS, iteS, vOfE, eOfV, oOfV, kI, kB, kS, kN, nmV, nmO, op1, op2, opC, tst, tru, truD, notT, andT, orT, blV, vbl, andV, orV, notV, iteE, aNil, aCons, lNil, lCons, tupE, lstE, dicE, Opd.get, callF, frR, callI, callL, own1, addD, subD, negD, cmpD, lenD, intD, tupD, lisD, absD, isiD, tyD, min2D, max2D, R.of, raiseS, asgS, nameG, nilG, consG, tupG, isD, nisD, isNB, opS, pNone, pSome, seqI', itsD, sItS, putD, wipeE, backE, inner o ho, sum_nD]
      simp only [rowD]
      rw [e, sum_nD]
  unfold F_led g_led
  simp [-List.map_map, fnF, en0, seqS, passS, noS, exprS, retS, retN, retM, putE, setS, iteS, vOfE, eOfV, oOfV, kI, kB, kS, kN, nmV, nmO, op1, op2, opC, tst, tru, truD, notT, andT, orT, blV, vbl, andV, orV, notV, iteE, aNil, aCons, lNil, lCons, tupE, lstE, dicE, Opd.get, callF, frR, callI, callL, own1, addD, subD, negD, cmpD, lenD, intD, tupD, lisD, absD, isiD, tyD, min2D, max2D, R.of, raiseS, asgS, nameG, nilG, consG, tupG, isD, nisD, isNB, opS, pNone, pSome, seqI', itsD, sItS, putD, wipeE, backE, outer]
def startP (n : Nat) : List Nat := (List.range n).map fun y => if y = 0 then 1 else 0
theorem start_ok (n : Nat) (h : n ≤ 1000) : F_start_row none [.int n, .int 0] = .ok (rowD (startP n), 1) none := by
  have c : comp (rg1 (aCons (nmV 0) aNil)) (nameG 2) yesT (eOfV (vOfE (op1 intD (oOfV (vOfE (op2 eqD (nmO 2) (nmO 1))))))) 0 [2] [some (.int n, 0), some (.int 0, 0), none] = .ok (rowD (startP n), 1) [some (.int n, 0), some (.int 0, 0), none] := by
    rw [comp_fix (ds := (List.range n).map fun k : Nat => .int k) (f := fun d => match d with
      | .int (.ofNat y) => nD (if y = 0 then 1 else 0)
      | d => d) (rg1_ok (n := n) (env1 := [some (.int n, 0), some (.int 0, 0), none]) (by simp [-List.map_map, fnF, en0, seqS, passS, noS, exprS, retS, retN, retM, putE, setS, iteS, vOfE, eOfV, oOfV, kI, kB, kS, kN, nmV, nmO, op1, op2, opC, tst, tru, truD, notT, andT, orT, blV, vbl, andV, orV, notV, iteE, aNil, aCons, lNil, lCons, tupE, lstE, dicE, Opd.get, callF, frR, callI, callL, own1, addD, subD, negD, cmpD, lenD, intD, tupD, lisD, absD, isiD, tyD, min2D, max2D, R.of, raiseS, asgS, nameG, nilG, consG, tupG, isD, nisD, isNB, opS, pNone, pSome, seqI', itsD, sItS, putD, wipeE, backE]) (by omega)) (env0 := [some (.int n, 0), some (.int 0, 0), none]) (env2 := [some (.int n, 0), some (.int 0, 0), none]) rfl rfl (by apply le_lim; simp; omega) ?_]
    · rw [List.map_map]
      simp only [startP, rowD, List.map_map]
      rfl
    · intro d hd
      obtain ⟨y, hy, rfl⟩ := List.mem_map.mp hd
      refine ⟨[some (.int n, 0), some (.int 0, 0), some (.int y, 0)], [some (.int n, 0), some (.int 0, 0), some (.int y, 0)], [some (.int n, 0), some (.int 0, 0), some (.int y, 0)], by simp [-List.map_map, fnF, en0, seqS, passS, noS, exprS, retS, retN, retM, putE, setS, iteS, vOfE, eOfV, oOfV, kI, kB, kS, kN, nmV, nmO, op1, op2, opC, tst, tru, truD, notT, andT, orT, blV, vbl, andV, orV, notV, iteE, aNil, aCons, lNil, lCons, tupE, lstE, dicE, Opd.get, callF, frR, callI, callL, own1, addD, subD, negD, cmpD, lenD, intD, tupD, lisD, absD, isiD, tyD, min2D, max2D, R.of, raiseS, asgS, nameG, nilG, consG, tupG, isD, nisD, isNB, opS, pNone, pSome, seqI', itsD, sItS, putD, wipeE, backE], rfl, ?_, rfl⟩
      by_cases h0 : y = 0
      · subst h0
        simp [-List.map_map, fnF, en0, seqS, passS, noS, exprS, retS, retN, retM, putE, setS, iteS, vOfE, eOfV, oOfV, kI, kB, kS, kN, nmV, nmO, op1, op2, opC, tst, tru, truD, notT, andT, orT, blV, vbl, andV, orV, notV, iteE, aNil, aCons, lNil, lCons, tupE, lstE, dicE, Opd.get, callF, frR, callI, callL, own1, addD, subD, negD, cmpD, lenD, intD, tupD, lisD, absD, isiD, tyD, min2D, max2D, R.of, raiseS, asgS, nameG, nilG, consG, tupG, isD, nisD, isNB, opS, pNone, pSome, seqI', itsD, sItS, putD, wipeE, backE, nD]
      · have h1 : ¬ (y : Int) = 0 := by omega
        simp [-List.map_map, fnF, en0, seqS, passS, noS, exprS, retS, retN, retM, putE, setS, iteS, vOfE, eOfV, oOfV, kI, kB, kS, kN, nmV, nmO, op1, op2, opC, tst, tru, truD, notT, andT, orT, blV, vbl, andV, orV, notV, iteE, aNil, aCons, lNil, lCons, tupE, lstE, dicE, Opd.get, callF, frR, callI, callL, own1, addD, subD, negD, cmpD, lenD, intD, tupD, lisD, absD, isiD, tyD, min2D, max2D, R.of, raiseS, asgS, nameG, nilG, consG, tupG, isD, nisD, isNB, opS, pNone, pSome, seqI', itsD, sItS, putD, wipeE, backE, nD, h0, h1]
  unfold F_start_row g_start_row
  simp [-List.map_map, fnF, en0, seqS, passS, noS, exprS, retS, retN, retM, putE, setS, iteS, vOfE, eOfV, oOfV, kI, kB, kS, kN, nmV, nmO, op1, op2, opC, tst, tru, truD, notT, andT, orT, blV, vbl, andV, orV, notV, iteE, aNil, aCons, lNil, lCons, tupE, lstE, dicE, Opd.get, callF, frR, callI, callL, own1, addD, subD, negD, cmpD, lenD, intD, tupD, lisD, absD, isiD, tyD, min2D, max2D, R.of, raiseS, asgS, nameG, nilG, consG, tupG, isD, nisD, isNB, opS, pNone, pSome, seqI', itsD, sItS, putD, wipeE, backE, c]
end L51
end

section
open Pv PySem
set_option Elab.async false
set_option linter.all false
set_option maxRecDepth 100000
namespace L51
def rowAt (near : List (List Nat)) (n : Nat) : Nat → List Nat
  | 0 => startP n
  | k + 1 => ledN near (rowAt near n k)
theorem rowAt_len {near : List (List Nat)} {n : Nat} (h : near.length = n) : ∀ k, (rowAt near n k).length = n
  | 0 => by simp [rowAt, startP]
  | k + 1 => by simp [rowAt, ledN, h]
/-- lists of points below n, not too long -/
structure Nr (n : Nat) (near : List (List Nat)) : Prop where
  l : near.length = n
  n1 : 1 ≤ n
  n4 : n ≤ 400
  o : ∀ o ∈ near, o.length ≤ 100000
  y : ∀ o ∈ near, ∀ y ∈ o, y < n
theorem below_add {n x y : Nat} (hy : y < n) : ∀ (ls : List (List Nat)) (x : Nat), (∀ o ∈ ls, ∀ z ∈ o, z < n) → ∀ o ∈ addTo ls x y, ∀ z ∈ o, z < n
  | [], _, h, o, ho, _, _ => by cases ho
  | a :: ls, 0, h, o, ho, z, hz => by
    rcases List.mem_cons.mp ho with rfl | ho
    · rcases List.mem_append.mp hz with hz | hz
      · exact h a List.mem_cons_self z hz
      · rw [List.mem_singleton.mp hz]; exact hy
    · exact h o (List.mem_cons_of_mem _ ho) z hz
  | a :: ls, x + 1, h, o, ho, z, hz => by
    rcases List.mem_cons.mp ho with rfl | ho
    · exact h _ List.mem_cons_self z hz
    · exact below_add (x := x) hy ls x (fun o ho => h o (List.mem_cons_of_mem _ ho)) o ho z hz
theorem nr_of {n : Nat} {es : List E2} (g : Okg n es) : Nr n (nearP n es) := by
  have key : ∀ (l : List E2) (near : List (List Nat)) (m : Nat), (∀ p ∈ l, okE n p = true) → Fit n m near → (∀ o ∈ near, ∀ z ∈ o, z < n) → Fit n (m + 2 * l.length) (l.foldl stepN near) ∧ ∀ o ∈ l.foldl stepN near, ∀ z ∈ o, z < n := by
    intro l
    induction l with
    | nil => intro near m _ hf hb; exact ⟨hf, hb⟩
    | cons p l ih =>
      intro near m hp hf hb
      have h0 := hp p List.mem_cons_self
      simp [okE] at h0
      have hb' : ∀ o ∈ stepN near p, ∀ z ∈ o, z < n := by
        unfold stepN
        split
        · exact below_add (x := p.1) h0.2.1 near p.1 hb
        · exact below_add (x := p.2) h0.1 _ p.2 (below_add (x := p.1) h0.2.1 near p.1 hb)
      have := ih (stepN near p) (m + 2) (fun q hq => hp q (List.mem_cons_of_mem _ hq)) (fit_step hf) hb'
      rw [List.foldl_cons]
      refine ⟨?_, this.2⟩
      have e : m + 2 + 2 * l.length = m + 2 * (p :: l).length := by simp; omega
      rw [← e]; exact this.1
  have := key es (List.replicate n []) 0 (List.all_eq_true.mp g.e) ⟨by simp, fun l hl => by simp at hl; simp [hl.2]⟩ (fun o ho z hz => by simp at ho; rw [ho.2] at hz; cases hz)
  exact ⟨this.1.1, g.n1, g.n4, fun o ho => Nat.le_trans (this.1.2 o ho) (by have := g.l; omega), this.2⟩
theorem led_at {n : Nat} {near : List (List Nat)} (h : Nr n near) (k : Nat) : F_led none [nearD near, rowD (rowAt near n k)] = .ok (rowD (rowAt near n (k + 1)), 1) none :=
  led_ok near _ (by rw [h.l]; have := h.n4; omega) h.o fun o ho y hy => by rw [rowAt_len h.l]; exact h.y o ho y hy
def counts (near : List (List Nat)) (n k : Nat) : List Nat := (List.range (k + 1)).map fun i => nth (rowAt near n i) 0
theorem nth_start (n : Nat) (h : 1 ≤ n) : nth (startP n) 0 = 1 := by
  obtain ⟨m, rfl⟩ : ∃ m, n = m + 1 := ⟨n - 1, by omega⟩
  unfold startP
  rw [List.range_succ_eq_map]
  rfl
abbrev wcB : En → SR := (seqS
  (setS 4 ((callF 2 (F_led) (aCons ((nmV 3)) (aCons ((nmV 4)) aNil))))) (appS 5 ((vOfE (op2 idxD (nmO 4) (oOfV (kI 0)))))))
theorem wc_step (G : D) (K : D) (z : Sl) (d : Nat) {n : Nat} {near : List (List Nat)} (h : Nr n near) (k : Nat) (hk : k < 1000) : wcB [some (G, 0), some (K, 0), z, some (nearD near, d), some (rowD (rowAt near n k), 1), some (rowD (counts near n k), 1)] = .nx [some (G, 0), some (K, 0), z, some (nearD near, 0), some (rowD (rowAt near n (k + 1)), 1), some (rowD (counts near n (k + 1)), 1)] := by
  have h0 : 0 < (rowAt near n (k + 1)).length := by rw [rowAt_len h.l]; exact h.n1
  have hi := idx_row h0
  have hc : counts near n (k + 1) = counts near n k ++ [nth (rowAt near n (k + 1)) 0] := by
    unfold counts
    rw [List.range_succ, List.map_append]
    rfl
  have e1 : setS 4 ((callF 2 (F_led) (aCons ((nmV 3)) (aCons ((nmV 4)) aNil)))) [some (G, 0), some (K, 0), z, some (nearD near, d), some (rowD (rowAt near n k), 1), some (rowD (counts near n k), 1)] = .nx [some (G, 0), some (K, 0), z, some (nearD near, 0), some (rowD (rowAt near n (k + 1)), 1), some (rowD (counts near n k), 1)] := by
    simp [-List.map_map, fnF, en0, seqS, passS, noS, exprS, retS, retN, retM, putE, setS, iteS, vOfE, eOfV, oOfV, kI, kB, kS, kN, nmV, nmO, op1, op2, opC, tst, tru, truD, notT, andT, orT, blV, vbl, andV, orV, notV, iteE, aNil, aCons, lNil, lCons, tupE, lstE, dicE, Opd.get, callF, frR, callI, callL, own1, addD, subD, negD, cmpD, lenD, intD, tupD, lisD, absD, isiD, tyD, min2D, max2D, R.of, raiseS, asgS, nameG, nilG, consG, tupG, isD, nisD, isNB, opS, pNone, pSome, seqI', itsD, sItS, putD, wipeE, backE, led_at h k]
  have hl : (counts near n k).length < lim := by apply lt_lim; simp [counts]; omega
  refine (seqS_nx e1).trans ?_
  have hi' : idxD (D.lst (List.map nD (rowAt near n (k + 1)))) (.int 0) = some (nD (nth (rowAt near n (k + 1)) 0), 0) := hi
  unfold appS
  rw [if_pos (by rfl)]
  simp [-List.map_map, fnF, en0, seqS, passS, noS, exprS, retS, retN, retM, putE, setS, iteS, vOfE, eOfV, oOfV, kI, kB, kS, kN, nmV, nmO, op1, op2, opC, tst, tru, truD, notT, andT, orT, blV, vbl, andV, orV, notV, iteE, aNil, aCons, lNil, lCons, tupE, lstE, dicE, Opd.get, callF, frR, callI, callL, own1, addD, subD, negD, cmpD, lenD, intD, tupD, lisD, absD, isiD, tyD, min2D, max2D, R.of, raiseS, asgS, nameG, nilG, consG, tupG, isD, nisD, isNB, opS, pNone, pSome, seqI', itsD, sItS, putD, wipeE, backE, hi', rowD, hc, hl]
theorem walk_ok {n : Nat} {es : List E2} (g : Okg n es) (k : Nat) (hk : k ≤ 12) : F_walk_counts none [Gd n es, .int k] = .ok (rowD (counts (nearP n es) n k), 1) none := by
  have h := nr_of g
  have e1 : par3S 3 4 5 (lCons ((callF 1 (F_near_points) (aCons ((nmV 0)) aNil))) (lCons ((callF 2 (F_start_row) (aCons ((vOfE (op2 idxD (nmO 0) (oOfV (kI 0))))) (aCons (kI 0) aNil)))) (lCons ((lstE (aCons (kI 1) aNil))) lNil))) (en0 6 none [Gd n es, .int k]) = .nx [some (Gd n es, 0), some (.int k, 0), none, some (nearD (nearP n es), 2), some (rowD (rowAt (nearP n es) n 0), 1), some (rowD (counts (nearP n es) n 0), 1)] := by
    have hi : idxD (Gd n es) (.int 0) = some (.int n, 0) := by simp [Gd, idxD, at_0]
    have hc : counts (nearP n es) n 0 = [1] := by
      have := nth_start n g.n1
      simp [counts, rowAt, this]
    simp [-List.map_map, fnF, en0, seqS, passS, noS, exprS, retS, retN, retM, putE, setS, iteS, vOfE, eOfV, oOfV, kI, kB, kS, kN, nmV, nmO, op1, op2, opC, tst, tru, truD, notT, andT, orT, blV, vbl, andV, orV, notV, iteE, aNil, aCons, lNil, lCons, tupE, lstE, dicE, Opd.get, callF, frR, callI, callL, own1, addD, subD, negD, cmpD, lenD, intD, tupD, lisD, absD, isiD, tyD, min2D, max2D, R.of, raiseS, asgS, nameG, nilG, consG, tupG, isD, nisD, isNB, opS, pNone, pSome, seqI', itsD, sItS, putD, wipeE, backE, par3S, near_ok g, start_ok n (by have := g.n4; omega), hi, rowAt, hc]
    simp [rowD, nD]
  have hl := loopS_range (g := nameG 2) (body := wcB) (fun i : Nat => .int i) k (fun i => [some (Gd n es, 0), some (.int k, 0), if i = 0 then none else some (.int (i - 1 : Nat), 0), some (nearD (nearP n es), if i = 0 then 2 else 0), some (rowD (rowAt (nearP n es) n i), 1), some (rowD (counts (nearP n es) n i), 1)]) (fun i hi => by
    refine ⟨[some (Gd n es, 0), some (.int k, 0), some (.int i, 0), some (nearD (nearP n es), if i = 0 then 2 else 0), some (rowD (rowAt (nearP n es) n i), 1), some (rowD (counts (nearP n es) n i), 1)], by simp [-List.map_map, fnF, en0, seqS, passS, noS, exprS, retS, retN, retM, putE, setS, iteS, vOfE, eOfV, oOfV, kI, kB, kS, kN, nmV, nmO, op1, op2, opC, tst, tru, truD, notT, andT, orT, blV, vbl, andV, orV, notV, iteE, aNil, aCons, lNil, lCons, tupE, lstE, dicE, Opd.get, callF, frR, callI, callL, own1, addD, subD, negD, cmpD, lenD, intD, tupD, lisD, absD, isiD, tyD, min2D, max2D, R.of, raiseS, asgS, nameG, nilG, consG, tupG, isD, nisD, isNB, opS, pNone, pSome, seqI', itsD, sItS, putD, wipeE, backE], ?_⟩
    rw [wc_step (Gd n es) (.int k) (some (.int i, 0)) _ h i (by omega)]
    rfl)
  have e2 : forS (rg1 (aCons ((nmV 1)) aNil)) (nameG 2) wcB [some (Gd n es, 0), some (.int k, 0), none, some (nearD (nearP n es), 2), some (rowD (rowAt (nearP n es) n 0), 1), some (rowD (counts (nearP n es) n 0), 1)] = .nx [some (Gd n es, 0), some (.int k, 0), if k = 0 then none else some (.int (k - 1 : Nat), 0), some (nearD (nearP n es), if k = 0 then 2 else 0), some (rowD (rowAt (nearP n es) n k), 1), some (rowD (counts (nearP n es) n k), 1)] := by
    rw [forS_ok (rg1_ok (n := k) (env1 := [some (Gd n es, 0), some (.int k, 0), none, some (nearD (nearP n es), 2), some (rowD (rowAt (nearP n es) n 0), 1), some (rowD (counts (nearP n es) n 0), 1)]) (by simp [-List.map_map, fnF, en0, seqS, passS, noS, exprS, retS, retN, retM, putE, setS, iteS, vOfE, eOfV, oOfV, kI, kB, kS, kN, nmV, nmO, op1, op2, opC, tst, tru, truD, notT, andT, orT, blV, vbl, andV, orV, notV, iteE, aNil, aCons, lNil, lCons, tupE, lstE, dicE, Opd.get, callF, frR, callI, callL, own1, addD, subD, negD, cmpD, lenD, intD, tupD, lisD, absD, isiD, tyD, min2D, max2D, R.of, raiseS, asgS, nameG, nilG, consG, tupG, isD, nisD, isNB, opS, pNone, pSome, seqI', itsD, sItS, putD, wipeE, backE]) (by omega))]
    exact hl
  exact fnF_ret ((seqS_nx e1).trans ((seqS_nx e2).trans (by simp [-List.map_map, fnF, en0, seqS, passS, noS, exprS, retS, retN, retM, putE, setS, iteS, vOfE, eOfV, oOfV, kI, kB, kS, kN, nmV, nmO, op1, op2, opC, tst, tru, truD, notT, andT, orT, blV, vbl, andV, orV, notV, iteE, aNil, aCons, lNil, lCons, tupE, lstE, dicE, Opd.get, callF, frR, callI, callL, own1, addD, subD, negD, cmpD, lenD, intD, tupD, lisD, absD, isiD, tyD, min2D, max2D, R.of, raiseS, asgS, nameG, nilG, consG, tupG, isD, nisD, isNB, opS, pNone, pSome, seqI', itsD, sItS, putD, wipeE, backE]; rfl)))
/-- what closed_walks tells -/
def closedD (n : Nat) (es : List E2) (k : Nat) : D := .tup ((List.range k).map fun i => .tup [.int (nth (rowAt (nearP n es) n (i + 1)) 0 : Nat), .int 1])
theorem closed_ok {n : Nat} {es : List E2} (g : Okg n es) (k : Nat) (hk : k ≤ 12) : F_closed_walks none [Gd n es, .int k] = .ok (closedD n es k, 0) none := by
  have hcut : cutD ((counts (nearP n es) n k).map nD) (some 1) none = ((List.range k).map fun i => nD (nth (rowAt (nearP n es) n (i + 1)) 0)) := by
    rw [cut1]
    unfold counts
    rw [List.range_succ_eq_map]
    simp [Function.comp_def]
  have c : comp (seqI' (vOfE (opS (oOfV (vOfE (callF 2 F_walk_counts (aCons (nmV 0) (aCons (nmV 1) aNil))))) (pSome (kI 1)) pNone))) (nameG 2) yesT (eOfV (tupE (aCons (nmV 2) (aCons (kI 1) aNil)))) 0 [2] [some (Gd n es, 0), some (.int k, 0), none] = .ok (.lst ((List.range k).map fun i => .tup [.int (nth (rowAt (nearP n es) n (i + 1)) 0 : Nat), .int 1]), 1) [some (Gd n es, 0), some (.int k, 0), none] := by
    rw [comp_fix (ds := ((List.range k).map fun i => nD (nth (rowAt (nearP n es) n (i + 1)) 0))) (f := fun d => .tup [d, .int 1]) (env1 := [some (Gd n es, 0), some (.int k, 0), none]) (env0 := [some (Gd n es, 0), some (.int k, 0), none]) (env2 := [some (Gd n es, 0), some (.int k, 0), none]) (by simp [-List.map_map, fnF, en0, seqS, passS, noS, exprS, retS, retN, retM, putE, setS, iteS, vOfE, eOfV, oOfV, kI, kB, kS, kN, nmV, nmO, op1, op2, opC, tst, tru, truD, notT, andT, orT, blV, vbl, andV, orV, notV, iteE, aNil, aCons, lNil, lCons, tupE, lstE, dicE, Opd.get, callF, frR, callI, callL, own1, addD, subD, negD, cmpD, lenD, intD, tupD, lisD, absD, isiD, tyD, min2D, max2D, R.of, raiseS, asgS, nameG, nilG, consG, tupG, isD, nisD, isNB, opS, pNone, pSome, seqI', itsD, sItS, putD, wipeE, backE, walk_ok g k hk, rowD, slD, hcut]) rfl rfl (by apply le_lim; simp; omega) ?_]
    · rw [List.map_map]; rfl
    · intro d hd
      exact ⟨[some (Gd n es, 0), some (.int k, 0), some (d, 0)], [some (Gd n es, 0), some (.int k, 0), some (d, 0)], [some (Gd n es, 0), some (.int k, 0), some (d, 0)], by simp [-List.map_map, fnF, en0, seqS, passS, noS, exprS, retS, retN, retM, putE, setS, iteS, vOfE, eOfV, oOfV, kI, kB, kS, kN, nmV, nmO, op1, op2, opC, tst, tru, truD, notT, andT, orT, blV, vbl, andV, orV, notV, iteE, aNil, aCons, lNil, lCons, tupE, lstE, dicE, Opd.get, callF, frR, callI, callL, own1, addD, subD, negD, cmpD, lenD, intD, tupD, lisD, absD, isiD, tyD, min2D, max2D, R.of, raiseS, asgS, nameG, nilG, consG, tupG, isD, nisD, isNB, opS, pNone, pSome, seqI', itsD, sItS, putD, wipeE, backE], rfl, by simp [-List.map_map, fnF, en0, seqS, passS, noS, exprS, retS, retN, retM, putE, setS, iteS, vOfE, eOfV, oOfV, kI, kB, kS, kN, nmV, nmO, op1, op2, opC, tst, tru, truD, notT, andT, orT, blV, vbl, andV, orV, notV, iteE, aNil, aCons, lNil, lCons, tupE, lstE, dicE, Opd.get, callF, frR, callI, callL, own1, addD, subD, negD, cmpD, lenD, intD, tupD, lisD, absD, isiD, tyD, min2D, max2D, R.of, raiseS, asgS, nameG, nilG, consG, tupG, isD, nisD, isNB, opS, pNone, pSome, seqI', itsD, sItS, putD, wipeE, backE], rfl⟩
  unfold F_closed_walks g_closed_walks
  simp [-List.map_map, fnF, en0, seqS, passS, noS, exprS, retS, retN, retM, putE, setS, iteS, vOfE, eOfV, oOfV, kI, kB, kS, kN, nmV, nmO, op1, op2, opC, tst, tru, truD, notT, andT, orT, blV, vbl, andV, orV, notV, iteE, aNil, aCons, lNil, lCons, tupE, lstE, dicE, Opd.get, callF, frR, callI, callL, own1, addD, subD, negD, cmpD, lenD, intD, tupD, lisD, absD, isiD, tyD, min2D, max2D, R.of, raiseS, asgS, nameG, nilG, consG, tupG, isD, nisD, isNB, opS, pNone, pSome, seqI', itsD, sItS, putD, wipeE, backE, check_ok g, clen_ok k hk, c, closedD]
end L51
end

section
open Pv PySem
set_option Elab.async false
set_option linter.all false
set_option maxRecDepth 100000
namespace L51
abbrev sTold : Str := PySem.Str.ofString "told"
abbrev sRaised : Str := PySem.Str.ofString "raised"
abbrev sMal : Str := PySem.Str.ofString "malformed"
theorem tk1 : PyData.strOk sTold = true := by decide +kernel
theorem tk2 : PyData.strOk sRaised = true := by decide +kernel
theorem tk3 : PyData.strOk sMal = true := by decide +kernel
/-- plain data: ints, texts, tuples of such -/
def plain : Nat → D → Bool
  | _, .int _ => true
  | _, .str s => PyData.strOk s
  | k + 1, .tup ds => ds.all (plain k) && decide (ds.length ≤ 100000)
  | _, _ => false
theorem idx_tup {ds : List D} {k : Nat} (h : k < ds.length) : idxD (.tup ds) (.int k) = some (ds[k], 0) := by
  show (L2.atI ds (k : Int)).map (·, 0) = _
  rw [at_nat h]
  rfl
theorem same_ok : ∀ (k : Nat) (d : D), plain k d = true → F__law_same (k + 1) none [d, d] = .ok (.bl true, 0) none
  | k, .int i, _ => by
    show fnF 3 false (g__law_same (F__law_same k)) none _ = _
    unfold g__law_same
    simp [-List.map_map, fnF, en0, seqS, passS, noS, exprS, retS, retN, retM, putE, setS, iteS, vOfE, eOfV, oOfV, kI, kB, kS, kN, nmV, nmO, op1, op2, opC, tst, tru, truD, notT, andT, orT, blV, vbl, andV, orV, notV, iteE, aNil, aCons, lNil, lCons, tupE, lstE, dicE, Opd.get, callF, frR, callI, callL, own1, addD, subD, negD, cmpD, lenD, intD, tupD, lisD, absD, isiD, tyD, min2D, max2D, R.of, raiseS, asgS, nameG, nilG, consG, tupG, isD, nisD, isNB, opS, pNone, pSome, seqI', itsD, sItS, putD, wipeE, backE]
  | k, .str s, h => by
    have h : PyData.strOk s = true := by
      cases k <;> exact h
    show fnF 3 false (g__law_same (F__law_same k)) none _ = _
    unfold g__law_same
    simp [-List.map_map, fnF, en0, seqS, passS, noS, exprS, retS, retN, retM, putE, setS, iteS, vOfE, eOfV, oOfV, kI, kB, kS, kN, nmV, nmO, op1, op2, opC, tst, tru, truD, notT, andT, orT, blV, vbl, andV, orV, notV, iteE, aNil, aCons, lNil, lCons, tupE, lstE, dicE, Opd.get, callF, frR, callI, callL, own1, addD, subD, negD, cmpD, lenD, intD, tupD, lisD, absD, isiD, tyD, min2D, max2D, R.of, raiseS, asgS, nameG, nilG, consG, tupG, isD, nisD, isNB, opS, pNone, pSome, seqI', itsD, sItS, putD, wipeE, backE, eqD_str h h]
  | k + 1, .tup ds, h => by
    unfold plain at h
    rw [Bool.and_eq_true, List.all_eq_true, decide_eq_true_eq] at h
    obtain ⟨h1, h2⟩ := h
    have c : comp (rg1 (aCons ((vOfE (op1 lenD (nmV 1 |> oOfV)))) aNil)) (nameG 2) yesT (eOfV (vOfE (callF 2 (F__law_same (k + 1)) (aCons (vOfE (op2 idxD (nmO 0) (nmO 2))) (aCons (vOfE (op2 idxD (nmO 1) (nmO 2))) aNil))))) 0 [2] [some (.tup ds, 0), some (.tup ds, 0), none] = .ok (.lst (List.replicate ds.length (.bl true)), 1) [some (.tup ds, 0), some (.tup ds, 0), none] := by
      rw [comp_fix (ds := (List.range ds.length).map fun k : Nat => .int k) (f := fun _ => .bl true) (rg1_ok (n := ds.length) (env1 := [some (.tup ds, 0), some (.tup ds, 0), none]) (by simp [-List.map_map, fnF, en0, seqS, passS, noS, exprS, retS, retN, retM, putE, setS, iteS, vOfE, eOfV, oOfV, kI, kB, kS, kN, nmV, nmO, op1, op2, opC, tst, tru, truD, notT, andT, orT, blV, vbl, andV, orV, notV, iteE, aNil, aCons, lNil, lCons, tupE, lstE, dicE, Opd.get, callF, frR, callI, callL, own1, addD, subD, negD, cmpD, lenD, intD, tupD, lisD, absD, isiD, tyD, min2D, max2D, R.of, raiseS, asgS, nameG, nilG, consG, tupG, isD, nisD, isNB, opS, pNone, pSome, seqI', itsD, sItS, putD, wipeE, backE]) (by omega)) (env0 := [some (.tup ds, 0), some (.tup ds, 0), none]) (env2 := [some (.tup ds, 0), some (.tup ds, 0), none]) rfl rfl (by apply le_lim; simp; omega) ?_]
      · rw [List.map_map, map_true ((fun _ => D.bl true) ∘ fun k : Nat => D.int k) _ fun _ _ => rfl, List.length_range]
      · intro d hd
        obtain ⟨j, hj, rfl⟩ := List.mem_map.mp hd
        have hj' := List.mem_range.mp hj
        have hi := idx_tup hj'
        have ih := same_ok k ds[j] (h1 _ (List.getElem_mem hj'))
        exact ⟨[some (.tup ds, 0), some (.tup ds, 0), some (.int j, 0)], [some (.tup ds, 0), some (.tup ds, 0), some (.int j, 0)], [some (.tup ds, 0), some (.tup ds, 0), some (.int j, 0)], by simp [-List.map_map, fnF, en0, seqS, passS, noS, exprS, retS, retN, retM, putE, setS, iteS, vOfE, eOfV, oOfV, kI, kB, kS, kN, nmV, nmO, op1, op2, opC, tst, tru, truD, notT, andT, orT, blV, vbl, andV, orV, notV, iteE, aNil, aCons, lNil, lCons, tupE, lstE, dicE, Opd.get, callF, frR, callI, callL, own1, addD, subD, negD, cmpD, lenD, intD, tupD, lisD, absD, isiD, tyD, min2D, max2D, R.of, raiseS, asgS, nameG, nilG, consG, tupG, isD, nisD, isNB, opS, pNone, pSome, seqI', itsD, sItS, putD, wipeE, backE], rfl, by simp [-List.map_map, fnF, en0, seqS, passS, noS, exprS, retS, retN, retM, putE, setS, iteS, vOfE, eOfV, oOfV, kI, kB, kS, kN, nmV, nmO, op1, op2, opC, tst, tru, truD, notT, andT, orT, blV, vbl, andV, orV, notV, iteE, aNil, aCons, lNil, lCons, tupE, lstE, dicE, Opd.get, callF, frR, callI, callL, own1, addD, subD, negD, cmpD, lenD, intD, tupD, lisD, absD, isiD, tyD, min2D, max2D, R.of, raiseS, asgS, nameG, nilG, consG, tupG, isD, nisD, isNB, opS, pNone, pSome, seqI', itsD, sItS, putD, wipeE, backE, hi, ih], rfl⟩
    have c' : comp (rg1 (aCons ((vOfE (op1 lenD (nmO 1)))) aNil)) (nameG 2) yesT (eOfV (vOfE (callF 2 (F__law_same (k + 1)) (aCons (vOfE (op2 idxD (nmO 0) (nmO 2))) (aCons (vOfE (op2 idxD (nmO 1) (nmO 2))) aNil))))) 0 [2] [some (.tup ds, 0), some (.tup ds, 0), none] = .ok (.lst (List.replicate ds.length (.bl true)), 1) [some (.tup ds, 0), some (.tup ds, 0), none] := c
    show fnF 3 false (g__law_same (F__law_same (k + 1))) none _ = _
    unfold g__law_same
    simp [-List.map_map, fnF, en0, seqS, passS, noS, exprS, retS, retN, retM, putE, setS, iteS, vOfE, eOfV, oOfV, kI, kB, kS, kN, nmV, nmO, op1, op2, opC, tst, tru, truD, notT, andT, orT, blV, vbl, andV, orV, notV, iteE, aNil, aCons, lNil, lCons, tupE, lstE, dicE, Opd.get, callF, frR, callI, callL, own1, addD, subD, negD, cmpD, lenD, intD, tupD, lisD, absD, isiD, tyD, min2D, max2D, R.of, raiseS, asgS, nameG, nilG, consG, tupG, isD, nisD, isNB, opS, pNone, pSome, seqI', itsD, sItS, putD, wipeE, backE, c', allD_true]
  | 0, .tup _, h => by cases h
  | k, .non, h => by cases k <;> cases h
  | k, .bl _, h => by cases k <;> cases h
  | k, .fn _, h => by cases k <;> cases h
  | k, .lst _, h => by cases k <;> cases h
  | k, .dic _ _, h => by cases k <;> cases h
  | k, .scr _, h => by cases k <;> cases h
/-- what _law_told makes of a result -/
def toldD (v : D) : D := .tup [.str sTold, v]
def malD : D := .tup [.str sRaised, .str sMal]
theorem told1 {i : Nat} {F : Sl → List D → FR} {a : D} {p : D × Nat} {fin : Sl} (hT : tab i = some (1, F)) (hF : F none [a] = .ok p fin) : F__law_told none [.fn i, .tup [a]] = .ok (toldD p.1, 0) none := by
  unfold F__law_told g__law_told
  simp [-List.map_map, fnF, en0, seqS, passS, noS, exprS, retS, retN, retM, putE, setS, iteS, vOfE, eOfV, oOfV, kI, kB, kS, kN, nmV, nmO, op1, op2, opC, tst, tru, truD, notT, andT, orT, blV, vbl, andV, orV, notV, iteE, aNil, aCons, lNil, lCons, tupE, lstE, dicE, Opd.get, callF, frR, callI, callL, own1, addD, subD, negD, cmpD, lenD, intD, tupD, lisD, absD, isiD, tyD, min2D, max2D, R.of, raiseS, asgS, nameG, nilG, consG, tupG, isD, nisD, isNB, opS, pNone, pSome, seqI', itsD, sItS, putD, wipeE, backE, hT, hF, tryS, at_0, idxD, toldD]
theorem told1x {i : Nat} {F : Sl → List D → FR} {a : D} (hT : tab i = some (1, F)) (hF : F none [a] = .ex (.mk 1 [])) : F__law_told none [.fn i, .tup [a]] = .ok (malD, 0) none := by
  unfold F__law_told g__law_told
  simp [-List.map_map, fnF, en0, seqS, passS, noS, exprS, retS, retN, retM, putE, setS, iteS, vOfE, eOfV, oOfV, kI, kB, kS, kN, nmV, nmO, op1, op2, opC, tst, tru, truD, notT, andT, orT, blV, vbl, andV, orV, notV, iteE, aNil, aCons, lNil, lCons, tupE, lstE, dicE, Opd.get, callF, frR, callI, callL, own1, addD, subD, negD, cmpD, lenD, intD, tupD, lisD, absD, isiD, tyD, min2D, max2D, R.of, raiseS, asgS, nameG, nilG, consG, tupG, isD, nisD, isNB, opS, pNone, pSome, seqI', itsD, sItS, putD, wipeE, backE, hT, hF, tryS, at_0, idxD, malD, SR.noX]
theorem told2 {i : Nat} {F : Sl → List D → FR} {a b : D} {p : D × Nat} {fin : Sl} (hT : tab i = some (2, F)) (hF : F none [a, b] = .ok p fin) : F__law_told none [.fn i, .tup [a, b]] = .ok (toldD p.1, 0) none := by
  unfold F__law_told g__law_told
  simp [-List.map_map, fnF, en0, seqS, passS, noS, exprS, retS, retN, retM, putE, setS, iteS, vOfE, eOfV, oOfV, kI, kB, kS, kN, nmV, nmO, op1, op2, opC, tst, tru, truD, notT, andT, orT, blV, vbl, andV, orV, notV, iteE, aNil, aCons, lNil, lCons, tupE, lstE, dicE, Opd.get, callF, frR, callI, callL, own1, addD, subD, negD, cmpD, lenD, intD, tupD, lisD, absD, isiD, tyD, min2D, max2D, R.of, raiseS, asgS, nameG, nilG, consG, tupG, isD, nisD, isNB, opS, pNone, pSome, seqI', itsD, sItS, putD, wipeE, backE, hT, hF, tryS, at_0, at_1, idxD, toldD]
theorem is_told {v : D} (h : plain 5 v = true) : F__law_is_told none [toldD v, v] = .ok (.bl true, 0) none := by
  have := same_ok 5 v h
  unfold F__law_is_told g__law_is_told
  simp [-List.map_map, fnF, en0, seqS, passS, noS, exprS, retS, retN, retM, putE, setS, iteS, vOfE, eOfV, oOfV, kI, kB, kS, kN, nmV, nmO, op1, op2, opC, tst, tru, truD, notT, andT, orT, blV, vbl, andV, orV, notV, iteE, aNil, aCons, lNil, lCons, tupE, lstE, dicE, Opd.get, callF, frR, callI, callL, own1, addD, subD, negD, cmpD, lenD, intD, tupD, lisD, absD, isiD, tyD, min2D, max2D, R.of, raiseS, asgS, nameG, nilG, consG, tupG, isD, nisD, isNB, opS, pNone, pSome, seqI', itsD, sItS, putD, wipeE, backE, toldD, idxD, at_0, at_1, eqD_str tk1 tk1, this]
theorem is_raised : F__law_is_raised none [malD, .str sMal] = .ok (.bl true, 0) none := by
  have := same_ok 5 (.str sMal) tk3
  unfold F__law_is_raised g__law_is_raised
  simp [-List.map_map, fnF, en0, seqS, passS, noS, exprS, retS, retN, retM, putE, setS, iteS, vOfE, eOfV, oOfV, kI, kB, kS, kN, nmV, nmO, op1, op2, opC, tst, tru, truD, notT, andT, orT, blV, vbl, andV, orV, notV, iteE, aNil, aCons, lNil, lCons, tupE, lstE, dicE, Opd.get, callF, frR, callI, callL, own1, addD, subD, negD, cmpD, lenD, intD, tupD, lisD, absD, isiD, tyD, min2D, max2D, R.of, raiseS, asgS, nameG, nilG, consG, tupG, isD, nisD, isNB, opS, pNone, pSome, seqI', itsD, sItS, putD, wipeE, backE, malD, idxD, at_0, at_1, eqD_str tk2 tk2, this]
end L51
end

section
open Pv PySem
set_option Elab.async false
set_option linter.all false
set_option maxRecDepth 1000000
namespace L51
def okB (n : Nat) (es : List E2) : Bool := Nat.ble 1 n && (Nat.ble n 400 && (Nat.ble es.length 4000 && (es.all (okE n) && chain es)))
theorem okg_of {n : Nat} {es : List E2} (h : okB n es = true) : Okg n es := by
  unfold okB at h
  simp only [Bool.and_eq_true] at h
  exact ⟨Nat.le_of_ble_eq_true h.1, Nat.le_of_ble_eq_true h.2.1, Nat.le_of_ble_eq_true h.2.2.1, h.2.2.2.1, h.2.2.2.2⟩
/-- the pairs (x, y), x < m, x < y < n -/
def clqE (n : Nat) : Nat → List E2
  | 0 => []
  | m + 1 => clqE n m ++ (List.range (n - (m + 1))).map fun k => (m, m + 1 + k)
theorem mem_clqE {n : Nat} {p : E2} : ∀ {m : Nat}, p ∈ clqE n m ↔ p.1 < m ∧ p.1 < p.2 ∧ p.2 < n
  | 0 => by simp [clqE]
  | m + 1 => by
    obtain ⟨x, y⟩ := p
    simp only [clqE, List.mem_append, mem_clqE (m := m), List.mem_map, List.mem_range, Prod.mk.injEq]
    constructor
    · rintro (h | ⟨k, hk, e1, e2⟩)
      · omega
      · omega
    · rintro ⟨h1, h2, h3⟩
      by_cases h : x < m
      · exact .inl ⟨h, h2, h3⟩
      · exact .inr ⟨y - (m + 1), by omega, by omega, by omega⟩
theorem mem_clqR {p : E2} : ∀ {n : Nat}, p ∈ clqR n ↔ p.1 < p.2 ∧ p.2 < n
  | 0 => by simp [clqR]
  | n + 1 => by
    obtain ⟨x, y⟩ := p
    simp only [clqR, List.mem_append, mem_clqR (n := n), List.mem_map, List.mem_range, Prod.mk.injEq]
    constructor
    · rintro (h | ⟨k, hk, e1, e2⟩)
      · omega
      · omega
    · rintro ⟨h1, h2⟩
      by_cases h : y < n
      · exact .inl ⟨h1, h⟩
      · exact .inr ⟨x, by omega, by omega, by omega⟩
theorem nd_map {f : Nat → E2} (hf : ∀ a b, f a = f b → a = b) (n : Nat) : ((List.range n).map f).Nodup := by
  unfold List.Nodup
  rw [List.pairwise_map]
  exact List.Pairwise.imp (fun {a b} h e => h (hf a b e)) (List.nodup_range (n := n))
theorem nd_clqR : ∀ n : Nat, (clqR n).Nodup
  | 0 => by simp [clqR]
  | n + 1 => by
    unfold clqR
    rw [List.nodup_append]
    refine ⟨nd_clqR n, nd_map (fun a b e => by simpa using e) n, fun p hp q hq e => ?_⟩
    subst e
    have h1 := (mem_clqR.mp hp).2
    obtain ⟨k, _, rfl⟩ := List.mem_map.mp hq
    simp at h1
theorem nd_clqE (n : Nat) : ∀ m : Nat, (clqE n m).Nodup
  | 0 => by simp [clqE]
  | m + 1 => by
    unfold clqE
    rw [List.nodup_append]
    refine ⟨nd_clqE n m, nd_map (fun a b e => by simpa using e) _, fun p hp q hq e => ?_⟩
    subst e
    have h1 := (mem_clqE.mp hp).1
    obtain ⟨k, _, rfl⟩ := List.mem_map.mp hq
    simp at h1
theorem norm_clqR (n : Nat) : (clqR n).map normP = clqR n := by
  have : ∀ l : List E2, (∀ p ∈ l, p.1 < p.2) → l.map normP = l := by
    intro l
    induction l with
    | nil => intro _; rfl
    | cons p l ih =>
      intro h
      have h0 := h p List.mem_cons_self
      rw [List.map_cons, ih fun q hq => h q (List.mem_cons_of_mem _ hq)]
      obtain ⟨x, y⟩ := p
      have h0 : x < y := h0
      have e : normP (x, y) = (x, y) := by
        simp only [normP]
        rw [Nat.min_eq_left (by omega), Nat.max_eq_right (by omega)]
      rw [e]
  exact this _ fun p hp => (mem_clqR.mp hp).1
theorem perm_clq (n : Nat) : (clqR n).Perm (clqE n n) := by
  rw [List.perm_ext_iff_of_nodup (nd_clqR n) (nd_clqE n n)]
  intro p
  rw [mem_clqR, mem_clqE]
  omega
theorem leN_iff (p q : E2) : leN p q = true ↔ p.1 < q.1 ∨ (p.1 = q.1 ∧ p.2 ≤ q.2) := by
  unfold leN
  by_cases h : p.1 = q.1
  · simp [h]
  · simp [h]
theorem sorted_clqE (n : Nat) : ∀ m : Nat, (clqE n m).Pairwise fun p q => leN p q = true
  | 0 => by simp [clqE]
  | m + 1 => by
    unfold clqE
    rw [List.pairwise_append]
    refine ⟨sorted_clqE n m, ?_, fun p hp q hq => ?_⟩
    · rw [List.pairwise_map]
      refine List.Pairwise.imp (fun {a b} h => ?_) (List.pairwise_lt_range (n := n - (m + 1)))
      rw [leN_iff]
      simp; omega
    · have h1 := (mem_clqE.mp hp).1
      obtain ⟨k, _, rfl⟩ := List.mem_map.mp hq
      rw [leN_iff]
      simp; omega
theorem sortP_uniq {es fs : List E2} (hp : es.Perm fs) (hs : fs.Pairwise fun p q => leN p q = true) : sortP es = fs := by
  unfold sortP
  rw [msr_eq leN _ _ (Nat.le_succ _)]
  have h1 : (es.mergeSort leN).Pairwise fun p q => leN p q = true := List.pairwise_mergeSort (fun a b c h1 h2 => by
    rw [leN_iff] at *
    omega) (fun a b => by
    rw [Bool.or_eq_true, leN_iff, leN_iff]
    omega) es
  refine List.Perm.eq_of_pairwise (fun a b _ _ h1 h2 => ?_) h1 hs ((List.mergeSort_perm es leN).trans hp)
  rw [leN_iff] at h1 h2
  obtain ⟨a1, a2⟩ := a
  obtain ⟨b1, b2⟩ := b
  simp at h1 h2
  simp; omega
theorem sort_clq (n : Nat) : sortP ((clqR n).map normP) = clqE n n := by
  rw [norm_clqR]
  exact sortP_uniq (perm_clq n) (sorted_clqE n n)
theorem chain_of : ∀ {es : List E2}, (es.Pairwise fun p q => leN p q = true) → chain es = true
  | [], _ => rfl
  | [p], _ => by simp [chain]
  | p :: q :: es, h => by
    have ih := chain_of (es := q :: es) (List.Pairwise.of_cons h)
    unfold chain at ih ⊢
    have h0 := (List.pairwise_cons.mp h).1 q List.mem_cons_self
    simp only [List.drop_succ_cons, List.drop_zero, List.zip_cons_cons, List.all_cons, h0, Bool.true_and] at ih ⊢
    exact ih
theorem okg_clq (n : Nat) (hn : 1 ≤ n) (h60 : n ≤ 60) : Okg n (clqE n n) := by
  refine ⟨hn, by omega, ?_, ?_, chain_of (sorted_clqE n n)⟩
  · rw [← (perm_clq n).length_eq]
    have := clqR_len n h60
    omega
  · rw [List.all_eq_true]
    intro p hp
    have := mem_clqE.mp hp
    simp [okE]
    omega
/-! the walks of a clique -/
def S (row : List Nat) (near : List (List Nat)) (t : Nat) : Nat := sumN ((near.getD t []).map fun y => nth row y)
theorem sumN_app : ∀ l r : List Nat, sumN (l ++ r) = sumN l + sumN r
  | [], r => by simp [sumN]
  | x :: l, r => by simp [sumN, sumN_app l r]; omega
theorem S_add (row : List Nat) : ∀ (near : List (List Nat)) (x y t : Nat), x < near.length → S row (addTo near x y) t = S row near t + if x = t then nth row y else 0
  | l :: ls, 0, y, 0, _ => by simp [S, addTo, sumN_app, sumN]
  | l :: ls, 0, y, t + 1, _ => by simp [S, addTo]
  | l :: ls, x + 1, y, 0, _ => by simp [S, addTo]
  | l :: ls, x + 1, y, t + 1, h => by
    have := S_add row ls x y t (by simpa using h)
    simp only [S, addTo, List.getD_cons_succ] at this ⊢
    rw [this]
    simp
def ctr (row : List Nat) (t : Nat) (p : E2) : Nat := (if p.1 = t then nth row p.2 else 0) + if p.2 = t then nth row p.1 else 0
theorem S_fold (row : List Nat) (n t : Nat) : ∀ (es : List E2) (near : List (List Nat)), near.length = n → (∀ p ∈ es, p.1 < p.2 ∧ p.2 < n) → S row (es.foldl stepN near) t = S row near t + sumN (es.map (ctr row t))
  | [], near, _, _ => by simp [sumN]
  | p :: es, near, hl, h => by
    have h0 := h p List.mem_cons_self
    have hne : ¬ p.1 = p.2 := by omega
    have e : stepN near p = addTo (addTo near p.1 p.2) p.2 p.1 := by unfold stepN; rw [if_neg hne]
    rw [List.foldl_cons, S_fold row n t es (stepN near p) (by rw [e, addTo_len, addTo_len]; exact hl) fun q hq => h q (List.mem_cons_of_mem _ hq), e, S_add row _ _ _ _ (by rw [addTo_len, hl]; exact h0.2), S_add row _ _ _ _ (by rw [hl]; omega)]
    simp only [List.map_cons, sumN, ctr]
    omega
/-- a row of a at 0 and b elsewhere -/
def Two (n : Nat) (row : List Nat) (a b : Nat) : Prop := row.length = n ∧ nth row 0 = a ∧ ∀ t, 0 < t → t < n → nth row t = b
theorem sum_const : ∀ (k : Nat) (f : Nat → Nat) (c : Nat), (∀ i, i < k → f i = c) → sumN ((List.range k).map f) = k * c
  | 0, _, _, _ => by simp [sumN]
  | k + 1, f, c, h => by
    rw [List.range_succ, List.map_append, sumN_app, sum_const k f c fun i hi => h i (by omega)]
    simp [sumN, h k (by omega), Nat.add_mul]
theorem sum_zero (k : Nat) (f : Nat → Nat) (h : ∀ i, i < k → f i = 0) : sumN ((List.range k).map f) = 0 := by
  rw [sum_const k f 0 h]; simp
theorem sum_pick : ∀ (k j : Nat) (f : Nat → Nat) (c : Nat), j < k → f j = c → (∀ i, i < k → i ≠ j → f i = 0) → sumN ((List.range k).map f) = c
  | 0, _, _, _, h, _, _ => by omega
  | k + 1, j, f, c, h, h1, h2 => by
    rw [List.range_succ, List.map_append, sumN_app]
    by_cases e : j = k
    · subst e
      rw [sum_zero j f fun i hi => h2 i (by omega) (by omega)]
      simp [sumN, h1]
    · rw [sum_pick k j f c (by omega) h1 fun i hi => h2 i (by omega)]
      simp [sumN, h2 k (by omega) (by omega)]
/-- the sum of the first j of such a row -/
def low (a b j : Nat) : Nat := if j = 0 then 0 else a + (j - 1) * b
theorem ctr_sum {n : Nat} {row : List Nat} {a b : Nat} (h : Two n row a b) (t : Nat) (ht : t < n) : ∀ m, m ≤ n → sumN ((clqE n m).map (ctr row t)) = (if t < m then (n - 1 - t) * b else 0) + low a b (min m t)
  | 0, _ => by simp [clqE, sumN, low]
  | m + 1, hm => by
    have ih := ctr_sum h t ht m (by omega)
    simp only [clqE, List.map_append, sumN_app, ih, List.map_map]
    by_cases h1 : t < m
    · rw [sum_zero _ _ fun i hi => by simp [ctr]; omega]
      have e1 : min m t = t := by omega
      have e2 : min (m + 1) t = t := by omega
      have e3 : t < m + 1 := by omega
      simp [h1, e1, e2, e3]
    · by_cases h2 : t = m
      · subst h2
        rw [sum_const _ _ b fun i hi => by
          have := h.2.2 (t + 1 + i) (by omega) (by omega)
          simp [ctr, this]; omega]
        have e1 : n - (t + 1) = n - 1 - t := by omega
        simp [e1]
        omega
      · have h3 : m < t := by omega
        have e1 : min m t = m := by omega
        have e2 : min (m + 1) t = m + 1 := by omega
        have e3 : ¬ t < m + 1 := by omega
        have q1 : ¬ m = t := by omega
        have q2 : m + 1 + (t - (m + 1)) = t := by omega
        rw [sum_pick _ (t - (m + 1)) _ (nth row m) (by omega) (by simp [ctr, q1, q2]) fun i hi hne => by
          have q3 : ¬ m + 1 + i = t := by omega
          simp [ctr, q1, q3]]
        simp only [h1, e1, e2, e3, if_false, Nat.zero_add, low]
        by_cases hm0 : m = 0
        · subst hm0
          simp [h.2.1]
        · rw [h.2.2 m (by omega) (by omega)]
          have : m + 1 - 1 = (m - 1) + 1 := by omega
          simp only [hm0, if_false, this, Nat.add_mul]
          simp
          omega
theorem nth_map {near : List (List Nat)} (f : List Nat → Nat) : ∀ (near : List (List Nat)) (t : Nat), t < near.length → nth (near.map f) t = f (near.getD t [])
  | l :: ls, 0, _ => rfl
  | l :: ls, t + 1, h => by
    have := nth_map (near := near) f ls t (by simpa using h)
    simpa [nth] using this
theorem S_rep (row : List Nat) (n t : Nat) : S row (List.replicate n []) t = 0 := by
  unfold S
  have : (List.replicate n ([] : List Nat)).getD t [] = [] := by
    rw [List.getD_eq_getElem?_getD, List.getElem?_replicate]
    split <;> rfl
  rw [this]
  rfl
theorem near_len (n : Nat) (es : List E2) : (nearP n es).length = n := by
  have : ∀ (l : List E2) (near : List (List Nat)), (l.foldl stepN near).length = near.length := by
    intro l
    induction l with
    | nil => intro near; rfl
    | cons p l ih =>
      intro near
      rw [List.foldl_cons, ih]
      unfold stepN
      split <;> simp [addTo_len]
  unfold nearP
  rw [this]
  simp
theorem two_step {n : Nat} {row : List Nat} {a b : Nat} (h : Two n row a b) (hn : 1 ≤ n) : Two n (ledN (nearP n (clqE n n)) row) ((n - 1) * b) (a + (n - 2) * b) := by
  have hS : ∀ t, t < n → nth (ledN (nearP n (clqE n n)) row) t = sumN ((clqE n n).map (ctr row t)) := by
    intro t ht
    unfold ledN
    rw [nth_map (near := []) _ _ t (by rw [near_len]; exact ht)]
    have := S_fold row n t (clqE n n) (List.replicate n []) (by simp) fun p hp => ⟨(mem_clqE.mp hp).2.1, (mem_clqE.mp hp).2.2⟩
    rw [S_rep, Nat.zero_add] at this
    exact this
  refine ⟨by simp [ledN, near_len], ?_, fun t h0 ht => ?_⟩
  · rw [hS 0 (by omega), ctr_sum h 0 (by omega) n (Nat.le_refl _)]
    have : 0 < n := by omega
    simp [this, low]
  · rw [hS t ht, ctr_sum h t ht n (Nat.le_refl _)]
    have e : min n t = t := by omega
    have ht0 : t ≠ 0 := by omega
    simp only [ht, if_true, e, low, ht0, if_false]
    have e2 : n - 2 = (n - 1 - t) + (t - 1) := by omega
    rw [e2, Nat.add_mul]
    omega
def ab (n : Nat) : Nat → Nat × Nat
  | 0 => (1, 0)
  | k + 1 => ((n - 1) * (ab n k).2, (ab n k).1 + (n - 2) * (ab n k).2)
theorem two_at (n : Nat) (hn : 1 ≤ n) : ∀ k, Two n (rowAt (nearP n (clqE n n)) n k) (ab n k).1 (ab n k).2
  | 0 => by
    refine ⟨by simp [rowAt, startP], nth_start n hn, fun t h0 ht => ?_⟩
    have := nth_at (startP n) t (by simp [startP]; exact ht)
    have e : (startP n)[t]? = some 0 := by
      unfold startP
      rw [List.getElem?_map, List.getElem?_range ht]
      have : t ≠ 0 := by omega
      simp [this]
    rw [e] at this
    exact (Option.some.inj this).symm
  | k + 1 => two_step (two_at n hn k) hn
theorem ab_pow (n : Nat) (hn : 1 ≤ n) : ∀ k, (ab n k).1 + (n - 1) * (ab n k).2 = (n - 1) ^ k
  | 0 => by simp [ab]
  | k + 1 => by
    have ih := ab_pow n hn k
    rw [Nat.pow_succ, ← ih]
    simp only [ab]
    by_cases h : n = 1
    · subst h; simp
    · have e : n - 1 = (n - 2) + 1 := by omega
      generalize (ab n k).1 = a
      generalize (ab n k).2 = b
      rw [e]
      generalize n - 2 = c
      have e1 : (c + 1) * b + (c + 1) * (a + c * b) = (c + 1) * (b + (a + c * b)) := by rw [Nat.mul_add (c + 1) b]
      rw [e1, Nat.mul_comm]
      congr 1
      rw [Nat.add_mul]
      omega
def cnt (n : Nat) (es : List E2) (k : Nat) : Nat := nth (rowAt (nearP n es) n k) 0
theorem cnt_clq (n : Nat) (hn : 1 ≤ n) (k : Nat) : cnt n (clqE n n) k = (ab n k).1 := (two_at n hn k).2.1
def cats : List Nat := [1, 1, 2, 5, 14, 42, 132]
def chkP (n : Nat) : Bool := okB n (pathE n) && ([1, 3, 5, 7, 9, 11].all (fun k => Nat.beq (cnt n (pathE n) k) 0) && [1, 2, 3, 4, 5, 6].all fun k => !Nat.blt k n || Nat.beq (cnt n (pathE n) (2 * k)) (nth cats k))
end L51
end

section
open Pv PySem
set_option Elab.async false
set_option linter.all false
set_option maxRecDepth 100000
namespace L51
abbrev ev (s0 s1 n p c x t w ca k sq bd rw bk pw tn ac y m : Sl) : En := [s0, s1, n, p, c, x, t, w, ca, k, sq, bd, rw, bk, pw, tn, ac, y, m]
theorem take_eq : F__law_take = lawTake := rfl
theorem state_eq : F__law_state = lawState := rfl
theorem s1 (ns : List Int) : ∃ a b : Int, g_law_1 (en0 19 none [.scr ns]) = .nx (ev (some (.scr ns, 0)) (some (.lst [.int a, .int b], 1)) none none none none none none none none none none none none none none none none none) := by
  obtain ⟨a, b, h⟩ := lawState_ok ns
  refine ⟨a, b, ?_⟩
  simp [-List.map_map, fnF, en0, seqS, passS, noS, exprS, retS, retN, retM, putE, setS, iteS, vOfE, eOfV, oOfV, kI, kB, kS, kN, nmV, nmO, op1, op2, opC, tst, tru, truD, notT, andT, orT, blV, vbl, andV, orV, notV, iteE, aNil, aCons, lNil, lCons, tupE, lstE, dicE, Opd.get, callF, frR, callI, callL, own1, addD, subD, negD, cmpD, lenD, intD, tupD, lisD, absD, isiD, tyD, min2D, max2D, R.of, raiseS, asgS, nameG, nilG, consG, tupG, isD, nisD, isNB, opS, pNone, pSome, seqI', itsD, sItS, putD, wipeE, backE, state_eq, h]
theorem s2 (s0 : Sl) (a b : Int) : ∃ (n : Nat) (s1 : Sl), 1 ≤ n ∧ n ≤ 60 ∧ g_law_2 (ev s0 (some (.lst [.int a, .int b], 1)) none none none none none none none none none none none none none none none none none) = .nx (ev s0 s1 (some (.int n, 0)) none none none none none none none none none none none none none none none none) := by
  obtain ⟨v, a', b', h1, h2, h3⟩ := lawTake_ok a b 2 (by omega) (by decide)
  have hv : v = 0 ∨ v = 1 := by omega
  have hd : ∃ m : Int, 0 < m ∧ m ≤ 60 ∧ m.natAbs.log2 < 9000 ∧ idxD (.lst [.int 8, .int 60]) (.int v) = some (.int m, 0) := by
    rcases hv with rfl | rfl
    · exact ⟨8, by omega, by omega, by decide, rfl⟩
    · exact ⟨60, by omega, by omega, by decide, rfl⟩
  obtain ⟨m, m1, m2, m3, m4⟩ := hd
  obtain ⟨u, a2, b2, h4, h5, h6⟩ := lawTake_ok a' b' m m1 m3
  refine ⟨(1 + u).toNat, some (.lst [.int a2, .int b2], 1), by omega, by omega, ?_⟩
  have e : ((1 + u).toNat : Int) = 1 + u := by omega
  simp [-List.map_map, fnF, en0, seqS, passS, noS, exprS, retS, retN, retM, putE, setS, iteS, vOfE, eOfV, oOfV, kI, kB, kS, kN, nmV, nmO, op1, op2, opC, tst, tru, truD, notT, andT, orT, blV, vbl, andV, orV, notV, iteE, aNil, aCons, lNil, lCons, tupE, lstE, dicE, Opd.get, callF, frR, callI, callL, own1, addD, subD, negD, cmpD, lenD, intD, tupD, lisD, absD, isiD, tyD, min2D, max2D, R.of, raiseS, asgS, nameG, nilG, consG, tupG, isD, nisD, isNB, opS, pNone, pSome, seqI', itsD, sItS, putD, wipeE, backE, take_eq, h1, m4, h4, e]
section
variable (n : Nat) (h1 : 1 ≤ n) (h60 : n ≤ 60)
include h1 h60
theorem s3 (s0 s1 : Sl) : g_law_3 (ev s0 s1 (some (.int n, 0)) none none none none none none none none none none none none none none none none) = .nx (ev s0 s1 (some (.int n, 0)) (some (.tup ((pathE n).map pr), 0)) none none none none none none none none none none none none none none none) := by
  have e1 : (n : Int) - 1 = ((n - 1 : Nat) : Int) := by omega
  have c : comp (rg1 (aCons ((vOfE (op2 subD (nmO 2) (oOfV (kI 1))))) aNil)) (nameG 9) (yesT) ((eOfV ((tupE (aCons ((nmV 9)) (aCons ((vOfE (op2 addD (nmO 9) (oOfV (kI 1))))) aNil)))))) 0 [9] (ev s0 s1 (some (.int n, 0)) none none none none none none none none none none none none none none none none) = .ok (.lst ((pathE n).map pr), 1) (ev s0 s1 (some (.int n, 0)) none none none none none none none none none none none none none none none none) := by
    rw [comp_fix (ds := (List.range (n - 1)).map fun k : Nat => .int k) (f := fun d => match d with
      | .int k => .tup [.int k, .int (k + 1)]
      | d => d) (rg1_ok (n := n - 1) (env1 := (ev s0 s1 (some (.int n, 0)) none none none none none none none none none none none none none none none none)) (by simp [-List.map_map, fnF, en0, seqS, passS, noS, exprS, retS, retN, retM, putE, setS, iteS, vOfE, eOfV, oOfV, kI, kB, kS, kN, nmV, nmO, op1, op2, opC, tst, tru, truD, notT, andT, orT, blV, vbl, andV, orV, notV, iteE, aNil, aCons, lNil, lCons, tupE, lstE, dicE, Opd.get, callF, frR, callI, callL, own1, addD, subD, negD, cmpD, lenD, intD, tupD, lisD, absD, isiD, tyD, min2D, max2D, R.of, raiseS, asgS, nameG, nilG, consG, tupG, isD, nisD, isNB, opS, pNone, pSome, seqI', itsD, sItS, putD, wipeE, backE, e1]) (by omega)) (env0 := (ev s0 s1 (some (.int n, 0)) none none none none none none none none none none none none none none none none)) (env2 := (ev s0 s1 (some (.int n, 0)) none none none none none none none none none none none none none none none none)) rfl rfl (by apply le_lim; simp; omega) ?_]
    · simp [pathE, pr, Function.comp_def]
    · intro d hd
      obtain ⟨k, _, rfl⟩ := List.mem_map.mp hd
      exact ⟨(ev s0 s1 (some (.int n, 0)) none none none none none none (some (.int k, 0)) none none none none none none none none none), (ev s0 s1 (some (.int n, 0)) none none none none none none (some (.int k, 0)) none none none none none none none none none), (ev s0 s1 (some (.int n, 0)) none none none none none none (some (.int k, 0)) none none none none none none none none none), by simp [-List.map_map, fnF, en0, seqS, passS, noS, exprS, retS, retN, retM, putE, setS, iteS, vOfE, eOfV, oOfV, kI, kB, kS, kN, nmV, nmO, op1, op2, opC, tst, tru, truD, notT, andT, orT, blV, vbl, andV, orV, notV, iteE, aNil, aCons, lNil, lCons, tupE, lstE, dicE, Opd.get, callF, frR, callI, callL, own1, addD, subD, negD, cmpD, lenD, intD, tupD, lisD, absD, isiD, tyD, min2D, max2D, R.of, raiseS, asgS, nameG, nilG, consG, tupG, isD, nisD, isNB, opS, pNone, pSome, seqI', itsD, sItS, putD, wipeE, backE], rfl, by simp [-List.map_map, fnF, en0, seqS, passS, noS, exprS, retS, retN, retM, putE, setS, iteS, vOfE, eOfV, oOfV, kI, kB, kS, kN, nmV, nmO, op1, op2, opC, tst, tru, truD, notT, andT, orT, blV, vbl, andV, orV, notV, iteE, aNil, aCons, lNil, lCons, tupE, lstE, dicE, Opd.get, callF, frR, callI, callL, own1, addD, subD, negD, cmpD, lenD, intD, tupD, lisD, absD, isiD, tyD, min2D, max2D, R.of, raiseS, asgS, nameG, nilG, consG, tupG, isD, nisD, isNB, opS, pNone, pSome, seqI', itsD, sItS, putD, wipeE, backE], rfl⟩
  simp [-List.map_map, fnF, en0, seqS, passS, noS, exprS, retS, retN, retM, putE, setS, iteS, vOfE, eOfV, oOfV, kI, kB, kS, kN, nmV, nmO, op1, op2, opC, tst, tru, truD, notT, andT, orT, blV, vbl, andV, orV, notV, iteE, aNil, aCons, lNil, lCons, tupE, lstE, dicE, Opd.get, callF, frR, callI, callL, own1, addD, subD, negD, cmpD, lenD, intD, tupD, lisD, absD, isiD, tyD, min2D, max2D, R.of, raiseS, asgS, nameG, nilG, consG, tupG, isD, nisD, isNB, opS, pNone, pSome, seqI', itsD, sItS, putD, wipeE, backE, c]
theorem plain_pr (k : Nat) (es : List E2) : (es.map pr).all (plain (k + 1)) = true := by
  rw [List.all_eq_true]
  intro d hd
  obtain ⟨p, _, rfl⟩ := List.mem_map.mp hd
  simp [plain, pr]
theorem plain_G {es : List E2} (h : es.length ≤ 4000) : plain 5 (Gd n es) = true := by
  have := plain_pr n h1 h60 2 es
  simp only [Gd, plain, List.all_cons, List.all_nil, Bool.and_true, List.length_cons, List.length_nil, this, List.length_map, Bool.and_eq_true, decide_eq_true_eq, true_and]
  omega
theorem path_len : (pathE n).length ≤ 4000 := by simp [pathE]; omega
theorem s4 (s0 s1 c x t w ca k sq bd rw bk pw tn ac y m : Sl) : g_law_4 (ev s0 s1 (some (.int n, 0)) (some (.tup ((pathE n).map pr), 0)) c x t w ca k sq bd rw bk pw tn ac y m) = .nx (ev s0 s1 (some (.int n, 0)) (some (.tup ((pathE n).map pr), 0)) c x t w ca k sq bd rw bk pw tn ac y m) := by
  have a := told1 (i := 2) (F := F_path_graph) rfl (path_ok n h1 h60)
  have b := is_told (plain_G n h1 h60 (path_len n h1 h60))
  unfold Gd at a b
  simp [-List.map_map, fnF, en0, seqS, passS, noS, exprS, retS, retN, retM, putE, setS, iteS, vOfE, eOfV, oOfV, kI, kB, kS, kN, nmV, nmO, op1, op2, opC, tst, tru, truD, notT, andT, orT, blV, vbl, andV, orV, notV, iteE, aNil, aCons, lNil, lCons, tupE, lstE, dicE, Opd.get, callF, frR, callI, callL, own1, addD, subD, negD, cmpD, lenD, intD, tupD, lisD, absD, isiD, tyD, min2D, max2D, R.of, raiseS, asgS, nameG, nilG, consG, tupG, isD, nisD, isNB, opS, pNone, pSome, seqI', itsD, sItS, putD, wipeE, backE, a, b]
end
end L51
end

section
open Pv PySem
set_option Elab.async false
set_option linter.all false
set_option maxRecDepth 100000
namespace L51
section
variable (n : Nat) (h1 : 1 ≤ n) (h60 : n ≤ 60)
include h1 h60
abbrev cB : En → R (D × Nat) := comp (rg2 (aCons ((vOfE (op2 addD (nmO 5) (oOfV (kI 1))))) (aCons ((nmV 2)) aNil))) (nameG 17) (yesT) ((eOfV ((tupE (aCons ((nmV 5)) (aCons ((nmV 17)) aNil)))))) 0 [17]
theorem clqE_len (m : Nat) (hm : m ≤ n) : (clqE n m).length ≤ m * 60 := by
  induction m with
  | zero => simp [clqE]
  | succ m ih =>
    have := ih (by omega)
    simp only [clqE, List.length_append, List.length_map, List.length_range]
    omega
theorem cB_ok (s0 s1 p c : Sl) (i : Nat) (hi : i < n) : cB (ev s0 s1 (some (.int n, 0)) p c (some (.int i, 0)) none none none none none none none none none none none none none) = .ok (.lst (((List.range (n - (i + 1))).map fun k => (i, i + 1 + k)).map pr), 1) (ev s0 s1 (some (.int n, 0)) p c (some (.int i, 0)) none none none none none none none none none none none none none) := by
  unfold cB
  have e1 : (i : Int) + 1 = ((i + 1 : Nat) : Int) := by omega
  rw [comp_fix (ds := (List.range (n - (i + 1))).map fun k : Nat => .int (i + 1 + k : Nat)) (f := fun d => .tup [.int i, d]) (rg2_ok (l := i + 1) (n := n) (env1 := (ev s0 s1 (some (.int n, 0)) p c (some (.int i, 0)) none none none none none none none none none none none none none)) (by simp [-List.map_map, fnF, en0, seqS, passS, noS, exprS, retS, retN, retM, putE, setS, iteS, vOfE, eOfV, oOfV, kI, kB, kS, kN, nmV, nmO, op1, op2, opC, tst, tru, truD, notT, andT, orT, blV, vbl, andV, orV, notV, iteE, aNil, aCons, lNil, lCons, tupE, lstE, dicE, Opd.get, callF, frR, callI, callL, own1, addD, subD, negD, cmpD, lenD, intD, tupD, lisD, absD, isiD, tyD, min2D, max2D, R.of, raiseS, asgS, nameG, nilG, consG, tupG, isD, nisD, isNB, opS, pNone, pSome, seqI', itsD, sItS, putD, wipeE, backE]) (by omega) (by omega)) (env0 := (ev s0 s1 (some (.int n, 0)) p c (some (.int i, 0)) none none none none none none none none none none none none none)) (env2 := (ev s0 s1 (some (.int n, 0)) p c (some (.int i, 0)) none none none none none none none none none none none none none)) rfl rfl (by apply le_lim; simp; omega) ?_]
  · rw [List.map_map, List.map_map]
    rfl
  · intro d hd
    obtain ⟨k, _, rfl⟩ := List.mem_map.mp hd
    exact ⟨(ev s0 s1 (some (.int n, 0)) p c (some (.int i, 0)) none none none none none none none none none none none (some (.int (i + 1 + k : Nat), 0)) none), (ev s0 s1 (some (.int n, 0)) p c (some (.int i, 0)) none none none none none none none none none none none (some (.int (i + 1 + k : Nat), 0)) none), (ev s0 s1 (some (.int n, 0)) p c (some (.int i, 0)) none none none none none none none none none none none (some (.int (i + 1 + k : Nat), 0)) none), by simp [-List.map_map, fnF, en0, seqS, passS, noS, exprS, retS, retN, retM, putE, setS, iteS, vOfE, eOfV, oOfV, kI, kB, kS, kN, nmV, nmO, op1, op2, opC, tst, tru, truD, notT, andT, orT, blV, vbl, andV, orV, notV, iteE, aNil, aCons, lNil, lCons, tupE, lstE, dicE, Opd.get, callF, frR, callI, callL, own1, addD, subD, negD, cmpD, lenD, intD, tupD, lisD, absD, isiD, tyD, min2D, max2D, R.of, raiseS, asgS, nameG, nilG, consG, tupG, isD, nisD, isNB, opS, pNone, pSome, seqI', itsD, sItS, putD, wipeE, backE], rfl, by simp [-List.map_map, fnF, en0, seqS, passS, noS, exprS, retS, retN, retM, putE, setS, iteS, vOfE, eOfV, oOfV, kI, kB, kS, kN, nmV, nmO, op1, op2, opC, tst, tru, truD, notT, andT, orT, blV, vbl, andV, orV, notV, iteE, aNil, aCons, lNil, lCons, tupE, lstE, dicE, Opd.get, callF, frR, callI, callL, own1, addD, subD, negD, cmpD, lenD, intD, tupD, lisD, absD, isiD, tyD, min2D, max2D, R.of, raiseS, asgS, nameG, nilG, consG, tupG, isD, nisD, isNB, opS, pNone, pSome, seqI', itsD, sItS, putD, wipeE, backE], rfl⟩
theorem s6_step (s0 s1 p : Sl) (i : Nat) (hi : i < n) : setS 4 (op2 addD (nmO 4) (oOfV (vOfE cB))) (ev s0 s1 (some (.int n, 0)) p (some (.lst ((clqE n i).map pr), 1)) (some (.int i, 0)) none none none none none none none none none none none none none) = .nx (ev s0 s1 (some (.int n, 0)) p (some (.lst ((clqE n (i + 1)).map pr), 1)) (some (.int i, 0)) none none none none none none none none none none none none none) := by
  have hc := cB_ok n h1 h60 s0 s1 p (some (.lst ((clqE n i).map pr), 1)) i hi
  have l1 := clqE_len n h1 h60 i (by omega)
  have hl : ((clqE n i).map pr).length + (((List.range (n - (i + 1))).map fun k => (i, i + 1 + k)).map pr).length ≤ lim := by
    apply le_lim
    simp only [List.length_map, List.length_range]
    omega
  have ha : addD (.lst ((clqE n i).map pr)) (.lst (((List.range (n - (i + 1))).map fun k => (i, i + 1 + k)).map pr)) = some (.lst ((clqE n (i + 1)).map pr), 1) := by
    simp only [addD]
    rw [if_pos hl, ← List.map_append]
    rfl
  generalize hX : (clqE n i).map pr = X at *
  generalize hY : ((List.range (n - (i + 1))).map fun k => (i, i + 1 + k)).map pr = Y at *
  simp [-List.map_map, setS, op2, nmO, oOfV, vOfE, hc, Opd.get, ha, R.of, putE]
theorem s56 (s0 s1 p : Sl) : seqS g_law_5 g_law_6 (ev s0 s1 (some (.int n, 0)) p none none none none none none none none none none none none none none none) = .nx (ev s0 s1 (some (.int n, 0)) p (some (.lst ((clqE n n).map pr), 1)) (some (.int (n - 1 : Nat), 0)) none none none none none none none none none none none none none) := by
  refine (seqS_nx (show g_law_5 _ = .nx (ev s0 s1 (some (.int n, 0)) p (some (.lst [], 1)) none none none none none none none none none none none none none none) by simp [-List.map_map, fnF, en0, seqS, passS, noS, exprS, retS, retN, retM, putE, setS, iteS, vOfE, eOfV, oOfV, kI, kB, kS, kN, nmV, nmO, op1, op2, opC, tst, tru, truD, notT, andT, orT, blV, vbl, andV, orV, notV, iteE, aNil, aCons, lNil, lCons, tupE, lstE, dicE, Opd.get, callF, frR, callI, callL, own1, addD, subD, negD, cmpD, lenD, intD, tupD, lisD, absD, isiD, tyD, min2D, max2D, R.of, raiseS, asgS, nameG, nilG, consG, tupG, isD, nisD, isNB, opS, pNone, pSome, seqI', itsD, sItS, putD, wipeE, backE])).trans ?_
  refine (forS_ok (rg1_ok (n := n) (env1 := (ev s0 s1 (some (.int n, 0)) p (some (.lst [], 1)) none none none none none none none none none none none none none none)) (by simp [-List.map_map, fnF, en0, seqS, passS, noS, exprS, retS, retN, retM, putE, setS, iteS, vOfE, eOfV, oOfV, kI, kB, kS, kN, nmV, nmO, op1, op2, opC, tst, tru, truD, notT, andT, orT, blV, vbl, andV, orV, notV, iteE, aNil, aCons, lNil, lCons, tupE, lstE, dicE, Opd.get, callF, frR, callI, callL, own1, addD, subD, negD, cmpD, lenD, intD, tupD, lisD, absD, isiD, tyD, min2D, max2D, R.of, raiseS, asgS, nameG, nilG, consG, tupG, isD, nisD, isNB, opS, pNone, pSome, seqI', itsD, sItS, putD, wipeE, backE]) (by omega))).trans ?_
  have hl := loopS_range (g := nameG 5) (body := setS 4 (op2 addD (nmO 4) (oOfV (vOfE cB)))) (fun y : Nat => .int y) n
    (fun i => ev s0 s1 (some (.int n, 0)) p (some (.lst ((clqE n i).map pr), 1)) (if i = 0 then none else some (.int (i - 1 : Nat), 0)) none none none none none none none none none none none none none) (fun i hi => by
      refine ⟨ev s0 s1 (some (.int n, 0)) p (some (.lst ((clqE n i).map pr), 1)) (some (.int i, 0)) none none none none none none none none none none none none none, by simp [-List.map_map, fnF, en0, seqS, passS, noS, exprS, retS, retN, retM, putE, setS, iteS, vOfE, eOfV, oOfV, kI, kB, kS, kN, nmV, nmO, op1, op2, opC, tst, tru, truD, notT, andT, orT, blV, vbl, andV, orV, notV, iteE, aNil, aCons, lNil, lCons, tupE, lstE, dicE, Opd.get, callF, frR, callI, callL, own1, addD, subD, negD, cmpD, lenD, intD, tupD, lisD, absD, isiD, tyD, min2D, max2D, R.of, raiseS, asgS, nameG, nilG, consG, tupG, isD, nisD, isNB, opS, pNone, pSome, seqI', itsD, sItS, putD, wipeE, backE], ?_⟩
      rw [s6_step n h1 h60 s0 s1 p i hi]
      rfl)
  have hn0 : n ≠ 0 := by omega
  simp only [hn0, if_false] at hl
  exact hl
theorem cl : (clqE n n).length ≤ 4000 := by
  have := clqE_len n h1 h60 n (Nat.le_refl _)
  omega
theorem clq_ok' : F_clique_graph none [.int n] = .ok (Gd n (clqE n n), 0) none := by
  have := clique_ok n h1 h60
  rw [sort_clq] at this
  exact this
theorem s7 (s0 s1 p x t w ca k sq bd rw' bk pw tn ac y m : Sl) : g_law_7 (ev s0 s1 (some (.int n, 0)) p (some (.lst ((clqE n n).map pr), 1)) x t w ca k sq bd rw' bk pw tn ac y m) = .nx (ev s0 s1 (some (.int n, 0)) p (some (.lst ((clqE n n).map pr), 1)) x t w ca k sq bd rw' bk pw tn ac y m) := by
  have hq := clq_ok' n h1 h60
  have a := told1 (i := 3) (F := F_clique_graph) rfl hq
  have b := is_told (plain_G n h1 h60 (cl n h1 h60))
  have c := rooted_ok (okg_clq n h1 h60)
  unfold Gd at a b c hq
  simp [-List.map_map, fnF, en0, seqS, passS, noS, exprS, retS, retN, retM, putE, setS, iteS, vOfE, eOfV, oOfV, kI, kB, kS, kN, nmV, nmO, op1, op2, opC, tst, tru, truD, notT, andT, orT, blV, vbl, andV, orV, notV, iteE, aNil, aCons, lNil, lCons, tupE, lstE, dicE, Opd.get, callF, frR, callI, callL, own1, addD, subD, negD, cmpD, lenD, intD, tupD, lisD, absD, isiD, tyD, min2D, max2D, R.of, raiseS, asgS, nameG, nilG, consG, tupG, isD, nisD, isNB, opS, pNone, pSome, seqI', itsD, sItS, putD, wipeE, backE, a, b, hq, c]
def ringE (n : Nat) : List E2 := sortP (pathE n ++ [(0, n - 1)])
omit h1 h60 in
theorem norm_ring : (pathE n ++ [(0, n - 1)]).map normP = pathE n ++ [(0, n - 1)] := by
  rw [List.map_append]
  congr 1
  · unfold pathE
    rw [List.map_map]
    apply List.map_congr_left
    intro k _
    simp only [Function.comp_def, normP]
    rw [Nat.min_eq_left (by omega), Nat.max_eq_right (by omega)]
def toldR (n : Nat) : D := if n < 3 then malD else toldD (Gd n (ringE n))
theorem s8 (s0 s1 p c x t w ca k sq bd rw bk pw tn ac y m : Sl) : g_law_8 (ev s0 s1 (some (.int n, 0)) p c x t w ca k sq bd rw bk pw tn ac y m) = .nx (ev s0 s1 (some (.int n, 0)) p c x (some (toldR n, 0)) w ca k sq bd rw bk pw tn ac y m) := by
  unfold toldR
  by_cases h : n < 3
  · have hx : F_ring_graph none [.int n] = .ex (.mk 1 []) := by
      unfold F_ring_graph g_ring_graph
      simp [-List.map_map, fnF, en0, seqS, passS, noS, exprS, retS, retN, retM, putE, setS, iteS, vOfE, eOfV, oOfV, kI, kB, kS, kN, nmV, nmO, op1, op2, opC, tst, tru, truD, notT, andT, orT, blV, vbl, andV, orV, notV, iteE, aNil, aCons, lNil, lCons, tupE, lstE, dicE, Opd.get, callF, frR, callI, callL, own1, addD, subD, negD, cmpD, lenD, intD, tupD, lisD, absD, isiD, tyD, min2D, max2D, R.of, raiseS, asgS, nameG, nilG, consG, tupG, isD, nisD, isNB, opS, pNone, pSome, seqI', itsD, sItS, putD, wipeE, backE, between_no n 3 (by omega)]
    have a := told1x (i := 0) (F := F_ring_graph) rfl hx
    simp [-List.map_map, fnF, en0, seqS, passS, noS, exprS, retS, retN, retM, putE, setS, iteS, vOfE, eOfV, oOfV, kI, kB, kS, kN, nmV, nmO, op1, op2, opC, tst, tru, truD, notT, andT, orT, blV, vbl, andV, orV, notV, iteE, aNil, aCons, lNil, lCons, tupE, lstE, dicE, Opd.get, callF, frR, callI, callL, own1, addD, subD, negD, cmpD, lenD, intD, tupD, lisD, absD, isiD, tyD, min2D, max2D, R.of, raiseS, asgS, nameG, nilG, consG, tupG, isD, nisD, isNB, opS, pNone, pSome, seqI', itsD, sItS, putD, wipeE, backE, a, h]
  · have hx := ring_ok n (by omega) h60
    rw [norm_ring] at hx
    have a := told1 (i := 0) (F := F_ring_graph) rfl hx
    simp [-List.map_map, fnF, en0, seqS, passS, noS, exprS, retS, retN, retM, putE, setS, iteS, vOfE, eOfV, oOfV, kI, kB, kS, kN, nmV, nmO, op1, op2, opC, tst, tru, truD, notT, andT, orT, blV, vbl, andV, orV, notV, iteE, aNil, aCons, lNil, lCons, tupE, lstE, dicE, Opd.get, callF, frR, callI, callL, own1, addD, subD, negD, cmpD, lenD, intD, tupD, lisD, absD, isiD, tyD, min2D, max2D, R.of, raiseS, asgS, nameG, nilG, consG, tupG, isD, nisD, isNB, opS, pNone, pSome, seqI', itsD, sItS, putD, wipeE, backE, a, h, ringE]
theorem ring_len : (ringE n).length ≤ 4000 := by
  unfold ringE
  rw [sortP_len]
  simp [pathE]
  omega
theorem s9 (s0 s1 c x w ca k sq bd rw bk pw tn ac y m : Sl) : g_law_9 (ev s0 s1 (some (.int n, 0)) (some (.tup ((pathE n).map pr), 0)) c x (some (toldR n, 0)) w ca k sq bd rw bk pw tn ac y m) = .nx (ev s0 s1 (some (.int n, 0)) (some (.tup ((pathE n).map pr), 0)) c x (some (toldR n, 0)) w ca k sq bd rw bk pw tn ac y m) := by
  unfold toldR
  by_cases h : n < 3
  · have h2 : ¬ (2 : Int) < n := by omega
    have h3 : (n : Int) < 3 := by omega
    simp [-List.map_map, fnF, en0, seqS, passS, noS, exprS, retS, retN, retM, putE, setS, iteS, vOfE, eOfV, oOfV, kI, kB, kS, kN, nmV, nmO, op1, op2, opC, tst, tru, truD, notT, andT, orT, blV, vbl, andV, orV, notV, iteE, aNil, aCons, lNil, lCons, tupE, lstE, dicE, Opd.get, callF, frR, callI, callL, own1, addD, subD, negD, cmpD, lenD, intD, tupD, lisD, absD, isiD, tyD, min2D, max2D, R.of, raiseS, asgS, nameG, nilG, consG, tupG, isD, nisD, isNB, opS, pNone, pSome, seqI', itsD, sItS, putD, wipeE, backE, h, h2, h3, is_raised]
  · have h2 : (2 : Int) < n := by omega
    have h3 : ¬ (n : Int) < 3 := by omega
    have b := is_told (plain_G n h1 h60 (ring_len n h1 h60))
    have e1 : (n : Int) - 1 = ((n - 1 : Nat) : Int) := by omega
    have e2 : D.tup [.int 0, .int ((n - 1 : Nat) : Int)] = pr (0, n - 1) := rfl
    have hl : ((pathE n).map pr).length + 1 ≤ lim := by apply le_lim; simp [pathE]; omega
    have hs : sortD (.tup ((pathE n).map pr ++ [pr (0, n - 1)])) = some (.lst ((ringE n).map pr), 1) := by
      have := sort_pr (pathE n ++ [(0, n - 1)])
      rw [List.map_append] at this
      exact this
    unfold Gd at b
    generalize hX : (pathE n).map pr = X at *
    generalize hY : (ringE n).map pr = Y at *
    simp [-List.map_map, fnF, en0, seqS, passS, noS, exprS, retS, retN, retM, putE, setS, iteS, vOfE, eOfV, oOfV, kI, kB, kS, kN, nmV, nmO, op1, op2, opC, tst, tru, truD, notT, andT, orT, blV, vbl, andV, orV, notV, iteE, aNil, aCons, lNil, lCons, tupE, lstE, dicE, Opd.get, callF, frR, callI, callL, own1, addD, subD, negD, cmpD, lenD, intD, tupD, lisD, absD, isiD, tyD, min2D, max2D, R.of, raiseS, asgS, nameG, nilG, consG, tupG, isD, nisD, isNB, opS, pNone, pSome, seqI', itsD, sItS, putD, wipeE, backE, h, h2, h3, e1, e2, hl, hs, b, Gd, hY]
end
end L51
end

section
open Pv PySem
set_option Elab.async false
set_option linter.all false
set_option maxRecDepth 1000000
namespace L51
def allUpTo (f : Nat → Bool) : Nat → Bool
  | 0 => true
  | n + 1 => f (n + 1) && allUpTo f n
theorem allUpTo_ok {f : Nat → Bool} : ∀ {m : Nat}, allUpTo f m = true → ∀ n, 1 ≤ n → n ≤ m → f n = true
  | 0, _, n, h1, h2 => by omega
  | m + 1, h, n, h1, h2 => by
    simp only [allUpTo, Bool.and_eq_true] at h
    by_cases e : n = m + 1
    · rw [e]; exact h.1
    · exact allUpTo_ok h.2 n h1 (by omega)
theorem chk_all : allUpTo chkP 60 = true := by kernel_rfl
section
variable (n : Nat) (h1 : 1 ≤ n) (h60 : n ≤ 60)
include h1 h60
theorem chk_n : chkP n = true := allUpTo_ok chk_all n h1 h60
theorem okg_path : Okg n (pathE n) := by
  have := chk_n n h1 h60
  unfold chkP at this
  rw [Bool.and_eq_true] at this
  exact okg_of this.1
theorem cnt_odd : ∀ k ∈ [1, 3, 5, 7, 9, 11], cnt n (pathE n) k = 0 := by
  have := chk_n n h1 h60
  unfold chkP at this
  rw [Bool.and_eq_true, Bool.and_eq_true, List.all_eq_true] at this
  exact fun k hk => Nat.eq_of_beq_eq_true (this.2.1 k hk)
theorem cnt_even : ∀ k ∈ [1, 2, 3, 4, 5, 6], k < n → cnt n (pathE n) (2 * k) = nth cats k := by
  have := chk_n n h1 h60
  unfold chkP at this
  rw [Bool.and_eq_true, Bool.and_eq_true, List.all_eq_true, List.all_eq_true] at this
  intro k hk hkn
  have q := this.2.2 k hk
  rw [Bool.or_eq_true] at q
  rcases q with q | q
  · have : Nat.blt k n = true := by
      unfold Nat.blt
      exact Nat.ble_eq_true_of_le hkn
    rw [this] at q
    cases q
  · exact Nat.eq_of_beq_eq_true q
abbrev clD (n : Nat) (es : List E2) : D := toldD (closedD n es 12)
theorem s10 (s0 s1 p c x t w ca k sq bd rw bk pw tn ac y m : Sl) : g_law_10 (ev s0 s1 (some (.int n, 0)) p c x t w ca k sq bd rw bk pw tn ac y m) = .nx (ev s0 s1 (some (.int n, 0)) p c x t (some (clD n (pathE n), 0)) ca k sq bd rw bk pw tn ac y m) := by
  have hp := path_ok n h1 h60
  have hc : F_closed_walks none [Gd n (pathE n), .int 12] = .ok (closedD n (pathE n) 12, 0) none := closed_ok (okg_path n h1 h60) 12 (by omega)
  have a := told2 (i := 1) (F := F_closed_walks) rfl hc
  simp [-List.map_map, fnF, en0, seqS, passS, noS, exprS, retS, retN, retM, putE, setS, iteS, vOfE, eOfV, oOfV, kI, kB, kS, kN, nmV, nmO, op1, op2, opC, tst, tru, truD, notT, andT, orT, blV, vbl, andV, orV, notV, iteE, aNil, aCons, lNil, lCons, tupE, lstE, dicE, Opd.get, callF, frR, callI, callL, own1, addD, subD, negD, cmpD, lenD, intD, tupD, lisD, absD, isiD, tyD, min2D, max2D, R.of, raiseS, asgS, nameG, nilG, consG, tupG, isD, nisD, isNB, opS, pNone, pSome, seqI', itsD, sItS, putD, wipeE, backE, hp, a, clD]
omit h1 h60 in
theorem s11 (s0 s1 n' p c x t w ca k sq bd rw bk pw tn ac y m : Sl) : g_law_11 (ev s0 s1 n' p c x t w ca k sq bd rw bk pw tn ac y m) = .nx (ev s0 s1 n' p c x t w (some (rowD cats, 1)) k sq bd rw bk pw tn ac y m) := by
  simp [-List.map_map, fnF, en0, seqS, passS, noS, exprS, retS, retN, retM, putE, setS, iteS, vOfE, eOfV, oOfV, kI, kB, kS, kN, nmV, nmO, op1, op2, opC, tst, tru, truD, notT, andT, orT, blV, vbl, andV, orV, notV, iteE, aNil, aCons, lNil, lCons, tupE, lstE, dicE, Opd.get, callF, frR, callI, callL, own1, addD, subD, negD, cmpD, lenD, intD, tupD, lisD, absD, isiD, tyD, min2D, max2D, R.of, raiseS, asgS, nameG, nilG, consG, tupG, isD, nisD, isNB, opS, pNone, pSome, seqI', itsD, sItS, putD, wipeE, backE, rowD, cats, nD]
omit h1 h60 in
theorem bls_false : ∀ k : Nat, D.bls (List.replicate k (.bl false)) = some (List.replicate k false)
  | 0 => rfl
  | k + 1 => by
    rw [List.replicate_succ, D.bls, bls_false k]
    rfl
omit h1 h60 in
theorem anyD_false (k : Nat) : anyD (.lst (List.replicate k (.bl false))) = some (.bl false, 0) := by
  simp [anyD, bls_false]
omit h1 h60 in
theorem map_false {α : Type} (f : α → D) (xs : List α) (h : ∀ x ∈ xs, f x = .bl false) : xs.map f = List.replicate xs.length (.bl false) := by
  induction xs with
  | nil => rfl
  | cons x xs ih =>
    rw [List.map_cons, h x List.mem_cons_self, ih fun y hy => h y (List.mem_cons_of_mem _ hy)]
    rfl
omit h1 h60 in
theorem idx_closed (es : List E2) (k : Nat) (hk : k < 12) : idxD (closedD n es 12) (.int k) = some (.tup [.int (cnt n es (k + 1) : Nat), .int 1], 0) := by
  unfold closedD
  rw [idx_tup (k := k) (by simpa using hk)]
  simp [cnt]
omit h1 h60 in
theorem same2 (a b : Int) : F__law_same 6 none [.tup [.int a, .int b], .tup [.int a, .int b]] = .ok (.bl true, 0) none := same_ok 5 (.tup [.int a, .int b]) rfl
omit h1 h60 in
theorem rg3_12 (e : En) : rg3 (aCons (kI 0) (aCons (kI 12) (aCons (kI 2) aNil))) e = .ok ([0, 2, 4, 6, 8, 10].map nD) e := rfl
theorem s12 (s0 s1 p c x t ca sq bd rw' bk pw tn ac y m : Sl) : g_law_12 (ev s0 s1 (some (.int n, 0)) p c x t (some (clD n (pathE n), 0)) ca none sq bd rw' bk pw tn ac y m) = .nx (ev s0 s1 (some (.int n, 0)) p c x t (some (clD n (pathE n), 0)) ca none sq bd rw' bk pw tn ac y m) := by
  have hc : comp (rg3 (aCons (kI 0) (aCons (kI 12) (aCons (kI 2) aNil)))) (nameG 9) (yesT) ((eOfV ((notV ((vOfE (callF 2 (F__law_same 6) (aCons ((vOfE (op2 idxD (oOfV ((vOfE (op2 idxD (nmO 7) (oOfV (kI 1)))))) (nmO 9)))) (aCons ((tupE (aCons (kI 0) (aCons (kI 1) aNil)))) aNil))))))))) 0 [9] (ev s0 s1 (some (.int n, 0)) p c x t (some (clD n (pathE n), 0)) ca none sq bd rw' bk pw tn ac y m) = .ok (.lst (List.replicate 6 (.bl false)), 1) (ev s0 s1 (some (.int n, 0)) p c x t (some (clD n (pathE n), 0)) ca none sq bd rw' bk pw tn ac y m) := by
    rw [comp_fix (f := fun _ => .bl false) (rg3_12 _) (env0 := (ev s0 s1 (some (.int n, 0)) p c x t (some (clD n (pathE n), 0)) ca none sq bd rw' bk pw tn ac y m)) (env2 := (ev s0 s1 (some (.int n, 0)) p c x t (some (clD n (pathE n), 0)) ca none sq bd rw' bk pw tn ac y m)) rfl rfl (by apply le_lim; simp) ?_]
    · rfl
    · intro d hd
      obtain ⟨k, hk, rfl⟩ := List.mem_map.mp hd
      have hk2 : k < 12 ∧ k + 1 ∈ [1, 3, 5, 7, 9, 11] := by
        simp at hk ⊢; omega
      have hi := idx_closed n (pathE n) k hk2.1
      rw [cnt_odd n h1 h60 (k + 1) hk2.2] at hi
      have hs := same2 0 1
      refine ⟨(ev s0 s1 (some (.int n, 0)) p c x t (some (clD n (pathE n), 0)) ca (some (.int k, 0)) sq bd rw' bk pw tn ac y m), (ev s0 s1 (some (.int n, 0)) p c x t (some (clD n (pathE n), 0)) ca (some (.int k, 0)) sq bd rw' bk pw tn ac y m), (ev s0 s1 (some (.int n, 0)) p c x t (some (clD n (pathE n), 0)) ca (some (.int k, 0)) sq bd rw' bk pw tn ac y m), by simp [-List.map_map, fnF, en0, seqS, passS, noS, exprS, retS, retN, retM, putE, setS, iteS, vOfE, eOfV, oOfV, kI, kB, kS, kN, nmV, nmO, op1, op2, opC, tst, tru, truD, notT, andT, orT, blV, vbl, andV, orV, notV, iteE, aNil, aCons, lNil, lCons, tupE, lstE, dicE, Opd.get, callF, frR, callI, callL, own1, addD, subD, negD, cmpD, lenD, intD, tupD, lisD, absD, isiD, tyD, min2D, max2D, R.of, raiseS, asgS, nameG, nilG, consG, tupG, isD, nisD, isNB, opS, pNone, pSome, seqI', itsD, sItS, putD, wipeE, backE, nD], rfl, ?_, rfl⟩
      have hx : idxD (clD n (pathE n)) (.int 1) = some (closedD n (pathE n) 12, 0) := rfl
      simp only [Int.ofNat_eq_natCast, Int.cast_ofNat_Int] at hi
      simp [-List.map_map, fnF, en0, seqS, passS, noS, exprS, retS, retN, retM, putE, setS, iteS, vOfE, eOfV, oOfV, kI, kB, kS, kN, nmV, nmO, op1, op2, opC, tst, tru, truD, notT, andT, orT, blV, vbl, andV, orV, notV, iteE, aNil, aCons, lNil, lCons, tupE, lstE, dicE, Opd.get, callF, frR, callI, callL, own1, addD, subD, negD, cmpD, lenD, intD, tupD, lisD, absD, isiD, tyD, min2D, max2D, R.of, raiseS, asgS, nameG, nilG, consG, tupG, isD, nisD, isNB, opS, pNone, pSome, seqI', itsD, sItS, putD, wipeE, backE, hx, hi, hs]
  have hx : idxD (clD n (pathE n)) (.int 0) = some (.str sTold, 0) := rfl
  have ha := anyD_false 6
  generalize hW : clD n (pathE n) = W at *
  generalize hL : List.replicate 6 (D.bl false) = L at *
  simp [-List.map_map, fnF, en0, seqS, passS, noS, exprS, retS, retN, retM, putE, setS, iteS, vOfE, eOfV, oOfV, kI, kB, kS, kN, nmV, nmO, op1, op2, opC, tst, tru, truD, notT, andT, orT, blV, vbl, andV, orV, notV, iteE, aNil, aCons, lNil, lCons, tupE, lstE, dicE, Opd.get, callF, frR, callI, callL, own1, addD, subD, negD, cmpD, lenD, intD, tupD, lisD, absD, isiD, tyD, min2D, max2D, R.of, raiseS, asgS, nameG, nilG, consG, tupG, isD, nisD, isNB, opS, pNone, pSome, seqI', itsD, sItS, putD, wipeE, backE, hx, neD_str tk1 tk1, hc, ha]
omit h1 h60 in
theorem rg2_7 (e : En) : rg2 (aCons (kI 1) (aCons (kI 7) aNil)) e = .ok ([1, 2, 3, 4, 5, 6].map nD) e := rfl
omit h1 h60 in
theorem mul_2 (k : Nat) : mulD (.int 2) (.int k) = some (.int (2 * k), 0) := by
  have : sml 2 = true := by decide
  simp [mulD, mulOk, this]
theorem s13 (s0 s1 p c x t sq bd rw' bk pw tn ac y m : Sl) : g_law_13 (ev s0 s1 (some (.int n, 0)) p c x t (some (clD n (pathE n), 0)) (some (rowD cats, 1)) none sq bd rw' bk pw tn ac y m) = .nx (ev s0 s1 (some (.int n, 0)) p c x t (some (clD n (pathE n), 0)) (some (rowD cats, 1)) none sq bd rw' bk pw tn ac y m) := by
  have hc : comp (rg2 (aCons (kI 1) (aCons (kI 7) aNil))) (nameG 9) ((tst (op2 (cmpD fun i j => decide (i < j)) (nmO 9) (nmO 2)))) ((eOfV ((notV ((vOfE (callF 2 (F__law_same 6) (aCons ((vOfE (op2 idxD (oOfV ((vOfE (op2 idxD (nmO 7) (oOfV (kI 1)))))) (oOfV ((vOfE (op2 subD (oOfV ((vOfE (op2 mulD (oOfV (kI 2)) (nmO 9))))) (oOfV (kI 1))))))))) (aCons ((tupE (aCons ((vOfE (op2 idxD (nmO 8) (nmO 9)))) (aCons (kI 1) aNil)))) aNil))))))))) 0 [9] (ev s0 s1 (some (.int n, 0)) p c x t (some (clD n (pathE n), 0)) (some (rowD cats, 1)) none sq bd rw' bk pw tn ac y m) = .ok (.lst (List.replicate ((([1, 2, 3, 4, 5, 6].map nD).filter fun d => match d with
      | .int k => decide (k < n)
      | _ => false).length) (.bl false)), 1) (ev s0 s1 (some (.int n, 0)) p c x t (some (clD n (pathE n), 0)) (some (rowD cats, 1)) none sq bd rw' bk pw tn ac y m) := by
    rw [comp_filter (q := fun d => match d with
      | .int k => decide (k < n)
      | _ => false) (f := fun _ => .bl false) (rg2_7 _) (env0 := (ev s0 s1 (some (.int n, 0)) p c x t (some (clD n (pathE n), 0)) (some (rowD cats, 1)) none sq bd rw' bk pw tn ac y m)) (env2 := (ev s0 s1 (some (.int n, 0)) p c x t (some (clD n (pathE n), 0)) (some (rowD cats, 1)) none sq bd rw' bk pw tn ac y m)) rfl rfl (by apply le_lim; simp) ?_]
    · rw [map_false (fun _ => D.bl false) _ fun _ _ => rfl]
    · intro d hd
      obtain ⟨k, hk, rfl⟩ := List.mem_map.mp hd
      refine ⟨(ev s0 s1 (some (.int n, 0)) p c x t (some (clD n (pathE n), 0)) (some (rowD cats, 1)) (some (.int k, 0)) sq bd rw' bk pw tn ac y m), (ev s0 s1 (some (.int n, 0)) p c x t (some (clD n (pathE n), 0)) (some (rowD cats, 1)) (some (.int k, 0)) sq bd rw' bk pw tn ac y m), by simp [-List.map_map, fnF, en0, seqS, passS, noS, exprS, retS, retN, retM, putE, setS, iteS, vOfE, eOfV, oOfV, kI, kB, kS, kN, nmV, nmO, op1, op2, opC, tst, tru, truD, notT, andT, orT, blV, vbl, andV, orV, notV, iteE, aNil, aCons, lNil, lCons, tupE, lstE, dicE, Opd.get, callF, frR, callI, callL, own1, addD, subD, negD, cmpD, lenD, intD, tupD, lisD, absD, isiD, tyD, min2D, max2D, R.of, raiseS, asgS, nameG, nilG, consG, tupG, isD, nisD, isNB, opS, pNone, pSome, seqI', itsD, sItS, putD, wipeE, backE, nD], by simp [-List.map_map, fnF, en0, seqS, passS, noS, exprS, retS, retN, retM, putE, setS, iteS, vOfE, eOfV, oOfV, kI, kB, kS, kN, nmV, nmO, op1, op2, opC, tst, tru, truD, notT, andT, orT, blV, vbl, andV, orV, notV, iteE, aNil, aCons, lNil, lCons, tupE, lstE, dicE, Opd.get, callF, frR, callI, callL, own1, addD, subD, negD, cmpD, lenD, intD, tupD, lisD, absD, isiD, tyD, min2D, max2D, R.of, raiseS, asgS, nameG, nilG, consG, tupG, isD, nisD, isNB, opS, pNone, pSome, seqI', itsD, sItS, putD, wipeE, backE, nD], fun _ => rfl, fun hq => ?_⟩
      have hkn : k < n := by
        have : (k : Int) < n := of_decide_eq_true hq
        omega
      have hk2 : 1 ≤ k ∧ k ≤ 6 := by
        simp at hk; omega
      have hi := idx_closed n (pathE n) (2 * k - 1) (by omega)
      have e1 : 2 * k - 1 + 1 = 2 * k := by omega
      have e2 : ((2 * k - 1 : Nat) : Int) = 2 * (k : Int) - 1 := by omega
      rw [e1, cnt_even n h1 h60 k hk hkn, e2] at hi
      have hr := idx_row (row := cats) (y := k) (by show k < 7; omega)
      have hs := same2 (nth cats k : Nat) 1
      have hx : idxD (clD n (pathE n)) (.int 1) = some (closedD n (pathE n) 12, 0) := rfl
      have hm := mul_2 k
      refine ⟨(ev s0 s1 (some (.int n, 0)) p c x t (some (clD n (pathE n), 0)) (some (rowD cats, 1)) (some (.int k, 0)) sq bd rw' bk pw tn ac y m), ?_, rfl⟩
      simp only [nD] at hr
      generalize clD n (pathE n) = W at *
      generalize closedD n (pathE n) 12 = Cd at *
      generalize rowD cats = Rd at *
      simp [-List.map_map, fnF, en0, seqS, passS, noS, exprS, retS, retN, retM, putE, setS, iteS, vOfE, eOfV, oOfV, kI, kB, kS, kN, nmV, nmO, op1, op2, opC, tst, tru, truD, notT, andT, orT, blV, vbl, andV, orV, notV, iteE, aNil, aCons, lNil, lCons, tupE, lstE, dicE, Opd.get, callF, frR, callI, callL, own1, addD, subD, negD, cmpD, lenD, intD, tupD, lisD, absD, isiD, tyD, min2D, max2D, R.of, raiseS, asgS, nameG, nilG, consG, tupG, isD, nisD, isNB, opS, pNone, pSome, seqI', itsD, sItS, putD, wipeE, backE, hx, hm, hi, hr, hs]
  have ha := anyD_false ((([1, 2, 3, 4, 5, 6].map nD).filter fun d => match d with
      | .int k => decide (k < n)
      | _ => false).length)
  generalize hL : List.replicate ((([1, 2, 3, 4, 5, 6].map nD).filter fun d => match d with
      | .int k => decide (k < n)
      | _ => false).length) (D.bl false) = L at *
  generalize hW : clD n (pathE n) = W at *
  generalize rowD cats = Rd at *
  simp [-List.map_map, fnF, en0, seqS, passS, noS, exprS, retS, retN, retM, putE, setS, iteS, vOfE, eOfV, oOfV, kI, kB, kS, kN, nmV, nmO, op1, op2, opC, tst, tru, truD, notT, andT, orT, blV, vbl, andV, orV, notV, iteE, aNil, aCons, lNil, lCons, tupE, lstE, dicE, Opd.get, callF, frR, callI, callL, own1, addD, subD, negD, cmpD, lenD, intD, tupD, lisD, absD, isiD, tyD, min2D, max2D, R.of, raiseS, asgS, nameG, nilG, consG, tupG, isD, nisD, isNB, opS, pNone, pSome, seqI', itsD, sItS, putD, wipeE, backE, hc, ha]
/-! the clique's row by the law's loop -/
abbrev pwB : En → SR := (setS 14 ((op2 mulD (nmO 14) (oOfV ((vOfE (op2 subD (nmO 2) (oOfV (kI 1)))))))))
theorem pw_ok (s0 s1 p c x t w ca sq bd rw' bk ac y m : Sl) (k : Nat) (hk : k < 12) (tn : Sl) : forS (rg1 (aCons ((nmV 9)) aNil)) (nameG 15) pwB (ev s0 s1 (some (.int n, 0)) p c x t w ca (some (.int k, 0)) sq bd rw' bk (some (.int 1, 0)) tn ac y m) = .nx (ev s0 s1 (some (.int n, 0)) p c x t w ca (some (.int k, 0)) sq bd rw' bk (some (.int ((n - 1) ^ k : Nat), 0)) (if k = 0 then tn else some (.int (k - 1 : Nat), 0)) ac y m) := by
  refine (forS_ok (rg1_ok (n := k) (env1 := (ev s0 s1 (some (.int n, 0)) p c x t w ca (some (.int k, 0)) sq bd rw' bk (some (.int 1, 0)) tn ac y m)) (by simp [-List.map_map, fnF, en0, seqS, passS, noS, exprS, retS, retN, retM, putE, setS, iteS, vOfE, eOfV, oOfV, kI, kB, kS, kN, nmV, nmO, op1, op2, opC, tst, tru, truD, notT, andT, orT, blV, vbl, andV, orV, notV, iteE, aNil, aCons, lNil, lCons, tupE, lstE, dicE, Opd.get, callF, frR, callI, callL, own1, addD, subD, negD, cmpD, lenD, intD, tupD, lisD, absD, isiD, tyD, min2D, max2D, R.of, raiseS, asgS, nameG, nilG, consG, tupG, isD, nisD, isNB, opS, pNone, pSome, seqI', itsD, sItS, putD, wipeE, backE]) (by omega))).trans ?_
  have hl := loopS_range (g := nameG 15) (body := pwB) (fun y : Nat => .int y) k
    (fun i => (ev s0 s1 (some (.int n, 0)) p c x t w ca (some (.int k, 0)) sq bd rw' bk (some (.int ((n - 1) ^ i : Nat), 0)) (if i = 0 then tn else some (.int (i - 1 : Nat), 0)) ac y m)) (fun i hi => by
      refine ⟨(ev s0 s1 (some (.int n, 0)) p c x t w ca (some (.int k, 0)) sq bd rw' bk (some (.int ((n - 1) ^ i : Nat), 0)) (some (.int i, 0)) ac y m), by simp [-List.map_map, fnF, en0, seqS, passS, noS, exprS, retS, retN, retM, putE, setS, iteS, vOfE, eOfV, oOfV, kI, kB, kS, kN, nmV, nmO, op1, op2, opC, tst, tru, truD, notT, andT, orT, blV, vbl, andV, orV, notV, iteE, aNil, aCons, lNil, lCons, tupE, lstE, dicE, Opd.get, callF, frR, callI, callL, own1, addD, subD, negD, cmpD, lenD, intD, tupD, lisD, absD, isiD, tyD, min2D, max2D, R.of, raiseS, asgS, nameG, nilG, consG, tupG, isD, nisD, isNB, opS, pNone, pSome, seqI', itsD, sItS, putD, wipeE, backE], ?_⟩
      have e1 : (n : Int) - 1 = ((n - 1 : Nat) : Int) := by omega
      have hm : mulD (.int ((n - 1) ^ i : Nat)) (.int ((n - 1 : Nat) : Int)) = some (.int ((n - 1) ^ (i + 1) : Nat), 0) := by
        have hs : sml ((n - 1 : Nat) : Int) = true := by
          unfold sml
          exact Nat.ble_eq_true_of_le (by omega)
        have e3 : (((n - 1) ^ i : Nat) : Int) * ((n - 1 : Nat) : Int) = (((n - 1) ^ (i + 1) : Nat) : Int) := by
          rw [Nat.pow_succ, Int.natCast_mul]
        simp only [mulD, mulOk, hs, Bool.true_or, if_true, e3]
      generalize (((n - 1) ^ i : Nat) : Int) = A at *
      generalize (((n - 1) ^ (i + 1) : Nat) : Int) = B at *
      simp [-List.map_map, fnF, en0, seqS, passS, noS, exprS, retS, retN, retM, putE, setS, iteS, vOfE, eOfV, oOfV, kI, kB, kS, kN, nmV, nmO, op1, op2, opC, tst, tru, truD, notT, andT, orT, blV, vbl, andV, orV, notV, iteE, aNil, aCons, lNil, lCons, tupE, lstE, dicE, Opd.get, callF, frR, callI, callL, own1, addD, subD, negD, cmpD, lenD, intD, tupD, lisD, absD, isiD, tyD, min2D, max2D, R.of, raiseS, asgS, nameG, nilG, consG, tupG, isD, nisD, isNB, opS, pNone, pSome, seqI', itsD, sItS, putD, wipeE, backE, e1, hm])
  simp only [Nat.pow_zero, if_true] at hl
  exact hl
def rows (n : Nat) (k : Nat) : List Nat := (List.range k).map fun i => (ab n (i + 1)).1
abbrev bkB : En → SR := (seqS
  (setS 14 ((eOfV (kI 1)))) (seqS
  (forS (rg1 (aCons ((nmV 9)) aNil)) (nameG 15) (setS 14 ((op2 mulD (nmO 14) (oOfV ((vOfE (op2 subD (nmO 2) (oOfV (kI 1)))))))))) (seqS
  (setS 13 ((iteE ((tst (op2 (cmpD fun i j => decide (j < i)) (nmO 9) (oOfV (kI 0))))) ((op2 subD (nmO 14) (nmO 13))) ((eOfV (kI 0)))))) (appS 12 ((nmV 13))))))
theorem ab_next (k : Nat) : ((ab n (k + 1)).1 : Int) = if k = 0 then 0 else ((n - 1) ^ k : Nat) - ((ab n k).1 : Int) := by
  have := ab_pow n h1 k
  have e : (ab n (k + 1)).1 = (n - 1) * (ab n k).2 := rfl
  by_cases hk : k = 0
  · subst hk
    simp [ab]
  · simp only [hk, if_false]
    omega
theorem bk_step (s0 s1 p c x t w ca sq bd ac y m : Sl) (k : Nat) (hk : k < 12) (pw tn : Sl) : ∃ pw' tn', bkB (ev s0 s1 (some (.int n, 0)) p c x t w ca (some (.int k, 0)) sq bd (some (rowD (rows n k), 1)) (some (.int (ab n k).1, 0)) pw tn ac y m) = .nx (ev s0 s1 (some (.int n, 0)) p c x t w ca (some (.int k, 0)) sq bd (some (rowD (rows n (k + 1)), 1)) (some (.int (ab n (k + 1)).1, 0)) pw' tn' ac y m) := by
  refine ⟨some (.int ((n - 1) ^ k : Nat), 0), if k = 0 then tn else some (.int (k - 1 : Nat), 0), ?_⟩
  refine (seqS_nx (show setS 14 _ _ = .nx (ev s0 s1 (some (.int n, 0)) p c x t w ca (some (.int k, 0)) sq bd (some (rowD (rows n k), 1)) (some (.int (ab n k).1, 0)) (some (.int 1, 0)) tn ac y m) by simp [-List.map_map, fnF, en0, seqS, passS, noS, exprS, retS, retN, retM, putE, setS, iteS, vOfE, eOfV, oOfV, kI, kB, kS, kN, nmV, nmO, op1, op2, opC, tst, tru, truD, notT, andT, orT, blV, vbl, andV, orV, notV, iteE, aNil, aCons, lNil, lCons, tupE, lstE, dicE, Opd.get, callF, frR, callI, callL, own1, addD, subD, negD, cmpD, lenD, intD, tupD, lisD, absD, isiD, tyD, min2D, max2D, R.of, raiseS, asgS, nameG, nilG, consG, tupG, isD, nisD, isNB, opS, pNone, pSome, seqI', itsD, sItS, putD, wipeE, backE])).trans ?_
  refine (seqS_nx (pw_ok n h1 h60 s0 s1 p c x t w ca sq bd _ _ ac y m k hk tn)).trans ?_
  generalize hT : (if k = 0 then tn else some (.int (k - 1 : Nat), 0)) = T
  have hn := ab_next n h1 h60 k
  have e2 : setS 13 ((iteE ((tst (op2 (cmpD fun i j => decide (j < i)) (nmO 9) (oOfV (kI 0))))) ((op2 subD (nmO 14) (nmO 13))) ((eOfV (kI 0))))) (ev s0 s1 (some (.int n, 0)) p c x t w ca (some (.int k, 0)) sq bd (some (rowD (rows n k), 1)) (some (.int (ab n k).1, 0)) (some (.int ((n - 1) ^ k : Nat), 0)) T ac y m) = .nx (ev s0 s1 (some (.int n, 0)) p c x t w ca (some (.int k, 0)) sq bd (some (rowD (rows n k), 1)) (some (.int (ab n (k + 1)).1, 0)) (some (.int ((n - 1) ^ k : Nat), 0)) T ac y m) := by
    rw [hn]
    generalize (((n - 1) ^ k : Nat) : Int) = A
    by_cases hk0 : k = 0
    · simp [-List.map_map, fnF, en0, seqS, passS, noS, exprS, retS, retN, retM, putE, setS, iteS, vOfE, eOfV, oOfV, kI, kB, kS, kN, nmV, nmO, op1, op2, opC, tst, tru, truD, notT, andT, orT, blV, vbl, andV, orV, notV, iteE, aNil, aCons, lNil, lCons, tupE, lstE, dicE, Opd.get, callF, frR, callI, callL, own1, addD, subD, negD, cmpD, lenD, intD, tupD, lisD, absD, isiD, tyD, min2D, max2D, R.of, raiseS, asgS, nameG, nilG, consG, tupG, isD, nisD, isNB, opS, pNone, pSome, seqI', itsD, sItS, putD, wipeE, backE, hk0]
    · have : 0 < k := by omega
      simp [-List.map_map, fnF, en0, seqS, passS, noS, exprS, retS, retN, retM, putE, setS, iteS, vOfE, eOfV, oOfV, kI, kB, kS, kN, nmV, nmO, op1, op2, opC, tst, tru, truD, notT, andT, orT, blV, vbl, andV, orV, notV, iteE, aNil, aCons, lNil, lCons, tupE, lstE, dicE, Opd.get, callF, frR, callI, callL, own1, addD, subD, negD, cmpD, lenD, intD, tupD, lisD, absD, isiD, tyD, min2D, max2D, R.of, raiseS, asgS, nameG, nilG, consG, tupG, isD, nisD, isNB, opS, pNone, pSome, seqI', itsD, sItS, putD, wipeE, backE, hk0, this]
  refine (seqS_nx e2).trans ?_
  have hr : rows n (k + 1) = rows n k ++ [(ab n (k + 1)).1] := by
    unfold rows
    rw [List.range_succ, List.map_append]
    rfl
  have hl : (rows n k).length < lim := by apply lt_lim; simp [rows]; omega
  unfold appS
  rw [if_pos (by rfl)]
  rw [hr]
  simp [-List.map_map, fnF, en0, seqS, passS, noS, exprS, retS, retN, retM, putE, setS, iteS, vOfE, eOfV, oOfV, kI, kB, kS, kN, nmV, nmO, op1, op2, opC, tst, tru, truD, notT, andT, orT, blV, vbl, andV, orV, notV, iteE, aNil, aCons, lNil, lCons, tupE, lstE, dicE, Opd.get, callF, frR, callI, callL, own1, addD, subD, negD, cmpD, lenD, intD, tupD, lisD, absD, isiD, tyD, min2D, max2D, R.of, raiseS, asgS, nameG, nilG, consG, tupG, isD, nisD, isNB, opS, pNone, pSome, seqI', itsD, sItS, putD, wipeE, backE, rowD, hl, nD]
theorem s1415 (s0 s1 p c x t w ca sq bd ac y m : Sl) : ∃ pw' tn', seqS g_law_14 g_law_15 (ev s0 s1 (some (.int n, 0)) p c x t w ca none sq bd none none none none ac y m) = .nx (ev s0 s1 (some (.int n, 0)) p c x t w ca (some (.int 11, 0)) sq bd (some (rowD (rows n 12), 1)) (some (.int (ab n 12).1, 0)) pw' tn' ac y m) := by
  have e0 : g_law_14 (ev s0 s1 (some (.int n, 0)) p c x t w ca none sq bd none none none none ac y m) = .nx (ev s0 s1 (some (.int n, 0)) p c x t w ca none sq bd (some (rowD (rows n 0), 1)) (some (.int (ab n 0).1, 0)) none none ac y m) := by
    simp [-List.map_map, fnF, en0, seqS, passS, noS, exprS, retS, retN, retM, putE, setS, iteS, vOfE, eOfV, oOfV, kI, kB, kS, kN, nmV, nmO, op1, op2, opC, tst, tru, truD, notT, andT, orT, blV, vbl, andV, orV, notV, iteE, aNil, aCons, lNil, lCons, tupE, lstE, dicE, Opd.get, callF, frR, callI, callL, own1, addD, subD, negD, cmpD, lenD, intD, tupD, lisD, absD, isiD, tyD, min2D, max2D, R.of, raiseS, asgS, nameG, nilG, consG, tupG, isD, nisD, isNB, opS, pNone, pSome, seqI', itsD, sItS, putD, wipeE, backE, parS, rowD, rows, ab]
  obtain ⟨e, hl, kk, pw', tn', hk, he⟩ := loopS_ex (g := nameG 9) (body := bkB) (fun i : Nat => .int i) (List.range 12) (fun i env => ∃ kk pw' tn', (i ≠ 0 → kk = some (.int (i - 1 : Nat), 0)) ∧ env = ev s0 s1 (some (.int n, 0)) p c x t w ca kk sq bd (some (rowD (rows n i), 1)) (some (.int (ab n i).1, 0)) pw' tn' ac y m)
    (ev s0 s1 (some (.int n, 0)) p c x t w ca none sq bd (some (rowD (rows n 0), 1)) (some (.int (ab n 0).1, 0)) none none ac y m) ⟨none, none, none, fun h => absurd rfl h, rfl⟩ (fun i hi env hP => by
      obtain ⟨kk, pw, tn, _, rfl⟩ := hP
      simp only [List.length_range] at hi
      obtain ⟨pw', tn', hs⟩ := bk_step n h1 h60 s0 s1 p c x t w ca sq bd ac y m i hi pw tn
      exact ⟨ev s0 s1 (some (.int n, 0)) p c x t w ca (some (.int i, 0)) sq bd (some (rowD (rows n i), 1)) (some (.int (ab n i).1, 0)) pw tn ac y m, _, by simp [-List.map_map, fnF, en0, seqS, passS, noS, exprS, retS, retN, retM, putE, setS, iteS, vOfE, eOfV, oOfV, kI, kB, kS, kN, nmV, nmO, op1, op2, opC, tst, tru, truD, notT, andT, orT, blV, vbl, andV, orV, notV, iteE, aNil, aCons, lNil, lCons, tupE, lstE, dicE, Opd.get, callF, frR, callI, callL, own1, addD, subD, negD, cmpD, lenD, intD, tupD, lisD, absD, isiD, tyD, min2D, max2D, R.of, raiseS, asgS, nameG, nilG, consG, tupG, isD, nisD, isNB, opS, pNone, pSome, seqI', itsD, sItS, putD, wipeE, backE, List.getElem_range], hs, some (.int i, 0), pw', tn', fun _ => by simp, rfl⟩)
  subst he
  have hk := hk (by simp)
  simp only [List.length_range] at hl hk
  refine ⟨pw', tn', ?_⟩
  refine (seqS_nx e0).trans ?_
  refine (forS_ok (rg1_ok (n := 12) (env1 := (ev s0 s1 (some (.int n, 0)) p c x t w ca none sq bd (some (rowD (rows n 0), 1)) (some (.int (ab n 0).1, 0)) none none ac y m)) (by simp [-List.map_map, fnF, en0, seqS, passS, noS, exprS, retS, retN, retM, putE, setS, iteS, vOfE, eOfV, oOfV, kI, kB, kS, kN, nmV, nmO, op1, op2, opC, tst, tru, truD, notT, andT, orT, blV, vbl, andV, orV, notV, iteE, aNil, aCons, lNil, lCons, tupE, lstE, dicE, Opd.get, callF, frR, callI, callL, own1, addD, subD, negD, cmpD, lenD, intD, tupD, lisD, absD, isiD, tyD, min2D, max2D, R.of, raiseS, asgS, nameG, nilG, consG, tupG, isD, nisD, isNB, opS, pNone, pSome, seqI', itsD, sItS, putD, wipeE, backE]) (by omega))).trans ?_
  rw [hk] at hl
  exact hl
end
end L51
end

section
open Pv PySem
set_option Elab.async false
set_option linter.all false
set_option maxRecDepth 1000000
namespace L51
section
variable (n : Nat) (h1 : 1 ≤ n) (h60 : n ≤ 60)
include h1 h60
theorem s16 (s0 s1 p c x t w ca k sq bd rw bk pw tn ac y m : Sl) : g_law_16 (ev s0 s1 (some (.int n, 0)) p c x t w ca k sq bd rw bk pw tn ac y m) = .nx (ev s0 s1 (some (.int n, 0)) p c x (some (clD n (clqE n n), 0)) w ca k sq bd rw bk pw tn ac y m) := by
  have hp := clq_ok' n h1 h60
  have hc : F_closed_walks none [Gd n (clqE n n), .int 12] = .ok (closedD n (clqE n n) 12, 0) none := closed_ok (okg_clq n h1 h60) 12 (by omega)
  have a := told2 (i := 1) (F := F_closed_walks) rfl hc
  simp [-List.map_map, fnF, en0, seqS, passS, noS, exprS, retS, retN, retM, putE, setS, iteS, vOfE, eOfV, oOfV, kI, kB, kS, kN, nmV, nmO, op1, op2, opC, tst, tru, truD, notT, andT, orT, blV, vbl, andV, orV, notV, iteE, aNil, aCons, lNil, lCons, tupE, lstE, dicE, Opd.get, callF, frR, callI, callL, own1, addD, subD, negD, cmpD, lenD, intD, tupD, lisD, absD, isiD, tyD, min2D, max2D, R.of, raiseS, asgS, nameG, nilG, consG, tupG, isD, nisD, isNB, opS, pNone, pSome, seqI', itsD, sItS, putD, wipeE, backE, hp, a, clD]
theorem plain_closed (es : List E2) : plain 5 (closedD n es 12) = true := by
  unfold closedD
  simp [plain]
theorem s17 (s0 s1 p c x w ca k sq bd bk pw tn ac y : Sl) : g_law_17 (ev s0 s1 (some (.int n, 0)) p c x (some (clD n (clqE n n), 0)) w ca k sq bd (some (rowD (rows n 12), 1)) bk pw tn ac y none) = .nx (ev s0 s1 (some (.int n, 0)) p c x (some (clD n (clqE n n), 0)) w ca k sq bd (some (rowD (rows n 12), 0)) bk pw tn ac y none) := by
  have hc : comp (seqI' ((nmV 12))) (nameG 18) (yesT) ((eOfV ((tupE (aCons ((nmV 18)) (aCons (kI 1) aNil)))))) 0 [18] (ev s0 s1 (some (.int n, 0)) p c x (some (clD n (clqE n n), 0)) w ca k sq bd (some (rowD (rows n 12), 1)) bk pw tn ac y none) = .ok (.lst ((List.range 12).map fun i => .tup [.int (cnt n (clqE n n) (i + 1) : Nat), .int 1]), 1) (ev s0 s1 (some (.int n, 0)) p c x (some (clD n (clqE n n), 0)) w ca k sq bd (some (rowD (rows n 12), 0)) bk pw tn ac y none) := by
    rw [comp_fix (ds := (rows n 12).map nD) (f := fun d => .tup [d, .int 1]) (env1 := (ev s0 s1 (some (.int n, 0)) p c x (some (clD n (clqE n n), 0)) w ca k sq bd (some (rowD (rows n 12), 0)) bk pw tn ac y none)) (env0 := (ev s0 s1 (some (.int n, 0)) p c x (some (clD n (clqE n n), 0)) w ca k sq bd (some (rowD (rows n 12), 0)) bk pw tn ac y none)) (env2 := (ev s0 s1 (some (.int n, 0)) p c x (some (clD n (clqE n n), 0)) w ca k sq bd (some (rowD (rows n 12), 0)) bk pw tn ac y none)) (by simp [-List.map_map, fnF, en0, seqS, passS, noS, exprS, retS, retN, retM, putE, setS, iteS, vOfE, eOfV, oOfV, kI, kB, kS, kN, nmV, nmO, op1, op2, opC, tst, tru, truD, notT, andT, orT, blV, vbl, andV, orV, notV, iteE, aNil, aCons, lNil, lCons, tupE, lstE, dicE, Opd.get, callF, frR, callI, callL, own1, addD, subD, negD, cmpD, lenD, intD, tupD, lisD, absD, isiD, tyD, min2D, max2D, R.of, raiseS, asgS, nameG, nilG, consG, tupG, isD, nisD, isNB, opS, pNone, pSome, seqI', itsD, sItS, putD, wipeE, backE, rowD]) rfl rfl (by apply le_lim; simp [rows]) ?_]
    · unfold rows
      rw [List.map_map, List.map_map]
      have : (List.range 12).map (((fun d => D.tup [d, .int 1]) ∘ nD) ∘ fun i => (ab n (i + 1)).1) = (List.range 12).map fun i => .tup [.int (cnt n (clqE n n) (i + 1) : Nat), .int 1] := by
        apply List.map_congr_left
        intro i _
        rw [cnt_clq n h1 (i + 1)]
        rfl
      simp only [Function.comp_def] at this ⊢
      rw [this]
    · intro d hd
      exact ⟨(ev s0 s1 (some (.int n, 0)) p c x (some (clD n (clqE n n), 0)) w ca k sq bd (some (rowD (rows n 12), 0)) bk pw tn ac y (some (d, 0))), (ev s0 s1 (some (.int n, 0)) p c x (some (clD n (clqE n n), 0)) w ca k sq bd (some (rowD (rows n 12), 0)) bk pw tn ac y (some (d, 0))), (ev s0 s1 (some (.int n, 0)) p c x (some (clD n (clqE n n), 0)) w ca k sq bd (some (rowD (rows n 12), 0)) bk pw tn ac y (some (d, 0))), by simp [-List.map_map, fnF, en0, seqS, passS, noS, exprS, retS, retN, retM, putE, setS, iteS, vOfE, eOfV, oOfV, kI, kB, kS, kN, nmV, nmO, op1, op2, opC, tst, tru, truD, notT, andT, orT, blV, vbl, andV, orV, notV, iteE, aNil, aCons, lNil, lCons, tupE, lstE, dicE, Opd.get, callF, frR, callI, callL, own1, addD, subD, negD, cmpD, lenD, intD, tupD, lisD, absD, isiD, tyD, min2D, max2D, R.of, raiseS, asgS, nameG, nilG, consG, tupG, isD, nisD, isNB, opS, pNone, pSome, seqI', itsD, sItS, putD, wipeE, backE], rfl, by simp [-List.map_map, fnF, en0, seqS, passS, noS, exprS, retS, retN, retM, putE, setS, iteS, vOfE, eOfV, oOfV, kI, kB, kS, kN, nmV, nmO, op1, op2, opC, tst, tru, truD, notT, andT, orT, blV, vbl, andV, orV, notV, iteE, aNil, aCons, lNil, lCons, tupE, lstE, dicE, Opd.get, callF, frR, callI, callL, own1, addD, subD, negD, cmpD, lenD, intD, tupD, lisD, absD, isiD, tyD, min2D, max2D, R.of, raiseS, asgS, nameG, nilG, consG, tupG, isD, nisD, isNB, opS, pNone, pSome, seqI', itsD, sItS, putD, wipeE, backE], rfl⟩
  have hcd : D.tup ((List.range 12).map fun i => .tup [.int (cnt n (clqE n n) (i + 1) : Nat), .int 1]) = closedD n (clqE n n) 12 := rfl
  have b := is_told (plain_closed n h1 h60 (clqE n n))
  generalize hL : ((List.range 12).map fun i => D.tup [.int (cnt n (clqE n n) (i + 1) : Nat), .int 1]) = L at *
  have hW : clD n (clqE n n) = toldD (closedD n (clqE n n) 12) := rfl
  rw [← hW] at b
  generalize clD n (clqE n n) = W at *
  generalize rowD (rows n 12) = Rd at *
  simp [-List.map_map, fnF, en0, seqS, passS, noS, exprS, retS, retN, retM, putE, setS, iteS, vOfE, eOfV, oOfV, kI, kB, kS, kN, nmV, nmO, op1, op2, opC, tst, tru, truD, notT, andT, orT, blV, vbl, andV, orV, notV, iteE, aNil, aCons, lNil, lCons, tupE, lstE, dicE, Opd.get, callF, frR, callI, callL, own1, addD, subD, negD, cmpD, lenD, intD, tupD, lisD, absD, isiD, tyD, min2D, max2D, R.of, raiseS, asgS, nameG, nilG, consG, tupG, isD, nisD, isNB, opS, pNone, pSome, seqI', itsD, sItS, putD, wipeE, backE, hc, hcd, b]
end
/-! the closed parts -/
def r4 : List E2 := [(0, 1), (0, 3), (1, 2), (2, 3)]
def p2 : List E2 := [(0, 1)]
theorem ring4 : F_ring_graph none [.int 4] = .ok (Gd 4 r4, 0) none := by kernel_rfl
theorem path2 : F_path_graph none [.int 2] = .ok (Gd 2 p2, 0) none := by kernel_rfl
def sq16 : List E2 := [(0, 1), (0, 3), (0, 4), (0, 12), (1, 2), (1, 5), (1, 13), (2, 3), (2, 6), (2, 14), (3, 7), (3, 15), (4, 5), (4, 7), (4, 8), (5, 6), (5, 9), (6, 7), (6, 10), (7, 11), (8, 9), (8, 11), (8, 12), (9, 10), (9, 13), (10, 11), (10, 14), (11, 15), (12, 13), (12, 15), (13, 14), (14, 15)]
def sq4 : List E2 := [(0, 1), (0, 2), (1, 3), (2, 3)]
theorem cart16 : F_cartesian_product none [Gd 4 r4, Gd 4 r4] = .ok (Gd 16 sq16, 0) none := by kernel_rfl
theorem cart4 : F_cartesian_product none [Gd 2 p2, Gd 2 p2] = .ok (Gd 4 sq4, 0) none := by kernel_rfl
theorem cl16 : F_closed_walks none [Gd 16 sq16, .int 4] = .ok (closedD 16 sq16 4, 0) none := closed_ok (okg_of (by decide +kernel)) 4 (by omega)
theorem cl4 : F_closed_walks none [Gd 4 sq4, .int 4] = .ok (closedD 4 sq4 4, 0) none := closed_ok (okg_of (by decide +kernel)) 4 (by omega)
theorem cd16 : closedD 16 sq16 4 = .tup [.tup [.int 0, .int 1], .tup [.int 4, .int 1], .tup [.int 0, .int 1], .tup [.int 40, .int 1]] := by kernel_rfl
theorem cd4 : closedD 4 sq4 4 = .tup [.tup [.int 0, .int 1], .tup [.int 2, .int 1], .tup [.int 0, .int 1], .tup [.int 8, .int 1]] := by kernel_rfl
theorem s18 (n : Nat) (s0 s1 p c x t w ca k sq bd rw bk pw tn ac y m : Sl) : g_law_18 (ev s0 s1 (some (.int n, 0)) p c x t w ca k sq bd rw bk pw tn ac y m) = .nx (ev s0 s1 (some (.int n, 0)) p c x t w ca k (some (if 5 < n then closedD 16 sq16 4 else closedD 4 sq4 4, 0)) bd rw bk pw tn ac y m) := by
  by_cases h : 5 < n
  · have h' : (5 : Int) < n := by omega
    simp [-List.map_map, fnF, en0, seqS, passS, noS, exprS, retS, retN, retM, putE, setS, iteS, vOfE, eOfV, oOfV, kI, kB, kS, kN, nmV, nmO, op1, op2, opC, tst, tru, truD, notT, andT, orT, blV, vbl, andV, orV, notV, iteE, aNil, aCons, lNil, lCons, tupE, lstE, dicE, Opd.get, callF, frR, callI, callL, own1, addD, subD, negD, cmpD, lenD, intD, tupD, lisD, absD, isiD, tyD, min2D, max2D, R.of, raiseS, asgS, nameG, nilG, consG, tupG, isD, nisD, isNB, opS, pNone, pSome, seqI', itsD, sItS, putD, wipeE, backE, h, h', ring4, cart16, cl16]
  · have h' : ¬ (5 : Int) < n := by omega
    simp [-List.map_map, fnF, en0, seqS, passS, noS, exprS, retS, retN, retM, putE, setS, iteS, vOfE, eOfV, oOfV, kI, kB, kS, kN, nmV, nmO, op1, op2, opC, tst, tru, truD, notT, andT, orT, blV, vbl, andV, orV, notV, iteE, aNil, aCons, lNil, lCons, tupE, lstE, dicE, Opd.get, callF, frR, callI, callL, own1, addD, subD, negD, cmpD, lenD, intD, tupD, lisD, absD, isiD, tyD, min2D, max2D, R.of, raiseS, asgS, nameG, nilG, consG, tupG, isD, nisD, isNB, opS, pNone, pSome, seqI', itsD, sItS, putD, wipeE, backE, h, h', path2, cart4, cl4]
theorem s19 (n : Nat) (s0 s1 p c x t w ca k bd rw bk pw tn ac y m : Sl) : g_law_19 (ev s0 s1 (some (.int n, 0)) p c x t w ca k (some (if 5 < n then closedD 16 sq16 4 else closedD 4 sq4 4, 0)) bd rw bk pw tn ac y m) = .nx (ev s0 s1 (some (.int n, 0)) p c x t w ca k (some (if 5 < n then closedD 16 sq16 4 else closedD 4 sq4 4, 0)) bd rw bk pw tn ac y m) := by
  by_cases h : 5 < n
  · have h' : (5 : Int) < n := by omega
    have hs := same_ok 5 (.tup [.tup [.int 0, .int 1], .tup [.int 4, .int 1], .tup [.int 0, .int 1], .tup [.int 40, .int 1]]) (by decide +kernel)
    rw [if_pos h, cd16]
    simp [-List.map_map, fnF, en0, seqS, passS, noS, exprS, retS, retN, retM, putE, setS, iteS, vOfE, eOfV, oOfV, kI, kB, kS, kN, nmV, nmO, op1, op2, opC, tst, tru, truD, notT, andT, orT, blV, vbl, andV, orV, notV, iteE, aNil, aCons, lNil, lCons, tupE, lstE, dicE, Opd.get, callF, frR, callI, callL, own1, addD, subD, negD, cmpD, lenD, intD, tupD, lisD, absD, isiD, tyD, min2D, max2D, R.of, raiseS, asgS, nameG, nilG, consG, tupG, isD, nisD, isNB, opS, pNone, pSome, seqI', itsD, sItS, putD, wipeE, backE, h, h', hs]
  · have h' : ¬ (5 : Int) < n := by omega
    have hs := same_ok 5 (.tup [.tup [.int 0, .int 1], .tup [.int 2, .int 1], .tup [.int 0, .int 1], .tup [.int 8, .int 1]]) (by decide +kernel)
    rw [if_neg h, cd4]
    simp [-List.map_map, fnF, en0, seqS, passS, noS, exprS, retS, retN, retM, putE, setS, iteS, vOfE, eOfV, oOfV, kI, kB, kS, kN, nmV, nmO, op1, op2, opC, tst, tru, truD, notT, andT, orT, blV, vbl, andV, orV, notV, iteE, aNil, aCons, lNil, lCons, tupE, lstE, dicE, Opd.get, callF, frR, callI, callL, own1, addD, subD, negD, cmpD, lenD, intD, tupD, lisD, absD, isiD, tyD, min2D, max2D, R.of, raiseS, asgS, nameG, nilG, consG, tupG, isD, nisD, isNB, opS, pNone, pSome, seqI', itsD, sItS, putD, wipeE, backE, h, h', hs]
/-! bad numbers of points -/
def bads : List D := [.int 0, .int (-1), .int 61, .non, .bl true, .str (PySem.Str.ofString "3"), .tup [.int 3]]
def acts : List D := [.fn 2, .fn 0, .fn 3]
theorem bad_path : ∀ d ∈ bads, F_path_graph none [d] = .ex (.mk 1 []) := by
  intro d hd
  simp only [bads, List.mem_cons, List.not_mem_nil, or_false] at hd
  rcases hd with rfl | rfl | rfl | rfl | rfl | rfl | rfl <;> kernel_rfl
theorem bad_ring : ∀ d ∈ bads, F_ring_graph none [d] = .ex (.mk 1 []) := by
  intro d hd
  simp only [bads, List.mem_cons, List.not_mem_nil, or_false] at hd
  rcases hd with rfl | rfl | rfl | rfl | rfl | rfl | rfl <;> kernel_rfl
theorem bad_clique : ∀ d ∈ bads, F_clique_graph none [d] = .ex (.mk 1 []) := by
  intro d hd
  simp only [bads, List.mem_cons, List.not_mem_nil, or_false] at hd
  rcases hd with rfl | rfl | rfl | rfl | rfl | rfl | rfl <;> kernel_rfl
theorem bad_told (d : D) (hd : d ∈ bads) (a : D) (ha : a ∈ acts) : F__law_told none [a, .tup [d]] = .ok (malD, 0) none := by
  simp only [acts, List.mem_cons, List.not_mem_nil, or_false] at ha
  rcases ha with rfl | rfl | rfl
  · exact told1x (i := 2) (F := F_path_graph) rfl (bad_path d hd)
  · exact told1x (i := 0) (F := F_ring_graph) rfl (bad_ring d hd)
  · exact told1x (i := 3) (F := F_clique_graph) rfl (bad_clique d hd)
theorem s20 (s0 s1 n p c x t w ca k sq bd rw bk pw tn ac y m : Sl) : ∃ bd' ac', g_law_20 (ev s0 s1 n p c x t w ca k sq bd rw bk pw tn ac y m) = .nx (ev s0 s1 n p c x t w ca k sq bd' rw bk pw tn ac' y m) := by
  obtain ⟨e, he, bd', ac', rfl⟩ := loopS_inv (g := nameG 11) (body := forS (seqI' ((tupE (aCons ((fun env => .ok (.fn 2) env)) (aCons ((fun env => .ok (.fn 0) env)) (aCons ((fun env => .ok (.fn 3) env)) aNil)))))) (nameG 16) (iteS (notT (tru (oOfV ((vOfE (callF 2 (F__law_is_raised) (aCons ((vOfE (callF 2 (F__law_told) (aCons ((nmV 16)) (aCons ((tupE (aCons ((nmV 11)) aNil))) aNil))))) (aCons (kS (PySem.Str.ofString "malformed")) aNil)))))))) (retS ((eOfV (kB false)))) passS))
    (fun e => ∃ bd' ac', e = ev s0 s1 n p c x t w ca k sq bd' rw bk pw tn ac' y m) bads (ev s0 s1 n p c x t w ca k sq bd rw bk pw tn ac y m) ⟨bd, ac, rfl⟩ (fun d hd env hP => by
      obtain ⟨bd1, ac1, rfl⟩ := hP
      obtain ⟨e2, he2, ac2, rfl⟩ := loopS_inv (g := nameG 16) (body := iteS (notT (tru (oOfV ((vOfE (callF 2 (F__law_is_raised) (aCons ((vOfE (callF 2 (F__law_told) (aCons ((nmV 16)) (aCons ((tupE (aCons ((nmV 11)) aNil))) aNil))))) (aCons (kS (PySem.Str.ofString "malformed")) aNil)))))))) (retS ((eOfV (kB false)))) passS)
        (fun e => ∃ ac', e = ev s0 s1 n p c x t w ca k sq (some (d, 0)) rw bk pw tn ac' y m) acts (ev s0 s1 n p c x t w ca k sq (some (d, 0)) rw bk pw tn ac1 y m) ⟨ac1, rfl⟩ (fun a ha env hP => by
          obtain ⟨ac1, rfl⟩ := hP
          have ht := bad_told d hd a ha
          refine ⟨ev s0 s1 n p c x t w ca k sq (some (d, 0)) rw bk pw tn (some (a, 0)) y m, ev s0 s1 n p c x t w ca k sq (some (d, 0)) rw bk pw tn (some (a, 0)) y m, by simp [-List.map_map, fnF, en0, seqS, passS, noS, exprS, retS, retN, retM, putE, setS, iteS, vOfE, eOfV, oOfV, kI, kB, kS, kN, nmV, nmO, op1, op2, opC, tst, tru, truD, notT, andT, orT, blV, vbl, andV, orV, notV, iteE, aNil, aCons, lNil, lCons, tupE, lstE, dicE, Opd.get, callF, frR, callI, callL, own1, addD, subD, negD, cmpD, lenD, intD, tupD, lisD, absD, isiD, tyD, min2D, max2D, R.of, raiseS, asgS, nameG, nilG, consG, tupG, isD, nisD, isNB, opS, pNone, pSome, seqI', itsD, sItS, putD, wipeE, backE], ?_, some (a, 0), rfl⟩
          simp [-List.map_map, fnF, en0, seqS, passS, noS, exprS, retS, retN, retM, putE, setS, iteS, vOfE, eOfV, oOfV, kI, kB, kS, kN, nmV, nmO, op1, op2, opC, tst, tru, truD, notT, andT, orT, blV, vbl, andV, orV, notV, iteE, aNil, aCons, lNil, lCons, tupE, lstE, dicE, Opd.get, callF, frR, callI, callL, own1, addD, subD, negD, cmpD, lenD, intD, tupD, lisD, absD, isiD, tyD, min2D, max2D, R.of, raiseS, asgS, nameG, nilG, consG, tupG, isD, nisD, isNB, opS, pNone, pSome, seqI', itsD, sItS, putD, wipeE, backE, ht, is_raised])
      refine ⟨ev s0 s1 n p c x t w ca k sq (some (d, 0)) rw bk pw tn ac1 y m, _, by simp [-List.map_map, fnF, en0, seqS, passS, noS, exprS, retS, retN, retM, putE, setS, iteS, vOfE, eOfV, oOfV, kI, kB, kS, kN, nmV, nmO, op1, op2, opC, tst, tru, truD, notT, andT, orT, blV, vbl, andV, orV, notV, iteE, aNil, aCons, lNil, lCons, tupE, lstE, dicE, Opd.get, callF, frR, callI, callL, own1, addD, subD, negD, cmpD, lenD, intD, tupD, lisD, absD, isiD, tyD, min2D, max2D, R.of, raiseS, asgS, nameG, nilG, consG, tupG, isD, nisD, isNB, opS, pNone, pSome, seqI', itsD, sItS, putD, wipeE, backE], (forS_ok (ds := acts) (env1 := ev s0 s1 n p c x t w ca k sq (some (d, 0)) rw bk pw tn ac1 y m) (by simp [-List.map_map, fnF, en0, seqS, passS, noS, exprS, retS, retN, retM, putE, setS, iteS, vOfE, eOfV, oOfV, kI, kB, kS, kN, nmV, nmO, op1, op2, opC, tst, tru, truD, notT, andT, orT, blV, vbl, andV, orV, notV, iteE, aNil, aCons, lNil, lCons, tupE, lstE, dicE, Opd.get, callF, frR, callI, callL, own1, addD, subD, negD, cmpD, lenD, intD, tupD, lisD, absD, isiD, tyD, min2D, max2D, R.of, raiseS, asgS, nameG, nilG, consG, tupG, isD, nisD, isNB, opS, pNone, pSome, seqI', itsD, sItS, putD, wipeE, backE, acts])).trans he2, some (d, 0), ac2, rfl⟩)
  exact ⟨bd', ac', (forS_ok (ds := bads) (env1 := ev s0 s1 n p c x t w ca k sq bd rw bk pw tn ac y m) (by simp [-List.map_map, fnF, en0, seqS, passS, noS, exprS, retS, retN, retM, putE, setS, iteS, vOfE, eOfV, oOfV, kI, kB, kS, kN, nmV, nmO, op1, op2, opC, tst, tru, truD, notT, andT, orT, blV, vbl, andV, orV, notV, iteE, aNil, aCons, lNil, lCons, tupE, lstE, dicE, Opd.get, callF, frR, callI, callL, own1, addD, subD, negD, cmpD, lenD, intD, tupD, lisD, absD, isiD, tyD, min2D, max2D, R.of, raiseS, asgS, nameG, nilG, consG, tupG, isD, nisD, isNB, opS, pNone, pSome, seqI', itsD, sItS, putD, wipeE, backE, bads])).trans he⟩
theorem ring2 : F_ring_graph none [.int 2] = .ex (.mk 1 []) := by kernel_rfl
theorem ring3 : F_ring_graph none [.int 3] = .ok (.tup [.int 3, .tup [.tup [.int 0, .int 1], .tup [.int 0, .int 2], .tup [.int 1, .int 2]]], 0) none := by kernel_rfl
theorem s21 (e : En) : g_law_21 e = .ret (.bl true, 0) e := by
  have a := told1x (i := 0) (F := F_ring_graph) rfl ring2
  have b := told1 (i := 0) (F := F_ring_graph) rfl ring3
  have q := is_told (v := .tup [.int 3, .tup [.tup [.int 0, .int 1], .tup [.int 0, .int 2], .tup [.int 1, .int 2]]]) (by decide +kernel)
  simp [-List.map_map, fnF, en0, seqS, passS, noS, exprS, retS, retN, retM, putE, setS, iteS, vOfE, eOfV, oOfV, kI, kB, kS, kN, nmV, nmO, op1, op2, opC, tst, tru, truD, notT, andT, orT, blV, vbl, andV, orV, notV, iteE, aNil, aCons, lNil, lCons, tupE, lstE, dicE, Opd.get, callF, frR, callI, callL, own1, addD, subD, negD, cmpD, lenD, intD, tupD, lisD, absD, isiD, tyD, min2D, max2D, R.of, raiseS, asgS, nameG, nilG, consG, tupG, isD, nisD, isNB, opS, pNone, pSome, seqI', itsD, sItS, putD, wipeE, backE, a, b, q, is_raised]
theorem law_all (ns : List Int) (h : ns.length ≤ 63) : ∃ fin, F_law none [.scr ns] = .ok (.bl true, 0) fin := by
  obtain ⟨a, b, e1⟩ := s1 ns
  obtain ⟨n, st, h1, h60, e2⟩ := s2 (some (.scr ns, 0)) a b
  obtain ⟨pw, tn, e15⟩ := s1415 n h1 h60 (some (.scr ns, 0)) st (some (.tup ((pathE n).map pr), 0)) (some (.lst ((clqE n n).map pr), 1)) (some (.int (n - 1 : Nat), 0)) (some (toldR n, 0)) (some (clD n (pathE n), 0)) (some (rowD cats, 1)) none none none none none
  obtain ⟨bd, ac, e20⟩ := s20 (some (.scr ns, 0)) st (some (.int n, 0)) (some (.tup ((pathE n).map pr), 0)) (some (.lst ((clqE n n).map pr), 1)) (some (.int (n - 1 : Nat), 0)) (some (clD n (clqE n n), 0)) (some (clD n (pathE n), 0)) (some (rowD cats, 1)) (some (.int 11, 0)) (some (if 5 < n then closedD 16 sq16 4 else closedD 4 sq4 4, 0)) none (some (rowD (rows n 12), 0)) (some (.int (ab n 12).1, 0)) pw tn none none none
  have seq2 : ∀ {f g : En → SR} {k : En → SR} {env e : En}, seqS f g env = .nx e → seqS f (seqS g k) env = k e := by
    intro f g k env e h
    unfold seqS at h ⊢
    cases hf : f env with
    | nx e' => rw [hf] at h; simp only at h ⊢; rw [h]
    | ret _ _ => rw [hf] at h; cases h
    | bk _ => rw [hf] at h; cases h
    | ct _ => rw [hf] at h; cases h
    | ex _ => rw [hf] at h; cases h
    | no => rw [hf] at h; cases h
  exact ⟨none, fnF_ret (Eq.trans (seqS_nx e1) <|
    Eq.trans (seqS_nx e2) <|
    Eq.trans (seqS_nx (s3 n h1 h60 _ _)) <|
    Eq.trans (seqS_nx (s4 n h1 h60 _ _ _ _ _ _ _ _ _ _ _ _ _ _ _ _ _)) <|
    Eq.trans (seq2 (s56 n h1 h60 _ _ _)) <|
    Eq.trans (seqS_nx (s7 n h1 h60 _ _ _ _ _ _ _ _ _ _ _ _ _ _ _ _ _)) <|
    Eq.trans (seqS_nx (s8 n h1 h60 _ _ _ _ _ _ _ _ _ _ _ _ _ _ _ _ _ _)) <|
    Eq.trans (seqS_nx (s9 n h1 h60 _ _ _ _ _ _ _ _ _ _ _ _ _ _ _ _)) <|
    Eq.trans (seqS_nx (s10 n h1 h60 _ _ _ _ _ _ _ _ _ _ _ _ _ _ _ _ _ _)) <|
    Eq.trans (seqS_nx (s11 _ _ _ _ _ _ _ _ _ _ _ _ _ _ _ _ _ _ _)) <|
    Eq.trans (seqS_nx (s12 n h1 h60 _ _ _ _ _ _ _ _ _ _ _ _ _ _ _ _)) <|
    Eq.trans (seqS_nx (s13 n h1 h60 _ _ _ _ _ _ _ _ _ _ _ _ _ _ _)) <|
    Eq.trans (seq2 e15) <|
    Eq.trans (seqS_nx (s16 n h1 h60 _ _ _ _ _ _ _ _ _ _ _ _ _ _ _ _ _ _)) <|
    Eq.trans (seqS_nx (s17 n h1 h60 _ _ _ _ _ _ _ _ _ _ _ _ _ _ _)) <|
    Eq.trans (seqS_nx (s18 n _ _ _ _ _ _ _ _ _ _ _ _ _ _ _ _ _ _)) <|
    Eq.trans (seqS_nx (s19 n _ _ _ _ _ _ _ _ _ _ _ _ _ _ _ _ _)) <|
    Eq.trans (seqS_nx e20) <|
    s21 _)⟩
end L51
end

namespace L51
open PySem PySem.Spec PyProof.Rows L2 Pv
theorem all_mk {l : PySem.W.OpenLaw} {w : World} {K : PySem.W.Frag} {h : Heap} {mg : Str → Option Value} {fa : Addr} (X : K.In h) (G : h.Ns mainGlobals mg) (hfa : mg "law" = some (.ref fa))
    {f0 : Addr} {oc0 : Value} {od0 an0 : Option Addr} {sl0 : Array (Option Value)} {kV0 dc0 pm0 cd0 ct0 : Value}
    {f1 : Addr} {oc1 : Value} {od1 an1 : Option Addr} {sl1 : Array (Option Value)} {kV1 dc1 pm1 cd1 ct1 : Value}
    {f2 : Addr} {oc2 : Value} {od2 an2 : Option Addr} {sl2 : Array (Option Value)} {kV2 dc2 pm2 cd2 ct2 : Value}
    {f3 : Addr} {oc3 : Value} {od3 an3 : Option Addr} {sl3 : Array (Option Value)} {kV3 dc3 pm3 cd3 ct3 : Value}
    {f4 : Addr} {oc4 : Value} {od4 an4 : Option Addr} {sl4 : Array (Option Value)} {kV4 dc4 pm4 cd4 ct4 : Value}
    {f5 : Addr} {oc5 : Value} {od5 an5 : Option Addr} {sl5 : Array (Option Value)} {kV5 dc5 pm5 cd5 ct5 : Value}
    {f6 : Addr} {oc6 : Value} {od6 an6 : Option Addr} {sl6 : Array (Option Value)} {kV6 dc6 pm6 cd6 ct6 : Value}
    {f7 : Addr} {oc7 : Value} {od7 an7 : Option Addr} {sl7 : Array (Option Value)} {kV7 dc7 pm7 cd7 ct7 : Value}
    {f8 : Addr} {oc8 : Value} {od8 an8 : Option Addr} {sl8 : Array (Option Value)} {kV8 dc8 pm8 cd8 ct8 : Value}
    {f9 : Addr} {oc9 : Value} {od9 an9 : Option Addr} {sl9 : Array (Option Value)} {kV9 dc9 pm9 cd9 ct9 : Value}
    {f10 : Addr} {oc10 : Value} {od10 an10 : Option Addr} {sl10 : Array (Option Value)} {kV10 dc10 pm10 cd10 ct10 : Value}
    {f11 : Addr} {oc11 : Value} {od11 an11 : Option Addr} {sl11 : Array (Option Value)} {kV11 dc11 pm11 cd11 ct11 : Value}
    {f12 : Addr} {oc12 : Value} {od12 an12 : Option Addr} {sl12 : Array (Option Value)} {kV12 dc12 pm12 cd12 ct12 : Value}
    {f13 : Addr} {oc13 : Value} {od13 an13 : Option Addr} {sl13 : Array (Option Value)} {kV13 dc13 pm13 cd13 ct13 : Value}
    {f14 : Addr} {oc14 : Value} {od14 an14 : Option Addr} {sl14 : Array (Option Value)} {kV14 dc14 pm14 cd14 ct14 : Value}
    {f15 : Addr} {oc15 : Value} {od15 an15 : Option Addr} {sl15 : Array (Option Value)} {kV15 dc15 pm15 cd15 ct15 : Value}
    {f16 : Addr} {oc16 : Value} {od16 an16 : Option Addr} {sl16 : Array (Option Value)} {kV16 dc16 pm16 cd16 ct16 : Value}
    {f17 : Addr} {oc17 : Value} {od17 an17 : Option Addr} {sl17 : Array (Option Value)} {kV17 dc17 pm17 cd17 ct17 : Value}
    {f18 : Addr} {oc18 : Value} {od18 an18 : Option Addr} {sl18 : Array (Option Value)} {kV18 dc18 pm18 cd18 ct18 : Value}
    {f19 : Addr} {oc19 : Value} {od19 an19 : Option Addr} {sl19 : Array (Option Value)} {kV19 dc19 pm19 cd19 ct19 : Value}
    {f20 : Addr} {oc20 : Value} {od20 an20 : Option Addr} {sl20 : Array (Option Value)} {kV20 dc20 pm20 cd20 ct20 : Value}
    {f21 : Addr} {oc21 : Value} {od21 an21 : Option Addr} {sl21 : Array (Option Value)} {kV21 dc21 pm21 cd21 ct21 : Value}
    {f22 : Addr} {oc22 : Value} {od22 an22 : Option Addr} {sl22 : Array (Option Value)} {kV22 dc22 pm22 cd22 ct22 : Value}
    {f23 : Addr} {oc23 : Value} {od23 an23 : Option Addr} {sl23 : Array (Option Value)} {kV23 dc23 pm23 cd23 ct23 : Value}
    {f24 : Addr} {oc24 : Value} {od24 an24 : Option Addr} {sl24 : Array (Option Value)} {kV24 dc24 pm24 cd24 ct24 : Value}
    {x_Malformed : Addr}
    {t_MOST_COMPARED : Tok}
    {t_MOST_EDGES : Tok}
    {t_MOST_LENGTH : Tok}
    {t_MOST_POINTS : Tok}
    (a0 : PySem.W.nsIn K mainGlobals "_law_state" = some (some (.ref f0))) (l0 : K.lookup f0 = some ⟨oc0, od0, .func (PySem.W.fnOf "_law_state" "_law_state" (defArgs s__law_state) (defBody s__law_state) (defScope s__law_state) .none kV0 dc0 pm0 an0 cd0 ct0), sl0⟩) (e0 : PySem.W.codeIn K cd0 "_law_state" = true) (k0 : PySem.W.keepIn K (.ref f0) = true)
    (a1 : PySem.W.nsIn K mainGlobals "is_integer" = some (some (.ref f1))) (l1 : K.lookup f1 = some ⟨oc1, od1, .func (PySem.W.fnOf "is_integer" "is_integer" (defArgs s_is_integer) (defBody s_is_integer) (defScope s_is_integer) .none kV1 dc1 pm1 an1 cd1 ct1), sl1⟩) (e1 : PySem.W.codeIn K cd1 "is_integer" = true) (k1 : PySem.W.keepIn K (.ref f1) = true)
    (a2 : PySem.W.nsIn K mainGlobals "made_graph" = some (some (.ref f2))) (l2 : K.lookup f2 = some ⟨oc2, od2, .func (PySem.W.fnOf "made_graph" "made_graph" (defArgs s_made_graph) (defBody s_made_graph) (defScope s_made_graph) .none kV2 dc2 pm2 an2 cd2 ct2), sl2⟩) (e2 : PySem.W.codeIn K cd2 "made_graph" = true) (k2 : PySem.W.keepIn K (.ref f2) = true)
    (a3 : PySem.W.nsIn K mainGlobals "near_points" = some (some (.ref f3))) (l3 : K.lookup f3 = some ⟨oc3, od3, .func (PySem.W.fnOf "near_points" "near_points" (defArgs s_near_points) (defBody s_near_points) (defScope s_near_points) .none kV3 dc3 pm3 an3 cd3 ct3), sl3⟩) (e3 : PySem.W.codeIn K cd3 "near_points" = true) (k3 : PySem.W.keepIn K (.ref f3) = true)
    (a4 : PySem.W.nsIn K mainGlobals "start_row" = some (some (.ref f4))) (l4 : K.lookup f4 = some ⟨oc4, od4, .func (PySem.W.fnOf "start_row" "start_row" (defArgs s_start_row) (defBody s_start_row) (defScope s_start_row) .none kV4 dc4 pm4 an4 cd4 ct4), sl4⟩) (e4 : PySem.W.codeIn K cd4 "start_row" = true) (k4 : PySem.W.keepIn K (.ref f4) = true)
    (a5 : PySem.W.nsIn K mainGlobals "led" = some (some (.ref f5))) (l5 : K.lookup f5 = some ⟨oc5, od5, .func (PySem.W.fnOf "led" "led" (defArgs s_led) (defBody s_led) (defScope s_led) .none kV5 dc5 pm5 an5 cd5 ct5), sl5⟩) (e5 : PySem.W.codeIn K cd5 "led" = true) (k5 : PySem.W.keepIn K (.ref f5) = true)
    (a6 : PySem.W.nsIn K mainGlobals "_law_take" = some (some (.ref f6))) (l6 : K.lookup f6 = some ⟨oc6, od6, .func (PySem.W.fnOf "_law_take" "_law_take" (defArgs s__law_take) (defBody s__law_take) (defScope s__law_take) .none kV6 dc6 pm6 an6 cd6 ct6), sl6⟩) (e6 : PySem.W.codeIn K cd6 "_law_take" = true) (k6 : PySem.W.keepIn K (.ref f6) = true)
    (a7 : PySem.W.nsIn K mainGlobals "check_sizes" = some (some (.ref f7))) (l7 : K.lookup f7 = some ⟨oc7, od7, .func (PySem.W.fnOf "check_sizes" "check_sizes" (defArgs s_check_sizes) (defBody s_check_sizes) (defScope s_check_sizes) .none kV7 dc7 pm7 an7 cd7 ct7), sl7⟩) (e7 : PySem.W.codeIn K cd7 "check_sizes" = true) (k7 : PySem.W.keepIn K (.ref f7) = true)
    (a8 : PySem.W.nsIn K mainGlobals "check_between" = some (some (.ref f8))) (l8 : K.lookup f8 = some ⟨oc8, od8, .func (PySem.W.fnOf "check_between" "check_between" (defArgs s_check_between) (defBody s_check_between) (defScope s_check_between) .none kV8 dc8 pm8 an8 cd8 ct8), sl8⟩) (e8 : PySem.W.codeIn K cd8 "check_between" = true) (k8 : PySem.W.keepIn K (.ref f8) = true)
    (a9 : PySem.W.nsIn K mainGlobals "is_point" = some (some (.ref f9))) (l9 : K.lookup f9 = some ⟨oc9, od9, .func (PySem.W.fnOf "is_point" "is_point" (defArgs s_is_point) (defBody s_is_point) (defScope s_is_point) .none kV9 dc9 pm9 an9 cd9 ct9), sl9⟩) (e9 : PySem.W.codeIn K cd9 "is_point" = true) (k9 : PySem.W.keepIn K (.ref f9) = true)
    (a10 : PySem.W.nsIn K mainGlobals "check_length" = some (some (.ref f10))) (l10 : K.lookup f10 = some ⟨oc10, od10, .func (PySem.W.fnOf "check_length" "check_length" (defArgs s_check_length) (defBody s_check_length) (defScope s_check_length) .none kV10 dc10 pm10 an10 cd10 ct10), sl10⟩) (e10 : PySem.W.codeIn K cd10 "check_length" = true) (k10 : PySem.W.keepIn K (.ref f10) = true)
    (a11 : PySem.W.nsIn K mainGlobals "walk_counts" = some (some (.ref f11))) (l11 : K.lookup f11 = some ⟨oc11, od11, .func (PySem.W.fnOf "walk_counts" "walk_counts" (defArgs s_walk_counts) (defBody s_walk_counts) (defScope s_walk_counts) .none kV11 dc11 pm11 an11 cd11 ct11), sl11⟩) (e11 : PySem.W.codeIn K cd11 "walk_counts" = true) (k11 : PySem.W.keepIn K (.ref f11) = true)
    (a12 : PySem.W.nsIn K mainGlobals "ring_graph" = some (some (.ref f12))) (l12 : K.lookup f12 = some ⟨oc12, od12, .func (PySem.W.fnOf "ring_graph" "ring_graph" (defArgs s_ring_graph) (defBody s_ring_graph) (defScope s_ring_graph) .none kV12 dc12 pm12 an12 cd12 ct12), sl12⟩) (e12 : PySem.W.codeIn K cd12 "ring_graph" = true) (k12 : PySem.W.keepIn K (.ref f12) = true)
    (a13 : PySem.W.nsIn K mainGlobals "is_edge" = some (some (.ref f13))) (l13 : K.lookup f13 = some ⟨oc13, od13, .func (PySem.W.fnOf "is_edge" "is_edge" (defArgs s_is_edge) (defBody s_is_edge) (defScope s_is_edge) .none kV13 dc13 pm13 an13 cd13 ct13), sl13⟩) (e13 : PySem.W.codeIn K cd13 "is_edge" = true) (k13 : PySem.W.keepIn K (.ref f13) = true)
    (a14 : PySem.W.nsIn K mainGlobals "path_graph" = some (some (.ref f14))) (l14 : K.lookup f14 = some ⟨oc14, od14, .func (PySem.W.fnOf "path_graph" "path_graph" (defArgs s_path_graph) (defBody s_path_graph) (defScope s_path_graph) .none kV14 dc14 pm14 an14 cd14 ct14), sl14⟩) (e14 : PySem.W.codeIn K cd14 "path_graph" = true) (k14 : PySem.W.keepIn K (.ref f14) = true)
    (a15 : PySem.W.nsIn K mainGlobals "clique_graph" = some (some (.ref f15))) (l15 : K.lookup f15 = some ⟨oc15, od15, .func (PySem.W.fnOf "clique_graph" "clique_graph" (defArgs s_clique_graph) (defBody s_clique_graph) (defScope s_clique_graph) .none kV15 dc15 pm15 an15 cd15 ct15), sl15⟩) (e15 : PySem.W.codeIn K cd15 "clique_graph" = true) (k15 : PySem.W.keepIn K (.ref f15) = true)
    (a16 : PySem.W.nsIn K mainGlobals "is_rooted_graph" = some (some (.ref f16))) (l16 : K.lookup f16 = some ⟨oc16, od16, .func (PySem.W.fnOf "is_rooted_graph" "is_rooted_graph" (defArgs s_is_rooted_graph) (defBody s_is_rooted_graph) (defScope s_is_rooted_graph) .none kV16 dc16 pm16 an16 cd16 ct16), sl16⟩) (e16 : PySem.W.codeIn K cd16 "is_rooted_graph" = true) (k16 : PySem.W.keepIn K (.ref f16) = true)
    (a17 : PySem.W.nsIn K mainGlobals "check_graph" = some (some (.ref f17))) (l17 : K.lookup f17 = some ⟨oc17, od17, .func (PySem.W.fnOf "check_graph" "check_graph" (defArgs s_check_graph) (defBody s_check_graph) (defScope s_check_graph) .none kV17 dc17 pm17 an17 cd17 ct17), sl17⟩) (e17 : PySem.W.codeIn K cd17 "check_graph" = true) (k17 : PySem.W.keepIn K (.ref f17) = true)
    (a18 : PySem.W.nsIn K mainGlobals "closed_walks" = some (some (.ref f18))) (l18 : K.lookup f18 = some ⟨oc18, od18, .func (PySem.W.fnOf "closed_walks" "closed_walks" (defArgs s_closed_walks) (defBody s_closed_walks) (defScope s_closed_walks) .none kV18 dc18 pm18 an18 cd18 ct18), sl18⟩) (e18 : PySem.W.codeIn K cd18 "closed_walks" = true) (k18 : PySem.W.keepIn K (.ref f18) = true)
    (a19 : PySem.W.nsIn K mainGlobals "cartesian_product" = some (some (.ref f19))) (l19 : K.lookup f19 = some ⟨oc19, od19, .func (PySem.W.fnOf "cartesian_product" "cartesian_product" (defArgs s_cartesian_product) (defBody s_cartesian_product) (defScope s_cartesian_product) .none kV19 dc19 pm19 an19 cd19 ct19), sl19⟩) (e19 : PySem.W.codeIn K cd19 "cartesian_product" = true) (k19 : PySem.W.keepIn K (.ref f19) = true)
    (a20 : PySem.W.nsIn K mainGlobals "_law_told" = some (some (.ref f20))) (l20 : K.lookup f20 = some ⟨oc20, od20, .func (PySem.W.fnOf "_law_told" "_law_told" (defArgs s__law_told) (defBody s__law_told) (defScope s__law_told) .none kV20 dc20 pm20 an20 cd20 ct20), sl20⟩) (e20 : PySem.W.codeIn K cd20 "_law_told" = true) (k20 : PySem.W.keepIn K (.ref f20) = true)
    (a21 : PySem.W.nsIn K mainGlobals "_law_same" = some (some (.ref f21))) (l21 : K.lookup f21 = some ⟨oc21, od21, .func (PySem.W.fnOf "_law_same" "_law_same" (defArgs s__law_same) (defBody s__law_same) (defScope s__law_same) .none kV21 dc21 pm21 an21 cd21 ct21), sl21⟩) (e21 : PySem.W.codeIn K cd21 "_law_same" = true) (k21 : PySem.W.keepIn K (.ref f21) = true)
    (a22 : PySem.W.nsIn K mainGlobals "_law_is_told" = some (some (.ref f22))) (l22 : K.lookup f22 = some ⟨oc22, od22, .func (PySem.W.fnOf "_law_is_told" "_law_is_told" (defArgs s__law_is_told) (defBody s__law_is_told) (defScope s__law_is_told) .none kV22 dc22 pm22 an22 cd22 ct22), sl22⟩) (e22 : PySem.W.codeIn K cd22 "_law_is_told" = true) (k22 : PySem.W.keepIn K (.ref f22) = true)
    (a23 : PySem.W.nsIn K mainGlobals "_law_is_raised" = some (some (.ref f23))) (l23 : K.lookup f23 = some ⟨oc23, od23, .func (PySem.W.fnOf "_law_is_raised" "_law_is_raised" (defArgs s__law_is_raised) (defBody s__law_is_raised) (defScope s__law_is_raised) .none kV23 dc23 pm23 an23 cd23 ct23), sl23⟩) (e23 : PySem.W.codeIn K cd23 "_law_is_raised" = true) (k23 : PySem.W.keepIn K (.ref f23) = true)
    (a24 : PySem.W.nsIn K mainGlobals "law" = some (some (.ref f24))) (l24 : K.lookup f24 = some ⟨oc24, od24, .func (PySem.W.fnOf "law" "law" (defArgs s_law) (defBody s_law) (defScope s_law) .none kV24 dc24 pm24 an24 cd24 ct24), sl24⟩) (e24 : PySem.W.codeIn K cd24 "law" = true) (k24 : PySem.W.keepIn K (.ref f24) = true)
    (xa_Malformed : PySem.W.nsIn K mainGlobals "Malformed" = some (some (.ref x_Malformed))) (xk_Malformed : PySem.W.keepIn K (.ref x_Malformed) = true) (xq_Malformed : PySem.W.excIn K x_Malformed [.type "ValueError", .type "Exception", .type "BaseException", .type "object"] "ValueError.__new__" = true) (xs_Malformed : PySem.W.subIn K (.ref x_Malformed) (.type "BaseException") = some true) (xt_Malformed : PySem.W.typeIn K (.ref x_Malformed) = some (.type "type")) (xi_Malformed : PySem.W.isClsIn K x_Malformed = true) (xf_Malformed : PySem.W.subIn K (.ref x_Malformed) (.ref x_Malformed) = some true)
    (c_MOST_COMPARED : PySem.W.nsIn K mainGlobals "MOST_COMPARED" = some (some (.int 60 t_MOST_COMPARED)))
    (c_MOST_EDGES : PySem.W.nsIn K mainGlobals "MOST_EDGES" = some (some (.int 4000 t_MOST_EDGES)))
    (c_MOST_LENGTH : PySem.W.nsIn K mainGlobals "MOST_LENGTH" = some (some (.int 12 t_MOST_LENGTH)))
    (c_MOST_POINTS : PySem.W.nsIn K mainGlobals "MOST_POINTS" = some (some (.int 400 t_MOST_POINTS)))
    (b_abs : PySem.W.nsIn K mainGlobals "abs" = some none)
    (b_all : PySem.W.nsIn K mainGlobals "all" = some none)
    (b_any : PySem.W.nsIn K mainGlobals "any" = some none)
    (b_bool : PySem.W.nsIn K mainGlobals "bool" = some none)
    (b_int : PySem.W.nsIn K mainGlobals "int" = some none)
    (b_isinstance : PySem.W.nsIn K mainGlobals "isinstance" = some none)
    (b_len : PySem.W.nsIn K mainGlobals "len" = some none)
    (b_max : PySem.W.nsIn K mainGlobals "max" = some none)
    (b_min : PySem.W.nsIn K mainGlobals "min" = some none)
    (b_range : PySem.W.nsIn K mainGlobals "range" = some none)
    (b_sorted : PySem.W.nsIn K mainGlobals "sorted" = some none)
    (b_str : PySem.W.nsIn K mainGlobals "str" = some none)
    (b_sum : PySem.W.nsIn K mainGlobals "sum" = some none)
    (b_tuple : PySem.W.nsIn K mainGlobals "tuple" = some none)
    (b_zip : PySem.W.nsIn K mainGlobals "zip" = some none) :
    ∃ fd : FuncData, (∀ (s : Shared) (v : Value), BindsTo s fd ⟨[v], []⟩ [("script", v)]) ∧ ∀ base : Heap, K.In base → base.Ns mainGlobals mg → FnOk l.prog w K mg base (L2.CX l.prog w) 9 fa fd ["script"] (lawSp K F_law) := by
  let E : Facts K mg := {
    d__law_state := DA.of X G a0 l0 e0 k0 fun _ _ _ _ _ _ us hl => match us, hl with | [_], _ => rfl,
    d_is_integer := DA.of X G a1 l1 e1 k1 fun _ _ _ _ _ _ us hl => match us, hl with | [_], _ => rfl,
    d_made_graph := DA.of X G a2 l2 e2 k2 fun _ _ _ _ _ _ us hl => match us, hl with | [_, _], _ => rfl,
    d_near_points := DA.of X G a3 l3 e3 k3 fun _ _ _ _ _ _ us hl => match us, hl with | [_], _ => rfl,
    d_start_row := DA.of X G a4 l4 e4 k4 fun _ _ _ _ _ _ us hl => match us, hl with | [_, _], _ => rfl,
    d_led := DA.of X G a5 l5 e5 k5 fun _ _ _ _ _ _ us hl => match us, hl with | [_, _], _ => rfl,
    d__law_take := DA.of X G a6 l6 e6 k6 fun _ _ _ _ _ _ us hl => match us, hl with | [_, _], _ => rfl,
    d_check_sizes := DA.of X G a7 l7 e7 k7 fun _ _ _ _ _ _ us hl => match us, hl with | [_, _], _ => rfl,
    d_check_between := DA.of X G a8 l8 e8 k8 fun _ _ _ _ _ _ us hl => match us, hl with | [_, _], _ => rfl,
    d_is_point := DA.of X G a9 l9 e9 k9 fun _ _ _ _ _ _ us hl => match us, hl with | [_, _], _ => rfl,
    d_check_length := DA.of X G a10 l10 e10 k10 fun _ _ _ _ _ _ us hl => match us, hl with | [_, _], _ => rfl,
    d_walk_counts := DA.of X G a11 l11 e11 k11 fun _ _ _ _ _ _ us hl => match us, hl with | [_, _], _ => rfl,
    d_ring_graph := DA.of X G a12 l12 e12 k12 fun _ _ _ _ _ _ us hl => match us, hl with | [_], _ => rfl,
    d_is_edge := DA.of X G a13 l13 e13 k13 fun _ _ _ _ _ _ us hl => match us, hl with | [_, _], _ => rfl,
    d_path_graph := DA.of X G a14 l14 e14 k14 fun _ _ _ _ _ _ us hl => match us, hl with | [_], _ => rfl,
    d_clique_graph := DA.of X G a15 l15 e15 k15 fun _ _ _ _ _ _ us hl => match us, hl with | [_], _ => rfl,
    d_is_rooted_graph := DA.of X G a16 l16 e16 k16 fun _ _ _ _ _ _ us hl => match us, hl with | [_], _ => rfl,
    d_check_graph := DA.of X G a17 l17 e17 k17 fun _ _ _ _ _ _ us hl => match us, hl with | [_], _ => rfl,
    d_closed_walks := DA.of X G a18 l18 e18 k18 fun _ _ _ _ _ _ us hl => match us, hl with | [_, _], _ => rfl,
    d_cartesian_product := DA.of X G a19 l19 e19 k19 fun _ _ _ _ _ _ us hl => match us, hl with | [_, _], _ => rfl,
    d__law_told := DA.of X G a20 l20 e20 k20 fun _ _ _ _ _ _ us hl => match us, hl with | [_, _], _ => rfl,
    d__law_same := DA.of X G a21 l21 e21 k21 fun _ _ _ _ _ _ us hl => match us, hl with | [_, _], _ => rfl,
    d__law_is_told := DA.of X G a22 l22 e22 k22 fun _ _ _ _ _ _ us hl => match us, hl with | [_, _], _ => rfl,
    d__law_is_raised := DA.of X G a23 l23 e23 k23 fun _ _ _ _ _ _ us hl => match us, hl with | [_, _], _ => rfl,
    d_law := DA.of X G a24 l24 e24 k24 fun _ _ _ _ _ _ us hl => match us, hl with | [_], _ => rfl,
    x_Malformed := ⟨x_Malformed, PySem.W.mg_of X G xa_Malformed, xk_Malformed, xq_Malformed, xs_Malformed, xt_Malformed, xi_Malformed, xf_Malformed⟩,
    t_MOST_COMPARED := t_MOST_COMPARED,
    c_MOST_COMPARED := PySem.W.mg_of X G c_MOST_COMPARED,
    t_MOST_EDGES := t_MOST_EDGES,
    c_MOST_EDGES := PySem.W.mg_of X G c_MOST_EDGES,
    t_MOST_LENGTH := t_MOST_LENGTH,
    c_MOST_LENGTH := PySem.W.mg_of X G c_MOST_LENGTH,
    t_MOST_POINTS := t_MOST_POINTS,
    c_MOST_POINTS := PySem.W.mg_of X G c_MOST_POINTS,
    b_abs := PySem.W.mg_none_of X G b_abs,
    b_all := PySem.W.mg_none_of X G b_all,
    b_any := PySem.W.mg_none_of X G b_any,
    b_bool := PySem.W.mg_none_of X G b_bool,
    b_int := PySem.W.mg_none_of X G b_int,
    b_isinstance := PySem.W.mg_none_of X G b_isinstance,
    b_len := PySem.W.mg_none_of X G b_len,
    b_max := PySem.W.mg_none_of X G b_max,
    b_min := PySem.W.mg_none_of X G b_min,
    b_range := PySem.W.mg_none_of X G b_range,
    b_sorted := PySem.W.mg_none_of X G b_sorted,
    b_str := PySem.W.mg_none_of X G b_str,
    b_sum := PySem.W.mg_none_of X G b_sum,
    b_tuple := PySem.W.mg_none_of X G b_tuple,
    b_zip := PySem.W.mg_none_of X G b_zip }
  have e := hfa.symm.trans E.d_law.m
  cases e
  exact ⟨E.d_law.fd, fun s v => .of_eq rfl, fun base _ _ => lawSp_of (C := E.C) rfl (ok_law E)⟩
end L51
open PySem PySem.W PyProof.Rows
set_option maxHeartbeats 0 in
theorem PySem.Challenge.cw_momentroads_k51_whole_paths_rings_and_cl_holds : PySem.Challenge.rw_momentroads_k51_whole_paths_rings_and_cl.Holds := by
  w_on; o_law; k_head; (case hw => w_witness2)
  k_fill
  refine L2.walk_of (l := PySem.Challenge.rw_momentroads_k51_whole_paths_rings_and_cl) (n := 63) (k := 9) (x := "script") (CX := fun w => L2.CX PySem.Challenge.pw_momentroads_k51_whole_paths_rings_and_cl w) (sp := fun w => Pv.lawSp _ L51.F_law) rfl (by decide) rfl ⟨rfl, by decide, by decide⟩ (fun w h Y => PySem.W.kIn_of Y) ?F (fun w H a ns hl hO hS => Pv.lawSp_in hO hS (L51.law_all ns hl)) (fun _ _ _ _ _ h => Pv.cx_no h)
  case F =>
    intro w mg fa h KX G hmg
    refine' L51.all_mk KX G hmg ?a0 ?l0 ?e0 ?k0 ?a1 ?l1 ?e1 ?k1 ?a2 ?l2 ?e2 ?k2 ?a3 ?l3 ?e3 ?k3 ?a4 ?l4 ?e4 ?k4 ?a5 ?l5 ?e5 ?k5 ?a6 ?l6 ?e6 ?k6 ?a7 ?l7 ?e7 ?k7 ?a8 ?l8 ?e8 ?k8 ?a9 ?l9 ?e9 ?k9 ?a10 ?l10 ?e10 ?k10 ?a11 ?l11 ?e11 ?k11 ?a12 ?l12 ?e12 ?k12 ?a13 ?l13 ?e13 ?k13 ?a14 ?l14 ?e14 ?k14 ?a15 ?l15 ?e15 ?k15 ?a16 ?l16 ?e16 ?k16 ?a17 ?l17 ?e17 ?k17 ?a18 ?l18 ?e18 ?k18 ?a19 ?l19 ?e19 ?k19 ?a20 ?l20 ?e20 ?k20 ?a21 ?l21 ?e21 ?k21 ?a22 ?l22 ?e22 ?k22 ?a23 ?l23 ?e23 ?k23 ?a24 ?l24 ?e24 ?k24 ?xa_Malformed ?xk_Malformed ?xq_Malformed ?xs_Malformed ?xt_Malformed ?xi_Malformed ?xf_Malformed ?c_MOST_COMPARED ?c_MOST_EDGES ?c_MOST_LENGTH ?c_MOST_POINTS ?b_abs ?b_all ?b_any ?b_bool ?b_int ?b_isinstance ?b_len ?b_max ?b_min ?b_range ?b_sorted ?b_str ?b_sum ?b_tuple ?b_zip
    (case a0 => k_is)
    (case l0 => k_is)
    (case e0 => k_is)
    (case k0 => k_is)
    (case a1 => k_is)
    (case l1 => k_is)
    (case e1 => k_is)
    (case k1 => k_is)
    (case a2 => k_is)
    (case l2 => k_is)
    (case e2 => k_is)
    (case k2 => k_is)
    (case a3 => k_is)
    (case l3 => k_is)
    (case e3 => k_is)
    (case k3 => k_is)
    (case a4 => k_is)
    (case l4 => k_is)
    (case e4 => k_is)
    (case k4 => k_is)
    (case a5 => k_is)
    (case l5 => k_is)
    (case e5 => k_is)
    (case k5 => k_is)
    (case a6 => k_is)
    (case l6 => k_is)
    (case e6 => k_is)
    (case k6 => k_is)
    (case a7 => k_is)
    (case l7 => k_is)
    (case e7 => k_is)
    (case k7 => k_is)
    (case a8 => k_is)
    (case l8 => k_is)
    (case e8 => k_is)
    (case k8 => k_is)
    (case a9 => k_is)
    (case l9 => k_is)
    (case e9 => k_is)
    (case k9 => k_is)
    (case a10 => k_is)
    (case l10 => k_is)
    (case e10 => k_is)
    (case k10 => k_is)
    (case a11 => k_is)
    (case l11 => k_is)
    (case e11 => k_is)
    (case k11 => k_is)
    (case a12 => k_is)
    (case l12 => k_is)
    (case e12 => k_is)
    (case k12 => k_is)
    (case a13 => k_is)
    (case l13 => k_is)
    (case e13 => k_is)
    (case k13 => k_is)
    (case a14 => k_is)
    (case l14 => k_is)
    (case e14 => k_is)
    (case k14 => k_is)
    (case a15 => k_is)
    (case l15 => k_is)
    (case e15 => k_is)
    (case k15 => k_is)
    (case a16 => k_is)
    (case l16 => k_is)
    (case e16 => k_is)
    (case k16 => k_is)
    (case a17 => k_is)
    (case l17 => k_is)
    (case e17 => k_is)
    (case k17 => k_is)
    (case a18 => k_is)
    (case l18 => k_is)
    (case e18 => k_is)
    (case k18 => k_is)
    (case a19 => k_is)
    (case l19 => k_is)
    (case e19 => k_is)
    (case k19 => k_is)
    (case a20 => k_is)
    (case l20 => k_is)
    (case e20 => k_is)
    (case k20 => k_is)
    (case a21 => k_is)
    (case l21 => k_is)
    (case e21 => k_is)
    (case k21 => k_is)
    (case a22 => k_is)
    (case l22 => k_is)
    (case e22 => k_is)
    (case k22 => k_is)
    (case a23 => k_is)
    (case l23 => k_is)
    (case e23 => k_is)
    (case k23 => k_is)
    (case a24 => k_is)
    (case l24 => k_is)
    (case e24 => k_is)
    (case k24 => k_is)
    (case xa_Malformed => k_is)
    (case xk_Malformed => k_is)
    (case xq_Malformed => k_exc)
    (case xs_Malformed => k_is)
    (case xt_Malformed => k_is)
    (case xi_Malformed => k_is)
    (case xf_Malformed => first | rfl | k_is)
    (case c_MOST_COMPARED => k_is)
    (case c_MOST_EDGES => k_is)
    (case c_MOST_LENGTH => k_is)
    (case c_MOST_POINTS => k_is)
    (case b_abs => k_is)
    (case b_all => k_is)
    (case b_any => k_is)
    (case b_bool => k_is)
    (case b_int => k_is)
    (case b_isinstance => k_is)
    (case b_len => k_is)
    (case b_max => k_is)
    (case b_min => k_is)
    (case b_range => k_is)
    (case b_sorted => k_is)
    (case b_str => k_is)
    (case b_sum => k_is)
    (case b_tuple => k_is)
    (case b_zip => k_is)
