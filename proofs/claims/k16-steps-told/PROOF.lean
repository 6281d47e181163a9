import PyProof.Rows.All
import Wide.All
import OpenK.AllK
import Wide.FinOn
import KE.KStateDown
import HandS.ForMost
import HandS.WordsExc
import HandS.Defaults
import HandS.Flow
import HandS.Conv
import HandS.TupAny
import HandS.IsInst
import HandS.DictComp
import HandS.Zip
import HandS.Style
import HandS.Deep
import HandS.ListItems
import HandS.FStr
import HandS.Head0
import HandS.Head1
import HandS.Head2
import HandS.HeadEnd
import HandS.HeadHook1
import HandS.HeadHook2
import HandS.TryOnly
import KE.SortData
import HandS.WordsDict
import HandS.Codes
import PySem.Challenge.RW_firstfailing_k16_steps_told
set_option Elab.async false
set_option linter.all false
set_option maxRecDepth 100000
set_option maxHeartbeats 0
/-! The layer DL: values as plain data, the heap forgotten. -/
namespace DL
open PySem PySem.Spec PyProof.Rows L2

/-! ### texts as lists of codes -/
abbrev Tx := List Nat
abbrev St := L2.St
def S (l : Tx) : Str := ⟨l.toArray⟩
theorem S_cps (l : Tx) : (S l).cps.toList = l := by simp [S]
theorem S_of (x : Str) : S x.cps.toList = x := by cases x; simp [S]
theorem S_inj {l m : Tx} (h : S l = S m) : l = m := by
  have := congrArg (fun x : Str => x.cps.toList) h
  simpa [S] using this
theorem S_length (l : Tx) : (S l).length = l.length := by simp [S, Str.length]
theorem S_app (l m : Tx) : S l ++ S m = S (l ++ m) := by
  show Str.append (S l) (S m) = S (l ++ m)
  simp [S, Str.append]
theorem S_eq_iff {l m : Tx} : S l = S m ↔ l = m := ⟨S_inj, fun h => by rw [h]⟩
/-- a written text -/
def T (s : String) : Tx := (Str.ofString s).cps.toList
theorem S_T (s : String) : S (T s) = Str.ofString s := S_of _

/-! ### plain data -/
abbrev DK := Sum Int Tx
inductive D where
  | non | bl (b : Bool) | int (i : Int) | str (s : Tx) | tup (ds : List D) | lst (ds : List D) | dic (ks : List DK) (ds : List D) | obj (a : Addr) | ty (n : String) | scr (ns : List Int)
deriving Inhabited

def dkey : DK → Key
  | .inl i => .inl i
  | .inr s => .inr (S s)
theorem dkey_inj {a b : DK} (h : dkey a = dkey b) : a = b := by
  cases a <;> cases b <;> simp_all [dkey, S_eq_iff]

/-- the texts among the keys are of a size -/
def KeysOk (ks : List DK) : Prop := ∀ l : Tx, Sum.inr l ∈ ks → l.length ≤ sizeLine
section
variable (K : PySem.W.Frag)
mutual
inductive Rp (H : Hp) : V → D → Prop
  | non : Rp H .non .non
  | bl (b : Bool) : Rp H (.bl b) (.bl b)
  | int (i : Int) : Rp H (.int i) (.int i)
  | str (l : Tx) (h : l.length ≤ sizeLine) : Rp H (.str (S l)) (.str l)
  | tup {a : Addr} {xs : List V} {ds : List D} : SqT K H a xs → RpAll H xs ds → Rp H (.ref a) (.tup ds)
  | lst {a : Addr} {xs : List V} {ds : List D} : H a = some (.lst xs) → RpAll H xs ds → Rp H (.ref a) (.lst ds)
  | dic {a : Addr} {kvs : List (Key × V)} {ks : List DK} {ds : List D} : Rd H a (.dK kvs) → kvs.map (·.1) = ks.map dkey → KeysOk ks → RpAll H (kvs.map (·.2)) ds → Rp H (.ref a) (.dic ks ds)
  | obj (a : Addr) : Rp H (.ref a) (.obj a)
  | ty (n : String) : Rp H (.ty n) (.ty n)
  | scr {a : Addr} {ns : List Int} : SqL K H a (ns.map V.int) → Rp H (.ref a) (.scr ns)
inductive RpAll (H : Hp) : List V → List D → Prop
  | nil : RpAll H [] []
  | cons {v : V} {vs : List V} {d : D} {ds : List D} : Rp H v d → RpAll H vs ds → RpAll H (v :: vs) (d :: ds)
end
end

section
variable {K : PySem.W.Frag} {H H' : Hp}
theorem Same.rd {a : Addr} {u : HO} (e : Same H H') (h : Rd H a u) : Rd H' a u := h.elim (fun z => .inl (e _ _ z)) fun ⟨o, z⟩ => .inr ⟨o, e _ _ z⟩
theorem Same.sqT {a : Addr} {xs : List V} (e : Same H H') (h : SqT K H a xs) : SqT K H' a xs := h.elim (fun z => .inl (Same.rd e z)) .inr
theorem Same.sqL {a : Addr} {xs : List V} (e : Same H H') (h : SqL K H a xs) : SqL K H' a xs := h.elim (fun z => .inl (Same.rd e z)) .inr
mutual
theorem Rp.mono (e : Same H H') {v : V} {d : D} : Rp K H v d → Rp K H' v d
  | .non => .non
  | .bl b => .bl b
  | .int i => .int i
  | .str l h => .str l h
  | .tup h r => .tup (Same.sqT e h) (RpAll.mono e r)
  | .lst h r => .lst (e _ _ h) (RpAll.mono e r)
  | .dic h k z r => .dic (Same.rd e h) k z (RpAll.mono e r)
  | .obj a => .obj a
  | .ty n => .ty n
  | .scr h => .scr (Same.sqL e h)
theorem RpAll.mono (e : Same H H') {vs : List V} {ds : List D} : RpAll K H vs ds → RpAll K H' vs ds
  | .nil => .nil
  | .cons h r => .cons (Rp.mono e h) (RpAll.mono e r)
end
theorem RpAll.length : ∀ {vs : List V} {ds : List D}, RpAll K H vs ds → vs.length = ds.length
  | _, _, .nil => rfl
  | _, _, .cons _ t => by simp [RpAll.length t]
theorem RpAll.get : ∀ {vs : List V} {ds : List D}, RpAll K H vs ds → ∀ {i : Nat} {d : D}, ds[i]? = some d → ∃ v, vs[i]? = some v ∧ Rp K H v d
  | _, _, .nil, _, _, e => by simp at e
  | _, _, .cons h _, 0, d, e => by simp at e; subst e; exact ⟨_, rfl, h⟩
  | _, _, .cons _ t, i + 1, d, e => by
    obtain ⟨v, h1, h2⟩ := RpAll.get t (i := i) (d := d) (by simpa using e)
    exact ⟨v, by simpa using h1, h2⟩
theorem RpAll.getV : ∀ {vs : List V} {ds : List D}, RpAll K H vs ds → ∀ {i : Nat} {v : V}, vs[i]? = some v → ∃ d, ds[i]? = some d ∧ Rp K H v d
  | _, _, .nil, _, _, e => by simp at e
  | _, _, .cons h _, 0, d, e => by simp at e; subst e; exact ⟨_, rfl, h⟩
  | _, _, .cons _ t, i + 1, d, e => by
    obtain ⟨v, h1, h2⟩ := RpAll.getV t (i := i) (v := d) (by simpa using e)
    exact ⟨v, by simpa using h1, h2⟩
theorem RpAll.append : ∀ {vs ws : List V} {ds es : List D}, RpAll K H vs ds → RpAll K H ws es → RpAll K H (vs ++ ws) (ds ++ es)
  | _, _, _, _, .nil, s => s
  | _, _, _, _, .cons r t, s => .cons r (RpAll.append t s)
theorem RpAll.one {v : V} {d : D} (h : Rp K H v d) : RpAll K H [v] [d] := .cons h .nil
theorem RpAll.take : ∀ {vs : List V} {ds : List D} (n : Nat), RpAll K H vs ds → RpAll K H (vs.take n) (ds.take n)
  | _, _, 0, _ => .nil
  | _, _, _ + 1, .nil => .nil
  | _, _, n + 1, .cons r t => .cons r (RpAll.take n t)
theorem RpAll.drop : ∀ {vs : List V} {ds : List D} (n : Nat), RpAll K H vs ds → RpAll K H (vs.drop n) (ds.drop n)
  | _, _, 0, r => r
  | _, _, _ + 1, .nil => .nil
  | _, _, n + 1, .cons _ t => RpAll.drop n t
theorem RpAll.reverse : ∀ {vs : List V} {ds : List D}, RpAll K H vs ds → RpAll K H vs.reverse ds.reverse
  | _, _, .nil => .nil
  | _, _, .cons r t => by simpa using RpAll.append (RpAll.reverse t) (.one r)
theorem RpAll.set {v : V} {d : D} (r : Rp K H v d) : ∀ {vs : List V} {ds : List D} (i : Nat), RpAll K H vs ds → RpAll K H (vs.set i v) (ds.set i d)
  | _, _, _, .nil => .nil
  | _, _, 0, .cons _ t => .cons r t
  | _, _, i + 1, .cons q t => .cons q (RpAll.set r i t)
theorem RpAll.dropLast : ∀ {vs : List V} {ds : List D}, RpAll K H vs ds → RpAll K H vs.dropLast ds.dropLast := fun {vs ds} r => by
  rw [List.dropLast_eq_take, List.dropLast_eq_take, r.length]
  exact r.take _
theorem RpAll.strs : ∀ {vs : List V} {ls : List Tx}, RpAll K H vs (ls.map .str) → vs = ls.map fun l => V.str (S l)
  | _, [], .nil => rfl
  | _, l :: ls, .cons h t => by
    cases h
    rw [RpAll.strs (ls := ls) t]
    rfl
theorem RpAll.ofStrs : ∀ {ls : List Tx}, (∀ l ∈ ls, l.length ≤ sizeLine) → RpAll K H (ls.map fun l => V.str (S l)) (ls.map .str)
  | [], _ => .nil
  | l :: ls, h => .cons (.str l (h l (by simp))) (RpAll.ofStrs fun x hx => h x (by simp [hx]))
theorem RpAll.strLen : ∀ {vs : List V} {ls : List Tx}, RpAll K H vs (ls.map .str) → ∀ l ∈ ls, l.length ≤ sizeLine
  | _, [], _, _, h => by simp at h
  | _, l :: ls, .cons h t, m, hm => by
    rcases List.mem_cons.mp hm with rfl | hm
    · cases h with | str _ h => exact h
    · exact RpAll.strLen t m hm
theorem RpAll.ints : ∀ {vs : List V} {ls : List Int}, RpAll K H vs (ls.map .int) → vs = ls.map V.int
  | _, [], .nil => rfl
  | _, l :: ls, .cons h t => by
    cases h
    rw [RpAll.ints (ls := ls) t]
    rfl
theorem RpAll.bls : ∀ {vs : List V} {ls : List Bool}, RpAll K H vs (ls.map .bl) → vs = ls.map V.bl
  | _, [], .nil => rfl
  | _, l :: ls, .cons h t => by
    cases h
    rw [RpAll.bls (ls := ls) t]
    rfl
theorem RpAll.ofInts : ∀ (ls : List Int), RpAll K H (ls.map V.int) (ls.map .int)
  | [] => .nil
  | l :: ls => .cons (.int l) (RpAll.ofInts ls)
end

/-! ### slots, states -/
/-- a slot: nothing known; shared data; a list, a dict of one's own (no other value leans on it); the token of the draws -/
inductive Sl where
  | no | sh (d : D) | ol (ds : List D) | od (ks : List DK) (ds : List D) | tk (a : Addr) (n : Nat) | ot (a : Addr) (d : D)
def Sl.own : Sl → Bool
  | .ol _ => true
  | .od _ _ => true
  | .tk _ _ => true
  | .ot _ _ => true
  | _ => false
abbrev Rho := List Sl
def hasTk (ρ : Rho) (b : Addr) : Prop := ∃ n, Sl.tk b n ∈ ρ

/-- what is promised of the draws' object, by its content and the shared heap -/
class TapeI where
  TP : PySem.W.Frag → Nat → Hp → HO → Prop
  mono : ∀ {K : PySem.W.Frag} {n : Nat} {H H' : Hp} {o : HO}, Same H H' → TP K n H o → TP K n H' o
  le : ∀ {K : PySem.W.Frag} {n m : Nat} {H : Hp} {o : HO}, n ≤ m → TP K n H o → TP K m H o

open Classical in
/-- the heap without the objects of O -/
noncomputable def msk (O : Addr → Prop) (H : Hp) : Hp := fun b => if O b then none else H b
section
variable {O O' : Addr → Prop} {H H' : Hp}
theorem msk_of {b : Addr} (h : ¬ O b) : msk O H b = H b := by unfold msk; rw [if_neg h]
theorem msk_some {b : Addr} {o : HO} (h : msk O H b = some o) : ¬ O b ∧ H b = some o := by
  unfold msk at h
  split at h
  · cases h
  · exact ⟨by assumption, h⟩
theorem same_msk : Same (msk O H) H := fun b o h => (msk_some h).2
theorem msk_same (e : Same H H') : Same (msk O H) (msk O H') := fun b o h => by
  obtain ⟨h1, h2⟩ := msk_some h
  rw [msk_of h1]
  exact e b o h2
theorem msk_le (h : ∀ b, O' b → O b) : Same (msk O H) (msk O' H) := fun b o e => by
  obtain ⟨h1, h2⟩ := msk_some e
  rw [msk_of fun z => h1 (h b z)]
  exact h2
theorem msk_upd {a : Addr} {o : HO} (h : O a) : msk O (upd H a o) = msk O H := by
  funext b
  unfold msk
  split
  · rfl
  · rename_i hb
    rw [upd_ne]
    rintro rfl
    exact hb h
end

/-- the frame: the heap at the entry, whose objects are another's, the draws' object that was handed in -/
structure Fx where
  B : Hp
  O : Addr → Prop
  tp : Option Addr

/-- the addresses of the own slots -/
def own (σ : St) (ρ : Rho) (b : Addr) : Prop := ∃ (i : Nat) (s : Sl), ρ[i]? = some s ∧ s.own = true ∧ σ[i]? = some (some (.ref b))
def Ow (c : Fx) (σ : St) (ρ : Rho) (b : Addr) : Prop := c.O b ∨ own σ ρ b
noncomputable abbrev M (c : Fx) (σ : St) (ρ : Rho) (H : Hp) : Hp := msk (Ow c σ ρ) H

/-- an object that stands for a list, a dict -/
def OR (K : PySem.W.Frag) (m : Hp) (o : HO) : D → Prop
  | .lst ds => ∃ xs, o = .lst xs ∧ RpAll K m xs ds
  | .dic ks ds => ∃ kvs, o = .dK kvs ∧ kvs.map (·.1) = ks.map dkey ∧ KeysOk ks ∧ RpAll K m (kvs.map (·.2)) ds
  | _ => False
theorem OR.mono {K : PySem.W.Frag} {m m' : Hp} {o : HO} {d : D} (e : Same m m') (h : OR K m o d) : OR K m' o d := by
  cases d with
  | lst ds => obtain ⟨xs, h1, h2⟩ := h; exact ⟨xs, h1, h2.mono e⟩
  | dic ks ds => obtain ⟨xs, h1, h2, h3, h4⟩ := h; exact ⟨xs, h1, h2, h3, h4.mono e⟩
  | _ => exact h.elim
section
variable [TapeI] (K : PySem.W.Frag)
/-- one slot: m the shared heap -/
def SlR (c : Fx) (m H : Hp) (v : Option (Option V)) : Sl → Prop
  | .no => True
  | .sh d => ∃ x, v = some (some x) ∧ Rp K m x d
  | .ol ds => ∃ a xs, v = some (some (.ref a)) ∧ H a = some (.lst xs) ∧ RpAll K m xs ds ∧ c.B a = none
  | .od ks ds => ∃ a kvs, v = some (some (.ref a)) ∧ H a = some (.dK kvs) ∧ kvs.map (·.1) = ks.map dkey ∧ KeysOk ks ∧ RpAll K m (kvs.map (·.2)) ds ∧ c.B a = none
  | .tk a n => v = some (some (.ref a)) ∧ (∃ o, H a = some o ∧ TapeI.TP K n m o) ∧ (c.tp = some a ∨ c.B a = none)
  | .ot a d => v = some (some (.ref a)) ∧ (∃ o, H a = some o ∧ OR K m o d) ∧ c.B a = none
structure StR (c : Fx) (σ : St) (ρ : Rho) (H : Hp) : Prop where
  len : ρ.length = σ.length
  slot : ∀ (i : Nat) (s : Sl), ρ[i]? = some s → SlR K c (M c σ ρ H) H σ[i]? s
  inj : ∀ (i j : Nat) (s t : Sl) (a : Addr), ρ[i]? = some s → ρ[j]? = some t → s.own = true → t.own = true → σ[i]? = some (some (.ref a)) → σ[j]? = some (some (.ref a)) → i = j
  base : ∀ b o, c.tp ≠ some b → c.B b = some o → H b = some o
  dom : ∀ b, c.O b → H b ≠ none
  tape : ∀ t, c.tp = some t → c.O t ∧ ∃ n o, H t = some o ∧ TapeI.TP K n (M c σ ρ H) o
  tpB : ∀ t, c.tp = some t → c.B t ≠ none
end

section
variable [TapeI] {K : PySem.W.Frag} {c : Fx} {σ : St} {ρ : Rho} {H H' : Hp}
theorem SlR.mono {m m' : Hp} {v : Option (Option V)} {s : Sl} (em : Same m m') (e : ∀ b o, c.O b ∨ s.own = true ∧ v = some (some (.ref b)) → H b = some o → H' b = some o) (h : SlR K c m H v s) : SlR K c m' H' v s := by
  cases s with
  | no => trivial
  | sh d => obtain ⟨x, h1, h2⟩ := h; exact ⟨x, h1, h2.mono em⟩
  | ol ds => obtain ⟨a, xs, h1, h2, h3, h4⟩ := h; exact ⟨a, xs, h1, e _ _ (.inr ⟨rfl, h1⟩) h2, h3.mono em, h4⟩
  | od ks ds => obtain ⟨a, xs, h1, h2, h3, hz, h4, h5⟩ := h; exact ⟨a, xs, h1, e _ _ (.inr ⟨rfl, h1⟩) h2, h3, hz, h4.mono em, h5⟩
  | tk a n => obtain ⟨h1, ⟨o, h2, h3⟩, h4⟩ := h; exact ⟨h1, ⟨o, e _ _ (.inr ⟨rfl, h1⟩) h2, TapeI.mono em h3⟩, h4⟩
  | ot a n => obtain ⟨h1, ⟨o, h2, h3⟩, h4⟩ := h; exact ⟨h1, ⟨o, e _ _ (.inr ⟨rfl, h1⟩) h2, OR.mono em h3⟩, h4⟩
/-- the heap has grown -/
theorem StR.grow (h : StR K c σ ρ H) (e : Same H H') : StR K c σ ρ H' where
  len := h.len
  slot := fun i s q => (h.slot i s q).mono (msk_same e) fun b o _ z => e b o z
  inj := h.inj
  base := fun b o t q => e b o (h.base b o t q)
  dom := fun b q z => by
    cases w : H b with
    | none => exact h.dom b q w
    | some o => rw [e b o w] at z; cases z
  tape := fun t q => by
    obtain ⟨h1, n, o, h2, h3⟩ := h.tape t q
    exact ⟨h1, n, o, e _ _ h2, TapeI.mono (msk_same e) h3⟩
  tpB := h.tpB
theorem StR.own_some (h : StR K c σ ρ H) {b : Addr} (q : own σ ρ b) : H b ≠ none := by
  obtain ⟨i, s, h1, h2, h3⟩ := q
  have := h.slot i s h1
  cases s with
  | no => cases h2
  | sh d => cases h2
  | ol ds =>
    obtain ⟨a, xs, e1, e2, _⟩ := this
    rw [h3] at e1; cases e1; rw [e2]; exact fun z => nomatch z
  | od ks ds =>
    obtain ⟨a, xs, e1, e2, _⟩ := this
    rw [h3] at e1; cases e1; rw [e2]; exact fun z => nomatch z
  | tk a n =>
    obtain ⟨e1, ⟨o, e2, _⟩, _⟩ := this
    rw [h3] at e1; cases e1; rw [e2]; exact fun z => nomatch z
  | ot a n =>
    obtain ⟨e1, ⟨o, e2, _⟩, _⟩ := this
    rw [h3] at e1; cases e1; rw [e2]; exact fun z => nomatch z
theorem StR.ow_some (h : StR K c σ ρ H) {b : Addr} (q : Ow c σ ρ b) : H b ≠ none := q.elim (h.dom b) h.own_some
theorem StR.fresh (h : StR K c σ ρ H) {p : Addr} (q : H p = none) : ¬ Ow c σ ρ p := fun z => h.ow_some z q
theorem StR.newM (h : StR K c σ ρ H) {p : Addr} {o : HO} (q : H p = none) : M c σ ρ (upd H p o) p = some o := by
  show msk _ _ _ = _
  rw [msk_of (h.fresh q), upd_same]
theorem same_new {p : Addr} {o : HO} (q : H p = none) : Same H (upd H p o) := fun b x e => by
  rw [upd_ne (ne_of_none e q)]
  exact e
end

/-! ### readings over plain data -/
abbrev FE := Rho → (D → Prop) → Prop
abbrev FT := Rho → (Bool → Prop) → Prop
abbrev FA := Rho → (List D → Prop) → Prop
structure Dn where
  nx : Rho → Prop
  rt : D → Rho → Prop
  bk : Rho → Prop := fun _ => False
  ct : Rho → Prop := fun _ => False
abbrev FS := Dn → Rho → Prop
section
variable [TapeI] (K : PySem.W.Frag)
/-- behind an expression: the state stands, the shared heap has grown -/
structure Aft (c : Fx) (σ : St) (ρ : Rho) (H H' : Hp) : Prop where
  st : StR K c σ ρ H'
  sm : Same (M c σ ρ H) (M c σ ρ H')
  oo : ∀ b o, Ow c σ ρ b → c.tp ≠ some b → ¬ hasTk ρ b → H b = some o → H' b = some o
def eOf (f : FE) : TE := fun σ H Q => ∃ c ρ P, StR K c σ ρ H ∧ f ρ P ∧ ∀ v H' d, Aft K c σ ρ H H' → Rp K (M c σ ρ H') v d → P d → Q v H'
def bOf (f : FT) : TT := fun σ H Q => ∃ c ρ P, StR K c σ ρ H ∧ f ρ P ∧ ∀ b H', Aft K c σ ρ H H' → P b → Q b H'
def aOf (f : FA) : TA := fun σ H Q => ∃ c ρ P, StR K c σ ρ H ∧ f ρ P ∧ ∀ vs H' ds, Aft K c σ ρ H H' → RpAll K (M c σ ρ H') vs ds → P ds → Q vs H'
/-- what a def hands back -/
structure RtR (c : Fx) (ρ : Rho) (v : V) (H' : Hp) (d : D) : Prop where
  rp : Rp K (msk c.O H') v d
  base : ∀ b o, c.tp ≠ some b → c.B b = some o → H' b = some o
  tape : ∀ (t : Addr) (i n : Nat), c.tp = some t → ρ[i]? = some (Sl.tk t n) → ∃ o, H' t = some o ∧ TapeI.TP K n (msk c.O H') o
  ot : ∀ (t : Addr) (i : Nat) (d : D), ρ[i]? = some (Sl.ot t d) → ∃ o, H' t = some o ∧ OR K (msk (fun b => c.O b ∨ b = t) H') o d
/-- .. -/
def sOf (g : FS) : TS := fun D σ H => ∃ (c : Fx) (ρ : Rho) (E : Dn), (∀ b, c.O b → c.B b ≠ none) ∧ StR K c σ ρ H ∧ g E ρ ∧
  (∀ σ' ρ' H', StR K c σ' ρ' H' → Same (M c σ ρ H) (M c σ' ρ' H') → E.nx ρ' → D.nx σ' H') ∧
  (∀ v H' d ρ', RtR K c ρ' v H' d → E.rt d ρ' → D.rt v H') ∧
  (∀ σ' ρ' H', StR K c σ' ρ' H' → Same (M c σ ρ H) (M c σ' ρ' H') → E.bk ρ' → D.bk σ' H') ∧
  (∀ σ' ρ' H', StR K c σ' ρ' H' → Same (M c σ ρ H) (M c σ' ρ' H') → E.ct ρ' → D.ct σ' H')
structure DE (X : Cx) (e : Expr) (f : FE) : Prop where
  pe : X.K = K → PE X e (eOf K f)
structure DT (X : Cx) (e : Expr) (f : FT) : Prop where
  pt : X.K = K → PT X e (bOf K f)
structure DA (X : Cx) (es : List Expr) (f : FA) : Prop where
  pa : X.K = K → PA X es (aOf K f)
structure DS (X : Cx) (st : Stmt) (g : FS) : Prop where
  ps : X.K = K → PS X st (sOf K g)
structure DSs (X : Cx) (st : List Stmt) (g : FS) : Prop where
  ps : X.K = K → PSs X st (sOf K g)
end
end DL
/-! The layer DL: expressions. -/
namespace DL
open PySem PySem.Spec PyProof.Rows L2
section
variable [TapeI] {K : PySem.W.Frag} {X : Cx} {pos : Pos} {a b : Expr} {fa fb : FE}

theorem pe_imp {e : Expr} {t t' : TE} (h : PE X e t) (i : ∀ σ H Q, t' σ H Q → t σ H Q) : PE X e t' := ⟨fun pins s σ H Q I q => h.run pins s σ H Q I (i σ H Q q)⟩
theorem pt_imp {e : Expr} {t t' : TT} (h : PT X e t) (i : ∀ σ H Q, t' σ H Q → t σ H Q) : PT X e t' := ⟨fun pins s σ H Q I q => h.run pins s σ H Q I (i σ H Q q)⟩
theorem pa_imp {e : List Expr} {t t' : TA} (h : PA X e t) (i : ∀ σ H Q, t' σ H Q → t σ H Q) : PA X e t' := ⟨fun pos pins s σ H Q I q => h.run pos pins s σ H Q I (i σ H Q q)⟩
theorem ps_imp {e : Stmt} {t t' : TS} (h : PS X e t) (i : ∀ D σ H, t' D σ H → t D σ H) : PS X e t' := ⟨fun pins s σ H D I q => h.run pins s σ H D I (i D σ H q)⟩
theorem pss_imp {e : List Stmt} {t t' : TS} (h : PSs X e t) (i : ∀ D σ H, t' D σ H → t D σ H) : PSs X e t' := ⟨fun pins s σ H D I q => h.run pins s σ H D I (i D σ H q)⟩

theorem Aft.refl {c : Fx} {σ : St} {ρ : Rho} {H : Hp} (h : StR K c σ ρ H) : Aft K c σ ρ H H := ⟨h, Same.refl _, fun _ _ _ _ _ e => e⟩
theorem Aft.trans {c : Fx} {σ : St} {ρ : Rho} {H H1 H2 : Hp} (h : Aft K c σ ρ H H1) (g : Aft K c σ ρ H1 H2) : Aft K c σ ρ H H2 := ⟨g.st, h.sm.trans g.sm, fun b o h1 h2 h3 e => g.oo b o h1 h2 h3 (h.oo b o h1 h2 h3 e)⟩
theorem Aft.grow {c : Fx} {σ : St} {ρ : Rho} {H H1 : Hp} (h : StR K c σ ρ H) (e : Same H H1) : Aft K c σ ρ H H1 := ⟨h.grow e, msk_same e, fun b o _ _ _ q => e b o q⟩

/-! ### names, constants -/
def fC (d : D) : FE := fun _ P => P d
def rd : Option Sl → (D → Prop) → Prop
  | some (.sh d), P => P d
  | some (.tk a _), P => P (.obj a)
  | _, _ => False
def fVar (i : Nat) : FE := fun ρ P => rd ρ[i]? P
theorem de_c {e : Expr} {v : V} {d : D} (h : PE X e (tC v)) (r : ∀ H, Rp K H v d) : DE K X e (fC d) := ⟨fun _ => pe_imp h fun σ H Q q => by
  obtain ⟨c, ρ, P, st, f, k⟩ := q
  exact k v H d (.refl st) (r _) f⟩
theorem de_int {i j} : DE K X (.Constant (.int i) j pos) (fC (.int i)) := de_c pe_int fun _ => .int i
theorem de_bl {b j} : DE K X (.Constant (.bool b) j pos) (fC (.bl b)) := de_c pe_bl fun _ => .bl b
theorem de_non {j} : DE K X (.Constant .none j pos) (fC .non) := de_c pe_non fun _ => .non
theorem de_str (s : String) {j} (h : (T s).length ≤ 16777216 := by decide +kernel) : DE K X (.Constant (.str (Str.ofString s)) j pos) (fC (.str (T s))) :=
  de_c pe_str fun _ => by
    have := Rp.str (K := K) (H := ‹Hp›) (T s) (by rw [sizeLine_eq]; exact h)
    rwa [S_T] at this
theorem de_var (i : Nat) {x : Str} (hN : X.N[i]? = some x := by rfl) (hv : Vis X.env.scope x := by first | exact Or.inl rfl | exact Or.inr (Or.inl rfl) | exact Or.inr (Or.inr rfl)) (hd : (x == ("__debug__" : Str)) = false := by decide)
    (hcd : (x == ("__classdict__" : Str)) = false := by decide) : DE K X (.Name x pos) (fVar i) := ⟨fun _ => pe_imp (pe_var hN hv hd hcd) fun σ H Q q => by
  obtain ⟨c, ρ, P, st, f, k⟩ := q
  cases e : ρ[i]? with
  | none => unfold fVar at f; rw [e] at f; exact f.elim
  | some s =>
    have hs := st.slot i s e
    unfold fVar at f
    rw [e] at f
    cases s with
    | sh d =>
      obtain ⟨x, h1, h2⟩ := hs
      exact ⟨x, h1, k x H d (.refl st) h2 f⟩
    | tk a n =>
      obtain ⟨h1, h2⟩ := hs
      exact ⟨.ref a, h1, k _ H _ (.refl st) (.obj a) f⟩
    | no => exact f.elim
    | ol _ => exact f.elim
    | od _ _ => exact f.elim
    | ot _ _ => exact f.elim⟩
/-- a module's constant that is a text -/
theorem de_gstr {x z : Str} {t : Tok} (hg : Gl X x) (hm : X.mg x = some (.str z t)) (hz : z.length ≤ sizeLine) (hd : (x == ("__debug__" : Str)) = false := by decide) : DE K X (.Name x pos) (fC (.str z.cps.toList)) :=
  de_c (v := .str z) (pe_glob hg hm ⟨t, rfl⟩ hd) fun H => by
    have := Rp.str (K := K) (H := H) z.cps.toList (by simpa [Str.length] using hz)
    rwa [S_of] at this
/-- a built-in class as a value -/
theorem de_ty {x : Str} {n : String} (hg : Gl X x) (hm : X.mg x = none) (hv : bootBuiltins x = some (.type n)) (hn : x ≠ "__name__" := by decide) (hd : (x == ("__debug__" : Str)) = false := by decide) : DE K X (.Name x pos) (fC (.ty n)) :=
  de_c (v := .ty n) (pe_bltn hg hm hv rfl hn hd) fun _ => .ty n

/-! ### two values -/
abbrev G1 := D → (D → Prop) → Prop
abbrev G2 := D → D → (D → Prop) → Prop
/-- what a rule by values owes: the heap may grow -/
def Out (K : PySem.W.Frag) (O : Addr → Prop) (H : Hp) (P : D → Prop) (Q : VK) : Prop := ∀ v H' d, Same H H' → Rp K (msk O H') v d → P d → Q v H'
def DOp (K : PySem.W.Frag) (X : Cx) (f : Value → Value → Sem Value) (g : G2) : Prop := ∃ r, OpR X f r ∧ (X.K = K → ∀ (O : Addr → Prop) (H : Hp) (x y : V) (dx dy : D) (P : D → Prop) (Q : VK),
  (∀ b, O b → H b ≠ none) → Rp K (msk O H) x dx → Rp K (msk O H) y dy → g dx dy P → Out K O H P Q → r x y H Q)
def fOp (g : G2) (fa fb : FE) : FE := fun ρ P => fa ρ fun x => fb ρ fun y => g x y P
theorem e_bin {r : R2} {g : G2} (hr : ∀ (O : Addr → Prop) (H : Hp) (x y : V) (dx dy : D) (P : D → Prop) (Q : VK), (∀ b, O b → H b ≠ none) → Rp K (msk O H) x dx → Rp K (msk O H) y dy → g dx dy P → Out K O H P Q → r x y H Q)
    (σ : St) (H : Hp) (Q : VK) (q : eOf K (fOp g fa fb) σ H Q) : tOp r (eOf K fa) (eOf K fb) σ H Q := by
  obtain ⟨c, ρ, P, st, f, k⟩ := q
  refine ⟨c, ρ, _, st, f, fun x H1 dx A1 rx p1 => ?_⟩
  refine ⟨c, ρ, _, A1.st, p1, fun y H2 dy A2 ry p2 => ?_⟩
  exact hr (Ow c σ ρ) H2 x y dx dy P Q (fun b => A2.st.ow_some) (rx.mono A2.sm) ry p2 fun v H' d e rv p => k v H' d ((A1.trans A2).trans (.grow A2.st e)) rv p
theorem de_op {op : Operator} {g : G2} (ho : DOp K X (binaryOp op) g) (ha : DE K X a fa) (hb : DE K X b fb) : DE K X (.BinOp a op b pos) (fOp g fa fb) := ⟨fun hK => by
  obtain ⟨r, h1, h2⟩ := ho
  exact pe_imp (pe_op h1 (ha.pe hK) (hb.pe hK)) (e_bin (h2 hK))⟩
theorem de_cmp {op : CmpOp} {g : G2} (ho : DOp K X (compareOp op) g) (ha : DE K X a fa) (hb : DE K X b fb) (hm : behindInMarks op b = false := by first | exact nomark _ | rfl) : DE K X (.Compare a [op] [b] pos) (fOp g fa fb) := ⟨fun hK => by
  obtain ⟨r, h1, h2⟩ := ho
  exact pe_imp (pe_cmpR h1 (ha.pe hK) (hb.pe hK) hm) (e_bin (h2 hK))⟩
/-- a bool as a test's answer -/
def asB (d : D) (P : Bool → Prop) : Prop := match d with
  | .bl b => P b
  | _ => False
def fB (f : FE) : FT := fun ρ P => f ρ fun d => asB d P
theorem dt_cmp {op : CmpOp} {g : G2} (ho : DOp K X (compareOp op) g) (ha : DE K X a fa) (hb : DE K X b fb) (hm : behindInMarks op b = false := by first | exact nomark _ | rfl) : DT K X (.Compare a [op] [b] pos) (fB (fOp g fa fb)) := ⟨fun hK => by
  obtain ⟨r, h1, h2⟩ := ho
  refine pt_imp (pt_cmpR h1 (ha.pe hK) (hb.pe hK) hm) fun σ H Q q => ?_
  obtain ⟨c, ρ, P, st, f, k⟩ := q
  refine e_bin (h2 hK) σ H _ ⟨c, ρ, _, st, f, fun v H' d A rv p => ?_⟩
  cases d with
  | bl b => cases rv; exact ⟨b, rfl, k b H' A p⟩
  | _ => exact p.elim⟩
/-- an expression whose value is a bool, as a test (a call, a name, a subscript) -/
theorem dt_val (h : DE K X a fa) (he : ∀ whole, isTrue a X.env whole = (do let v ← whole; standAt a.pos; holding [v] (truthy v)) := by intro _; rfl) : DT K X a (fB fa) := ⟨fun hK => by
  refine pt_imp (pt_val (h.pe hK) he) fun σ H Q q => ?_
  obtain ⟨c, ρ, P, st, f, k⟩ := q
  refine ⟨c, ρ, _, st, f, fun v H' d A rv p => ?_⟩
  cases d with
  | bl b => cases rv; exact ⟨b, rfl, k b H' A p⟩
  | _ => exact p.elim⟩
/-! ### and, or, not, if -/
structure DW (K : PySem.W.Frag) (X : Cx) (e : Expr) (f : FT) : Prop where
  pw : X.K = K → PW X e (bOf K f)
def fAnd (f g : FT) : FT := fun ρ P => f ρ fun b => if b = true then g ρ P else P false
def fOr (f g : FT) : FT := fun ρ P => f ρ fun b => if b = true then P true else g ρ P
def fNot (f : FT) : FT := fun ρ P => f ρ fun b => P (!b)
theorem pw_imp {e : Expr} {t t' : TT} (h : PW X e t) (i : ∀ σ H Q, t' σ H Q → t σ H Q) : PW X e t' := ⟨fun wh pins s σ H Q I q => h.run wh pins s σ H Q I (i σ H Q q)⟩
theorem DW.dt {e : Expr} {f : FT} (h : DW K X e f) : DT K X e f := ⟨fun hK => (h.pw hK).pt⟩
variable {f g : FT} {rest : List Expr}
theorem dw_and1 (h : DT K X a f) : DW K X (.BoolOp .And [a] pos) f := ⟨fun hK => pw_and1 (h.pt hK)⟩
theorem dw_or1 (h : DT K X a f) : DW K X (.BoolOp .Or [a] pos) f := ⟨fun hK => pw_or1 (h.pt hK)⟩
theorem dw_and (h : DT K X a f) (h2 : DW K X (.BoolOp .And (b :: rest) pos) g) : DW K X (.BoolOp .And (a :: b :: rest) pos) (fAnd f g) := ⟨fun hK => pw_imp (pw_and (h.pt hK) (h2.pw hK)) fun σ H Q q => by
  obtain ⟨c, ρ, P, st, f, k⟩ := q
  refine ⟨c, ρ, _, st, f, fun b H1 A1 p => ?_⟩
  cases b with
  | true => exact ⟨c, ρ, P, A1.st, p, fun b H2 A2 p => k b H2 (A1.trans A2) p⟩
  | false => exact k false H1 A1 p⟩
theorem dw_or (h : DT K X a f) (h2 : DW K X (.BoolOp .Or (b :: rest) pos) g) : DW K X (.BoolOp .Or (a :: b :: rest) pos) (fOr f g) := ⟨fun hK => pw_imp (pw_or (h.pt hK) (h2.pw hK)) fun σ H Q q => by
  obtain ⟨c, ρ, P, st, f, k⟩ := q
  refine ⟨c, ρ, _, st, f, fun b H1 A1 p => ?_⟩
  cases b with
  | false => exact ⟨c, ρ, P, A1.st, p, fun b H2 A2 p => k b H2 (A1.trans A2) p⟩
  | true => exact k true H1 A1 p⟩
theorem dt_not (h : DT K X a f) : DT K X (.UnaryOp .Not a pos) (fNot f) := ⟨fun hK => pt_imp (pt_not (h.pt hK)) fun σ H Q q => by
  obtain ⟨c, ρ, P, st, f, k⟩ := q
  exact ⟨c, ρ, _, st, f, fun b H1 A1 p => k _ H1 A1 p⟩⟩
/-- as values -/
def fAndV (fa fb : FE) : FE := fun ρ P => fa ρ fun x => asB x fun b => if b = true then fb ρ P else P (.bl false)
def fOrV (fa fb : FE) : FE := fun ρ P => fa ρ fun x => asB x fun b => if b = true then P (.bl true) else fb ρ P
def fNotV (fa : FE) : FE := fun ρ P => fa ρ fun x => asB x fun b => P (.bl (!b))
theorem de_one {op} (h : DE K X a fa) : DE K X (.BoolOp op [a] pos) fa := ⟨fun hK => pe_one (h.pe hK)⟩
theorem de_and (ha : DE K X a fa) (hb : DE K X (.BoolOp .And (b :: rest) pos) fb) : DE K X (.BoolOp .And (a :: b :: rest) pos) (fAndV fa fb) := ⟨fun hK => pe_imp (L2.pe_and (ha.pe hK) (hb.pe hK)) fun σ H Q q => by
  obtain ⟨c, ρ, P, st, f, k⟩ := q
  refine ⟨c, ρ, _, st, f, fun v H1 d A1 rv p => ?_⟩
  cases d with
  | bl b =>
    cases rv
    refine ⟨b, rfl, ?_⟩
    cases b with
    | true => exact ⟨c, ρ, P, A1.st, p, fun v H2 d A2 r2 p => k v H2 d (A1.trans A2) r2 p⟩
    | false => exact k _ H1 _ A1 (.bl false) p
  | _ => exact p.elim⟩
theorem de_or (ha : DE K X a fa) (hb : DE K X (.BoolOp .Or (b :: rest) pos) fb) : DE K X (.BoolOp .Or (a :: b :: rest) pos) (fOrV fa fb) := ⟨fun hK => pe_imp (L2.pe_or (ha.pe hK) (hb.pe hK)) fun σ H Q q => by
  obtain ⟨c, ρ, P, st, f, k⟩ := q
  refine ⟨c, ρ, _, st, f, fun v H1 d A1 rv p => ?_⟩
  cases d with
  | bl b =>
    cases rv
    refine ⟨b, rfl, ?_⟩
    cases b with
    | false => exact ⟨c, ρ, P, A1.st, p, fun v H2 d A2 r2 p => k v H2 d (A1.trans A2) r2 p⟩
    | true => exact k _ H1 _ A1 (.bl true) p
  | _ => exact p.elim⟩
theorem de_not (ha : DE K X a fa) : DE K X (.UnaryOp .Not a pos) (fNotV fa) := ⟨fun hK => pe_imp (L2.pe_not (ha.pe hK)) fun σ H Q q => by
  obtain ⟨c, ρ, P, st, f, k⟩ := q
  refine ⟨c, ρ, _, st, f, fun v H1 d A1 rv p => ?_⟩
  cases d with
  | bl b => cases rv; exact ⟨b, rfl, k _ H1 _ A1 (.bl _) p⟩
  | _ => exact p.elim⟩
def fIf (f : FT) (fa fb : FE) : FE := fun ρ P => f ρ fun b => if b = true then fa ρ P else fb ρ P
theorem de_if {t : Expr} (ht : DT K X t f) (ha : DE K X a fa) (hb : DE K X b fb) : DE K X (.IfExp t a b pos) (fIf f fa fb) := ⟨fun hK => pe_imp (pe_ifExp (ht.pt hK) (ha.pe hK) (hb.pe hK)) fun σ H Q q => by
  obtain ⟨c, ρ, P, st, f, k⟩ := q
  refine ⟨c, ρ, _, st, f, fun b H1 A1 p => ?_⟩
  cases b with
  | true => exact ⟨c, ρ, P, A1.st, p, fun v H2 d A2 r2 p => k v H2 d (A1.trans A2) r2 p⟩
  | false => exact ⟨c, ρ, P, A1.st, p, fun v H2 d A2 r2 p => k v H2 d (A1.trans A2) r2 p⟩⟩
/-! ### argument lists, displays -/
variable {es : List Expr} {e : Expr} {fs : FA}
def fNil : FA := fun _ P => P []
def fCons (fe : FE) (fs : FA) : FA := fun ρ P => fe ρ fun d => fs ρ fun ds => P (d :: ds)
theorem da_nil : DA K X [] fNil := ⟨fun hK => pa_imp pa_nil fun σ H Q q => by
  obtain ⟨c, ρ, P, st, f, k⟩ := q
  exact k [] H [] (.refl st) .nil f⟩
theorem da_cons (he : DE K X e fa) (hr : DA K X es fs) (hs : starEach (e :: es) X.env = (false, eval e X.env) :: starEach es X.env := by rfl) : DA K X (e :: es) (fCons fa fs) := ⟨fun hK => pa_imp (pa_cons (he.pe hK) (hr.pa hK) hs) fun σ H Q q => by
  obtain ⟨c, ρ, P, st, f, k⟩ := q
  refine ⟨c, ρ, _, st, f, fun v H1 d A1 r1 p => ?_⟩
  exact ⟨c, ρ, _, A1.st, p, fun vs H2 ds A2 r2 p => k (v :: vs) H2 (d :: ds) (A1.trans A2) (.cons (r1.mono A2.sm) r2) p⟩⟩
def fTup (fs : FA) : FE := fun ρ P => fs ρ fun ds => ds.length ≤ sizeLine ∧ P (.tup ds)
def fLst (fs : FA) : FE := fun ρ P => fs ρ fun ds => ds.length ≤ sizeLine ∧ P (.lst ds)
theorem de_tup {x1} (h : DA K X es fs) : DE K X (.Tuple es x1 pos) (fTup fs) := ⟨fun hK => pe_imp (pe_tup (h.pa hK)) fun σ H Q q => by
  obtain ⟨c, ρ, P, st, f, k⟩ := q
  refine ⟨c, ρ, _, st, f, fun vs H1 ds A1 r p => ?_⟩
  refine ⟨by rw [r.length]; exact p.1, fun a ha => ?_⟩
  have e := same_new (o := .tup vs) ha
  exact k (.ref a) _ (.tup ds) (A1.trans (.grow A1.st e)) (.tup (.inl (.inl (A1.st.newM ha))) (r.mono (msk_same e))) p.2⟩
theorem de_lst {x1} (h : DA K X es fs) : DE K X (.List es x1) (fLst fs) := ⟨fun hK => pe_imp (pe_lst (h.pa hK)) fun σ H Q q => by
  obtain ⟨c, ρ, P, st, f, k⟩ := q
  refine ⟨c, ρ, _, st, f, fun vs H1 ds A1 r p => ?_⟩
  refine ⟨by rw [r.length]; exact p.1, fun a ha => ?_⟩
  have e := same_new (o := .lst vs) ha
  exact k (.ref a) _ (.lst ds) (A1.trans (.grow A1.st e)) (.lst (A1.st.newM ha) (r.mono (msk_same e))) p.2⟩
/-! ### calls of a value that is known -/
abbrev GA := List D → (D → Prop) → Prop
def DCall (K : PySem.W.Frag) (X : Cx) (f : Value) (g : GA) : Prop := ∃ r, CallR X f r ∧ (X.K = K → ∀ (O : Addr → Prop) (H : Hp) (xs : List V) (ds : List D) (P : D → Prop) (Q : VK),
  (∀ b, O b → H b ≠ none) → RpAll K (msk O H) xs ds → g ds P → Out K O H P Q → r xs H Q)
def fCallB (g : GA) (fs : FA) : FE := fun ρ P => fs ρ fun ds => g ds P
theorem e_callB {r : List V → Hp → VK → Prop} {g : GA} (hr : ∀ (O : Addr → Prop) (H : Hp) (xs : List V) (ds : List D) (P : D → Prop) (Q : VK), (∀ b, O b → H b ≠ none) → RpAll K (msk O H) xs ds → g ds P → Out K O H P Q → r xs H Q)
    (σ : St) (H : Hp) (Q : VK) (q : eOf K (fCallB g fs) σ H Q) : tCB r (aOf K fs) σ H Q := by
  obtain ⟨c, ρ, P, st, f, k⟩ := q
  refine ⟨c, ρ, _, st, f, fun xs H1 ds A1 rx p => ?_⟩
  exact hr (Ow c σ ρ) H1 xs ds P Q (fun b => A1.st.ow_some) rx p fun v H' d e rv p => k v H' d (A1.trans (.grow A1.st e)) rv p
theorem de_callB {id : String} {g : GA} {x : Str} {p : Pos} (hc : DCall K X (.builtin id) g) (hg : Gl X x) (hm : X.mg x = none) (hv : bootBuiltins x = some (.builtin id)) (ha : DA K X (e :: es) fs) (hn : x ≠ "__name__" := by decide) (hdb : (x == ("__debug__" : Str)) = false := by decide)
    (he : starEach (e :: es) X.env = (false, eval e X.env) :: starEach es X.env := by rfl) (hpl : (backTo pos (starEach es X.env)).any (·.1) = false := by rfl) : DE K X (.Call (.Name x p) (e :: es) [] pos) (fCallB g fs) := ⟨fun hK => by
  obtain ⟨r, h1, h2⟩ := hc
  exact pe_imp (pe_callB h1 hg hm hv (ha.pa hK) hn hdb he hpl) (e_callB (h2 hK))⟩
theorem de_callTy {n : String} {g : GA} {x : Str} {p : Pos} (hc : DCall K X (.type n) g) (hg : Gl X x) (hm : X.mg x = none) (hv : bootBuiltins x = some (.type n)) (ha : DA K X (e :: es) fs) (hn : x ≠ "__name__" := by decide) (hdb : (x == ("__debug__" : Str)) = false := by decide)
    (he : starEach (e :: es) X.env = (false, eval e X.env) :: starEach es X.env := by rfl) (hpl : (backTo pos (starEach es X.env)).any (·.1) = false := by rfl) : DE K X (.Call (.Name x p) (e :: es) [] pos) (fCallB g fs) := ⟨fun hK => by
  obtain ⟨r, h1, h2⟩ := hc
  exact pe_imp (pe_callTy h1 hg hm hv (ha.pa hK) hn hdb he hpl) (e_callB (h2 hK))⟩
end
end DL
/-! The layer DL: operators, subscripts, built-ins by plain data. -/
namespace DL
open PySem PySem.Spec PyProof.Rows L2

/-! ### data of the library -/
mutual
def toPy : D → PyData
  | .non => .none
  | .bl b => .bool b
  | .int i => .int i
  | .str l => .str (S l)
  | .tup ds => .tuple (toPyAll ds)
  | .lst ds => .list (toPyAll ds)
  | .dic _ _ => .dict []
  | .obj _ => .dict []
  | .ty _ => .dict []
  | .scr _ => .dict []
def toPyAll : List D → List PyData
  | [] => []
  | d :: ds => toPy d :: toPyAll ds
end
theorem toPyAll_map : ∀ ds : List D, toPyAll ds = ds.map toPy
  | [] => rfl
  | d :: ds => by rw [toPyAll, toPyAll_map ds]; rfl
section
variable {K : PySem.W.Frag} {H : Hp}
mutual
theorem Rp.dp : ∀ {v : V} {d : D}, Rp K H v d → (toPy d).canLay0 = true → Dp K H v (toPy d)
  | _, _, .non, _ => .non
  | _, _, .bl b, _ => .bl b
  | _, _, .int i, _ => .int i
  | _, _, .str l h, _ => .str (S l)
  | _, _, .tup h r, z => .tup h (RpAll.dp r z)
  | _, _, .lst h r, z => .lst (.inl (.inl h)) (RpAll.dp r z)
  | _, _, .dic _ _ _ _, z => by cases z
  | _, _, .obj _, z => by cases z
  | _, _, .ty _, z => by cases z
  | _, _, .scr _, z => by cases z
theorem RpAll.dp : ∀ {vs : List V} {ds : List D}, RpAll K H vs ds → PyData.canLayAll0 (toPyAll ds) = true → DpAll K H vs (toPyAll ds)
  | _, _, .nil, _ => .nil
  | _, _, .cons h r, z => by
    have z' := Bool.and_eq_true_iff.mp (show ((toPy _).canLay0 && PyData.canLayAll0 (toPyAll _)) = true from z)
    exact .cons (Rp.dp h z'.1) (RpAll.dp r z'.2)
end
end
/-- plain data that == and repr take -/
def okE (d : D) : Bool := (toPy d).canLay0
def eqD (d e : D) : Bool := PyData.eqv (toPy d) (toPy e)
def depE (d : D) : Nat := (toPy d).depth

def gEq : G2
  | .str a, .str b, P => P (.bl (decide (a = b)))
  | .int a, .int b, P => P (.bl (decide (a = b)))
  | .bl a, .bl b, P => P (.bl (decide (a = b)))
  | d, e, P => okE d = true ∧ okE e = true ∧ min (depE d) (depE e) ≤ 64 ∧ P (.bl (eqD d e))
def gNe : G2 := fun d e P => gEq d e fun x => match x with
  | .bl b => P (.bl (!b))
  | _ => False
def gAdd : G2
  | .int a, .int b, P => P (.int (a + b))
  | .str a, .str b, P => a.length + b.length ≤ sizeLine ∧ P (.str (a ++ b))
  | .tup a, .tup b, P => a.length + b.length ≤ sizeLine ∧ P (.tup (a ++ b))
  | .lst a, .lst b, P => a.length + b.length ≤ sizeLine ∧ P (.lst (a ++ b))
  | _, _, _ => False
def gInt2 (C : Int → Int → Prop) (g : Int → Int → D) : G2
  | .int a, .int b, P => C a b ∧ P (g a b)
  | _, _, _ => False
abbrev gSub : G2 := gInt2 (fun _ _ => True) fun a b => .int (a - b)
abbrev gMul : G2 := gInt2 CMul fun a b => .int (a * b)
abbrev gMod : G2 := gInt2 (fun _ b => 0 < b) fun a b => .int (a % b)
abbrev gFdiv : G2 := gInt2 CDiv fun a b => .int (a / b)
def gCmp (gi : Int → Int → Bool) (gs : Tx → Tx → Bool) : G2
  | .int a, .int b, P => P (.bl (gi a b))
  | .str a, .str b, P => P (.bl (gs a b))
  | _, _, _ => False
abbrev gLt : G2 := gCmp (fun a b => decide (a < b)) fun a b => decide (a < b)
abbrev gLe : G2 := gCmp (fun a b => decide (a ≤ b)) fun a b => !decide (b < a)
abbrev gGt : G2 := gCmp (fun a b => decide (b < a)) fun a b => decide (b < a)
abbrev gGe : G2 := gCmp (fun a b => decide (b ≤ a)) fun a b => !decide (a < b)
/-- is None -/
def gIsN : G2
  | d, .non, P => P (.bl (match d with | .non => true | _ => false))
  | _, _, _ => False
def gIsNot : G2
  | d, .non, P => P (.bl (match d with | .non => false | _ => true))
  | _, _, _ => False
def flatD : D → Bool
  | .non => true | .bl _ => true | .int _ => true | .str _ => true | _ => false
/-- == of flat data -/
def eqF : D → D → Bool
  | .non, .non => true
  | .bl a, .bl b => a == b
  | .bl a, .int b => (if a then 1 else 0) == b
  | .int a, .bl b => a == (if b then 1 else 0)
  | .int a, .int b => a == b
  | .str a, .str b => decide (a = b)
  | _, _ => false
def inD (d : D) (ds : List D) : Bool := ds.any fun e => eqF e d
def keyD : D → Option DK
  | .int i => some (.inl i)
  | .str l => some (.inr l)
  | _ => none
/-- the value at a key -/
def getK : List DK → List D → DK → Option D
  | k :: ks, d :: ds, x => if k = x then some d else getK ks ds x
  | _, _, _ => none
def memK (k : DK) (ks : List DK) : Bool := ks.any fun x => decide (x = k)
def gIn : G2
  | .str [c], .str z, P => P (.bl (decide (c ∈ z)))
  | d, .tup ds, P => flatD d = true ∧ ds.all flatD = true ∧ P (.bl (inD d ds))
  | d, .lst ds, P => flatD d = true ∧ ds.all flatD = true ∧ P (.bl (inD d ds))
  | d, .dic ks ds, P => ∃ k, keyD d = some k ∧ P (.bl (memK k ks))
  | _, _, _ => False
def gNotIn : G2 := fun d e P => gIn d e fun x => match x with
  | .bl b => P (.bl (!b))
  | _ => False
def gIx : G2
  | .tup ds, .int i, P => ∃ d, atI ds i = some d ∧ P d
  | .lst ds, .int i, P => ∃ d, atI ds i = some d ∧ P d
  | .str l, .int i, P => ∃ c, atI l i = some c ∧ P (.str [c])
  | .dic ks ds, d, P => ∃ k e, keyD d = some k ∧ getK ks ds k = some e ∧ P e
  | _, _, _ => False

section
variable [TapeI] {K : PySem.W.Frag} {X : Cx}
theorem Out.ret {O : Addr → Prop} {H : Hp} {P : D → Prop} {Q : VK} (o : Out K O H P Q) {v : V} {d : D} (r : Rp K (msk O H) v d) (p : P d) : Q v H := o v H d (Same.refl _) r p
theorem Out.bl {O : Addr → Prop} {H : Hp} {P : D → Prop} {Q : VK} (o : Out K O H P Q) {b : Bool} (p : P (.bl b)) : Q (.bl b) H := o.ret (.bl b) p
theorem Out.int {O : Addr → Prop} {H : Hp} {P : D → Prop} {Q : VK} (o : Out K O H P Q) {i : Int} (p : P (.int i)) : Q (.int i) H := o.ret (.int i) p
theorem Out.str {O : Addr → Prop} {H : Hp} {P : D → Prop} {Q : VK} (o : Out K O H P Q) {l : Tx} (h : l.length ≤ sizeLine) (p : P (.str l)) : Q (.str (S l)) H := o.ret (.str l h) p
/-- a new tuple, a new list -/
theorem Out.tup {O : Addr → Prop} {H : Hp} {P : D → Prop} {Q : VK} (o : Out K O H P Q) (hO : ∀ b, O b → H b ≠ none) {vs : List V} {ds : List D} (r : RpAll K (msk O H) vs ds) (p : P (.tup ds)) (a : Addr) (ha : H a = none) : Q (.ref a) (upd H a (.tup vs)) := by
  have e := same_new (o := .tup vs) ha
  refine o _ _ _ e (.tup (.inl (.inl ?_)) (r.mono (msk_same e))) p
  rw [msk_of (fun z => hO a z ha), upd_same]
theorem Out.lst {O : Addr → Prop} {H : Hp} {P : D → Prop} {Q : VK} (o : Out K O H P Q) (hO : ∀ b, O b → H b ≠ none) {vs : List V} {ds : List D} (r : RpAll K (msk O H) vs ds) (p : P (.lst ds)) (a : Addr) (ha : H a = none) : Q (.ref a) (upd H a (.lst vs)) := by
  have e := same_new (o := .lst vs) ha
  refine o _ _ _ e (.lst ?_ (r.mono (msk_same e))) p
  rw [msk_of (fun z => hO a z ha), upd_same]
theorem Rp.full {O : Addr → Prop} {H : Hp} {v : V} {d : D} (r : Rp K (msk O H) v d) : Rp K H v d := r.mono same_msk
theorem msk_sqT {O : Addr → Prop} {H : Hp} {a : Addr} {xs : List V} (r : SqT K (msk O H) a xs) : SqT K H a xs := Same.sqT same_msk r

theorem dop_int {f : Value → Value → Sem Value} {C : Int → Int → Prop} {g : Int → Int → D} {gv : Int → Int → V} (h : OpR X f (rI C gv)) (hg : ∀ i j H, Rp K H (gv i j) (g i j)) : DOp K X f (gInt2 C g) := ⟨_, h, fun _ O H x y dx dy P Q hO rx ry q o => by
  cases rx <;> first | (cases ry <;> first | exact ⟨_, _, rfl, rfl, q.1, o.ret (hg _ _ _) q.2⟩ | exact q.elim) | exact q.elim⟩
theorem OpR.imp {f : Value → Value → Sem Value} {r r' : R2} (h : OpR X f r) (i : ∀ x y H Q, r' x y H Q → r x y H Q) : OpR X f r' := fun pins s σ H x y v u Q I rx ry q => h pins s σ H x y v u Q I rx ry (i x y H Q q)
theorem dop_sub : DOp K X (binaryOp .Sub) gSub := dop_int (gv := fun i j => .int (i - j)) (OpR.imp op_sub fun x y H Q ⟨i, j, e1, e2, _, q⟩ => ⟨i, j, e1, e2, q⟩) fun i j H => .int _
theorem dop_mul : DOp K X (binaryOp .Mult) gMul := dop_int op_mul fun i j H => .int _
theorem dop_mod : DOp K X (binaryOp .Mod) gMod := dop_int op_mod fun i j H => .int _
theorem dop_fdiv : DOp K X (binaryOp .FloorDiv) gFdiv := dop_int op_fdiv fun i j H => .int _
theorem dop_add : DOp K X (binaryOp .Add) gAdd := ⟨_, OpR.or (OpR.or op_add op_add_str) (OpR.or op_catA op_cat), fun hK O H x y dx dy P Q hO rx ry q o => by
  subst hK
  cases rx with
  | int a => cases ry <;> first | exact .inl (.inl ⟨_, _, rfl, rfl, o.int q⟩) | exact q.elim
  | str a ha =>
    cases ry with
    | str b hb =>
      refine .inl (.inr ⟨_, _, rfl, rfl, by rw [S_length, S_length]; exact q.1, ?_⟩)
      rw [S_app]
      exact o.str (by rw [List.length_append]; exact q.1) q.2
    | _ => exact q.elim
  | @tup a xs ds h r =>
    cases ry with
    | @tup b ys es h' r' =>
      refine .inr (.inl ⟨a, b, xs, ys, rfl, rfl, msk_sqT h, msk_sqT h', by rw [r.length, r'.length]; exact q.1, fun e => ?_, fun _ e => ?_, fun _ _ p hp => ?_⟩)
      · subst e
        cases r
        exact o.ret (.tup h' r') q.2
      · subst e
        cases r'
        have := q.2
        rw [List.append_nil] at this
        exact o.ret (.tup h r) this
      · exact o.tup hO (r.append r') q.2 p hp
    | _ => exact q.elim
  | @lst a xs ds h r =>
    cases ry with
    | @lst b ys es h' r' =>
      exact .inr (.inr ⟨a, b, xs, ys, rfl, rfl, (msk_some h).2, (msk_some h').2, by rw [r.length, r'.length]; exact q.1, fun p hp => o.lst hO (r.append r') q.2 p hp⟩)
    | _ => exact q.elim
  | _ => exact q.elim⟩
theorem S_dec {a b : Tx} : decide (V.str (S a) = V.str (S b)) = decide (a = b) := by
  by_cases e : a = b
  · subst e; simp
  · rw [decide_eq_false e, decide_eq_false]
    intro z
    exact e (S_inj (V.str.inj z))
/-- == of plain data -/
def rEqM (K : PySem.W.Frag) (neg : Bool) : R2 := fun x y H Q => ∃ d e, Dp K H x d ∧ Dp K H y e ∧ d.canLay0 = true ∧ e.canLay0 = true ∧ min d.depth e.depth ≤ 64 ∧ Q (.bl (if neg then !PyData.eqv d e else PyData.eqv d e)) H
theorem op_eqM (hu : X.A.units + 64 < cLine) : OpR X (compareOp .Eq) (rEqM X.K false) := by
  intro pins s σ H x y v u Q I rx ry h
  obtain ⟨d, e, hd, he, sd, se, dm, q⟩ := h
  obtain ⟨as, r1⟩ := Dp.reads I d x v hd rx
  obtain ⟨bs, r2⟩ := Dp.reads I e y u he ry
  exact SeqAt.compareEq_reads r1 r2 sd se (by omega) ⟨.bl _, H, I, rfl, q⟩
theorem op_neM (hu : X.A.units + 64 < cLine) : OpR X (compareOp .NotEq) (rEqM X.K true) := by
  intro pins s σ H x y v u Q I rx ry h
  obtain ⟨d, e, hd, he, sd, se, dm, q⟩ := h
  obtain ⟨as, r1⟩ := Dp.reads I d x v hd rx
  obtain ⟨bs, r2⟩ := Dp.reads I e y u he ry
  exact SeqAt.compareNe_reads r1 r2 sd se (by omega) ⟨.bl _, H, I, rfl, q⟩
theorem eq_split {O : Addr → Prop} {H : Hp} {x y : V} {dx dy : D} {P : D → Prop} (rx : Rp K (msk O H) x dx) (ry : Rp K (msk O H) y dy) (q : gEq dx dy P) :
    (scal x y = true ∧ P (.bl (decide (x = y)))) ∨ (Dp K H x (toPy dx) ∧ Dp K H y (toPy dy) ∧ okE dx = true ∧ okE dy = true ∧ min (depE dx) (depE dy) ≤ 64 ∧ P (.bl (eqD dx dy))) := by
  have gen : (okE dx = true ∧ okE dy = true ∧ min (depE dx) (depE dy) ≤ 64 ∧ P (.bl (eqD dx dy))) → (Dp K H x (toPy dx) ∧ Dp K H y (toPy dy) ∧ okE dx = true ∧ okE dy = true ∧ min (depE dx) (depE dy) ≤ 64 ∧ P (.bl (eqD dx dy))) := fun z => ⟨rx.full.dp z.1, ry.full.dp z.2.1, z⟩
  cases rx with
  | str a ha =>
    cases ry with
    | str b hb =>
      refine .inl ⟨rfl, ?_⟩
      rw [S_dec]
      exact q
    | _ => exact .inr (gen q)
  | int a =>
    cases ry with
    | int b =>
      refine .inl ⟨rfl, ?_⟩
      rw [show decide (V.int a = V.int b) = decide (a = b) by simp]
      exact q
    | _ => exact .inr (gen q)
  | bl a =>
    cases ry with
    | bl b =>
      refine .inl ⟨rfl, ?_⟩
      rw [show decide (V.bl a = V.bl b) = decide (a = b) by simp]
      exact q
    | _ => exact .inr (gen q)
  | _ => exact .inr (gen q)
theorem dop_eq (hu : X.A.units + 64 < cLine) : DOp K X (compareOp .Eq) gEq := ⟨_, OpR.or op_eq (op_eqM hu), fun hK O H x y dx dy P Q hO rx ry q o => by
  subst hK
  rcases eq_split rx ry q with ⟨h1, h2⟩ | ⟨h1, h2, h3, h4, h5, h6⟩
  · exact .inl ⟨h1, o.bl h2⟩
  · exact .inr ⟨_, _, h1, h2, h3, h4, h5, o.bl h6⟩⟩
theorem dop_ne (hu : X.A.units + 64 < cLine) : DOp K X (compareOp .NotEq) gNe := ⟨_, OpR.or op_ne (op_neM hu), fun hK O H x y dx dy P Q hO rx ry q o => by
  subst hK
  rcases eq_split rx ry q with ⟨h1, h2⟩ | ⟨h1, h2, h3, h4, h5, h6⟩
  · exact .inl ⟨h1, o.bl h2⟩
  · exact .inr ⟨_, _, h1, h2, h3, h4, h5, o.bl h6⟩⟩
theorem dop_cmp {f : Value → Value → Sem Value} {gi : Int → Int → Bool} {gs : Tx → Tx → Bool} (h1 : OpR X f (rI0 fun i j => .bl (gi i j))) (h2 : OpR X f (fun x y H Q => ∃ i j, x = .str i ∧ y = .str j ∧ Q (.bl (gs i.cps.toList j.cps.toList)) H)) : DOp K X f (gCmp gi gs) :=
  ⟨_, OpR.or h1 h2, fun hK O H x y dx dy P Q hO rx ry q o => by
    cases rx with
    | int a => cases ry <;> first | exact .inl ⟨_, _, rfl, rfl, o.bl q⟩ | exact q.elim
    | str a ha =>
      cases ry with
      | str b hb =>
        refine .inr ⟨_, _, rfl, rfl, ?_⟩
        rw [S_cps, S_cps]
        exact o.bl q
      | _ => exact q.elim
    | _ => exact q.elim⟩
theorem dop_lt : DOp K X (compareOp .Lt) gLt := dop_cmp op_lt op_lt_str
theorem dop_le : DOp K X (compareOp .LtE) gLe := dop_cmp op_le op_le_str
theorem dop_gt : DOp K X (compareOp .Gt) gGt := dop_cmp op_gt op_gt_str
theorem dop_ge : DOp K X (compareOp .GtE) gGe := dop_cmp op_ge op_ge_str
theorem Rp.isNon {H : Hp} {v : V} {d : D} (r : Rp K H v d) : decide (v = V.non) = (match d with | .non => true | _ => false) := by
  cases r <;> simp
theorem dop_isN : DOp K X (compareOp .Is) gIsN := ⟨_, op_isN, fun hK O H x y dx dy P Q hO rx ry q o => by
  cases ry with
  | non =>
    refine ⟨rfl, ?_⟩
    rw [rx.isNon]
    exact o.bl (by cases dx <;> exact q)
  | _ => cases dx <;> exact q.elim⟩
theorem dop_isNot : DOp K X (compareOp .IsNot) gIsNot := ⟨_, op_notN, fun hK O H x y dx dy P Q hO rx ry q o => by
  cases ry with
  | non =>
    refine ⟨rfl, ?_⟩
    rw [rx.isNon]
    exact o.bl (by cases dx <;> exact q)
  | _ => cases dx <;> exact q.elim⟩
/-! membership -/
theorem Rp.flat {H : Hp} {v : V} {d : D} (r : Rp K H v d) (h : flatD d = true) : flatV v = true := by
  cases r <;> first | rfl | cases h
theorem RpAll.flat {H : Hp} : ∀ {vs : List V} {ds : List D}, RpAll K H vs ds → ds.all flatD = true → vs.all flatV = true
  | _, _, .nil, _ => rfl
  | _, _, .cons h t, z => by
    rw [List.all_cons, Bool.and_eq_true] at z ⊢
    exact ⟨h.flat z.1, RpAll.flat t z.2⟩
theorem Rp.eqF {H : Hp} {v w : V} {d e : D} (r : Rp K H v d) (r' : Rp K H w e) (h : flatD d = true) (h' : flatD e = true) : eqV v w = eqF d e := by
  cases r with
  | str a ha =>
    cases r' with
    | str b hb =>
      show (S a == S b) = decide (a = b)
      by_cases z : a = b
      · subst z; simp
      · rw [decide_eq_false z]
        exact beq_eq_false_iff_ne.mpr fun q => z (S_inj q)
    | _ => first | rfl | cases h'
  | _ => first | (cases r' <;> first | rfl | cases h') | cases h
theorem RpAll.inD {H : Hp} {v : V} {d : D} (r : Rp K H v d) (h : flatD d = true) : ∀ {vs : List V} {ds : List D}, RpAll K H vs ds → ds.all flatD = true → inV v vs = inD d ds
  | _, _, .nil, _ => rfl
  | _, _, .cons q t, z => by
    rw [List.all_cons, Bool.and_eq_true] at z
    have ih := RpAll.inD r h t z.2
    unfold inV DL.inD at *
    rw [List.any_cons, List.any_cons, Rp.eqF q r z.1 h, ih]
theorem keyD_rp {H : Hp} {v : V} {d : D} {k : DK} (r : Rp K H v d) (h : keyD d = some k) : v = kV (dkey k) := by
  cases r <;> cases h <;> rfl
theorem dkey_dec {a b : DK} : decide (dkey a = dkey b) = decide (a = b) := by
  by_cases e : a = b
  · subst e; simp
  · rw [decide_eq_false e, decide_eq_false fun z => e (dkey_inj z)]
theorem valV_none {k : DK} : ∀ {kvs : List (Key × V)} {ks : List DK}, kvs.map (·.1) = ks.map dkey → (valV kvs (dkey k)).isSome = memK k ks := by
  intro kvs ks h
  rw [← valV_any]
  have : (kvs.any fun kv => decide (kv.1 = dkey k)) = (kvs.map (·.1)).any fun x => decide (x = dkey k) := by rw [List.any_map]; rfl
  rw [this, h, List.any_map]
  unfold memK
  congr 1
  funext x
  exact dkey_dec
theorem valV_getK {H : Hp} : ∀ {kvs : List (Key × V)} {ks : List DK} {ds : List D} {k : DK} {e : D}, kvs.map (·.1) = ks.map dkey → RpAll K H (kvs.map (·.2)) ds → getK ks ds k = some e → ∃ v, valV kvs (dkey k) = some v ∧ Rp K H v e
  | [], [], _, _, _, _, _, h => by simp [getK] at h
  | [], _ :: _, _, _, _, h, _, _ => by simp at h
  | _ :: _, [], _, _, _, h, _, _ => by simp at h
  | p :: kvs, a :: ks, ds, k, e, h1, h2, h3 => by
    cases h2 with
    | @cons _ _ d ds' r t =>
      rw [List.map_cons, List.map_cons, List.cons.injEq] at h1
      unfold getK at h3
      by_cases q : a = k
      · rw [if_pos q] at h3
        cases h3
        exact ⟨p.2, valV_pos (by rw [h1.1, q]), r⟩
      · rw [if_neg q] at h3
        obtain ⟨v, e1, e2⟩ := valV_getK h1.2 t h3
        refine ⟨v, ?_, e2⟩
        rw [valV_neg (fun z => q (dkey_inj (h1.1.symm.trans z)))]
        exact e1
theorem op_inDict (hu : X.A.units + 1 < cLine) : OpR X (compareOp .In) (fun x y H Q => ∃ a o, y = .ref a ∧ DGet H a x o ∧ Q (.bl o.isSome) H) := by
  intro pins s σ H x y v u Q I rx ry h
  obtain ⟨a, ov, rfl, g, q⟩ := h
  obtain rfl : u = Value.ref a := ry
  exact d_in hu I g rx fun s3 I3 => ⟨.bl ov.isSome, H, I3, rfl, q⟩
theorem op_notInDict (hu : X.A.units + 1 < cLine) : OpR X (compareOp .NotIn) (fun x y H Q => ∃ a o, y = .ref a ∧ DGet H a x o ∧ Q (.bl (!o.isSome)) H) := by
  intro pins s σ H x y v u Q I rx ry h
  obtain ⟨a, ov, rfl, g, q⟩ := h
  obtain rfl : u = Value.ref a := ry
  exact d_notIn hu I g rx fun s3 I3 => ⟨.bl (!ov.isSome), H, I3, rfl, q⟩
theorem sign_S (c : Nat) : S [c] = ⟨#[c]⟩ := rfl
theorem in_split {O : Addr → Prop} {H : Hp} {x y : V} {dx dy : D} {P : D → Prop} (rx : Rp K (msk O H) x dx) (ry : Rp K (msk O H) y dy) (q : gIn dx dy P) :
    (∃ (c : Nat) (z : Str), x = .str ⟨#[c]⟩ ∧ y = .str z ∧ P (.bl (decide (c ∈ z.cps.toList)))) ∨
    (∃ p xs, y = .ref p ∧ (SqL K H p xs ∨ SqT K H p xs) ∧ flatV x = true ∧ xs.all flatV = true ∧ P (.bl (inV x xs))) ∨
    (∃ a o, y = .ref a ∧ DGet H a x o ∧ P (.bl o.isSome)) := by
  cases ry with
  | @tup p xs ds h r =>
    refine .inr (.inl ⟨p, xs, rfl, .inr (msk_sqT h), ?_⟩)
    have q' : flatD dx = true ∧ ds.all flatD = true ∧ P (.bl (inD dx ds)) := by
      cases rx with
      | str l _ => rcases l with _ | ⟨c, _ | ⟨c', l⟩⟩ <;> exact q
      | _ => exact q
    exact ⟨rx.flat q'.1, r.flat q'.2.1, by rw [RpAll.inD rx q'.1 r q'.2.1]; exact q'.2.2⟩
  | @lst p xs ds h r =>
    refine .inr (.inl ⟨p, xs, rfl, .inl (.inl (.inl (msk_some h).2)), ?_⟩)
    have q' : flatD dx = true ∧ ds.all flatD = true ∧ P (.bl (inD dx ds)) := by
      cases rx with
      | str l _ => rcases l with _ | ⟨c, _ | ⟨c', l⟩⟩ <;> exact q
      | _ => exact q
    exact ⟨rx.flat q'.1, r.flat q'.2.1, by rw [RpAll.inD rx q'.1 r q'.2.1]; exact q'.2.2⟩
  | @dic a kvs ks ds h h2 hz h3 =>
    have q' : ∃ k, keyD dx = some k ∧ P (.bl (memK k ks)) := by
      cases rx with
      | str l _ => rcases l with _ | ⟨c, _ | ⟨c', l⟩⟩ <;> exact q
      | _ => exact q
    obtain ⟨k, hk, q'⟩ := q'
    refine .inr (.inr ⟨a, valV kvs (dkey k), rfl, .inl ⟨kvs, dkey k, Same.rd same_msk h, keyD_rp rx hk, rfl⟩, ?_⟩)
    rw [valV_none h2]
    exact q'
  | str z hz =>
    cases rx with
    | str l _ =>
      rcases l with _ | ⟨c, _ | ⟨c', l⟩⟩
      · exact q.elim
      · exact .inl ⟨c, S z, rfl, rfl, by rw [S_cps]; exact q⟩
      · exact q.elim
    | _ => exact q.elim
  | _ => cases rx with
    | str l _ => rcases l with _ | ⟨c, _ | ⟨c', l⟩⟩ <;> exact q.elim
    | _ => exact q.elim
theorem dop_in (hu : X.A.units + 64 < cLine) : DOp K X (compareOp .In) gIn := ⟨_, OpR.or op_in_sign (OpR.or op_in_seq (op_inDict (by omega))), fun hK O H x y dx dy P Q hO rx ry q o => by
  subst hK
  rcases in_split rx ry q with ⟨c, z, e1, e2, p⟩ | ⟨p, xs, e, h1, h2, h3, p⟩ | ⟨a, ov, e, g, p⟩
  · exact .inl ⟨c, z, e1, e2, o.bl p⟩
  · exact .inr (.inl ⟨_, xs, e, h1, h2, h3, o.bl p⟩)
  · exact .inr (.inr ⟨a, ov, e, g, o.bl p⟩)⟩
theorem dop_notIn (hu : X.A.units + 64 < cLine) : DOp K X (compareOp .NotIn) gNotIn := ⟨_, OpR.or op_notIn_sign (OpR.or op_notIn_seq (op_notInDict (by omega))), fun hK O H x y dx dy P Q hO rx ry q o => by
  subst hK
  rcases in_split rx ry q with ⟨c, z, e1, e2, p⟩ | ⟨p, xs, e, h1, h2, h3, p⟩ | ⟨a, ov, e, g, p⟩
  · exact .inl ⟨c, z, e1, e2, o.bl p⟩
  · exact .inr (.inl ⟨_, xs, e, h1, h2, h3, o.bl p⟩)
  · exact .inr (.inr ⟨a, ov, e, g, o.bl p⟩)⟩
/-! subscripts -/
theorem ix_dict (hu : X.A.units + 1 < cLine) : IxR X (fun x y H Q => ∃ a v, x = .ref a ∧ DGet H a y (some v) ∧ Q v H) := by
  intro value slice pins s σ H x y v u Q I rx ry h hs
  obtain ⟨a, z, rfl, g, q⟩ := h
  obtain rfl : v = Value.ref a := rx
  exact tail_any (dict_typeIs I g) slot_dict_getitem.lookup (d_getItem hu I g ry fun w' s3 I3 rw' => ⟨z, H, I3, rw', q⟩) hs
theorem atI_rp {H : Hp} {vs : List V} {ds : List D} (r : RpAll K H vs ds) {i : Int} {d : D} (h : atI ds i = some d) : ∃ v, atI vs i = some v ∧ Rp K H v d := by
  unfold atI at h ⊢
  rw [r.length]
  cases e : ixN ds.length i with
  | none => rw [e] at h; cases h
  | some j =>
    rw [e] at h
    exact r.get h
theorem ix_ok (hu : X.A.units + 64 < cLine) : ∃ r, IxR X r ∧ ∀ (O : Addr → Prop) (H : Hp) (x y : V) (dx dy : D) (P : D → Prop) (Q : VK), (∀ b, O b → H b ≠ none) → Rp X.K (msk O H) x dx → Rp X.K (msk O H) y dy → gIx dx dy P → Out X.K O H P Q → r x y H Q := ⟨_, IxR.or ix_seq (ix_dict (by omega)), fun O H x y dx dy P Q hO rx ry q o => by
  cases rx with
  | @tup p xs ds h r =>
    cases ry with
    | int i =>
      obtain ⟨d, h1, h2⟩ := q
      obtain ⟨v, e1, e2⟩ := atI_rp r h1
      exact .inl (.inr (.inl ⟨p, xs, i, v, rfl, rfl, msk_sqT h, e1, o.ret e2 h2⟩))
    | _ => exact q.elim
  | @lst p xs ds h r =>
    cases ry with
    | int i =>
      obtain ⟨d, h1, h2⟩ := q
      obtain ⟨v, e1, e2⟩ := atI_rp r h1
      exact .inl (.inl ⟨p, xs, i, v, rfl, rfl, .inl (.inl (msk_some h).2), e1, o.ret e2 h2⟩)
    | _ => exact q.elim
  | str l hl =>
    cases ry with
    | int i =>
      obtain ⟨c, h1, h2⟩ := q
      exact .inl (.inr (.inr ⟨S l, i, c, rfl, rfl, by rw [S_length]; exact hl, by rw [S_cps]; exact h1, o.str (by rw [sizeLine_eq]; show 1 ≤ _; decide) h2⟩))
    | _ => exact q.elim
  | @dic a' kvs ks ds h h2 hz h3 =>
    obtain ⟨k, e, e1, e2, q⟩ := q
    obtain ⟨v, z1, z2⟩ := valV_getK h2 h3 e2
    exact .inr ⟨a', v, rfl, .inl ⟨kvs, dkey k, Same.rd same_msk h, keyD_rp ry e1, z1.symm⟩, o.ret z2 q⟩
  | _ => exact q.elim⟩
theorem de_ix {a b : Expr} {fa fb : FE} {pos : Pos} (hu : X.A.units + 64 < cLine) (ha : DE K X a fa) (hb : DE K X b fb) (hs : PlainIx b := by intro _ _; rfl) : DE K X (.Subscript a b pos) (fOp gIx fa fb) := ⟨fun hK => by
  subst hK
  obtain ⟨r, h1, h2⟩ := ix_ok hu
  exact pe_imp (pe_ix h1 (ha.pe rfl) (hb.pe rfl) hs) (e_bin h2)⟩
end
end DL
/-! The layer DL: defs and their calls. -/
namespace DL
open PySem PySem.Spec PyProof.Rows L2

/-! ### room, with no repr under way -/
structure RoomG (k : Nat) (A : Around) : Prop where
  r : Room k A
  g : A.guards = some []
theorem RoomG.mono {j k : Nat} {A : Around} (r : RoomG k A) (h : j ≤ k) : RoomG j A := ⟨r.r.mono h, r.g⟩
theorem RoomG.deeper {k : Nat} {A : Around} (r : RoomG (k + 1) A) (env : Env) : RoomG k (A.deeper env) := ⟨r.r.deeper env, r.g⟩
theorem RoomG.hu {k : Nat} {A : Around} (r : RoomG k A) : A.units + 64 < cLine := r.r.units
/-- a def at f keeps the promise sp, called with no repr under way -/
structure FnG (P : Program) (w : World) (K : PySem.W.Frag) (mg : Str → Option Value) (base : Heap) (CX : CXT) (k : Nat) (f : Addr) (fd : FuncData) (ps : List Str) (sp : Sp) : Prop where
  len : ∀ vs H Q E, sp vs H Q E → vs.length = ps.length
  run : ∀ (A : Around) (outer : List Env) (s : Shared) (H : Hp) (args : Args) (us : List Value) (vs : List V) (Q : VK) (E : XK), RoomG k A → Env0 P w K mg base A outer s H → BindsTo s fd args (ps.zip us) → Vals vs us → sp vs H Q E →
    codeAny (model P w) A (.call (.ref f) args) (CR CX outer P w H s Q E) s
section
variable {P : Program} {w : World} {K : PySem.W.Frag} {mg : Str → Option Value} {base : Heap} {CX : CXT} {k : Nat} {f : Addr} {fd : FuncData} {ps : List Str} {sp : Sp}
theorem FnG.of (F : FnOk P w K mg base CX k f fd ps sp) : FnG P w K mg base CX k f fd ps sp := ⟨F.len, fun A outer s H args us vs Q E hr => F.run A outer s H args us vs Q E hr.r⟩
theorem FnG.mono {j : Nat} (F : FnG P w K mg base CX j f fd ps sp) (h : j ≤ k) : FnG P w K mg base CX k f fd ps sp := ⟨F.len, fun A outer s H args us vs Q E hr => F.run A outer s H args us vs Q E (hr.mono h)⟩
theorem fnG_of {name qual : Str} {params : Arguments} {body : List Stmt} {scope : Scope} {dV kV doc pm cdv ct oc : Value} {an od : Option Addr}
    {osl : Array (Option Value)} {N : List Str} (lk : K.lookup f = some ⟨oc, od, .func (PySem.W.fnOf name qual params body scope dV kV doc pm an cdv ct), osl⟩) (hcd : PySem.W.codeIn K cdv qual = true) (S : FnScope N ps scope)
    (len : ∀ vs H Q E, sp vs H Q E → vs.length = ps.length)
    (hbody : ∀ (A : Around) (outer : List Env) (s : Shared) (H : Hp) (vs : List V) (Q : VK) (E : XK), RoomG k (A.deeper (envOfC qual scope s.heap.objs.size f cdv)) → sp vs H Q E →
      ∃ t, PSs (cxOf CX P w K mg base N qual scope f cdv A outer s H E) body t ∧ t { nx := fun _ H' => Q .non H', rt := Q } (start N vs) H) :
    FnG P w K mg base CX (k + 1) f (PySem.W.fnOf name qual params body scope dV kV doc pm an cdv ct) ps sp := by
  refine ⟨len, fun A outer s H args us vs Q E hrg e0 hb r hsp => ?_⟩
  have hr := hrg.r
  have hl := len _ _ _ _ hsp
  have KX : K.In s.heap := e0.mod.kin.keeps fun b o e => (e0.bs b o e).1
  have lim : s.heap.NoLimit := e0.mod.nolimit.keeps fun b o e => (e0.bs b o e).1
  have hkind : ∀ y ∈ ps.zip us, scope.names.lookup y.1 = some .local ∨ (scope.names.lookup y.1 = some .cell ∧ ((cellsFrom (s.heap.objs.size + 1) scope.names []).lookup y.1).isSome = true) := fun ⟨n, v⟩ hy => by
    rcases S.par n (List.of_mem_zip hy).1 with q | q
    · exact .inl q
    · exact .inr ⟨q, PySem.W.cellsFrom_some _ _ _ (.inl q)⟩
  refine codeAny_call_function hr.depth (KX _ _ lk) rfl S.co S.gen rfl (PySem.W.codeRec_of KX hcd) (hb _ _ _ _ ?_)
  refine wpAny_newFunctionEnv_cells S.kind hkind fun env he s1 x => ?_
  subst he
  refine ⟨lim.keeps x.toInCall.keep, codeAny_func ?_⟩
  obtain ⟨t, ht, hq⟩ := hbody A outer s H vs Q E (hrg.deeper _) hsp
  have I : Inv (cxOf CX P w K mg base N qual scope f cdv A outer s H E) [] (start N vs) H s1 := inv_start S hr.hd e0 hl r x
  refine wpAny_mono (ht.run [] s1 (start N vs) H _ I hq) (fun fl s' hs => ?_) fun e s' hs => hs
  have fin : ∀ {σ' : L2.St} {H' : Hp} {v : V} {u : Value}, Inv (cxOf CX P w K mg base N qual scope f cdv A outer s H E) [] σ' H' s' → RelV v u → Q v H' → CE outer P w H s Q u s' :=
    fun {σ' H' v u} J rv q => ⟨v, H', J.os, J.bare, J.base, J.hok, rv, q⟩
  cases fl with
  | ret u =>
    obtain ⟨v, σ', H', J, rv, q⟩ := hs
    exact fin J rv q
  | next =>
    obtain ⟨σ', H', J, q⟩ := hs
    exact fin (v := V.non) (u := Value.none) J rfl q
  | brk =>
    obtain ⟨_, _, _, q⟩ := hs
    exact False.elim q
  | cont =>
    obtain ⟨_, _, _, q⟩ := hs
    exact False.elim q
/-- what lets no exception out needs no wish -/
theorem CX0_noE {outer : List Env} {H : Hp} {s : Shared} {E : XK} {e : Value} {s' : Shared} : CX0 outer H s E e s' → False := fun h => h
end
section
variable {X : Cx} {CX : CXT} {k n : Nat} {f : Addr} {fd : FuncData} {ps ks : List Str} {sp : Sp} {E : XK} {x : Str} {p pos : Pos} {e : Expr} {es : List Expr} {kws : List Keyword} {t tk : TA} {g : List Value → List Value → List Value} {gV : List V → List V → List V}
theorem run_fnG {pins : List (Addr × Obj)} {σ : L2.St} {H : Hp} {s : Shared} {Q : VK} {us ws : List Value} {vs zs : List V} (F : FnG X.prog X.w X.K X.mg X.base CX k f fd ps sp) (hr : RoomG k X.A) (hb : KBn X.K fd ps n ks g gV) (hx : Passes CX X E)
    (I : Inv X pins σ H s) (r : Vals vs us) (rz : Vals zs ws) (l1 : vs.length = n) (l2 : zs.length = ks.length) (h : sp (gV vs zs) H Q E) : wpAny (model X.prog X.w) X.A (call (.ref f) us (ks.zip ws)) (EP X pins σ Q) X.xe s := by
  have r2 := hb.rel r rz
  refine wpAny_call (codeAny_mono (F.run X.A X.stack s H ⟨us, ks.zip ws⟩ (g us ws) (gV vs zs) Q E hr I.env0 (hb.to s us ws I.kIn (r.length.symm.trans l1) (rz.length.symm.trans l2)) r2 h) fun r s' hq => ?_)
  cases r with
  | error e => exact hx pins σ H s e s' I hq
  | ok fl =>
    cases fl with
    | ret u => exact I.after hq
    | next => exact False.elim hq
    | brk => exact False.elim hq
    | cont => exact False.elim hq
def tCallG (n m : Nat) (sp : Sp) (gV : List V → List V → List V) (E : XK) (t tk : TA) : TE := fun σ H Q => t σ H fun vs H1 => tk σ H1 fun zs H2 => vs.length = n ∧ zs.length = m ∧ sp (gV vs zs) H2 Q E
/-- f(e, ..) -/
theorem pe_callG (F : FnG X.prog X.w X.K X.mg X.base CX k f fd ps sp) (hr : RoomG k X.A) (hg : Gl X x) (hm : X.mg x = some (.ref f)) (hk : PySem.W.keepIn X.K (.ref f) = true) (hb : KBn X.K fd ps n [] g gV) (hx : Passes CX X E)
    (ha : PA X (e :: es) t) (hdb : (x == ("__debug__" : Str)) = false := by decide) (he : starEach (e :: es) X.env = (false, eval e X.env) :: starEach es X.env := by rfl) (hpl : (backTo pos (starEach es X.env)).any (·.1) = false := by rfl) :
    PE X (.Call (.Name x p) (e :: es) [] pos) (tCallG n 0 sp gV E t tNil) := by
  refine ⟨fun pins s σ H Q I h => ?_⟩
  refine wpAny_Call_Name_kw (ld_glob I hg hm ?_ hdb)
  refine PySem.W.callWith_K (h₀ := X.base) I.ok.mod.kin hk (thn (ha.run pos pins s σ H _ I h) fun us s1 ⟨vs, H1, I1, r, l1, _, q⟩ => ⟨I1.kIn, ?_⟩) he hpl
  have := run_fnG (ws := []) (zs := []) F hr hb hx I1 r .nil l1 rfl q
  exact this
/-- f() -/
theorem pe_callG0 (F : FnG X.prog X.w X.K X.mg X.base CX k f fd ps sp) (hr : RoomG k X.A) (hg : Gl X x) (hm : X.mg x = some (.ref f)) (hk : PySem.W.keepIn X.K (.ref f) = true) (hb : KBn X.K fd ps 0 [] g gV) (hx : Passes CX X E)
    (hdb : (x == ("__debug__" : Str)) = false := by decide) : PE X (.Call (.Name x p) [] [] pos) (tCallG 0 0 sp gV E tNil tNil) := by
  refine ⟨fun pins s σ H Q I h => ?_⟩
  refine wpAny_Call_Name_kw (ld_glob I hg hm ?_ hdb)
  refine PySem.W.callWith_K0 I.kIn hk ?_
  obtain ⟨l1, _, q⟩ := h
  have := run_fnG (us := []) (vs := []) (ws := []) (zs := []) F hr hb hx I .nil .nil rfl rfl q
  exact this
/-- f(e, .., k = v, ..) -/
theorem pe_callGK (F : FnG X.prog X.w X.K X.mg X.base CX k f fd ps sp) (hr : RoomG k X.A) (hg : Gl X x) (hm : X.mg x = some (.ref f)) (hk : PySem.W.keepIn X.K (.ref f) = true) (hb : KBn X.K fd ps n ks g gV) (hx : Passes CX X E)
    (ha : PA X (e :: es) t) (hkw : PK X kws tk) (hall : (backToKw pos (keywordEach kws X.env)).all (·.1.isSome) = true := by rfl) (hks : (backToKw pos (keywordEach kws X.env)).filterMap (·.1) = ks := by rfl)
    (hdb : (x == ("__debug__" : Str)) = false := by decide) (he : starEach (e :: es) X.env = (false, eval e X.env) :: starEach es X.env := by rfl)
    (hpl : ((backTo pos (starEach (e :: es) X.env)).any (·.1) || (backToKw pos (keywordEach kws X.env)).any (·.1.isNone)) = false := by rfl) :
    PE X (.Call (.Name x p) (e :: es) kws pos) (tCallG n ks.length sp gV E t tk) := by
  refine ⟨fun pins s σ H Q I h => ?_⟩
  refine wpAny_Call_Name_kw (ld_glob I hg hm ?_ hdb)
  refine PySem.W.callWith_KW (h₀ := X.base) I.ok.mod.kin hk hall (thn (ha.run pos pins s σ H _ I h) fun us s1 ⟨vs, H1, I1, r, q⟩ => ?_) hpl he
  refine thn (hkw.run pos pins s1 σ H1 _ I1 q) fun ws s2 ⟨zs, H2, I2, rz, l1, l2, q2⟩ => ⟨I2.kIn, ?_⟩
  rw [hks]
  exact run_fnG F hr hb hx I2 r rz l1 l2 q2
/-- f(k = v, ..) -/
theorem pe_callGK0 (F : FnG X.prog X.w X.K X.mg X.base CX k f fd ps sp) (hr : RoomG k X.A) (hg : Gl X x) (hm : X.mg x = some (.ref f)) (hk : PySem.W.keepIn X.K (.ref f) = true) (hb : KBn X.K fd ps 0 ks g gV) (hx : Passes CX X E)
    (hkw : PK X kws tk) (hall : (backToKw pos (keywordEach kws X.env)).all (·.1.isSome) = true := by rfl) (hks : (backToKw pos (keywordEach kws X.env)).filterMap (·.1) = ks := by rfl)
    (hdb : (x == ("__debug__" : Str)) = false := by decide)
    (hpl : ((backTo pos (starEach [] X.env)).any (·.1) || (backToKw pos (keywordEach kws X.env)).any (·.1.isNone)) = false := by rfl) :
    PE X (.Call (.Name x p) [] kws pos) (tCallG 0 ks.length sp gV E tNil tk) := by
  refine ⟨fun pins s σ H Q I h => ?_⟩
  refine wpAny_Call_Name_kw (ld_glob I hg hm ?_ hdb)
  refine PySem.W.callWith_KW0 (h₀ := X.base) I.ok.mod.kin hk hall (thn (hkw.run pos pins s σ H _ I h) fun ws s2 ⟨zs, H2, I2, rz, l1, l2, q2⟩ => ⟨I2.kIn, ?_⟩) hpl
  rw [hks]
  have := run_fnG (us := []) (vs := []) F hr hb hx I2 .nil rz l1 l2 q2
  exact this
end

/-! ### promises over plain data -/
section
variable [TapeI] (K : PySem.W.Frag)
def spD (n : Nat) (spec : GA) : Sp := fun vs H Q _ => ∃ (O : Addr → Prop) (ds : List D) (P : D → Prop), ds.length = n ∧ (∀ b, O b → H b ≠ none) ∧ RpAll K (msk O H) vs ds ∧ spec ds P ∧ ∀ v H' d, Rp K (msk O H') v d → Same H H' → P d → Q v H'
/-- more draws than a run can make -/
def LIM : Nat := 16777216
/-- .. of a def whose first parameter is the draws' object: it draws at most cost times -/
def spT (n : Nat) (spec : GA) (cost : Nat) : Sp := fun vs H Q _ => ∃ (O : Addr → Prop) (t : Addr) (m : Nat) (vs' : List V) (ds : List D) (P : D → Prop), vs = .ref t :: vs' ∧ ds.length = n ∧ m + cost ≤ LIM ∧ (∀ b, O b → H b ≠ none) ∧ O t ∧ (∃ o, H t = some o ∧ TapeI.TP K m (msk O H) o) ∧
  RpAll K (msk O H) vs' ds ∧ spec ds P ∧ ∀ v H' d, Rp K (msk O H') v d → (∀ b o, b ≠ t → H b = some o → H' b = some o) → (∃ o, H' t = some o ∧ TapeI.TP K (m + cost) (msk O H') o) → P d → Q v H'
end
/-- the slots at the entry -/
def initR (n : Nat) (ds : List D) : Rho := ds.map .sh ++ List.replicate (n - ds.length) .no
def initT (n : Nat) (t : Addr) (m : Nat) (ds : List D) : Rho := .tk t m :: (ds.map .sh ++ List.replicate (n - (ds.length + 1)) .no)
def En (P : D → Prop) : Dn := { nx := fun _ => P .non, rt := fun d _ => P d }
/-- the draws' object stands in the first slot, drawn from at most m times -/
def tkOk (t : Addr) (m : Nat) (ρ : Rho) : Prop := ∃ n, ρ[0]? = some (.tk t n) ∧ n ≤ m
def EnT (t : Addr) (m : Nat) (P : D → Prop) : Dn := { nx := fun ρ => tkOk t m ρ ∧ P .non, rt := fun d ρ => tkOk t m ρ ∧ P d }
section
variable [TapeI] {K : PySem.W.Frag}
theorem own_sh {σ : St} {ρ : Rho} (h : ∀ s ∈ ρ, s.own = false) (b : Addr) : ¬ own σ ρ b := fun ⟨i, s, h1, h2, _⟩ => by
  rw [h s (List.mem_of_getElem? h1)] at h2
  cases h2
theorem initR_own {n : Nat} {ds : List D} : ∀ s ∈ initR n ds, s.own = false := fun s hs => by
  rcases List.mem_append.mp hs with h | h
  · obtain ⟨d, _, rfl⟩ := List.mem_map.mp h; rfl
  · rw [(List.mem_replicate.mp h).2]; rfl
theorem M_of {c : Fx} {σ : St} {ρ : Rho} {H : Hp} (h : ∀ b, Ow c σ ρ b ↔ c.O b) : M c σ ρ H = msk c.O H := by
  show msk _ _ = _
  congr 1
  funext b
  exact propext (h b)
theorem start_get {N : List Str} {vs : List V} {i : Nat} {v : V} (h : vs[i]? = some v) : (start N vs)[i]? = some (some v) := by
  unfold L2.start
  rw [List.getElem?_append_left (by simpa using (List.getElem?_eq_some_iff.mp h).1), List.getElem?_map, h]
  rfl
theorem st_init {N : List Str} {O : Addr → Prop} {H : Hp} {vs : List V} {ds : List D} (hl : ds.length ≤ N.length) (hO : ∀ b, O b → H b ≠ none) (r : RpAll K (msk O H) vs ds) : StR K ⟨H, O, none⟩ (start N vs) (initR N.length ds) H := by
  have hM : M ⟨H, O, none⟩ (start N vs) (initR N.length ds) H = msk O H := M_of fun b => ⟨fun h => h.resolve_right (own_sh initR_own b), .inl⟩
  refine ⟨?_, fun i s hs => ?_, fun i j s t a h1 h2 h3 => ?_, fun b o _ h => h, hO, (fun t h => by cases h), (fun t h => by cases h)⟩
  · simp [initR, L2.start, r.length]
  · rw [hM]
    unfold initR at hs
    by_cases hi : i < ds.length
    · rw [List.getElem?_append_left (by simpa using hi), List.getElem?_map, List.getElem?_eq_getElem hi] at hs
      cases hs
      obtain ⟨v, e1, e2⟩ := r.get (List.getElem?_eq_getElem hi)
      exact ⟨v, start_get e1, e2⟩
    · rw [List.getElem?_append_right (by simpa using hi), List.getElem?_replicate] at hs
      split at hs
      · cases hs; trivial
      · cases hs
  · rw [initR_own s (List.mem_of_getElem? h1)] at h3
    cases h3
theorem st_initT {N : List Str} {O : Addr → Prop} {t : Addr} {m : Nat} {H : Hp} {vs : List V} {ds : List D} (hl : ds.length + 1 ≤ N.length) (hO : ∀ b, O b → H b ≠ none) (hT : O t) (tp : ∃ o, H t = some o ∧ TapeI.TP K m (msk O H) o) (r : RpAll K (msk O H) vs ds) :
    StR K ⟨H, O, some t⟩ (start N (.ref t :: vs)) (initT N.length t m ds) H := by
  have sh : ∀ i s, (initT N.length t m ds)[i + 1]? = some s → s.own = false := fun i s h => by
    have h' : (ds.map Sl.sh ++ List.replicate (N.length - (ds.length + 1)) .no)[i]? = some s := h
    rcases List.mem_append.mp (List.mem_of_getElem? h') with h | h
    · obtain ⟨d, _, rfl⟩ := List.mem_map.mp h; rfl
    · rw [(List.mem_replicate.mp h).2]; rfl
  have s0 : (start N (.ref t :: vs))[0]? = some (some (.ref t)) := start_get rfl
  have hM : M ⟨H, O, some t⟩ (start N (.ref t :: vs)) (initT N.length t m ds) H = msk O H := M_of fun b => ⟨fun h => h.elim id (fun ⟨i, s, h1, h2, h3⟩ => by
    cases i with
    | zero => rw [s0] at h3; cases h3; exact hT
    | succ i => rw [sh i s h1] at h2; cases h2), fun h => .inl h⟩
  refine ⟨?_, fun i s hs => ?_, fun i j s u a h1 h2 h3 h4 _ _ => ?_, fun b o _ h => h, hO, (fun u h => by cases h; exact ⟨hT, m, by rw [hM]; exact tp⟩), (fun u h => by cases h; exact hO _ hT)⟩
  · simp only [initT, L2.start, List.length_cons, List.length_append, List.length_map, List.length_replicate, r.length]
    omega
  · rw [hM]
    cases i with
    | zero => cases hs; exact ⟨s0, tp, .inl rfl⟩
    | succ i =>
      have hs' : (ds.map Sl.sh ++ List.replicate (N.length - (ds.length + 1)) .no)[i]? = some s := hs
      by_cases hi : i < ds.length
      · rw [List.getElem?_append_left (by simpa using hi), List.getElem?_map, List.getElem?_eq_getElem hi] at hs'
        cases hs'
        obtain ⟨v, e1, e2⟩ := r.get (List.getElem?_eq_getElem hi)
        exact ⟨v, start_get (i := i + 1) e1, e2⟩
      · rw [List.getElem?_append_right (by simpa using hi), List.getElem?_replicate] at hs'
        split at hs'
        · cases hs'; trivial
        · cases hs'
  · cases i with
    | succ i => rw [sh i s h1] at h3; cases h3
    | zero =>
      cases j with
      | zero => rfl
      | succ j => rw [sh j u h2] at h4; cases h4
section
variable {P : Program} {w : World} {mg : Str → Option Value} {base : Heap} {x qual : Str} {params : Arguments} {body : List Stmt} {scope : Scope} {dvs : List V} {kws : List (Str × V)} {f : Addr} {fd : FuncData} {N ps : List Str} {k : Nat}
theorem PSs.nox' {X : Cx} {st : List Stmt} {t : TS} (h : PSs X.nox st t) : PSs X st t := PSs.nox h
/-- a def by its body's reading -/
theorem fnD (F : FunD K x qual params body scope dvs kws f fd) (S : FnScope N ps scope) (hN : ps.length ≤ N.length) (G : FS) (spec : GA)
    (der : ∀ (cdv : Value) (A : Around) (outer : List Env) (s : Shared) (H : Hp) (E : XK), RoomG k (A.deeper (envOfC qual scope s.heap.objs.size f cdv)) → DSs K (cxOf CX0 P w K mg base N qual scope f cdv A outer s H E).nox body G)
    (h : ∀ (ds : List D) (Q : D → Prop), ds.length = ps.length → spec ds Q → G (En Q) (initR N.length ds)) : FnG P w K mg base CX0 (k + 1) f fd ps (spD K ps.length spec) := by
  obtain ⟨oc, od, dV, kV, doc, pm, an, cdv, ct, osl, rfl, lk, hcd, _, _⟩ := F.ex
  refine fnG_of lk hcd S (fun vs H Q E ⟨O, ds, Pd, h1, h2, h3, _⟩ => by rw [h3.length, h1]) fun A outer s H vs Q E hr hsp => ?_
  obtain ⟨O, ds, Pd, h1, h2, h3, h4, h5⟩ := hsp
  refine ⟨sOf K G, PSs.nox' ((der cdv A outer s H E hr).ps rfl), ⟨H, O, none⟩, initR N.length ds, En Pd, h2, st_init (by omega) h2 h3, h ds Pd h1 h4, fun σ' ρ' H' st _ q => ?_, fun v H' d ρ' r q => ?_, fun _ _ _ _ _ q => q.elim, fun _ _ _ _ _ q => q.elim⟩
  · exact h5 _ _ _ .non (fun b o e => st.base b o (fun z => by cases z) e) q
  · exact h5 _ _ _ r.rp (fun b o e => r.base b o (fun z => by cases z) e) q
theorem fnT (F : FunD K x qual params body scope dvs kws f fd) (S : FnScope N ps scope) (hN : ps.length ≤ N.length) (G : FS) (spec : GA) (cost : Nat)
    (der : ∀ (cdv : Value) (A : Around) (outer : List Env) (s : Shared) (H : Hp) (E : XK), RoomG k (A.deeper (envOfC qual scope s.heap.objs.size f cdv)) → DSs K (cxOf CX0 P w K mg base N qual scope f cdv A outer s H E).nox body G)
    (h : ∀ (t : Addr) (m : Nat) (ds : List D) (Q : D → Prop), ds.length + 1 = ps.length → m + cost ≤ LIM → spec ds Q → G (EnT t (m + cost) Q) (initT N.length t m ds)) (n : Nat) (hn : n + 1 = ps.length) : FnG P w K mg base CX0 (k + 1) f fd ps (spT K n spec cost) := by
  obtain ⟨oc, od, dV, kV, doc, pm, an, cdv, ct, osl, rfl, lk, hcd, _, _⟩ := F.ex
  refine fnG_of lk hcd S (fun vs H Q E ⟨O, t, m, vs', ds, Pd, h0, h1, _, _, _, _, h3, _⟩ => by rw [h0, List.length_cons, h3.length, h1, hn]) fun A outer s H vs Q E hr hsp => ?_
  obtain ⟨O, t, m, vs', ds, Pd, rfl, h1, hm, h2, hT, tp, h3, h4, h5⟩ := hsp
  refine ⟨sOf K G, PSs.nox' ((der cdv A outer s H E hr).ps rfl), ⟨H, O, some t⟩, initT N.length t m ds, EnT t (m + cost) Pd, h2, st_initT (by omega) h2 hT tp h3, h t m ds Pd (by omega) hm h4, fun σ' ρ' H' st _ q => ?_, fun v H' d ρ' r q => ?_, fun _ _ _ _ _ q => q.elim, fun _ _ _ _ _ q => q.elim⟩
  · obtain ⟨⟨n, q1, qn⟩, q2⟩ := q
    refine h5 _ _ _ .non (fun b o ne e => st.base b o (fun z => ne (Option.some.inj z).symm) e) ?_ q2
    obtain ⟨_, ⟨o, e1, e2⟩, _⟩ := st.slot 0 _ q1
    exact ⟨o, e1, TapeI.le qn (TapeI.mono (msk_le fun b z => .inl z) e2)⟩
  · obtain ⟨⟨n, q1, qn⟩, q2⟩ := q
    obtain ⟨o, e1, e2⟩ := r.tape t 0 _ rfl q1
    exact h5 _ _ _ r.rp (fun b o ne e => r.base b o (fun z => ne (Option.some.inj z).symm) e) ⟨o, e1, TapeI.le qn e2⟩ q2
end
end
end DL
/-! The layer DL: calls, statements, loops, comprehensions. -/
namespace DL
open PySem PySem.Spec PyProof.Rows L2

/-! ### what a call is worth -/
section
variable [TapeI]
/-- the def that the module's name x holds, called with n values and the keywords ks: spec over the values, then the keywords' values -/
def CalD (P : Program) (w : World) (K : PySem.W.Frag) (mg : Str → Option Value) (base : Heap) (k : Nat) (x : Str) (n : Nat) (ks : List Str) (spec : GA) : Prop :=
  ∃ (f : Addr) (fd : FuncData) (ps : List Str) (m : Nat) (spec0 : GA) (g : List Value → List Value → List Value) (gV : List V → List V → List V), mg x = some (.ref f) ∧ PySem.W.keepIn K (.ref f) = true ∧ FnG P w K mg base CX0 k f fd ps (spD K m spec0) ∧
    KBn K fd ps n ks g gV ∧ ∀ (m0 : Hp) (vs zs : List V) (ds es : List D), RpAll K m0 vs ds → RpAll K m0 zs es → ds.length = n → es.length = ks.length → ∃ all, RpAll K m0 (gV vs zs) all ∧ all.length = m ∧ ∀ Q, spec (ds ++ es) Q → spec0 all Q
/-- .. of a def that draws: the first value is the draws' object -/
def CalT (P : Program) (w : World) (K : PySem.W.Frag) (mg : Str → Option Value) (base : Heap) (k : Nat) (x : Str) (n : Nat) (spec : GA) (cost : Nat) : Prop :=
  ∃ (f : Addr) (fd : FuncData) (ps : List Str) (g : List Value → List Value → List Value), mg x = some (.ref f) ∧ PySem.W.keepIn K (.ref f) = true ∧ FnG P w K mg base CX0 k f fd ps (spT K n spec cost) ∧ KBn K fd ps (n + 1) [] g (fun vs _ => vs)
end
section
variable [TapeI] {P : Program} {w : World} {K : PySem.W.Frag} {mg : Str → Option Value} {base : Heap} {k : Nat} {x : Str} {n : Nat} {spec : GA}
theorem CalD.mono {j : Nat} {ks : List Str} (h : CalD P w K mg base j x n ks spec) (hj : j ≤ k) : CalD P w K mg base k x n ks spec := by
  obtain ⟨f, fd, ps, m, s0, g, gV, h1, h2, h3, h4, h5⟩ := h
  exact ⟨f, fd, ps, m, s0, g, gV, h1, h2, h3.mono hj, h4, h5⟩
theorem CalT.mono {j cost : Nat} (h : CalT P w K mg base j x n spec cost) (hj : j ≤ k) : CalT P w K mg base k x n spec cost := by
  obtain ⟨f, fd, ps, g, h1, h2, h3, h4⟩ := h
  exact ⟨f, fd, ps, g, h1, h2, h3.mono hj, h4⟩
/-- values and keywords put in the parameters' order -/
inductive Src where
  | ps (i : Nat) | kw (j : Nat) | df (j : Nat)
def Src.get {α : Type} (us ws its : List α) (d : α) : Src → α
  | .ps i => us.getD i d
  | .kw i => ws.getD i d
  | .df i => its.getD i d
theorem Vals.getD {vs : List V} {us : List Value} (r : Vals vs us) (i : Nat) : RelV (vs.getD i .non) (us.getD i .none) := by
  rw [List.getD_eq_getElem?_getD, List.getD_eq_getElem?_getD]
  cases e : vs[i]? with
  | none => rw [r.none_of e]; rfl
  | some v =>
    obtain ⟨u, h1, h2⟩ := r.get e
    rw [h1]
    exact h2
theorem RpAll.getD {H : Hp} {vs : List V} {ds : List D} (r : RpAll K H vs ds) (i : Nat) : Rp K H (vs.getD i .non) (ds.getD i .non) := by
  rw [List.getD_eq_getElem?_getD, List.getD_eq_getElem?_getD]
  cases e : vs[i]? with
  | none =>
    have : ds[i]? = none := by
      rw [List.getElem?_eq_none_iff] at e ⊢
      rw [← r.length]; exact e
    rw [this]; exact .non
  | some v =>
    obtain ⟨u, h1, h2⟩ := r.getV e
    rw [h1]
    exact h2
theorem vals_src {vs zs dv : List V} {us ws its : List Value} (r1 : Vals vs us) (r2 : Vals zs ws) (r3 : Vals dv its) : ∀ src : List Src, Vals (src.map (Src.get vs zs dv .non)) (src.map (Src.get us ws its .none))
  | [] => .nil
  | s :: src => .cons (by cases s <;> first | exact Vals.getD r1 _ | exact Vals.getD r2 _ | exact Vals.getD r3 _) (vals_src r1 r2 r3 src)
theorem rp_src {H : Hp} {vs zs dv : List V} {ds es fs : List D} (r1 : RpAll K H vs ds) (r2 : RpAll K H zs es) (r3 : RpAll K H dv fs) : ∀ src : List Src, RpAll K H (src.map (Src.get vs zs dv .non)) (src.map (Src.get ds es fs .non))
  | [] => .nil
  | s :: src => .cons (by cases s <;> first | exact RpAll.getD r1 _ | exact RpAll.getD r2 _ | exact RpAll.getD r3 _) (rp_src r1 r2 r3 src)
variable {qual : Str} {params : Arguments} {body : List Stmt} {scope : Scope} {f : Addr} {fd : FuncData} {ps : List Str}
/-- every parameter is written, in order -/
theorem CalD.pos {nm : Str} (F : FunD K nm qual params body scope [] [] f fd) (hm : mg x = some (.ref f)) (G : FnG P w K mg base CX0 k f fd ps (spD K ps.length spec)) (n : Nat) (hn : n = ps.length)
    (h : ∀ (kV doc pm : Value) (an : Option Addr) (cdv ct : Value) (us : List Value), us.length = n → bindArgs (PySem.W.fnOf nm qual params body scope .none kV doc pm an cdv ct) ⟨us, []⟩ = pure (ps.zip us)) : CalD P w K mg base k x n [] spec := by
  subst hn
  have hb := FunD.bindsA F h
  refine ⟨f, fd, ps, ps.length, spec, fun us _ => us, fun vs _ => vs, hm, F.kp, G, ⟨fun s us ws _ h1 h2 => ?_, fun r _ => r⟩, fun m0 vs zs ds es r1 r2 h1 h2 => ⟨ds, r1, h1, fun Q q => ?_⟩⟩
  · cases ws with
    | nil => exact hb s us h1
    | cons a b => cases h2
  · cases es with
    | nil => rw [List.append_nil] at q; exact q
    | cons a b => cases h2
/-- keywords, no defaults -/
theorem CalD.kws {nm : Str} (F : FunD K nm qual params body scope [] [] f fd) (hm : mg x = some (.ref f)) (G : FnG P w K mg base CX0 k f fd ps (spD K ps.length spec)) (n : Nat) (ks : List Str) (src : List Src) (hs : src.length = ps.length)
    (h : ∀ (kV doc pm : Value) (an : Option Addr) (cdv ct : Value) (us ws : List Value), us.length = n → ws.length = ks.length → bindArgs (PySem.W.fnOf nm qual params body scope .none kV doc pm an cdv ct) ⟨us, ks.zip ws⟩ = pure (ps.zip (src.map (Src.get us ws [] .none)))) :
    CalD P w K mg base k x n ks (fun all Q => ∃ ds es, all = ds ++ es ∧ ds.length = n ∧ spec (src.map (Src.get ds es [] .non)) Q) := by
  have hk := F.kp
  obtain ⟨oc, od, dV, kV, doc, pm, an, cdv, ct, osl, rfl, lk, hcd, hD, hK⟩ := F.ex
  have e : dV = .none := hD.elim (fun z => z.2) fun z => absurd rfl z.1
  subst e
  refine ⟨f, _, ps, ps.length, spec, fun us ws => src.map (Src.get us ws [] .none), fun vs zs => src.map (Src.get vs zs [] .non), hm, hk, G, ⟨fun s us ws _ h1 h2 => .of_eq (h kV doc pm an cdv ct us ws h1 h2), fun r1 r2 => vals_src r1 r2 .nil src⟩, fun m0 vs zs ds es r1 r2 h1 h2 => ⟨_, rp_src r1 r2 .nil src, by rw [List.length_map, hs], fun Q q => ?_⟩⟩
  obtain ⟨ds', es', e, hd, q⟩ := q
  obtain ⟨rfl, rfl⟩ := List.append_inj e (h1.trans hd.symm)
  exact q
/-- positional values, the last defaults fill up -/
theorem CalD.dfl {nm : Str} {dvs : List V} {dd : List D} (F : FunD K nm qual params body scope dvs [] f fd) (hd : dvs ≠ []) (hdd : ∀ H, RpAll K H dvs dd) (hm : mg x = some (.ref f)) (G : FnG P w K mg base CX0 k f fd ps (spD K ps.length spec)) (n j : Nat) (hn : n + (dvs.length - j) = ps.length)
    (h : ∀ (T : Addr) (kV doc pm : Value) (an : Option Addr) (cdv ct : Value) (us its : List Value), us.length = n → its.length = dvs.length →
      ∃ k, bindArgs (PySem.W.fnOf nm qual params body scope (.ref T) kV doc pm an cdv ct) ⟨us, []⟩ = seqItems? (.ref T) >>= k ∧ k (some its.toArray) = pure (ps.zip (us ++ its.drop j))) :
    CalD P w K mg base k x n [] (fun all Q => spec (all ++ dd.drop j) Q) := by
  obtain ⟨ds, r, hb⟩ := FunD.binds1 F n j hd hn h
  have hl : ds.length = dvs.length - j := by rw [← r.length, List.length_drop]
  refine ⟨f, fd, ps, ps.length, spec, fun us _ => us ++ ds, fun vs _ => vs ++ dvs.drop j, hm, F.kp, G, ⟨fun s us ws X h1 h2 => ?_, fun r1 _ => r1.append r⟩, fun m0 vs zs es es' r1 r2 h1 h2 => ⟨es ++ dd.drop j, r1.append ((hdd m0).drop j), ?_, fun Q q => ?_⟩⟩
  · cases ws with
    | nil => exact hb s us X (by rw [List.length_append, hl]; omega)
    | cons a b => cases h2
  · have := (hdd m0).length
    rw [List.length_append, List.length_drop, ← this]; omega
  · cases es' with
    | nil => rw [List.append_nil] at q; exact q
    | cons a b => cases h2
theorem CalT.pos {nm : Str} {cost : Nat} (F : FunD K nm qual params body scope [] [] f fd) (hm : mg x = some (.ref f)) (n : Nat) (hn : n + 1 = ps.length) (G : FnG P w K mg base CX0 k f fd ps (spT K n spec cost))
    (h : ∀ (kV doc pm : Value) (an : Option Addr) (cdv ct : Value) (us : List Value), us.length = ps.length → bindArgs (PySem.W.fnOf nm qual params body scope .none kV doc pm an cdv ct) ⟨us, []⟩ = pure (ps.zip us)) : CalT P w K mg base k x n spec cost := by
  have hb := FunD.bindsA F h
  refine ⟨f, fd, ps, fun us _ => us, hm, F.kp, G, ⟨fun s us ws _ h1 h2 => ?_, fun r _ => r⟩⟩
  cases ws with
  | nil => exact hb s us (h1.trans hn)
  | cons a b => cases h2
end

/-! ### a call as an expression -/
section
variable [TapeI] {K : PySem.W.Frag} {X : Cx} {pos p : Pos} {x : Str} {e : Expr} {es : List Expr} {fs : FA} {k n : Nat} {spec : GA}
theorem passG {X : Cx} : Passes CX0 X E0 := fun _ _ _ _ _ _ _ h => h.elim
theorem call_fin {c : Fx} {σ : St} {ρ : Rho} {H : Hp} {Pd : D → Prop} {Q : VK} (st : StR K c σ ρ H) (k : ∀ v H' d, Aft K c σ ρ H H' → Rp K (M c σ ρ H') v d → Pd d → Q v H') :
    ∀ v H' d, Rp K (msk (Ow c σ ρ) H') v d → Same H H' → Pd d → Q v H' := fun v H' d r s p => k v H' d (.grow st s) r p
def fCall (spec : GA) (n : Nat) (fs : FA) : FE := fun ρ P => fs ρ fun ds => ds.length = n ∧ spec ds P
theorem de_call (C : CalD X.prog X.w X.K X.mg X.base k x n [] spec) (hr : RoomG k X.A) (hg : Gl X x) (ha : DA K X (e :: es) fs) (hdb : (x == ("__debug__" : Str)) = false := by decide) (he : starEach (e :: es) X.env = (false, eval e X.env) :: starEach es X.env := by rfl) (hpl : (backTo pos (starEach es X.env)).any (·.1) = false := by rfl) :
    DE K X (.Call (.Name x p) (e :: es) [] pos) (fCall spec n fs) := ⟨fun hK => by
  subst hK
  obtain ⟨f, fd, ps, m, s0, g, gV, h1, h2, h3, h4, h5⟩ := C
  refine pe_imp (pe_callG h3 hr hg h1 h2 h4 passG (ha.pa rfl) hdb he hpl) fun σ H Q q => ?_
  obtain ⟨c, ρ, P, st, f, k⟩ := q
  refine ⟨c, ρ, _, st, f, fun vs H1 ds A1 r ⟨hl, q⟩ => ⟨r.length.trans hl, rfl, ?_⟩⟩
  obtain ⟨all, r', hm, hq⟩ := h5 _ vs [] ds [] r .nil hl rfl
  exact ⟨Ow c σ ρ, all, P, hm, fun b => A1.st.ow_some, r', hq P (by rw [List.append_nil]; exact q), call_fin A1.st fun v H' d A2 => k v H' d (A1.trans A2)⟩⟩
theorem de_call0 (C : CalD X.prog X.w X.K X.mg X.base k x 0 [] spec) (hr : RoomG k X.A) (hg : Gl X x) (hdb : (x == ("__debug__" : Str)) = false := by decide) : DE K X (.Call (.Name x p) [] [] pos) (fun _ P => spec [] P) := ⟨fun hK => by
  subst hK
  obtain ⟨f, fd, ps, m, s0, g, gV, h1, h2, h3, h4, h5⟩ := C
  refine pe_imp (pe_callG0 h3 hr hg h1 h2 h4 passG hdb) fun σ H Q q => ?_
  obtain ⟨c, ρ, P, st, f, k⟩ := q
  refine ⟨rfl, rfl, ?_⟩
  obtain ⟨all, r', hm, hq⟩ := h5 _ [] [] [] [] (RpAll.nil (K := X.K) (H := msk (Ow c σ ρ) H)) .nil rfl rfl
  exact ⟨Ow c σ ρ, all, P, hm, fun b => st.ow_some, r', hq P f, call_fin st fun v H' d A2 => k v H' d A2⟩⟩
/-- keywords -/
structure DK' (K : PySem.W.Frag) (X : Cx) (kws : List Keyword) (f : FA) : Prop where
  pk : X.K = K → PK X kws (aOf K f)
theorem pk_imp {kws : List Keyword} {t t' : TA} (h : PK X kws t) (i : ∀ σ H Q, t' σ H Q → t σ H Q) : PK X kws t' := ⟨fun pos pins s σ H Q I q => h.run pos pins s σ H Q I (i σ H Q q)⟩
theorem dk_nil : DK' K X [] fNil := ⟨fun hK => pk_imp pk_nil fun σ H Q q => by
  obtain ⟨c, ρ, P, st, f, k⟩ := q
  exact k [] H [] (.refl st) .nil f⟩
theorem dk_cons {nm : Option Str} {kpos : Pos} {kws : List Keyword} {fa : FE} (he : DE K X e fa) (hr : DK' K X kws fs) : DK' K X (⟨nm, e, kpos⟩ :: kws) (fCons fa fs) := ⟨fun hK => pk_imp (pk_cons (he.pe hK) (hr.pk hK)) fun σ H Q q => by
  obtain ⟨c, ρ, P, st, f, k⟩ := q
  refine ⟨c, ρ, _, st, f, fun v H1 d A1 r1 p => ?_⟩
  exact ⟨c, ρ, _, A1.st, p, fun vs H2 ds A2 r2 p => k (v :: vs) H2 (d :: ds) (A1.trans A2) (.cons (r1.mono A2.sm) r2) p⟩⟩
def fCallK (spec : GA) (n m : Nat) (fs fk : FA) : FE := fun ρ P => fs ρ fun ds => fk ρ fun es => ds.length = n ∧ es.length = m ∧ spec (ds ++ es) P
variable {kws : List Keyword} {ks : List Str} {fk : FA}
theorem de_callK (C : CalD X.prog X.w X.K X.mg X.base k x n ks spec) (hr : RoomG k X.A) (hg : Gl X x) (ha : DA K X (e :: es) fs) (hkw : DK' K X kws fk) (hall : (backToKw pos (keywordEach kws X.env)).all (·.1.isSome) = true := by rfl) (hks : (backToKw pos (keywordEach kws X.env)).filterMap (·.1) = ks := by rfl)
    (hdb : (x == ("__debug__" : Str)) = false := by decide) (he : starEach (e :: es) X.env = (false, eval e X.env) :: starEach es X.env := by rfl)
    (hpl : ((backTo pos (starEach (e :: es) X.env)).any (·.1) || (backToKw pos (keywordEach kws X.env)).any (·.1.isNone)) = false := by rfl) : DE K X (.Call (.Name x p) (e :: es) kws pos) (fCallK spec n ks.length fs fk) := ⟨fun hK => by
  subst hK
  obtain ⟨f, fd, ps, m, s0, g, gV, h1, h2, h3, h4, h5⟩ := C
  refine pe_imp (pe_callGK h3 hr hg h1 h2 h4 passG (ha.pa rfl) (hkw.pk rfl) hall hks hdb he hpl) fun σ H Q q => ?_
  obtain ⟨c, ρ, P, st, f, k⟩ := q
  refine ⟨c, ρ, _, st, f, fun vs H1 ds A1 r q => ⟨c, ρ, _, A1.st, q, fun zs H2 es A2 rz ⟨hl, hl2, q⟩ => ⟨r.length.trans hl, rz.length.trans hl2, ?_⟩⟩⟩
  obtain ⟨all, r', hm, hq⟩ := h5 _ vs zs ds es (r.mono A2.sm) rz hl hl2
  exact ⟨Ow c σ ρ, all, P, hm, fun b => A2.st.ow_some, r', hq P q, call_fin A2.st fun v H' d A3 => k v H' d ((A1.trans A2).trans A3)⟩⟩
theorem de_callK0 (C : CalD X.prog X.w X.K X.mg X.base k x 0 ks spec) (hr : RoomG k X.A) (hg : Gl X x) (hkw : DK' K X kws fk) (hall : (backToKw pos (keywordEach kws X.env)).all (·.1.isSome) = true := by rfl) (hks : (backToKw pos (keywordEach kws X.env)).filterMap (·.1) = ks := by rfl)
    (hdb : (x == ("__debug__" : Str)) = false := by decide)
    (hpl : ((backTo pos (starEach [] X.env)).any (·.1) || (backToKw pos (keywordEach kws X.env)).any (·.1.isNone)) = false := by rfl) : DE K X (.Call (.Name x p) [] kws pos) (fun ρ P => fk ρ fun es => es.length = ks.length ∧ spec es P) := ⟨fun hK => by
  subst hK
  obtain ⟨f, fd, ps, m, s0, g, gV, h1, h2, h3, h4, h5⟩ := C
  refine pe_imp (pe_callGK0 h3 hr hg h1 h2 h4 passG (hkw.pk rfl) hall hks hdb hpl) fun σ H Q q => ?_
  obtain ⟨c, ρ, P, st, f, k⟩ := q
  refine ⟨c, ρ, _, st, f, fun zs H2 es A2 rz ⟨hl2, q⟩ => ⟨rfl, rz.length.trans hl2, ?_⟩⟩
  obtain ⟨all, r', hm, hq⟩ := h5 _ [] zs [] es .nil rz rfl hl2
  exact ⟨Ow c σ ρ, all, P, hm, fun b => A2.st.ow_some, r', hq P q, call_fin A2.st fun v H' d A3 => k v H' d (A2.trans A3)⟩⟩
/-- the draws' object has changed alone -/
theorem StR.drawn {c : Fx} {σ : St} {ρ : Rho} {H H' : Hp} {t : Addr} {m m' : Nat} (st : StR K c σ ρ H) (i : Nat) (hi : ρ[i]? = some (.tk t m)) (hs : ∀ b o, b ≠ t → H b = some o → H' b = some o) (tp : ∃ o, H' t = some o ∧ TapeI.TP K m' (M c σ ρ H') o) :
    StR K c σ (ρ.set i (.tk t m')) H' ∧ M c σ (ρ.set i (.tk t m')) H' = M c σ ρ H' ∧ Same (M c σ ρ H) (M c σ ρ H') := by
  have hsl := st.slot i _ hi
  have hiL : i < ρ.length := (List.getElem?_eq_some_iff.mp hi).1
  have hot : Ow c σ ρ t := .inr ⟨i, _, hi, rfl, hsl.1⟩
  have eo : own σ (ρ.set i (.tk t m')) = own σ ρ := funext fun b => propext ⟨fun ⟨j, s, h1, h2, h3⟩ => by
    by_cases e : i = j
    · subst e; exact ⟨i, _, hi, rfl, h3⟩
    · rw [List.getElem?_set_ne e] at h1; exact ⟨j, s, h1, h2, h3⟩, fun ⟨j, s, h1, h2, h3⟩ => by
    by_cases e : i = j
    · subst e; exact ⟨i, .tk t m', by rw [List.getElem?_set_self hiL], rfl, h3⟩
    · exact ⟨j, s, by rw [List.getElem?_set_ne e]; exact h1, h2, h3⟩⟩
  have eM : M c σ (ρ.set i (.tk t m')) H' = M c σ ρ H' := by show msk (Ow c σ _) _ = msk (Ow c σ _) _; unfold Ow; rw [eo]
  have sm : Same (M c σ ρ H) (M c σ ρ H') := fun b o e => by
    obtain ⟨h1, h2⟩ := msk_some e
    show msk _ _ _ = _
    rw [msk_of h1]
    exact hs b o (fun z => h1 (z ▸ hot)) h2
  refine ⟨⟨by rw [List.length_set]; exact st.len, fun j s hj => ?_, fun j l s u a h1 h2 h3 h4 h5 h6 => ?_, fun b o h1 h2 => ?_, fun b h1 h2 => ?_, fun u hu => ?_, st.tpB⟩, eM, sm⟩
  · rw [eM]
    by_cases e : i = j
    · subst e
      rw [List.getElem?_set_self hiL] at hj
      cases hj
      exact ⟨hsl.1, tp, hsl.2.2⟩
    · rw [List.getElem?_set_ne e] at hj
      have q := st.slot j s hj
      have nx : s.own = true → σ[j]? = some (some (.ref t)) → False := fun z1 z2 => e (st.inj i j _ s t hi hj rfl z1 hsl.1 z2)
      cases s with
      | no => trivial
      | sh d => obtain ⟨x, h1, h2⟩ := q; exact ⟨x, h1, h2.mono sm⟩
      | ol ds => obtain ⟨a, xs, h1, h2, h3, h4⟩ := q; exact ⟨a, xs, h1, hs a _ (fun z => nx rfl (z ▸ h1)) h2, h3.mono sm, h4⟩
      | od ks ds => obtain ⟨a, xs, h1, h2, h3, hz, h4, h5⟩ := q; exact ⟨a, xs, h1, hs a _ (fun z => nx rfl (z ▸ h1)) h2, h3, hz, h4.mono sm, h5⟩
      | tk a n => obtain ⟨h1, ⟨o, h2, h3⟩, h4⟩ := q; exact ⟨h1, ⟨o, hs a o (fun z => nx rfl (z ▸ h1)) h2, TapeI.mono sm h3⟩, h4⟩
      | ot a n => obtain ⟨h1, ⟨o, h2, h3⟩, h4⟩ := q; exact ⟨h1, ⟨o, hs a o (fun z => nx rfl (z ▸ h1)) h2, OR.mono sm h3⟩, h4⟩
  · have f : ∀ (j : Nat) (u : Sl), (ρ.set i (.tk t m'))[j]? = some u → u.own = true → ∃ u', ρ[j]? = some u' ∧ u'.own = true := fun j u h1 h2 => by
      by_cases e : i = j
      · subst e; exact ⟨_, hi, rfl⟩
      · rw [List.getElem?_set_ne e] at h1; exact ⟨u, h1, h2⟩
    obtain ⟨u', k1, k2⟩ := f j s h1 h3
    obtain ⟨t', k3, k4⟩ := f l u h2 h4
    exact st.inj j l u' t' a k1 k3 k2 k4 h5 h6
  · refine hs b o (fun z => ?_) (st.base b o h1 h2)
    subst z
    rcases hsl.2.2 with z | z
    · exact h1 z
    · rw [z] at h2; cases h2
  · by_cases z : b = t
    · subst z; obtain ⟨o, e, _⟩ := tp; rw [h2] at e; cases e
    · cases e : H b with
      | none => exact st.dom b h1 e
      | some o => rw [hs b o z e] at h2; cases h2
  · rw [eM]
    obtain ⟨h1, n, o, h2, h3⟩ := st.tape u hu
    refine ⟨h1, ?_⟩
    by_cases z : u = t
    · subst z; exact ⟨m', tp⟩
    · exact ⟨n, o, hs u o z h2, TapeI.mono sm h3⟩
end
end DL
/-! The layer DL: statements, targets, loops. -/
namespace DL
open PySem PySem.Spec PyProof.Rows L2

/-! ### a slot is stored -/
section
variable [TapeI] {K : PySem.W.Frag} {c : Fx} {σ : St} {ρ : Rho} {H : Hp}
theorem own_set {i : Nat} {v : V} {s : Sl} (b : Addr) (h : own (σ.set i (some v)) (ρ.set i s) b) : (s.own = true ∧ v = .ref b) ∨ own σ ρ b := by
  obtain ⟨j, u, h1, h2, h3⟩ := h
  by_cases e : i = j
  · subst e
    rw [List.getElem?_set] at h1 h3
    simp only [if_true] at h1 h3
    split at h1
    · cases h1
      split at h3
      · cases h3; exact .inl ⟨h2, rfl⟩
      · cases h3
    · cases h1
  · rw [List.getElem?_set_ne e] at h1 h3
    exact .inr ⟨j, u, h1, h2, h3⟩
/-- shared data goes into a slot -/
theorem StR.setSh (st : StR K c σ ρ H) (i : Nat) {v : V} {d : D} (r : Rp K (M c σ ρ H) v d) : StR K c (σ.set i (some v)) (ρ.set i (.sh d)) H ∧ Same (M c σ ρ H) (M c (σ.set i (some v)) (ρ.set i (.sh d)) H) := by
  have sub : ∀ b, Ow c (σ.set i (some v)) (ρ.set i (.sh d)) b → Ow c σ ρ b := fun b h => h.elim .inl fun h => .inr ((own_set b h).resolve_left fun z => by cases z.1)
  have sm : Same (M c σ ρ H) (M c (σ.set i (some v)) (ρ.set i (.sh d)) H) := msk_le sub
  refine ⟨⟨by rw [List.length_set, List.length_set, st.len], fun j s hj => ?_, fun j l s t a h1 h2 h3 h4 h5 h6 => ?_, st.base, st.dom, fun t ht => ?_, st.tpB⟩, sm⟩
  · by_cases e : i = j
    · subst e
      rw [List.getElem?_set] at hj
      simp only [if_true] at hj
      split at hj
      · rename_i hi
        cases hj
        exact ⟨v, by rw [List.getElem?_set_self (by rw [← st.len]; exact hi)], r.mono sm⟩
      · cases hj
    · rw [List.getElem?_set_ne e] at hj ⊢
      exact (st.slot j s hj).mono sm fun b o _ z => z
  · have n1 : i ≠ j := fun e => by
      subst e
      rw [List.getElem?_set] at h1
      simp only [if_true] at h1
      split at h1
      · cases h1; cases h3
      · cases h1
    have n2 : i ≠ l := fun e => by
      subst e
      rw [List.getElem?_set] at h2
      simp only [if_true] at h2
      split at h2
      · cases h2; cases h4
      · cases h2
    rw [List.getElem?_set_ne n1] at h1 h5
    rw [List.getElem?_set_ne n2] at h2 h6
    exact st.inj j l s t a h1 h2 h3 h4 h5 h6
  · obtain ⟨h1, n, o, h2, h3⟩ := st.tape t ht
    exact ⟨h1, n, o, h2, TapeI.mono sm h3⟩
/-- a new list, a new dict of one's own goes into a slot -/
theorem StR.setOwn (st : StR K c σ ρ H) (i : Nat) {a : Addr} {s : Sl} {H' : Hp} (hs : s.own = true) (hH : Same H H') (ha : H a = none) (hB : c.B a = none)
    (q : ∀ m, Same (M c σ ρ H) m → SlR K c m H' (some (some (.ref a))) s) : StR K c (σ.set i (some (.ref a))) (ρ.set i s) H' ∧ Same (M c σ ρ H) (M c (σ.set i (some (.ref a))) (ρ.set i s) H') := by
  have sub : ∀ b, Ow c (σ.set i (some (.ref a))) (ρ.set i s) b → b = a ∨ Ow c σ ρ b := fun b h => h.elim (fun z => .inr (.inl z)) fun h => (own_set b h).elim (fun z => .inl (V.ref.inj z.2).symm) fun z => .inr (.inr z)
  have sm : Same (M c σ ρ H) (M c (σ.set i (some (.ref a))) (ρ.set i s) H') := fun b o e => by
    obtain ⟨h1, h2⟩ := msk_some e
    show msk _ _ _ = _
    rw [msk_of]
    · exact hH b o h2
    · intro z
      rcases sub b z with rfl | z
      · rw [ha] at h2; cases h2
      · exact h1 z
  refine ⟨⟨by rw [List.length_set, List.length_set, st.len], fun j u hj => ?_, fun j l u t b h1 h2 h3 h4 h5 h6 => ?_, fun b o h1 h2 => hH b o (st.base b o h1 h2), fun b h1 h2 => ?_, fun t ht => ?_, st.tpB⟩, sm⟩
  · by_cases e : i = j
    · subst e
      rw [List.getElem?_set] at hj
      simp only [if_true] at hj
      split at hj
      · rename_i hi
        cases hj
        rw [List.getElem?_set_self (by rw [← st.len]; exact hi)]
        exact q _ sm
      · cases hj
    · rw [List.getElem?_set_ne e] at hj ⊢
      exact (st.slot j u hj).mono sm fun b o _ z => hH b o z
  · have old : ∀ (l : Nat) (u : Sl), i ≠ l → (ρ.set i s)[l]? = some u → u.own = true → (σ.set i (some (V.ref a)))[l]? = some (some (.ref a)) → False := fun l u n e1 e2 e3 => by
      rw [List.getElem?_set_ne n] at e1 e3
      exact st.own_some ⟨l, u, e1, e2, e3⟩ ha
    have at_i : ∀ (l : Nat), i = l → (σ.set i (some (V.ref a)))[l]? = some (some (.ref b)) → b = a := fun l e h => by
      subst e
      rw [List.getElem?_set] at h
      simp only [if_true] at h
      split at h
      · cases h; rfl
      · cases h
    by_cases n1 : i = j
    · have := at_i j n1 h5
      subst this
      by_cases n2 : i = l
      · exact n1.symm.trans n2
      · exact (old l t n2 h2 h4 h6).elim
    · by_cases n2 : i = l
      · have := at_i l n2 h6
        subst this
        exact (old j u n1 h1 h3 h5).elim
      · rw [List.getElem?_set_ne n1] at h1 h5
        rw [List.getElem?_set_ne n2] at h2 h6
        exact st.inj j l u t b h1 h2 h3 h4 h5 h6
  · cases e : H b with
    | none => exact st.dom b h1 e
    | some o => rw [hH b o e] at h2; cases h2
  · obtain ⟨h1, n, o, h2, h3⟩ := st.tape t ht
    exact ⟨h1, n, o, hH _ _ h2, TapeI.mono sm h3⟩
/-- what one owns is changed: the slot stays, its content is another -/
theorem StR.change (st : StR K c σ ρ H) (i : Nat) {a : Addr} {s s' : Sl} {o' : HO} (hi : ρ[i]? = some s) (hs : s.own = true) (hs' : s'.own = true) (hv : σ[i]? = some (some (.ref a))) (ht : ∀ t n, s ≠ .tk t n)
    (q : ∀ m, Same (M c σ ρ H) m → SlR K c m (upd H a o') (some (some (.ref a))) s') : StR K c σ (ρ.set i s') (upd H a o') ∧ Same (M c σ ρ H) (M c σ (ρ.set i s') (upd H a o')) := by
  have hot : Ow c σ ρ a := .inr ⟨i, s, hi, hs, hv⟩
  have hiL : i < ρ.length := (List.getElem?_eq_some_iff.mp hi).1
  have same : ∀ b, own σ (ρ.set i s') b ↔ own σ ρ b := fun b => by
    constructor
    · rintro ⟨j, u, h1, h2, h3⟩
      by_cases e : i = j
      · subst e; exact ⟨i, s, hi, hs, h3⟩
      · rw [List.getElem?_set_ne e] at h1; exact ⟨j, u, h1, h2, h3⟩
    · rintro ⟨j, u, h1, h2, h3⟩
      by_cases e : i = j
      · subst e; exact ⟨i, s', by rw [List.getElem?_set_self hiL], hs', h3⟩
      · exact ⟨j, u, by rw [List.getElem?_set_ne e]; exact h1, h2, h3⟩
  have eM : M c σ (ρ.set i s') (upd H a o') = M c σ ρ H := by
    have e1 : (Ow c σ (ρ.set i s')) = Ow c σ ρ := funext fun b => propext ⟨fun h => h.imp id (same b).1, fun h => h.imp id (same b).2⟩
    show msk _ _ = msk _ _
    rw [e1, msk_upd hot]
  have sl := st.slot i s hi
  have nB : c.B a = none ∧ ∃ o, H a = some o := by
    rw [hv] at sl
    cases s with
    | no => cases hs
    | sh d => cases hs
    | tk t n => exact absurd rfl (ht t n)
    | ot t d => obtain ⟨e1, ⟨o, e2, _⟩, e4⟩ := sl; cases e1; exact ⟨e4, _, e2⟩
    | ol ds => obtain ⟨b, xs, e1, e2, _, e4⟩ := sl; cases e1; exact ⟨e4, _, e2⟩
    | od ks ds => obtain ⟨b, xs, e1, e2, _, _, _, e4⟩ := sl; cases e1; exact ⟨e4, _, e2⟩
  have keep : ∀ b o, b ≠ a → H b = some o → upd H a o' b = some o := fun b o n e => by rw [upd_ne n]; exact e
  have neT : c.tp ≠ some a := fun z => st.tpB a z nB.1
  refine ⟨⟨by rw [List.length_set, st.len], fun j u hj => ?_, fun j l u t b h1 h2 h3 h4 h5 h6 => ?_, fun b o h1 h2 => keep b o (fun z => by subst z; rw [nB.1] at h2; cases h2) (st.base b o h1 h2), fun b h1 h2 => ?_, fun t hz => ?_, st.tpB⟩, by rw [eM]; exact Same.refl _⟩
  · rw [eM]
    by_cases e : i = j
    · subst e
      rw [List.getElem?_set_self hiL] at hj
      cases hj
      rw [hv]
      exact q _ (Same.refl _)
    · rw [List.getElem?_set_ne e] at hj
      have qj := st.slot j u hj
      have nx : u.own = true → σ[j]? = some (some (.ref a)) → False := fun z1 z2 => e (st.inj i j s u a hi hj hs z1 hv z2)
      cases u with
      | no => trivial
      | sh d => exact qj
      | ol ds => obtain ⟨b, xs, e1, e2, e3⟩ := qj; exact ⟨b, xs, e1, keep b _ (fun z => nx rfl (z ▸ e1)) e2, e3⟩
      | od ks ds => obtain ⟨b, xs, e1, e2, e3⟩ := qj; exact ⟨b, xs, e1, keep b _ (fun z => nx rfl (z ▸ e1)) e2, e3⟩
      | tk t n => obtain ⟨e1, ⟨o, e2, e3⟩, e4⟩ := qj; exact ⟨e1, ⟨o, keep t _ (fun z => nx rfl (z ▸ e1)) e2, e3⟩, e4⟩
      | ot t n => obtain ⟨e1, ⟨o, e2, e3⟩, e4⟩ := qj; exact ⟨e1, ⟨o, keep t _ (fun z => nx rfl (z ▸ e1)) e2, e3⟩, e4⟩
  · have f : ∀ (j : Nat) (u : Sl), (ρ.set i s')[j]? = some u → u.own = true → ∃ u', ρ[j]? = some u' ∧ u'.own = true := fun j u h1 h2 => by
      by_cases e : i = j
      · subst e; exact ⟨s, hi, hs⟩
      · rw [List.getElem?_set_ne e] at h1; exact ⟨u, h1, h2⟩
    obtain ⟨u', k1, k2⟩ := f j u h1 h3
    obtain ⟨t', k3, k4⟩ := f l t h2 h4
    exact st.inj j l u' t' b k1 k3 k2 k4 h5 h6
  · by_cases z : b = a
    · subst z; rw [upd_same] at h2; cases h2
    · rw [upd_ne z] at h2; exact st.dom b h1 h2
  · obtain ⟨h1, n, o, h2, h3⟩ := st.tape t hz
    refine ⟨h1, n, o, keep t o (fun z => neT (z ▸ hz)) h2, by rw [eM]; exact h3⟩
end
end DL
/-! The layer DL: statements, targets, loops. -/
namespace DL
open PySem PySem.Spec PyProof.Rows L2
section
variable [TapeI] {K : PySem.W.Frag} {X : Cx} {pos : Pos} {st : Stmt} {rest : List Stmt} {g h : FS} {e : Expr} {fa : FE}

def gNext : FS := fun E ρ => E.nx ρ
def gSeq (g h : FS) : FS := fun E ρ => g { E with nx := h E } ρ
theorem same_t {c : Fx} {σ σ' σ'' : St} {ρ ρ' ρ'' : Rho} {H H' H'' : Hp} (a : Same (M c σ ρ H) (M c σ' ρ' H')) (b : Same (M c σ' ρ' H') (M c σ'' ρ'' H'')) : Same (M c σ ρ H) (M c σ'' ρ'' H'') := a.trans b
theorem dss_nil : DSs K X [] gNext := ⟨fun hK => pss_imp pss_nil fun D σ H q => by
  obtain ⟨c, ρ, E, wf, st, g, kn, kr, kb, kc⟩ := q
  exact kn σ ρ H st (Same.refl _) g⟩
theorem dss_cons (h1 : DS K X st g) (h2 : DSs K X rest h) : DSs K X (st :: rest) (gSeq g h) := ⟨fun hK => pss_imp (pss_cons (h1.ps hK) (h2.ps hK)) fun D σ H q => by
  obtain ⟨c, ρ, E, wf, s0, g, kn, kr, kb, kc⟩ := q
  refine ⟨c, ρ, _, wf, s0, g, fun σ' ρ' H' s1 sm q => ?_, kr, kb, kc⟩
  exact ⟨c, ρ', E, wf, s1, q, fun σ2 ρ2 H2 s2 sm2 q => kn σ2 ρ2 H2 s2 (sm.trans sm2) q, kr, fun σ2 ρ2 H2 s2 sm2 q => kb σ2 ρ2 H2 s2 (sm.trans sm2) q, fun σ2 ρ2 H2 s2 sm2 q => kc σ2 ρ2 H2 s2 (sm.trans sm2) q⟩⟩
theorem dss_one (h1 : DS K X st g) : DSs K X [st] g := ⟨fun hK => pss_one (h1.ps hK)⟩
theorem ds_never : DS K X st fun _ _ => False := ⟨fun hK => ps_imp (t := tNever) ps_never fun D σ H q => by obtain ⟨c, ρ, E, wf, st, g, _⟩ := q; exact g⟩
theorem dss_never {sts : List Stmt} : DSs K X sts fun _ _ => False := ⟨fun hK => pss_imp (t := tNever) pss_never fun D σ H q => by obtain ⟨c, ρ, E, wf, st, g, _⟩ := q; exact g⟩
theorem ds_pass : DS K X (.Pass pos) gNext := ⟨fun hK => ps_imp ps_pass fun D σ H q => by
  obtain ⟨c, ρ, E, wf, st, g, kn, kr, kb, kc⟩ := q
  exact kn σ ρ H st (Same.refl _) g⟩
theorem ds_break : DS K X (.Break pos) (fun E ρ => E.bk ρ) := ⟨fun hK => ps_imp ps_break fun D σ H q => by
  obtain ⟨c, ρ, E, wf, st, g, kn, kr, kb, kc⟩ := q
  exact kb σ ρ H st (Same.refl _) g⟩
theorem ds_continue : DS K X (.Continue pos) (fun E ρ => E.ct ρ) := ⟨fun hK => ps_imp ps_continue fun D σ H q => by
  obtain ⟨c, ρ, E, wf, st, g, kn, kr, kb, kc⟩ := q
  exact kc σ ρ H st (Same.refl _) g⟩
theorem StR.rt {c : Fx} {σ : St} {ρ : Rho} {H : Hp} (st : StR K c σ ρ H) {v : V} {d : D} (r : Rp K (msk c.O H) v d) : RtR K c ρ v H d := ⟨r, st.base, fun t i n ht hi => by
  obtain ⟨h1, ⟨o, h2, h3⟩, _⟩ := st.slot i _ hi
  exact ⟨o, h2, TapeI.mono (msk_le fun b z => .inl z) h3⟩, fun t i d hi => by
  obtain ⟨h1, ⟨o, h2, h3⟩, _⟩ := st.slot i _ hi
  exact ⟨o, h2, OR.mono (msk_le fun b z => z.elim .inl fun z => .inr ⟨i, _, hi, rfl, z ▸ h1⟩) h3⟩⟩
def gRet (f : FE) : FS := fun E ρ => f ρ fun d => E.rt d ρ
theorem ds_ret (he : DE K X e fa) : DS K X (.Return (some e) pos) (gRet fa) := ⟨fun hK => ps_imp (ps_ret (he.pe hK)) fun D σ H q => by
  obtain ⟨c, ρ, E, wf, s0, g, kn, kr, kb, kc⟩ := q
  exact ⟨c, ρ, _, s0, g, fun v H' d A r p => kr v H' d ρ (A.st.rt (r.mono (msk_le fun b z => .inl z))) p⟩⟩
theorem ds_retN : DS K X (.Return none pos) (fun E ρ => E.rt .non ρ) := ⟨fun hK => ps_imp ps_retN fun D σ H q => by
  obtain ⟨c, ρ, E, wf, s0, g, kn, kr, kb, kc⟩ := q
  exact kr .non H .non ρ (s0.rt .non) g⟩
/-- return of what one owns -/
def ownD : Option Sl → (D → Prop) → Prop
  | some (.ol ds), P => P (.lst ds)
  | some (.od ks ds), P => P (.dic ks ds)
  | _, _ => False
theorem StR.ownRp {c : Fx} {σ : St} {ρ : Rho} {H : Hp} (st : StR K c σ ρ H) {i : Nat} {P : D → Prop} (q : ownD ρ[i]? P) : ∃ a d, σ[i]? = some (some (.ref a)) ∧ P d ∧ (∀ O, (∀ b, O b → Ow c σ ρ b) → ¬ O a → Rp K (msk O H) (.ref a) d) ∧ c.B a = none := by
  cases e : ρ[i]? with
  | none => rw [e] at q; exact q.elim
  | some s =>
    rw [e] at q
    have sl := st.slot i s e
    cases s with
    | ol ds =>
      obtain ⟨a, xs, h1, h2, h3, h4⟩ := sl
      exact ⟨a, _, h1, q, fun O hO hn => .lst (by rw [msk_of hn]; exact h2) (h3.mono (msk_le hO)), h4⟩
    | od ks ds =>
      obtain ⟨a, xs, h1, h2, h3, hz, h4, h5⟩ := sl
      exact ⟨a, _, h1, q, fun O hO hn => .dic (.inl (by rw [msk_of hn]; exact h2)) h3 hz (h4.mono (msk_le hO)), h5⟩
    | _ => exact q.elim
theorem ds_retOwn {x : Str} {p : Pos} (i : Nat) (hN : X.N[i]? = some x := by rfl) (hv : Vis X.env.scope x := by first | exact Or.inl rfl | exact Or.inr (Or.inl rfl) | exact Or.inr (Or.inr rfl)) (hd : (x == ("__debug__" : Str)) = false := by decide)
    (hcd : (x == ("__classdict__" : Str)) = false := by decide) : DS K X (.Return (some (.Name x p)) pos) (fun E ρ => ownD ρ[i]? fun d => E.rt d ρ) := ⟨fun hK => ps_imp (ps_ret (pe_var hN hv hd hcd)) fun D σ H q => by
  obtain ⟨c, ρ, E, wf, s0, g, kn, kr, kb, kc⟩ := q
  obtain ⟨a, d, h1, h2, h3, h4⟩ := s0.ownRp g
  refine ⟨.ref a, h1, kr _ H d ρ (s0.rt (h3 c.O (fun b z => .inl z) fun z => ?_)) h2⟩
  exact wf a z h4⟩
def gDrop (f : FE) : FS := fun E ρ => f ρ fun _ => E.nx ρ
theorem ds_expr (he : DE K X e fa) (hs : swapsWith e none pos.line X.env = pure false := by rfl) : DS K X (.Expr e pos) (gDrop fa) := ⟨fun hK => ps_imp (ps_expr (he.pe hK) hs) fun D σ H q => by
  obtain ⟨c, ρ, E, wf, s0, g, kn, kr, kb, kc⟩ := q
  exact ⟨c, ρ, _, s0, g, fun v H' d A r p => kn σ ρ H' A.st A.sm p⟩⟩
def gIf (f : FT) (g h : FS) : FS := fun E ρ => f ρ fun b => if b = true then g E ρ else h E ρ
theorem ds_if {t : Expr} {a b : List Stmt} {f : FT} (ht : DT K X t f) (ha : DSs K X a g) (hb : DSs K X b h) : DS K X (.If t a b pos) (gIf f g h) := ⟨fun hK => ps_imp (ps_if (ht.pt hK) (ha.ps hK) (hb.ps hK)) fun D σ H q => by
  obtain ⟨c, ρ, E, wf, s0, g, kn, kr, kb, kc⟩ := q
  refine ⟨c, ρ, _, s0, g, fun b H1 A p => ?_⟩
  cases b <;> exact ⟨c, ρ, E, wf, A.st, p, fun σ2 ρ2 H2 s2 sm2 q => kn σ2 ρ2 H2 s2 (A.sm.trans sm2) q, kr, fun σ2 ρ2 H2 s2 sm2 q => kb σ2 ρ2 H2 s2 (A.sm.trans sm2) q, fun σ2 ρ2 H2 s2 sm2 q => kc σ2 ρ2 H2 s2 (A.sm.trans sm2) q⟩⟩
/-! ### targets -/
/-- apart from the slots vs nothing is stored -/
def OffEq (vs : List Nat) (σ σ' : St) : Prop := σ'.length = σ.length ∧ ∀ j, j ∉ vs → σ'[j]? = σ[j]?
abbrev FG := D → Rho → (Rho → Prop) → Prop
def gOf (K : PySem.W.Frag) (vs : List Nat) (f : FG) : TG := fun v σ H Q => ∃ (c : Fx) (ρ : Rho) (d : D) (P : Rho → Prop), StR K c σ ρ H ∧ Rp K (M c σ ρ H) v d ∧ f d ρ P ∧ ∀ σ' ρ', StR K c σ' ρ' H → Same (M c σ ρ H) (M c σ' ρ' H) → OffEq vs σ σ' → P ρ' → Q σ' H
structure DG (K : PySem.W.Frag) (X : Cx) (tg : Expr) (vs : List Nat) (f : FG) : Prop where
  pg : X.K = K → PG X tg (gOf K vs f)
abbrev FGs := List D → Rho → (Rho → Prop) → Prop
def gsOf (K : PySem.W.Frag) (vs : List Nat) (f : FGs) : TGs := fun ws σ H Q => ∃ (c : Fx) (ρ : Rho) (ds : List D) (P : Rho → Prop), StR K c σ ρ H ∧ RpAll K (M c σ ρ H) ws ds ∧ f ds ρ P ∧ ∀ σ' ρ', StR K c σ' ρ' H → Same (M c σ ρ H) (M c σ' ρ' H) → OffEq vs σ σ' → P ρ' → Q σ' H
structure DGs (K : PySem.W.Frag) (X : Cx) (tg : List Expr) (vs : List Nat) (f : FGs) : Prop where
  pg : X.K = K → PGs X tg (gsOf K vs f)
theorem pg_imp {tg : Expr} {t t' : TG} (h : PG X tg t) (i : ∀ v σ H Q, t' v σ H Q → t v σ H Q) : PG X tg t' := ⟨fun pins s σ H v u Q I r q => h.run pins s σ H v u Q I r (i v σ H Q q)⟩
theorem pgs_imp {tg : List Expr} {t t' : TGs} (h : PGs X tg t) (i : ∀ v σ H Q, t' v σ H Q → t v σ H Q) : PGs X tg t' := ⟨fun pins s σ H v u Q I r q => h.run pins s σ H v u Q I r (i v σ H Q q)⟩
theorem OffEq.refl {vs : List Nat} {σ : St} : OffEq vs σ σ := ⟨rfl, fun _ _ => rfl⟩
theorem OffEq.trans {vs ws : List Nat} {σ σ' σ'' : St} (a : OffEq vs σ σ') (b : OffEq ws σ' σ'') : OffEq (vs ++ ws) σ σ'' := ⟨b.1.trans a.1, fun j hj => by
  rw [List.mem_append, not_or] at hj
  exact (b.2 j hj.2).trans (a.2 j hj.1)⟩
def fgN (i : Nat) : FG := fun d ρ P => P (ρ.set i (.sh d))
theorem dg_name {x : Str} (i : Nat) (hN : X.N.Nodup) (hi : X.N[i]? = some x := by rfl) (hx : Loc X.env.scope x := by first | exact Or.inl rfl | exact Or.inr rfl) (hf : X.fn x = true ∨ X.env.scope.names.lookup x = some .local := by first | exact .inl rfl | exact .inr rfl) : DG K X (.Name x pos) [i] (fgN i) :=
  ⟨fun hK => pg_imp (pg_name hN hi hx hf) fun v σ H Q q => by
    obtain ⟨c, ρ, d, P, s0, r, f, k⟩ := q
    obtain ⟨s1, sm⟩ := s0.setSh i r
    exact k _ _ s1 sm ⟨List.length_set .., fun j hj => by rw [List.getElem?_set_ne]; rintro rfl; simp at hj⟩ f⟩
def fgNil : FGs := fun ds ρ P => ds = [] ∧ P ρ
def fgCons (f : FG) (fs : FGs) : FGs := fun ds ρ P => match ds with
  | d :: ds => f d ρ fun ρ1 => fs ds ρ1 P
  | [] => False
theorem dgs_nil : DGs K X [] [] fgNil := ⟨fun hK => pgs_imp pgs_nil fun ws σ H Q q => by
  obtain ⟨c, ρ, ds, P, s0, r, ⟨f1, f2⟩, k⟩ := q
  subst f1
  cases r
  exact ⟨rfl, k σ ρ s0 (Same.refl _) .refl f2⟩⟩
theorem dgs_cons {es : List Expr} {vs ws : List Nat} {f : FG} {fs : FGs} (h1 : DG K X e vs f) (h2 : DGs K X es ws fs) (hs : (assignEach (e :: es) X.env).map (·.2) = assign e X.env :: (assignEach es X.env).map (·.2) := by rfl) : DGs K X (e :: es) (vs ++ ws) (fgCons f fs) :=
  ⟨fun hK => pgs_imp (pgs_cons (h1.pg hK) (h2.pg hK) hs) fun us σ H Q q => by
    obtain ⟨c, ρ, ds, P, s0, r, f, k⟩ := q
    cases r with
    | nil => exact f.elim
    | @cons v vs' d ds' r rr =>
      refine ⟨v, vs', rfl, c, ρ, d, _, s0, r, f, fun σ1 ρ1 s1 sm1 o1 p1 => ?_⟩
      exact ⟨c, ρ1, ds', P, s1, rr.mono sm1, p1, fun σ2 ρ2 s2 sm2 o2 p2 => k σ2 ρ2 s2 (sm1.trans sm2) (o1.trans o2) p2⟩⟩
/-- a pair, a triple .. is a tuple -/
def fgTup (n : Nat) (fs : FGs) : FG := fun d ρ P => match d with
  | .tup ds => ds.length = n ∧ fs ds ρ P
  | _ => False
theorem dg_tup {es : List Expr} {k n : Nat} {vs : List Nat} {fs : FGs} (hc : X.calm = true) (h : DGs K X es vs fs) (hn : (assignEach es X.env).length = n := by rfl) (hst : (assignEach es X.env).findIdx? (·.1) = none := by rfl) : DG K X (.Tuple es k pos) vs (fgTup n fs) := ⟨fun hK => by
  subst hK
  refine pg_imp (pg_tup hc (h.pg rfl) hn hst) fun v σ H Q q => ?_
  obtain ⟨c, ρ, d, P, s0, r, f, k⟩ := q
  cases r with
  | @tup a xs ds h1 h2 => exact ⟨a, xs, rfl, msk_sqT h1, h2.length.trans f.1, c, ρ, ds, P, s0, h2, f.2, k⟩
  | _ => exact f.elim⟩
/-- .. a list -/
def fgLst (n : Nat) (fs : FGs) : FG := fun d ρ P => match d with
  | .lst ds => ds.length = n ∧ fs ds ρ P
  | _ => False
theorem dg_lst {es : List Expr} {k n : Nat} {vs : List Nat} {fs : FGs} (hc : X.calm = true) (h : DGs K X es vs fs) (hn : (assignEach es X.env).length = n := by rfl) (hst : (assignEach es X.env).findIdx? (·.1) = none := by rfl) : DG K X (.Tuple es k pos) vs (fgLst n fs) := ⟨fun hK => by
  subst hK
  refine pg_imp (pg_lst hc (h.pg rfl) hn hst) fun v σ H Q q => ?_
  obtain ⟨c, ρ, d, P, s0, r, f, k⟩ := q
  cases r with
  | @lst a xs ds h1 h2 => exact ⟨a, xs, rfl, .inl (.inl (msk_some h1).2), h2.length.trans f.1, c, ρ, ds, P, s0, h2, f.2, k⟩
  | _ => exact f.elim⟩
/-! ### stores -/
def gAsg (f : FE) (fg : FG) : FS := fun E ρ => f ρ fun d => fg d ρ E.nx
theorem ds_set {x : Str} {pos' : Pos} (i : Nat) (hN : X.N.Nodup) (he : DE K X e fa) (hi : X.N[i]? = some x := by rfl) (hx : Loc X.env.scope x := by first | exact Or.inl rfl | exact Or.inr rfl) (hs : swapsWith e (some (.Name x pos')) pos.line X.env = pure false := by rfl)
    (hf : X.fn x = true ∨ X.env.scope.names.lookup x = some .local := by first | exact .inl rfl | exact .inr rfl) : DS K X (.Assign [.Name x pos'] e pos) (gAsg fa (fgN i)) := ⟨fun hK => ps_imp (L2.ps_set hN hi hx (he.pe hK) hs hf) fun D σ H q => by
  obtain ⟨c, ρ, E, wf, s0, g, kn, kr, kb, kc⟩ := q
  refine ⟨c, ρ, _, s0, g, fun v H' d A r p => ?_⟩
  obtain ⟨s1, sm⟩ := A.st.setSh i r
  exact kn _ _ H' s1 (A.sm.trans sm) p⟩
theorem ds_asg {tg : Expr} {vs : List Nat} {fg : FG} (he : DE K X e fa) (hg : DG K X tg vs fg) (hs : swapsWithSole [tg] e pos.line X.env = pure false := by rfl) (hw : swappedStores [tg] e X.env = pure none := by rfl)
    (h1 : (assignEach [tg] X.env).map (·.2) = [assign tg X.env] := by rfl) : DS K X (.Assign [tg] e pos) (gAsg fa fg) := ⟨fun hK => ps_imp (ps_asg (he.pe hK) (hg.pg hK) hs hw h1) fun D σ H q => by
  obtain ⟨c, ρ, E, wf, s0, g, kn, kr, kb, kc⟩ := q
  exact ⟨c, ρ, _, s0, g, fun v H' d A r p => ⟨c, ρ, d, _, A.st, r, p, fun σ' ρ' s1 sm _ q => kn σ' ρ' H' s1 (A.sm.trans sm) q⟩⟩⟩
/-- a, b = e, f -/
def gPar (i j : Nat) (fs : FA) : FS := fun E ρ => fs ρ fun ds => match ds with
  | [d, e] => E.nx ((ρ.set i (.sh d)).set j (.sh e))
  | _ => False
theorem ds_par {x y : Str} {a b : Expr} {fs : FA} {px py pt : Pos} {kt k2 pt2} (i j : Nat) (hc : X.calm = true) (hN : X.N.Nodup) (ha : DA K X [a, b] fs) (hij : i ≠ j := by decide) (hi : X.N[i]? = some x := by rfl) (hj : X.N[j]? = some y := by rfl)
    (hx : X.env.scope.names.lookup x = some .local := by rfl) (hy : X.env.scope.names.lookup y = some .local := by rfl)
    (hw : swappedStores [.Tuple [.Name x px, .Name y py] kt pt] (.Tuple [a, b] k2 pt2) X.env = pure (some [x, y]) := by rfl)
    (hs : swapsWithSole [.Tuple [.Name x px, .Name y py] kt pt] (.Tuple [a, b] k2 pt2) pos.line X.env = pure false := by rfl) :
    DS K X (.Assign [.Tuple [.Name x px, .Name y py] kt pt] (.Tuple [a, b] k2 pt2) pos) (gPar i j fs) := ⟨fun hK => ps_imp (ps_par hc hN hi hj hij hx hy (ha.pa hK) hw hs) fun D σ H q => by
  obtain ⟨c, ρ, E, wf, s0, g, kn, kr, kb, kc⟩ := q
  refine ⟨c, ρ, _, s0, g, fun vs H' ds A r p => ?_⟩
  cases r with
  | nil => exact p.elim
  | @cons v vs' d ds' r1 r =>
    cases r with
    | nil => exact p.elim
    | @cons v2 vs' d2 ds' r2 r =>
      cases r with
      | cons _ _ => exact p.elim
      | nil =>
        obtain ⟨s1, sm⟩ := A.st.setSh i r1
        obtain ⟨s2, sm2⟩ := s1.setSh j (r2.mono sm)
        exact ⟨v, v2, rfl, kn _ _ H' s2 ((A.sm.trans sm).trans sm2) p⟩⟩
def gPar3 (i j l : Nat) (fs : FA) : FS := fun E ρ => fs ρ fun ds => match ds with
  | [d, e, f] => E.nx (((ρ.set i (.sh d)).set j (.sh e)).set l (.sh f))
  | _ => False
theorem ds_par3 {x y z : Str} {a b d : Expr} {fs : FA} {px py pz pt : Pos} {kt k2 pt2} (i j l : Nat) (hc : X.calm = true) (hN : X.N.Nodup) (ha : DA K X [a, b, d] fs) (hij : i ≠ j := by decide) (hil : i ≠ l := by decide) (hjl : j ≠ l := by decide) (hi : X.N[i]? = some x := by rfl) (hj : X.N[j]? = some y := by rfl) (hl : X.N[l]? = some z := by rfl)
    (hx : X.env.scope.names.lookup x = some .local := by rfl) (hy : X.env.scope.names.lookup y = some .local := by rfl) (hz : X.env.scope.names.lookup z = some .local := by rfl)
    (hw : swappedStores [.Tuple [.Name x px, .Name y py, .Name z pz] kt pt] (.Tuple [a, b, d] k2 pt2) X.env = pure (some [x, y, z]) := by rfl)
    (hs : swapsWithSole [.Tuple [.Name x px, .Name y py, .Name z pz] kt pt] (.Tuple [a, b, d] k2 pt2) pos.line X.env = pure false := by rfl) :
    DS K X (.Assign [.Tuple [.Name x px, .Name y py, .Name z pz] kt pt] (.Tuple [a, b, d] k2 pt2) pos) (gPar3 i j l fs) := ⟨fun hK => ps_imp (ps_par3 hc hN hi hj hl hij hil hjl hx hy hz (ha.pa hK) hw hs) fun D σ H q => by
  obtain ⟨c, ρ, E, wf, s0, g, kn, kr, kb, kc⟩ := q
  refine ⟨c, ρ, _, s0, g, fun vs H' ds A r p => ?_⟩
  cases r with
  | nil => exact p.elim
  | @cons v vs' d ds' r1 r =>
    cases r with
    | nil => exact p.elim
    | @cons v2 vs' d2 ds' r2 r =>
      cases r with
      | nil => exact p.elim
      | @cons v3 vs' d3 ds' r3 r =>
        cases r with
        | cons _ _ => exact p.elim
        | nil =>
          obtain ⟨s1, sm⟩ := A.st.setSh i r1
          obtain ⟨s2, sm2⟩ := s1.setSh j (r2.mono sm)
          obtain ⟨s3, sm3⟩ := s2.setSh l ((r3.mono sm).mono sm2)
          exact ⟨v, v2, v3, rfl, kn _ _ H' s3 (((A.sm.trans sm).trans sm2).trans sm3) p⟩⟩
/-- a name op= e -/
def gAug (i : Nat) (g : G2) (f : FE) : FS := fun E ρ => rd ρ[i]? fun x => f ρ fun y => g x y fun z => E.nx (ρ.set i (.sh z))
theorem ds_aug {x : Str} {pos' : Pos} {op : Operator} {g2 : G2} (i : Nat) (hN : X.N.Nodup) (ho : DOp K X (inplaceOp op) g2) (he : DE K X e fa) (hi : X.N[i]? = some x := by rfl) (hx : Loc X.env.scope x := by first | exact Or.inl rfl | exact Or.inr rfl)
    (hf : X.fn x = true ∨ X.env.scope.names.lookup x = some .local := by first | exact .inl rfl | exact .inr rfl) : DS K X (.AugAssign (.Name x pos') op e pos) (gAug i g2 fa) := ⟨fun hK => by
  obtain ⟨r, h1, h2⟩ := ho
  refine ps_imp (L2.ps_aug (ti := r) hN hi hx (he.pe hK) (fun pins s σ H x y v u Q I rx ry q => h1 pins s σ H x y v u Q I rx ry q) hf) fun D σ H q => ?_
  obtain ⟨c, ρ, E, wf, s0, g, kn, kr, kb, kc⟩ := q
  unfold gAug at g
  cases e1 : ρ[i]? with
  | none => rw [e1] at g; exact g.elim
  | some sl =>
    rw [e1] at g
    cases sl with
    | sh d =>
      obtain ⟨v, q1, q2⟩ := s0.slot i _ e1
      refine ⟨v, q1, c, ρ, _, s0, g, fun y H1 dy A ry p => ?_⟩
      refine h2 hK (Ow c σ ρ) H1 v y d dy _ _ (fun b => A.st.ow_some) (q2.mono A.sm) ry p fun z H2 dz sm rz p2 => ?_
      have A2 := A.trans (.grow A.st sm)
      obtain ⟨s1, sm1⟩ := A2.st.setSh i rz
      exact kn _ _ H2 s1 (A2.sm.trans sm1) p2
    | tk t n =>
      refine ⟨.ref t, (s0.slot i _ e1).1, c, ρ, _, s0, g, fun y H1 dy A ry p => ?_⟩
      refine h2 hK (Ow c σ ρ) H1 _ y (.obj t) dy _ _ (fun b => A.st.ow_some) (.obj t) ry p fun z H2 dz sm rz p2 => ?_
      have A2 := A.trans (.grow A.st sm)
      obtain ⟨s1, sm1⟩ := A2.st.setSh i rz
      exact kn _ _ H2 s1 (A2.sm.trans sm1) p2
    | _ => exact g.elim⟩
/-! ### loops -/
def whileN (ft : FT) (gb : FS) : Nat → FS
  | 0 => fun _ _ => False
  | n + 1 => fun E ρ => ft ρ fun b => if b = true then gb { E with nx := whileN ft gb n E, ct := whileN ft gb n E, bk := E.nx } ρ else E.nx ρ
def gWhile (ft : FT) (gb : FS) : FS := fun E ρ => ∃ n, whileN ft gb n E ρ
theorem ds_while {t : Expr} {body : List Stmt} {ft : FT} {gb : FS} (hp : X.K = K → PassesOwn (model X.prog X.w) X.A X.env X.xe) (ht : DT K X t ft) (hb : DSs K X body gb) : DS K X (.While t body [] pos) (gWhile ft gb) := ⟨fun hK => ps_imp (ps_while (hp hK) (ht.pt hK) (hb.ps hK)) fun D σ H q => by
  obtain ⟨c, ρ, E, wf, s0, ⟨n, g⟩, kn, kr, kb, kc⟩ := q
  refine ⟨fun m σ1 H1 => ∃ ρ1, StR K c σ1 ρ1 H1 ∧ Same (M c σ ρ H) (M c σ1 ρ1 H1) ∧ whileN ft gb m E ρ1, ⟨n, ρ, s0, Same.refl _, g⟩, fun m σ1 H1 ⟨ρ1, s1, sm1, w1⟩ => ?_⟩
  cases m with
  | zero => exact w1.elim
  | succ m =>
    refine ⟨c, ρ1, _, s1, w1, fun b H2 A p => ?_⟩
    cases b with
    | true =>
      refine ⟨fun σ' H' => ∃ ρ', StR K c σ' ρ' H' ∧ Same (M c σ ρ H) (M c σ' ρ' H') ∧ whileN ft gb m E ρ', fun σ' H' q => ⟨m, Nat.lt_succ_self m, q⟩, ?_⟩
      refine ⟨c, ρ1, _, wf, A.st, p, fun σ' ρ' H' s2 sm2 q => ⟨ρ', s2, (sm1.trans A.sm).trans sm2, q⟩, kr, fun σ' ρ' H' s2 sm2 q => kn σ' ρ' H' s2 ((sm1.trans A.sm).trans sm2) q, fun σ' ρ' H' s2 sm2 q => ⟨ρ', s2, (sm1.trans A.sm).trans sm2, q⟩⟩
    | false => exact kn σ1 ρ1 H2 A.st (sm1.trans A.sm) p⟩
/-- what is walked: the data that come, one by one -/
def Yl (K : PySem.W.Frag) (J : It) (m : Hp) (ds : List D) : Prop := ∀ (O : Addr → Prop) (H : Hp), (∀ b, O b → H b ≠ none) → Same m (msk O H) → ∀ i, (i < ds.length → J.go i H) ∧ (ds.length ≤ i → J.stop i H) ∧
  ∀ x H', i < ds.length → J.yld i H x H' → ∃ d, ds[i]? = some d ∧ Same H H' ∧ Rp K (msk O H') x d
def iOf (K : PySem.W.Frag) (f : FA) : TI := fun σ H R => ∃ (c : Fx) (ρ : Rho) (P : List D → Prop), StR K c σ ρ H ∧ f ρ P ∧ ∀ J H' ds, Aft K c σ ρ H H' → Yl K J (M c σ ρ H') ds → P ds → R J H'
structure DI (K : PySem.W.Frag) (X : Cx) (tg iter : Expr) (f : FA) : Prop where
  pi : X.K = K → PI X tg iter (iOf K f)
theorem pi_imp {tg iter : Expr} {t t' : TI} (h : PI X tg iter t) (i : ∀ σ H R, t' σ H R → t σ H R) : PI X tg iter t' := ⟨fun pins s σ H R I q => h.run pins s σ H R I (i σ H R q)⟩
def forD (fg : FG) (gb : FS) : List D → FS
  | [] => fun E ρ => E.nx ρ
  | d :: ds => fun E ρ => fg d ρ fun ρ1 => gb { E with nx := forD fg gb ds E, ct := forD fg gb ds E, bk := E.nx } ρ1
def gFor (fi : FA) (fg : FG) (gb : FS) : FS := fun E ρ => fi ρ fun ds => forD fg gb ds E ρ
theorem ds_for {tg iter : Expr} {body : List Stmt} {fi : FA} {fg : FG} {gb : FS} {vs : List Nat} (hp : X.K = K → PassesOwn (model X.prog X.w) X.A X.env X.xe) (hc : X.calm = true) (hi : DI K X tg iter fi) (hg : DG K X tg vs fg) (hb : DSs K X body gb)
    (hs : ∀ x, foldedSetIterable iter X.env x = pure x := by intro _; rfl) : DS K X (.For tg iter body [] pos) (gFor fi fg gb) := ⟨fun hK => ps_imp (ps_for (hp hK) hc (hi.pi hK) (hg.pg hK) (hb.ps hK) hs) fun D σ H q => by
  obtain ⟨c, ρ, E, wf, s0, g, kn, kr, kb, kc⟩ := q
  refine ⟨c, ρ, _, s0, g, fun J H1 ds A y p => ?_⟩
  refine ⟨fun i m σ1 H1' => m = ds.length - i ∧ i ≤ ds.length ∧ ∃ ρ1, StR K c σ1 ρ1 H1' ∧ Same (M c σ ρ H1) (M c σ1 ρ1 H1') ∧ forD fg gb (ds.drop i) E ρ1, ⟨ds.length, rfl, Nat.zero_le _, ρ, A.st, Same.refl _, p⟩, fun i m σ1 H2 ⟨hm, hle, ρ1, s1, sm1, w1⟩ => ?_⟩
  obtain ⟨y1, y2, y3⟩ := y (Ow c σ1 ρ1) H2 (fun b => s1.ow_some) sm1 i
  by_cases hlt : i < ds.length
  · refine .inr ⟨y1 hlt, fun σ' H' => ∃ ρ', StR K c σ' ρ' H' ∧ Same (M c σ ρ H1) (M c σ' ρ' H') ∧ forD fg gb (ds.drop (i + 1)) E ρ', fun σ' H' q => ⟨ds.length - (i + 1), by omega, rfl, hlt, q⟩, fun x H3 hy => ?_⟩
    obtain ⟨d, e1, e2, e3⟩ := y3 x H3 hlt hy
    have ed : ds.drop i = d :: ds.drop (i + 1) := by
      rw [List.drop_eq_getElem_cons hlt]
      rw [List.getElem?_eq_getElem hlt] at e1
      rw [Option.some.inj e1]
    rw [ed] at w1
    have A2 := Aft.grow s1 e2
    refine ⟨c, ρ1, d, _, A2.st, e3, w1, fun σ3 ρ3 s3 sm3 _ q3 => ?_⟩
    have sm : Same (M c σ ρ H1) (M c σ3 ρ3 H3) := (sm1.trans A2.sm).trans sm3
    exact ⟨c, ρ3, _, wf, s3, q3, fun σ' ρ' H' s4 sm4 q => ⟨ρ', s4, sm.trans sm4, q⟩, kr, fun σ' ρ' H' s4 sm4 q => kn σ' ρ' H' s4 (A.sm.trans (sm.trans sm4)) q, fun σ' ρ' H' s4 sm4 q => ⟨ρ', s4, sm.trans sm4, q⟩⟩
  · have e : i = ds.length := by omega
    subst e
    rw [List.drop_length] at w1
    exact .inl ⟨y2 (Nat.le_refl _), kn σ1 ρ1 H2 s1 (A.sm.trans sm1) w1⟩⟩
end
end DL
/-! The layer DL: comprehensions. -/
namespace DL
open PySem PySem.Spec PyProof.Rows L2

def wipeR (ρ : Rho) : List Nat → Rho
  | [] => ρ
  | v :: vs => (wipeR ρ vs).set v .no
/-- none of these slots is one's own -/
def noOwn (ρ : Rho) (vs : List Nat) : Bool := vs.all fun i => match ρ[i]? with
  | some s => !s.own
  | none => true
theorem wipeR_len (ρ : Rho) : ∀ vs, (wipeR ρ vs).length = ρ.length
  | [] => rfl
  | v :: vs => by unfold wipeR; rw [List.length_set, wipeR_len ρ vs]
theorem wipeR_out {ρ : Rho} {i : Nat} : ∀ {vs : List Nat}, i ∉ vs → (wipeR ρ vs)[i]? = ρ[i]?
  | [], _ => rfl
  | v :: vs, h => by
    rw [List.mem_cons, not_or] at h
    unfold wipeR
    rw [List.getElem?_set_ne (fun e => h.1 e.symm), wipeR_out h.2]
theorem wipeR_in {ρ : Rho} {i : Nat} {s : Sl} : ∀ {vs : List Nat}, i ∈ vs → (wipeR ρ vs)[i]? = some s → s = .no
  | [], h, _ => by cases h
  | v :: vs, h, e => by
    unfold wipeR at e
    by_cases q : v = i
    · subst q
      rw [List.getElem?_set] at e
      simp only [if_true] at e
      split at e
      · cases e; rfl
      · cases e
    · rw [List.getElem?_set_ne q] at e
      exact wipeR_in ((List.mem_cons.mp h).resolve_left fun z => q z.symm) e
theorem wipe_in {σ : St} {i : Nat} : ∀ {vs : List Nat}, i ∈ vs → i < σ.length → (wipe σ vs)[i]? = some none
  | [], h, _ => by cases h
  | v :: vs, h, e => by
    unfold wipe
    by_cases q : v = i
    · subst q
      rw [List.getElem?_set_self (by rw [wipe_length]; exact e)]
    · rw [List.getElem?_set_ne q]
      exact wipe_in ((List.mem_cons.mp h).resolve_left fun z => q z.symm) e
theorem noOwn_at {ρ : Rho} {vs : List Nat} (h : noOwn ρ vs = true) {i : Nat} (hi : i ∈ vs) {s : Sl} (e : ρ[i]? = some s) : s.own = false := by
  have := List.all_eq_true.mp h i hi
  rw [e] at this
  simpa using this
theorem wipe_off {vs ws : List Nat} {σ σ' : St} (h : OffEq vs σ σ') (hs : ∀ i ∈ vs, i ∈ ws) : wipe σ' ws = wipe σ ws := by
  apply List.ext_getElem?
  intro i
  by_cases hi : i ∈ ws
  · by_cases hl : i < σ.length
    · rw [wipe_in hi hl, wipe_in hi (by rw [h.1]; exact hl)]
    · have e1 : (wipe σ' ws)[i]? = none := List.getElem?_eq_none (by rw [wipe_length, h.1]; omega)
      have e2 : (wipe σ ws)[i]? = none := List.getElem?_eq_none (by rw [wipe_length]; omega)
      rw [e1, e2]
  · rw [wipe_out hi, wipe_out hi]
    exact h.2 i fun z => hi (hs i z)
theorem off_wipe {vs : List Nat} {σ : St} : OffEq vs σ (wipe σ vs) := ⟨wipe_length σ vs, fun j hj => wipe_out hj⟩

section
variable [TapeI] {K : PySem.W.Frag} {c : Fx} {σ σ' : St} {ρ ρ' : Rho} {H H' : Hp} {vs : List Nat}
theorem own_off (h : ∀ i, i ∉ vs → σ'[i]? = σ[i]? ∧ ρ'[i]? = ρ[i]?) (n : ∀ i ∈ vs, ∀ s, ρ[i]? = some s → s.own = false) (n' : ∀ i ∈ vs, ∀ s, ρ'[i]? = some s → s.own = false) : own σ' ρ' = own σ ρ := by
  funext b
  refine propext ⟨?_, ?_⟩
  · rintro ⟨i, s, h1, h2, h3⟩
    have hi : i ∉ vs := fun z => by rw [n' i z s h1] at h2; cases h2
    exact ⟨i, s, by rw [← (h i hi).2]; exact h1, h2, by rw [← (h i hi).1]; exact h3⟩
  · rintro ⟨i, s, h1, h2, h3⟩
    have hi : i ∉ vs := fun z => by rw [n i z s h1] at h2; cases h2
    exact ⟨i, s, by rw [(h i hi).2]; exact h1, h2, by rw [(h i hi).1]; exact h3⟩
/-- into a block: the slots of its own names are forgotten -/
theorem StR.wipe (st : StR K c σ ρ H) (hn : noOwn ρ vs = true) : StR K c (wipe σ vs) (wipeR ρ vs) H ∧ own (L2.wipe σ vs) (wipeR ρ vs) = own σ ρ := by
  have eo : own (L2.wipe σ vs) (wipeR ρ vs) = own σ ρ := own_off (vs := vs) (fun i hi => ⟨wipe_out hi, wipeR_out hi⟩) (fun i hi s e => noOwn_at hn hi e) fun i hi s e => by rw [wipeR_in hi e]; rfl
  have eO : Ow c (L2.wipe σ vs) (wipeR ρ vs) = Ow c σ ρ := by unfold Ow; rw [eo]
  have eM : M c (L2.wipe σ vs) (wipeR ρ vs) H = M c σ ρ H := by show msk _ _ = msk _ _; rw [eO]
  refine ⟨⟨by rw [wipeR_len, wipe_length, st.len], fun i s hi => ?_, fun i j s t a h1 h2 h3 h4 h5 h6 => ?_, st.base, st.dom, fun t ht => by rw [eM]; exact st.tape t ht, st.tpB⟩, eo⟩
  · rw [eM]
    by_cases q : i ∈ vs
    · rw [wipeR_in q hi]; trivial
    · rw [wipeR_out q] at hi
      rw [wipe_out q]
      exact st.slot i s hi
  · have f : ∀ (i : Nat) (s : Sl), (wipeR ρ vs)[i]? = some s → s.own = true → i ∉ vs := fun i s h1 h2 z => by rw [wipeR_in z h1] at h2; cases h2
    have g1 := f i s h1 h3
    have g2 := f j t h2 h4
    rw [wipeR_out g1] at h1
    rw [wipeR_out g2] at h2
    rw [wipe_out g1] at h5
    rw [wipe_out g2] at h6
    exact st.inj i j s t a h1 h2 h3 h4 h5 h6
/-- out of the block: the slots are as they were -/
theorem StR.unwipe (st : StR K c σ ρ H) (st' : StR K c σ' ρ' H') (eO : Ow c σ' ρ' = Ow c σ ρ) (hσ : OffEq vs σ σ') (hρ : ∀ i, i ∉ vs → ρ'[i]? = ρ[i]?) (hn : noOwn ρ vs = true) (sm : Same (M c σ ρ H) (M c σ ρ H')) : StR K c σ ρ H' := by
  have eM : M c σ' ρ' H' = M c σ ρ H' := by show msk _ _ = msk _ _; rw [eO]
  refine ⟨st.len, fun i s hi => ?_, st.inj, st'.base, st'.dom, fun t ht => by rw [← eM]; exact st'.tape t ht, st.tpB⟩
  by_cases q : i ∈ vs
  · have ns := noOwn_at hn q hi
    have := st.slot i s hi
    cases s with
    | no => trivial
    | sh d => obtain ⟨x, h1, h2⟩ := this; exact ⟨x, h1, h2.mono sm⟩
    | _ => cases ns
  · have := st'.slot i s (by rw [hρ i q]; exact hi)
    rw [eM, hσ.2 i q] at this
    exact this
/-- one more object that is not shared (a comprehension's list) -/
def Fx.plus (c : Fx) (D : Addr) : Fx := { c with O := fun b => c.O b ∨ b = D }
theorem ow_plus {D : Addr} {b : Addr} : Ow (c.plus D) σ ρ b ↔ Ow c σ ρ b ∨ b = D := by
  unfold Ow Fx.plus
  constructor
  · rintro ((h | h) | h)
    · exact .inl (.inl h)
    · exact .inr h
    · exact .inl (.inr h)
  · rintro ((h | h) | h)
    · exact .inl (.inl h)
    · exact .inr h
    · exact .inl (.inr h)
theorem StR.plus (st : StR K c σ ρ H) {D : Addr} {o : HO} (hD : H D = none) : StR K (c.plus D) σ ρ (upd H D o) ∧ Same (M c σ ρ H) (M (c.plus D) σ ρ (upd H D o)) := by
  have sm : Same (M c σ ρ H) (M (c.plus D) σ ρ (upd H D o)) := fun b x e => by
    obtain ⟨h1, h2⟩ := msk_some e
    have ne : b ≠ D := ne_of_none h2 hD
    show msk _ _ _ = _
    rw [msk_of (fun z => (ow_plus.1 z).elim h1 ne), upd_ne ne]
    exact h2
  have keep : ∀ b x, H b = some x → upd H D o b = some x := same_new hD
  refine ⟨⟨st.len, fun i s hi => ?_, st.inj, fun b x h1 h2 => keep b x (st.base b x h1 h2), fun b h1 h2 => ?_, fun t ht => ?_, st.tpB⟩, sm⟩
  · have q := st.slot i s hi
    cases s with
    | no => trivial
    | sh d => obtain ⟨x, h1, h2⟩ := q; exact ⟨x, h1, h2.mono sm⟩
    | ol ds => obtain ⟨a, xs, h1, h2, h3, h4⟩ := q; exact ⟨a, xs, h1, keep _ _ h2, h3.mono sm, h4⟩
    | od ks ds => obtain ⟨a, xs, h1, h2, h3, hz, h4, h5⟩ := q; exact ⟨a, xs, h1, keep _ _ h2, h3, hz, h4.mono sm, h5⟩
    | tk a n => obtain ⟨h1, ⟨o, h2, h3⟩, h4⟩ := q; exact ⟨h1, ⟨o, keep _ _ h2, TapeI.mono sm h3⟩, h4⟩
    | ot a n => obtain ⟨h1, ⟨o, h2, h3⟩, h4⟩ := q; exact ⟨h1, ⟨o, keep _ _ h2, OR.mono sm h3⟩, h4⟩
  · rcases h1 with h1 | rfl
    · cases e : H b with
      | none => exact st.dom b h1 e
      | some x => rw [keep b x e] at h2; cases h2
    · rw [upd_same] at h2; cases h2
  · obtain ⟨h1, n, x, h2, h3⟩ := st.tape t ht
    exact ⟨.inl h1, n, x, keep _ _ h2, TapeI.mono sm h3⟩
/-- that object is changed -/
theorem StR.plusUpd {D : Addr} (st : StR K (c.plus D) σ ρ H) {o : HO} (hD : H D ≠ none) (hB : c.B D = none) (hno : ¬ own σ ρ D) : StR K (c.plus D) σ ρ (upd H D o) ∧ M (c.plus D) σ ρ (upd H D o) = M (c.plus D) σ ρ H := by
  have eM : M (c.plus D) σ ρ (upd H D o) = M (c.plus D) σ ρ H := msk_upd (ow_plus.2 (.inr rfl))
  have keep : ∀ b x, b ≠ D → H b = some x → upd H D o b = some x := fun b x n e => by rw [upd_ne n]; exact e
  refine ⟨⟨st.len, fun i s hi => ?_, st.inj, fun b x h1 h2 => keep b x (fun z => by subst z; rw [show (c.plus b).B b = c.B b from rfl, hB] at h2; cases h2) (st.base b x h1 h2), fun b h1 h2 => ?_, fun t ht => ?_, st.tpB⟩, eM⟩
  · rw [eM]
    have q := st.slot i s hi
    cases s with
    | no => trivial
    | sh d => exact q
    | ol ds => obtain ⟨a, xs, h1, h2, h3⟩ := q; exact ⟨a, xs, h1, keep _ _ (fun z => hno (z ▸ ⟨i, _, hi, rfl, h1⟩)) h2, h3⟩
    | od ks ds => obtain ⟨a, xs, h1, h2, h3⟩ := q; exact ⟨a, xs, h1, keep _ _ (fun z => hno (z ▸ ⟨i, _, hi, rfl, h1⟩)) h2, h3⟩
    | tk a n => obtain ⟨h1, ⟨o, h2, h3⟩, h4⟩ := q; exact ⟨h1, ⟨o, keep _ _ (fun z => hno (z ▸ ⟨i, _, hi, rfl, h1⟩)) h2, h3⟩, h4⟩
    | ot a n => obtain ⟨h1, ⟨o, h2, h3⟩, h4⟩ := q; exact ⟨h1, ⟨o, keep _ _ (fun z => hno (z ▸ ⟨i, _, hi, rfl, h1⟩)) h2, h3⟩, h4⟩
  · by_cases z : b = D
    · subst z; rw [upd_same] at h2; cases h2
    · rw [upd_ne z] at h2; exact st.dom b h1 h2
  · obtain ⟨h1, n, x, h2, h3⟩ := st.tape t ht
    refine ⟨h1, n, x, keep _ _ (fun z => ?_) h2, by rw [eM]; exact h3⟩
    subst z
    exact st.tpB t ht hB
/-- it becomes shared -/
theorem StR.unplus {D : Addr} (st : StR K (c.plus D) σ ρ H) (hB : c.B D = none) : StR K c σ ρ H ∧ Same (M (c.plus D) σ ρ H) (M c σ ρ H) := by
  have sm : Same (M (c.plus D) σ ρ H) (M c σ ρ H) := msk_le fun b z => ow_plus.2 (.inl z)
  refine ⟨⟨st.len, fun i s hi => (st.slot i s hi).mono (c := c.plus D) sm fun b o _ z => z, st.inj, st.base, fun b h => st.dom b (.inl h), fun t ht => ?_, st.tpB⟩, sm⟩
  obtain ⟨h1, n, x, h2, h3⟩ := st.tape t ht
  refine ⟨h1.resolve_right fun z => ?_, n, x, h2, TapeI.mono sm h3⟩
  subst z
  exact st.tpB t ht hB
theorem StR.freshB (st : StR K c σ ρ H) {D : Addr} (h : H D = none) : c.B D = none := by
  cases e : c.B D with
  | none => rfl
  | some o =>
    by_cases z : c.tp = some D
    · obtain ⟨_, _, x, h2, _⟩ := st.tape D z
      rw [h] at h2; cases h2
    · rw [st.base D o z e] at h; cases h

/-! ### the walk of a block -/
abbrev AllB (X : Cx) (scope : Scope) (p : Cx → Prop) : Prop := ∀ (s : Shared) (H : Hp) (C : Addr) (cl : List (Str × Addr)) (fp : List Addr), p (X.blk s H scope (compEnvC scope cl C X.env) fp)
structure DTs (K : PySem.W.Frag) (X : Cx) (es : List Expr) (f : FT) : Prop where
  pt : X.K = K → PTs X es (bOf K f)
def fYes : FT := fun _ P => P true
theorem pts_imp {X : Cx} {es : List Expr} {t t' : TT} (h : PTs X es t) (i : ∀ σ H Q, t' σ H Q → t σ H Q) : PTs X es t' := ⟨fun pins s σ H Q I q => h.run pins s σ H Q I (i σ H Q q)⟩
theorem dts_nil {X : Cx} : DTs K X [] fYes := ⟨fun _ => pts_imp pts_nil fun σ H Q q => by
  obtain ⟨c, ρ, P, st, f, k⟩ := q
  exact k true H (.refl st) f⟩
theorem dts_one {X : Cx} {e : Expr} {f : FT} (h : DT K X e f) : DTs K X [e] f := ⟨fun hK => pts_one (h.pt hK)⟩
/-- a turn of a block: the target is stored over the wiped slots -/
def turnR (fg : FG) (vs : List Nat) (d : D) (ρ : Rho) (P : Rho → Prop) : Prop := fg d (wipeR ρ vs) fun ρ2 => wipeR ρ2 vs = wipeR ρ vs ∧ noOwn ρ2 vs = true ∧ P ρ2
/-- the turns of a block; fb: what is done with the data gathered so far -/
def blkD {α : Type} (fg : FG) (tt : FT) (fb : Rho → α → (α → Prop) → Prop) (vs : List Nat) : List D → Rho → α → (α → Prop) → Prop
  | [], _, acc, P => P acc
  | d :: ds, ρ, acc, P => turnR fg vs d ρ fun ρ2 => tt ρ2 fun b => if b = true then fb ρ2 acc fun acc' => blkD fg tt fb vs ds ρ acc' P else blkD fg tt fb vs ds ρ acc P
/-- one more item of a list -/
def bodyL (te : FE) : Rho → List D → (List D → Prop) → Prop := fun ρ acc P => te ρ fun e => acc.length < sizeLine ∧ P (acc ++ [e])
theorem wipeR_off {ρ ρ2 : Rho} (h : wipeR ρ2 vs = wipeR ρ vs) {i : Nat} (hi : i ∉ vs) : ρ2[i]? = ρ[i]? := by
  have := congrArg (fun l : Rho => l[i]?) h
  simpa only [wipeR_out hi] using this
/-- a turn's storing, and the way back -/
theorem turn_in {fg : FG} {ws : List Nat} {σ : St} {ρ : Rho} {H : Hp} {d : D} {v : V} {P : Rho → Prop} {Q : St → Hp → Prop} (st : StR K c σ ρ H) (hn : noOwn ρ vs = true) (hw : ∀ i ∈ ws, i ∈ vs) (r : Rp K (M c σ ρ H) v d) (f : turnR fg vs d ρ P)
    (k : ∀ σ2 ρ2, StR K c σ2 ρ2 H → wipe σ2 vs = wipe σ vs → own σ2 ρ2 = own σ ρ → (∀ b, hasTk ρ2 b → hasTk ρ b) → P ρ2 → (∀ H', StR K c σ2 ρ2 H' → Same (M c σ ρ H) (M c σ ρ H') → StR K c σ ρ H') → Q σ2 H) : gOf K ws fg v (wipe σ vs) H Q := by
  obtain ⟨sw, eo⟩ := st.wipe hn
  have eO : Ow c (wipe σ vs) (wipeR ρ vs) = Ow c σ ρ := by unfold Ow; rw [eo]
  refine ⟨c, wipeR ρ vs, d, _, sw, ?_, f, fun σ2 ρ2 s2 sm2 off q => ?_⟩
  · show Rp K (msk _ H) v d
    rw [eO]; exact r
  · obtain ⟨q1, q2, q3⟩ := q
    have o2 : OffEq vs σ σ2 := ⟨off.1.trans (wipe_length σ vs), fun j hj => (off.2 j fun z => hj (hw j z)).trans (wipe_out hj)⟩
    have eo2 : own σ2 ρ2 = own σ ρ := own_off (vs := vs) (fun i hi => ⟨o2.2 i hi, wipeR_off q1 hi⟩) (fun i hi s e => noOwn_at hn hi e) fun i hi s e => noOwn_at q2 hi e
    have eO2 : Ow c σ2 ρ2 = Ow c σ ρ := by unfold Ow; rw [eo2]
    have tkm : ∀ b, hasTk ρ2 b → hasTk ρ b := fun b ⟨n, hb⟩ => by
      obtain ⟨i, hi⟩ := List.getElem?_of_mem hb
      have hni : i ∉ vs := fun z => by have := noOwn_at q2 z hi; cases this
      rw [wipeR_off q1 hni] at hi
      exact ⟨n, List.mem_of_getElem? hi⟩
    exact k σ2 ρ2 s2 (wipe_off o2 fun _ h => h) eo2 tkm q3 fun H' s' sm => st.unwipe s' eO2 o2 (fun i hi => wipeR_off q1 hi) hn sm
/-- what is walked, while L holds of the heap -/
def YlL (K : PySem.W.Frag) (J : It) (m : Hp) (L : Hp → Prop) (ds : List D) : Prop := ∀ (O : Addr → Prop) (H : Hp), (∀ b, O b → H b ≠ none) → Same m (msk O H) → L H → ∀ i, (i < ds.length → J.go i H) ∧ (ds.length ≤ i → J.stop i H) ∧
  ∀ x H', i < ds.length → J.yld i H x H' → ∃ d, ds[i]? = some d ∧ Same H H' ∧ Rp K (msk O H') x d
theorem Yl.L {J : It} {m : Hp} {ds : List D} (y : Yl K J m ds) : YlL K J m (fun _ => True) ds := fun O H hO e _ i => y O H hO e i
theorem YlL.mono {J : It} {m m' : Hp} {L : Hp → Prop} {ds : List D} (y : YlL K J m L ds) (e : Same m m') : YlL K J m' L ds := fun O H hO e' l i => y O H hO (e.trans e') l i
/-- the objects of one's own that stay -/
def Oo (c : Fx) (σ : St) (ρ : Rho) (D : Addr) (H H' : Hp) : Prop := ∀ b o, Ow c σ ρ b → c.tp ≠ some b → ¬ hasTk ρ b → b ≠ D → H b = some o → H' b = some o
section
variable {α : Type} {AR : Hp → α → HO → Prop}
/-- behind a body: the gathered object has changed alone -/
structure Bdy (K : PySem.W.Frag) (AR : Hp → α → HO → Prop) (c : Fx) (D : Addr) (σ : St) (ρ : Rho) (H H' : Hp) (a : α) : Prop where
  st : StR K (c.plus D) σ ρ H'
  sm : Same (M (c.plus D) σ ρ H) (M (c.plus D) σ ρ H')
  at_ : ∃ o, H' D = some o ∧ AR (M (c.plus D) σ ρ H') a o
  oo : Oo c σ ρ D H H'
def BodyOk (K : PySem.W.Frag) (AR : Hp → α → HO → Prop) (c : Fx) (D : Addr) (body : St → Hp → (Hp → Prop) → Prop) (fb : Rho → α → (α → Prop) → Prop) : Prop := ∀ (σ : St) (ρ : Rho) (H : Hp) (a : α) (P : α → Prop) (Nx : Hp → Prop), StR K (c.plus D) σ ρ H → ¬ own σ ρ D → (∃ o, H D = some o ∧ AR (M (c.plus D) σ ρ H) a o) → fb ρ a P →
  (∀ H' a', Bdy K AR c D σ ρ H H' a' → P a' → Nx H') → body σ H Nx
theorem blk_loop (hAR : ∀ {m m' : Hp} {a : α} {o : HO}, Same m m' → AR m a o → AR m' a o) {D : Addr} {fg : FG} {tt : FT} {fb : Rho → α → (α → Prop) → Prop} {body : St → Hp → (Hp → Prop) → Prop} {ws : List Nat} {σ : St} {ρ : Rho} {H1 : Hp} {J : It} {L : Hp → Prop} {ds : List DL.D} {a0 : α} {P : α → Prop} {G : Hp → Prop}
    (hb : BodyOk K AR c D body fb) (hw : ∀ i ∈ ws, i ∈ vs) (hB : c.B D = none) (hno : ¬ own σ ρ D) (hn : noOwn ρ vs = true) (s1 : StR K (c.plus D) σ ρ H1) (y : YlL K J (M (c.plus D) σ ρ H1) L ds) (hL : ∀ H2, Oo c σ ρ D H1 H2 → L H2) (h0 : ∃ o, H1 D = some o ∧ AR (M (c.plus D) σ ρ H1) a0 o)
    (p : blkD fg tt fb vs ds ρ a0 P) (k : ∀ H' a, Bdy K AR c D σ ρ H1 H' a → P a → G H') :
    ∃ W : Nat → Nat → Hp → Prop, (∃ m, W 0 m H1) ∧ ∀ i m H, W i m H → (J.stop i H ∧ G H) ∨ (J.go i H ∧ ∃ Nx : Hp → Prop, (∀ H', Nx H' → ∃ m', m' < m ∧ W (i + 1) m' H') ∧ ∀ x H', J.yld i H x H' → gOf K ws fg x (wipe σ vs) H' fun σ2 H2 => wipe σ2 vs = wipe σ vs ∧ bOf K tt σ2 H2 fun b H3 =>
      if b = true then body σ2 H3 Nx else Nx H3) := by
  have tpD : (c.plus D).tp ≠ some D := fun z => s1.tpB D z hB
  refine ⟨fun i m H2 => m = ds.length - i ∧ i ≤ ds.length ∧ ∃ a, Bdy K AR c D σ ρ H1 H2 a ∧ blkD fg tt fb vs (ds.drop i) ρ a P, ⟨ds.length, rfl, Nat.zero_le _, a0, ⟨s1, Same.refl _, h0, fun b o _ _ _ _ e => e⟩, p⟩, fun i m H2 ⟨hm, hle, a, B2, w2⟩ => ?_⟩
  have s2 := B2.st
  have hO2 : ∀ b, Ow (c.plus D) σ ρ b → H2 b ≠ none := fun b => s2.ow_some
  obtain ⟨y1, y2, y3⟩ := y (Ow (c.plus D) σ ρ) H2 hO2 B2.sm (hL H2 B2.oo) i
  by_cases hlt : i < ds.length
  · refine .inr ⟨y1 hlt, fun H' => ∃ a, Bdy K AR c D σ ρ H1 H' a ∧ blkD fg tt fb vs (ds.drop (i + 1)) ρ a P, fun H' q => ⟨ds.length - (i + 1), by omega, rfl, hlt, q⟩, fun x H3 hy => ?_⟩
    obtain ⟨d, e1, e2, e3⟩ := y3 x H3 hlt hy
    have ed : ds.drop i = d :: ds.drop (i + 1) := by
      rw [List.drop_eq_getElem_cons hlt]
      rw [List.getElem?_eq_getElem hlt] at e1
      rw [Option.some.inj e1]
    rw [ed] at w2
    have s3 := s2.grow e2
    have sm3 : Same (M (c.plus D) σ ρ H2) (M (c.plus D) σ ρ H3) := msk_same e2
    refine turn_in s3 hn hw e3 w2 fun σ4 ρ4 s4 ew eo tkm q4 back => ⟨ew, c.plus D, ρ4, _, s4, q4, fun b H5 A5 p5 => ?_⟩
    have eO : Ow (c.plus D) σ4 ρ4 = Ow (c.plus D) σ ρ := by unfold Ow; rw [eo]
    have eM : ∀ H, M (c.plus D) σ4 ρ4 H = M (c.plus D) σ ρ H := fun H => by show msk _ _ = msk _ _; rw [eO]
    have sm5 : Same (M (c.plus D) σ ρ H3) (M (c.plus D) σ ρ H5) := by
      have := A5.sm
      rwa [eM, eM] at this
    have hoD : Ow (c.plus D) σ4 ρ4 D := .inl (.inr rfl)
    have ntk : ¬ hasTk ρ4 D := fun z => by
      obtain ⟨_, z⟩ := tkm _ z
      obtain ⟨j, hj⟩ := List.getElem?_of_mem z
      exact hno ⟨j, _, hj, rfl, (s1.slot j _ hj).1⟩
    obtain ⟨o2, hD2, r2⟩ := B2.at_
    have hD5 : H5 D = some o2 := A5.oo D _ hoD tpD ntk (e2 _ _ hD2)
    have s5 := back H5 A5.st sm5
    have sm25 := sm3.trans sm5
    have oo5 : Oo c σ ρ D H1 H5 := fun b o h1 h2 h3 h4 e => A5.oo b o (by rw [eO]; exact ow_plus.2 (.inl h1)) h2 (fun z => h3 (tkm _ z)) (e2 _ _ (B2.oo b o h1 h2 h3 h4 e))
    cases b with
    | true =>
      refine hb σ4 ρ4 H5 a _ _ A5.st (by rw [eo]; exact hno) ⟨o2, hD5, by rw [eM]; exact hAR sm25 r2⟩ p5 fun H6 a' B6 p6 => ?_
      have sm6 : Same (M (c.plus D) σ ρ H5) (M (c.plus D) σ ρ H6) := by
        have := B6.sm
        rwa [eM, eM] at this
      obtain ⟨o6, hD6, r6⟩ := B6.at_
      rw [eM] at r6
      exact ⟨a', ⟨back H6 B6.st (sm5.trans sm6), (B2.sm.trans sm25).trans sm6, ⟨o6, hD6, r6⟩, fun b o h1 h2 h3 h4 e => B6.oo b o (by
        have : Ow (c.plus D) σ4 ρ4 b := by rw [eO]; exact ow_plus.2 (.inl h1)
        exact (ow_plus.1 this).resolve_right h4) h2 (fun z => h3 (tkm _ z)) h4 (oo5 b o h1 h2 h3 h4 e)⟩, p6⟩
    | false => exact ⟨a, ⟨s5, B2.sm.trans sm25, ⟨o2, hD5, hAR sm25 r2⟩, oo5⟩, p5⟩
  · have e : i = ds.length := by omega
    subst e
    rw [List.drop_length] at w2
    exact .inl ⟨y2 (Nat.le_refl _), k H2 a B2 w2⟩
end
/-- the gathered list -/
def ARL (K : PySem.W.Frag) (m : Hp) (es : List D) (o : HO) : Prop := ∃ acc, o = .lst acc ∧ RpAll K m acc es
theorem ARL.mono {m m' : Hp} {a : List D} {o : HO} (e : Same m m') (h : ARL K m a o) : ARL K m' a o := by
  obtain ⟨acc, h1, h2⟩ := h
  exact ⟨acc, h1, h2.mono e⟩
theorem body_L {te : FE} {D : Addr} (hB : c.B D = none) : BodyOk K (ARL K) c D (fun σ H Nx => eOf K te σ H fun y H4 => ∃ acc, H4 D = some (.lst acc) ∧ acc.length < sizeLine ∧ Nx (upd H4 D (.lst (acc ++ [y])))) (bodyL te) := fun σ ρ H es P Nx st hno ⟨o, hD, acc, eo, racc⟩ f k => by
  subst eo
  have tpD : (c.plus D).tp ≠ some D := fun z => st.tpB D z hB
  have ntk : ¬ hasTk ρ D := fun z => by
    obtain ⟨_, z⟩ := z
    obtain ⟨j, hj⟩ := List.getElem?_of_mem z
    exact hno ⟨j, _, hj, rfl, (st.slot j _ hj).1⟩
  refine ⟨c.plus D, ρ, _, st, f, fun v H6 e A6 r6 p6 => ?_⟩
  have hD6 : H6 D = some (.lst acc) := A6.oo D _ (.inl (.inr rfl)) tpD ntk hD
  obtain ⟨s7, eM7⟩ := A6.st.plusUpd (o := .lst (acc ++ [v])) (by rw [hD6]; exact fun z => nomatch z) hB hno
  refine ⟨acc, hD6, by rw [racc.length]; exact p6.1, k _ _ ⟨s7, by rw [eM7]; exact A6.sm, ⟨_, upd_same, acc ++ [v], rfl, ?_⟩, fun b o h1 h2 h3 h4 e => ?_⟩ p6.2⟩
  · rw [eM7]; exact (racc.mono A6.sm).append (.one r6)
  · rw [upd_ne h4]; exact A6.oo b o (ow_plus.2 (.inl h1)) h2 h3 e
section
variable {X : Cx} {pos : Pos} {elt tg iter : Expr} {ifs : List Expr} {scope : Scope} {fi : FA} {fg : FG} {tt : FT} {te : FE} {ws : List Nat}
/-- [elt for tg in iter if ..] -/
def fLc (fi : FA) (fg : FG) (tt : FT) (te : FE) (vs : List Nat) (ρ : Rho) (P : List D → Prop) : Prop := noOwn ρ vs = true ∧ fi ρ fun ds => blkD fg tt (bodyL te) vs ds ρ [] P
/-- behind the source: the list is new -/
theorem e_lcJ (hw : ∀ i ∈ ws, i ∈ vs) {c : Fx} {σ : St} {ρ : Rho} {H1 : Hp} {Q : VK} {P : List D → Prop} {J : It} {L : Hp → Prop} {ds : List D} (s1 : StR K c σ ρ H1) (hn : noOwn ρ vs = true) (y : YlL K J (M c σ ρ H1) L ds) (hL : ∀ H2, (∀ b o, Ow c σ ρ b → c.tp ≠ some b → ¬ hasTk ρ b → H1 b = some o → H2 b = some o) → L H2)
    (p : blkD fg tt (bodyL te) vs ds ρ [] P)
    (k : ∀ D H' es acc, H1 D = none → H' D = some (.lst acc) → RpAll K (M (c.plus D) σ ρ H') acc es → StR K (c.plus D) σ ρ H' → Same (M c σ ρ H1) (M (c.plus D) σ ρ H') →
      (∀ b o, Ow c σ ρ b → c.tp ≠ some b → ¬ hasTk ρ b → H1 b = some o → H' b = some o) → P es → Q (.ref D) H') :
    ∀ D, H1 D = none → ∃ W : Nat → Nat → Hp → Prop, (∃ m, W 0 m (upd H1 D (.lst []))) ∧ ∀ i m H, W i m H →
      (J.stop i H ∧ Q (.ref D) H) ∨ (J.go i H ∧ ∃ Nx : Hp → Prop, (∀ H', Nx H' → ∃ m', m' < m ∧ W (i + 1) m' H') ∧ ∀ x H', J.yld i H x H' → gOf K ws fg x (wipe σ vs) H' fun σ2 H2 => wipe σ2 vs = wipe σ vs ∧ bOf K tt σ2 H2 fun b H3 =>
        if b = true then eOf K te σ2 H3 fun y H4 => ∃ acc, H4 D = some (.lst acc) ∧ acc.length < sizeLine ∧ Nx (upd H4 D (.lst (acc ++ [y]))) else Nx H3) := fun D hD => by
  have hB := s1.freshB hD
  have hno : ¬ own σ ρ D := fun z => s1.own_some z hD
  obtain ⟨sp, smp⟩ := s1.plus (o := .lst []) hD
  have nD : ∀ b o, H1 b = some o → b ≠ D := fun b o e => ne_of_none e hD
  have oo1 : ∀ H', Oo c σ ρ D (upd H1 D (.lst [])) H' → ∀ b o, Ow c σ ρ b → c.tp ≠ some b → ¬ hasTk ρ b → H1 b = some o → H' b = some o := fun H' oo b o h1 h2 h3 e => oo b o h1 h2 h3 (nD b o e) (same_new hD b o e)
  exact blk_loop (AR := ARL K) ARL.mono (body_L hB) hw hB hno hn sp (y.mono smp) (fun H2 oo => hL H2 (oo1 H2 oo)) ⟨_, upd_same, [], rfl, .nil⟩ p fun H' es B pe => by
    obtain ⟨o, hD', acc, eo, racc⟩ := B.at_
    subst eo
    exact k D H' es acc hD hD' racc B.st (smp.trans B.sm) (oo1 H' B.oo) pe
/-- the reading of a comprehension, its list new -/
theorem e_lc (hw : ∀ i ∈ ws, i ∈ vs) {c : Fx} {σ : St} {ρ : Rho} {H : Hp} {Q : VK} {P : List D → Prop} (st : StR K c σ ρ H) (f : fLc fi fg tt te vs ρ P)
    (k : ∀ D H1 H' es acc, Aft K c σ ρ H H1 → H1 D = none → H' D = some (.lst acc) → RpAll K (M (c.plus D) σ ρ H') acc es → StR K (c.plus D) σ ρ H' → Same (M c σ ρ H1) (M (c.plus D) σ ρ H') →
      (∀ b o, Ow c σ ρ b → c.tp ≠ some b → ¬ hasTk ρ b → H1 b = some o → H' b = some o) → P es → Q (.ref D) H') :
    tLc (iOf K fi) (gOf K ws fg) (bOf K tt) (eOf K te) vs σ H Q := by
  obtain ⟨hn, f⟩ := f
  exact ⟨c, ρ, _, st, f, fun J H1 ds A y p => e_lcJ hw A.st hn y.L (fun _ _ => trivial) p fun D H' es acc => k D H1 H' es acc A⟩
theorem de_lc {own' : List (Str × Nat)} (hc : X.calm = true) (hN : X.N.Nodup) (hi : DI K X tg iter fi) (own : List (Str × Nat)) (ok : blkC X.N X.env.scope scope own = true) (hw : ∀ i ∈ ws, i ∈ own.map (·.2))
    (hg : AllB X scope fun X' => DG K X' tg ws fg) (ht : AllB X scope fun X' => DTs K X' ifs tt) (he : AllB X scope fun X' => DE K X' elt te) (hs : ∀ x, foldedSetIterable iter X.env x = pure x := by intro _; rfl) :
    DE K X (.ListComp elt [⟨tg, iter, ifs, 0⟩] scope pos) (fun ρ P => fLc fi fg tt te (own.map (·.2)) ρ fun es => P (.lst es)) := ⟨fun hK => by
  refine pe_imp (pe_lc hc hN (hi.pi hK) (blkOk_by ok) (fun s H C cl fp => (hg s H C cl fp).pg hK) (fun s H C cl fp => (ht s H C cl fp).pt hK) (fun s H C cl fp => (he s H C cl fp).pe hK) hs) fun σ H Q q => ?_
  obtain ⟨c, ρ, P, st, f, k⟩ := q
  refine e_lc hw st f fun D H1 H' es acc A hD hacc racc s2 sm2 oo p => ?_
  obtain ⟨s3, sm3⟩ := s2.unplus (A.st.freshB hD)
  refine k (.ref D) H' (.lst es) ⟨s3, A.sm.trans (sm2.trans sm3), fun b o h1 h2 h3 e => oo b o h1 h2 h3 (A.oo b o h1 h2 h3 e)⟩ (.lst ?_ (racc.mono sm3)) p
  show msk _ _ _ = _
  rw [msk_of, hacc]
  exact fun z => A.st.ow_some z hD⟩
end
end
end DL
/-! The layer DL: slices, what one owns, what is walked. -/
namespace DL
open PySem PySem.Spec PyProof.Rows L2
section
variable [TapeI] {K : PySem.W.Frag} {X : Cx} {pos : Pos} {e : Expr} {fa : FE}
/-! ### slices -/
abbrev FO := Rho → (Option Int → Prop) → Prop
def oOf (K : PySem.W.Frag) (f : FO) : St → Hp → (Option Int → Hp → Prop) → Prop := fun σ H Q => ∃ (c : Fx) (ρ : Rho) (P : Option Int → Prop), StR K c σ ρ H ∧ f ρ P ∧ ∀ o H', Aft K c σ ρ H H' → P o → Q o H'
structure DO (K : PySem.W.Frag) (X : Cx) (e : Option Expr) (f : FO) : Prop where
  po : X.K = K → PO X e (oOf K f)
theorem po_imp {e : Option Expr} {t t' : St → Hp → (Option Int → Hp → Prop) → Prop} (h : PO X e t) (i : ∀ σ H Q, t' σ H Q → t σ H Q) : PO X e t' := ⟨fun pins s σ H Q I q => h.run pins s σ H Q I (i σ H Q q)⟩
def foN : FO := fun _ P => P none
def foS (f : FE) : FO := fun ρ P => f ρ fun d => match d with | .int i => P (some i) | _ => False
theorem do_none : DO K X none foN := ⟨fun _ => po_imp po_none fun σ H Q q => by
  obtain ⟨c, ρ, P, st, f, k⟩ := q
  exact k none H (.refl st) f⟩
theorem do_some (h : DE K X e fa) : DO K X (some e) (foS fa) := ⟨fun hK => po_imp (po_some (h.pe hK)) fun σ H Q q => by
  obtain ⟨c, ρ, P, st, f, k⟩ := q
  refine ⟨c, ρ, _, st, f, fun v H' d A r p => ?_⟩
  cases r with
  | int i => exact ⟨i, rfl, k _ H' A p⟩
  | _ => exact p.elim⟩
def cutL {α : Type} (xs : List α) (lo hi : Option Int) : List α := (xs.drop (HT.sIx xs.length 0 lo)).take (HT.sIx xs.length xs.length hi - HT.sIx xs.length 0 lo)
def gSl (d : D) (lo hi : Option Int) (P : D → Prop) : Prop := match d with
  | .tup ds => P (.tup (cutL ds lo hi))
  | .lst ds => P (.lst (cutL ds lo hi))
  | .scr ns => P (.lst (cutL (ns.map .int) lo hi))
  | .str l => P (.str (cutL l lo hi))
  | _ => False
theorem rp_ints {H : Hp} : ∀ ns : List Int, RpAll K H (ns.map V.int) (ns.map D.int)
  | [] => .nil
  | n :: ns => .cons (.int n) (rp_ints ns)
theorem cutV_rp {H : Hp} {vs : List V} {ds : List D} (r : RpAll K H vs ds) (lo hi : Option Int) : RpAll K H (cutV vs lo hi) (cutL ds lo hi) := by
  unfold cutV cutL
  rw [r.length]
  exact (r.drop _).take _
theorem cutL_len {α : Type} (xs : List α) (lo hi : Option Int) : (cutL xs lo hi).length ≤ xs.length := by
  unfold cutL
  rw [List.length_take, List.length_drop]
  omega
theorem cutS_S (l : Tx) (lo hi : Option Int) : cutS (S l) lo hi = S (cutL l lo hi) := by
  unfold cutS cutL
  rw [S_cps, S_length]
  rfl
theorem cutL_whole {α : Type} {xs : List α} {lo hi : Option Int} (h : HT.sIx xs.length 0 lo = 0 ∧ HT.sIx xs.length xs.length hi = xs.length) : cutL xs lo hi = xs := by
  unfold cutL
  rw [h.1, h.2]
  simp
def fSl (f : FE) (fl fh : FO) : FE := fun ρ P => f ρ fun d => fl ρ fun lo => fh ρ fun hi => gSl d lo hi P
theorem SlR.imp {r r' : V → Option Int → Option Int → Hp → VK → Prop} (h : L2.SlR X r) (i : ∀ x lo hi H Q, r' x lo hi H Q → r x lo hi H Q) : L2.SlR X r' := fun pins s σ H x v vl vu lo hi sl Q I rx hs pl pu q => h pins s σ H x v vl vu lo hi sl Q I rx hs pl pu (i _ _ _ _ _ q)
theorem de_sl {lo hi : Option Expr} {fl fh : FO} {p2 : Pos} (he : DE K X e fa) (hl : DO K X lo fl) (hh : DO K X hi fh) : DE K X (.Subscript e (.Slice lo hi none p2) pos) (fSl fa fl fh) := ⟨fun hK => by
  subst hK
  refine pe_imp (pe_slice (SlR.or (SlR.or sl_tupA sl_list) sl_str) (he.pe rfl) (hl.po rfl) (hh.po rfl)) fun σ H Q q => ?_
  obtain ⟨c, ρ, P, st, f, k⟩ := q
  refine ⟨c, ρ, _, st, f, fun v H1 d A1 r1 p1 => ⟨c, ρ, _, A1.st, p1, fun lo' H2 A2 p2 => ⟨c, ρ, _, A2.st, p2, fun hi' H3 A3 p3 => ?_⟩⟩⟩
  have A := (A1.trans A2).trans A3
  have r := (r1.mono A2.sm).mono A3.sm
  have o : Out X.K (Ow c σ ρ) H3 P Q := fun v H' d e rv p => k v H' d (A.trans (.grow A3.st e)) rv p
  have hO : ∀ b, Ow c σ ρ b → H3 b ≠ none := fun b => A3.st.ow_some
  cases r with
  | @tup a xs ds h r =>
    refine .inl (.inl ⟨a, xs, rfl, msk_sqT h, fun hw => ?_, fun _ p hp => o.tup hO (cutV_rp r lo' hi') p3 p hp⟩)
    refine o.ret (.tup h r) ?_
    rw [r.length] at hw
    have : P (.tup (cutL ds lo' hi')) := p3
    rwa [cutL_whole hw] at this
  | @lst a xs ds h r => exact .inl (.inr ⟨a, xs, rfl, .inl (.inl (msk_some h).2), fun p hp => o.lst hO (cutV_rp r lo' hi') p3 p hp⟩)
  | @scr a ns h => exact .inl (.inr ⟨a, _, rfl, Same.sqL same_msk h, fun p hp => o.lst hO (cutV_rp (rp_ints ns) lo' hi') p3 p hp⟩)
  | str l hl =>
    refine .inr ⟨S l, rfl, by rw [S_length]; exact hl, ?_⟩
    rw [cutS_S]
    exact o.str (Nat.le_trans (cutL_len l lo' hi') hl) p3
  | _ => exact p3.elim⟩
/-! ### new lists and dicts of one's own -/
abbrev FN := Rho → (Sl → Prop) → Prop
/-- behind an expression that makes an object at D which nothing else names -/
structure NewR (K : PySem.W.Frag) (c : Fx) (σ : St) (ρ : Rho) (H : Hp) (q : Addr) (H' : Hp) (s : Sl) : Prop where
  st : StR K (c.plus q) σ ρ H'
  sm : Same (M c σ ρ H) (M (c.plus q) σ ρ H')
  oo : ∀ b o, Ow c σ ρ b → c.tp ≠ some b → ¬ hasTk ρ b → H b = some o → H' b = some o
  nB : c.B q = none
  no : ¬ own σ ρ q
  nO : ¬ c.O q
  ow : s.own = true
  sl : ∀ m, Same (M (c.plus q) σ ρ H') m → SlR K c m H' (some (some (.ref q))) s
def nOf (K : PySem.W.Frag) (f : FN) : TE := fun σ H Q => ∃ (c : Fx) (ρ : Rho) (P : Sl → Prop), StR K c σ ρ H ∧ f ρ P ∧ ∀ q H' s, NewR K c σ ρ H q H' s → P s → Q (.ref q) H'
structure DF (K : PySem.W.Frag) (X : Cx) (e : Expr) (f : FN) : Prop where
  pe : X.K = K → PE X e (nOf K f)
theorem StR.plusOwn {c : Fx} {σ : St} {ρ : Rho} {H H' : Hp} {D : Addr} {s : Sl} (i : Nat) (n : NewR K c σ ρ H D H' s) : StR K c (σ.set i (some (.ref D))) (ρ.set i s) H' ∧ Same (M c σ ρ H) (M c (σ.set i (some (.ref D))) (ρ.set i s) H') := by
  have st := n.st
  have sub : ∀ b, Ow c (σ.set i (some (.ref D))) (ρ.set i s) b → Ow (c.plus D) σ ρ b := fun b h => ow_plus.2 (h.elim (fun z => .inl (.inl z)) fun h => (own_set b h).elim (fun z => .inr (V.ref.inj z.2).symm) fun z => .inl (.inr z))
  have sm : Same (M (c.plus D) σ ρ H') (M c (σ.set i (some (.ref D))) (ρ.set i s) H') := msk_le sub
  refine ⟨⟨by rw [List.length_set, List.length_set, st.len], fun j u hj => ?_, fun j l u t b h1 h2 h3 h4 h5 h6 => ?_, st.base, fun b h => st.dom b (.inl h), fun t ht => ?_, st.tpB⟩, n.sm.trans sm⟩
  · by_cases e : i = j
    · subst e
      rw [List.getElem?_set] at hj
      simp only [if_true] at hj
      split at hj
      · rename_i hi
        cases hj
        rw [List.getElem?_set_self (by rw [← st.len]; exact hi)]
        exact n.sl _ sm
      · cases hj
    · rw [List.getElem?_set_ne e] at hj ⊢
      exact (st.slot j u hj).mono (c := c.plus D) sm fun b o _ z => z
  · have old : ∀ (l : Nat) (u : Sl), i ≠ l → (ρ.set i s)[l]? = some u → u.own = true → (σ.set i (some (V.ref D)))[l]? = some (some (.ref D)) → False := fun l u ne e1 e2 e3 => by
      rw [List.getElem?_set_ne ne] at e1 e3
      exact n.no ⟨l, u, e1, e2, e3⟩
    have at_i : ∀ (l : Nat), i = l → (σ.set i (some (V.ref D)))[l]? = some (some (.ref b)) → b = D := fun l e h => by
      subst e
      rw [List.getElem?_set] at h
      simp only [if_true] at h
      split at h
      · cases h; rfl
      · cases h
    by_cases n1 : i = j
    · have := at_i j n1 h5
      subst this
      by_cases n2 : i = l
      · exact n1.symm.trans n2
      · exact (old l t n2 h2 h4 h6).elim
    · by_cases n2 : i = l
      · have := at_i l n2 h6
        subst this
        exact (old j u n1 h1 h3 h5).elim
      · rw [List.getElem?_set_ne n1] at h1 h5
        rw [List.getElem?_set_ne n2] at h2 h6
        exact st.inj j l u t b h1 h2 h3 h4 h5 h6
  · obtain ⟨h1, n, o, h2, h3⟩ := st.tape t ht
    refine ⟨h1.resolve_right fun z => ?_, n, o, h2, TapeI.mono sm h3⟩
    subst z
    exact st.tpB t ht n.nB
/-- a list that was just laid -/
theorem NewR.lst {c : Fx} {σ : St} {ρ : Rho} {H H1 : Hp} (A : Aft K c σ ρ H H1) {q : Addr} (hD : H1 q = none) {vs : List V} {ds : List D} (r : RpAll K (M c σ ρ H1) vs ds) : NewR K c σ ρ H q (upd H1 q (.lst vs)) (.ol ds) := by
  obtain ⟨sp, smp⟩ := A.st.plus (o := .lst vs) hD
  exact ⟨sp, A.sm.trans smp, fun b o h1 h2 h3 e => same_new hD b o (A.oo b o h1 h2 h3 e), A.st.freshB hD, fun z => A.st.own_some z hD, fun z => A.st.dom q z hD, rfl, fun m em => ⟨q, vs, rfl, upd_same, (r.mono smp).mono em, A.st.freshB hD⟩⟩
theorem NewR.dic {c : Fx} {σ : St} {ρ : Rho} {H H1 : Hp} (A : Aft K c σ ρ H H1) {q : Addr} (hD : H1 q = none) {kvs : List (Key × V)} {ks : List DK} {ds : List D} (hk : kvs.map (·.1) = ks.map dkey) (hz : KeysOk ks) (r : RpAll K (M c σ ρ H1) (kvs.map (·.2)) ds) : NewR K c σ ρ H q (upd H1 q (.dK kvs)) (.od ks ds) := by
  obtain ⟨sp, smp⟩ := A.st.plus (o := .dK kvs) hD
  exact ⟨sp, A.sm.trans smp, fun b o h1 h2 h3 e => same_new hD b o (A.oo b o h1 h2 h3 e), A.st.freshB hD, fun z => A.st.own_some z hD, fun z => A.st.dom q z hD, rfl, fun m em => ⟨q, kvs, rfl, upd_same, hk, hz, (r.mono smp).mono em, A.st.freshB hD⟩⟩
theorem df_lst {es : List Expr} {fs : FA} {x1} (h : DA K X es fs) : DF K X (.List es x1) (fun ρ P => fs ρ fun ds => ds.length ≤ sizeLine ∧ P (.ol ds)) := ⟨fun hK => pe_imp (pe_lst (h.pa hK)) fun σ H Q q => by
  obtain ⟨c, ρ, P, st, f, k⟩ := q
  refine ⟨c, ρ, _, st, f, fun vs H1 ds A1 r p => ⟨by rw [r.length]; exact p.1, fun a ha => k a _ _ (.lst A1 ha r) p.2⟩⟩⟩
theorem df_lc {tg elt iter : Expr} {ifs : List Expr} {scope : Scope} {fi : FA} {fg : FG} {tt : FT} {te : FE} {ws : List Nat} (hc : X.calm = true) (hN : X.N.Nodup) (hi : DI K X tg iter fi) (own : List (Str × Nat)) (ok : blkC X.N X.env.scope scope own = true) (hw : ∀ i ∈ ws, i ∈ own.map (·.2))
    (hg : AllB X scope fun X' => DG K X' tg ws fg) (ht : AllB X scope fun X' => DTs K X' ifs tt) (he : AllB X scope fun X' => DE K X' elt te) (hs : ∀ x, foldedSetIterable iter X.env x = pure x := by intro _; rfl) :
    DF K X (.ListComp elt [⟨tg, iter, ifs, 0⟩] scope pos) (fun ρ P => fLc fi fg tt te (own.map (·.2)) ρ fun es => P (.ol es)) := ⟨fun hK => by
  refine pe_imp (pe_lc hc hN (hi.pi hK) (blkOk_by ok) (fun s H C cl fp => (hg s H C cl fp).pg hK) (fun s H C cl fp => (ht s H C cl fp).pt hK) (fun s H C cl fp => (he s H C cl fp).pe hK) hs) fun σ H Q q => ?_
  obtain ⟨c, ρ, P, st, f, k⟩ := q
  refine e_lc hw st f fun D H1 H' es acc A hD hacc racc s2 sm2 oo p => ?_
  exact k D H' (.ol es) ⟨s2, A.sm.trans sm2, fun b o h1 h2 h3 e => oo b o h1 h2 h3 (A.oo b o h1 h2 h3 e), A.st.freshB hD, fun z => A.st.own_some z hD, fun z => A.st.dom D z hD, rfl, fun m em => ⟨D, acc, rfl, hacc, racc.mono em, A.st.freshB hD⟩⟩ p⟩
/-- a new object goes into a slot -/
theorem ds_setOwn {x : Str} {pos' : Pos} {f : FN} (i : Nat) (hN : X.N.Nodup) (he : DF K X e f) (hi : X.N[i]? = some x := by rfl) (hx : Loc X.env.scope x := by first | exact Or.inl rfl | exact Or.inr rfl) (hs : swapsWith e (some (.Name x pos')) pos.line X.env = pure false := by rfl)
    (hf : X.fn x = true ∨ X.env.scope.names.lookup x = some .local := by first | exact .inl rfl | exact .inr rfl) : DS K X (.Assign [.Name x pos'] e pos) (fun E ρ => f ρ fun s => E.nx (ρ.set i s)) := ⟨fun hK => ps_imp (L2.ps_set hN hi hx (he.pe hK) hs hf) fun D σ H q => by
  obtain ⟨c, ρ, E, wf, s0, g, kn, kr, kb, kc⟩ := q
  refine ⟨c, ρ, _, s0, g, fun D H' s n p => ?_⟩
  obtain ⟨s1, sm⟩ := StR.plusOwn i n
  exact kn _ _ H' s1 sm p⟩
/-- name = [..] on one line -/
theorem ds_setLc {y : Str} {py : Pos} {tg elt iter : Expr} {ifs : List Expr} {scope : Scope} {fi : FA} {fg : FG} {tt : FT} {te : FE} {ws : List Nat} {cpos : Pos} (i : Nat) (hc : X.calm = true) (hN : X.N.Nodup) (hi : DI K X tg iter fi) (own : List (Str × Nat)) (ok : blkC X.N X.env.scope scope own = true) (hw : ∀ i ∈ ws, i ∈ own.map (·.2))
    (hg : AllB X scope fun X' => DG K X' tg ws fg) (ht : AllB X scope fun X' => DTs K X' ifs tt) (he : AllB X scope fun X' => DE K X' elt te)
    (hsw : swapsWith (.ListComp elt [⟨tg, iter, ifs, 0⟩] scope cpos) (some (.Name y py)) pos.line X.env = pure true) (hy : X.N[i]? = some y := by rfl) (hyl : X.env.scope.names.lookup y = some .local := by rfl) (hs : ∀ x, foldedSetIterable iter X.env x = pure x := by intro _; rfl) :
    DS K X (.Assign [.Name y py] (.ListComp elt [⟨tg, iter, ifs, 0⟩] scope cpos) pos) (fun E ρ => fLc fi fg tt te (own.map (·.2)) ρ fun es => E.nx (ρ.set i (.sh (.lst es)))) := ⟨fun hK => by
  refine ps_imp (L2.ps_setLc hc hN hy hyl hsw (hi.pi hK) (blkOk_by ok) (fun s H C cl fp => (hg s H C cl fp).pg hK) (fun s H C cl fp => (ht s H C cl fp).pt hK) (fun s H C cl fp => (he s H C cl fp).pe hK) hs) fun D σ H q => ?_
  obtain ⟨c, ρ, E, wf, s0, g, kn, kr, kb, kc⟩ := q
  refine e_lc hw s0 g fun D H1 H' es acc A hD hacc racc s2 sm2 oo p => ?_
  obtain ⟨s3, sm3⟩ := s2.unplus (A.st.freshB hD)
  have rD : Rp K (M c σ ρ H') (.ref D) (.lst es) := .lst (by
    show msk _ _ _ = _
    rw [msk_of, hacc]
    exact fun z => A.st.ow_some z hD) (racc.mono sm3)
  obtain ⟨s4, sm4⟩ := s3.setSh i rD
  exact kn _ _ H' s4 ((A.sm.trans (sm2.trans sm3)).trans sm4) p⟩
theorem ds_setLcOwn {y : Str} {py : Pos} {tg elt iter : Expr} {ifs : List Expr} {scope : Scope} {fi : FA} {fg : FG} {tt : FT} {te : FE} {ws : List Nat} {cpos : Pos} (i : Nat) (hc : X.calm = true) (hN : X.N.Nodup) (hi : DI K X tg iter fi) (own : List (Str × Nat)) (ok : blkC X.N X.env.scope scope own = true) (hw : ∀ i ∈ ws, i ∈ own.map (·.2))
    (hg : AllB X scope fun X' => DG K X' tg ws fg) (ht : AllB X scope fun X' => DTs K X' ifs tt) (he : AllB X scope fun X' => DE K X' elt te)
    (hsw : swapsWith (.ListComp elt [⟨tg, iter, ifs, 0⟩] scope cpos) (some (.Name y py)) pos.line X.env = pure true) (hy : X.N[i]? = some y := by rfl) (hyl : X.env.scope.names.lookup y = some .local := by rfl) (hs : ∀ x, foldedSetIterable iter X.env x = pure x := by intro _; rfl) :
    DS K X (.Assign [.Name y py] (.ListComp elt [⟨tg, iter, ifs, 0⟩] scope cpos) pos) (fun E ρ => fLc fi fg tt te (own.map (·.2)) ρ fun es => E.nx (ρ.set i (.ol es))) := ⟨fun hK => by
  refine ps_imp (L2.ps_setLc hc hN hy hyl hsw (hi.pi hK) (blkOk_by ok) (fun s H C cl fp => (hg s H C cl fp).pg hK) (fun s H C cl fp => (ht s H C cl fp).pt hK) (fun s H C cl fp => (he s H C cl fp).pe hK) hs) fun D σ H q => ?_
  obtain ⟨c, ρ, E, wf, s0, g, kn, kr, kb, kc⟩ := q
  refine e_lc hw s0 g fun D H1 H' es acc A hD hacc racc s2 sm2 oo p => ?_
  obtain ⟨s4, sm4⟩ := StR.plusOwn i (H := H) (s := .ol es) (H' := H') ⟨s2, A.sm.trans sm2, fun b o h1 h2 h3 e => oo b o h1 h2 h3 (A.oo b o h1 h2 h3 e), A.st.freshB hD, fun z => A.st.own_some z hD, fun z => A.st.dom D z hD, rfl, fun m em => ⟨D, acc, rfl, hacc, racc.mono em, A.st.freshB hD⟩⟩
  exact kn _ _ H' s4 sm4 p⟩
/-- what one owned is shared from here on -/
def frzR (ρ : Rho) (i : Nat) : Rho := match ρ[i]? with
  | some (.ol ds) => ρ.set i (.sh (.lst ds))
  | some (.od ks ds) => ρ.set i (.sh (.dic ks ds))
  | _ => ρ
theorem StR.frz {c : Fx} {σ : St} {ρ : Rho} {H : Hp} (st : StR K c σ ρ H) (wf : ∀ b, c.O b → c.B b ≠ none) (i : Nat) : StR K c σ (frzR ρ i) H ∧ Same (M c σ ρ H) (M c σ (frzR ρ i) H) := by
  have main : ∀ (a : Addr) (d : D) (s : Sl), ρ[i]? = some s → s.own = true → σ[i]? = some (some (.ref a)) → c.B a = none → (∀ m, Same (M c σ ρ H) m → m a = H a → Rp K m (.ref a) d) → StR K c σ (ρ.set i (.sh d)) H ∧ Same (M c σ ρ H) (M c σ (ρ.set i (.sh d)) H) := by
    intro a d s hi hs hv hB hr
    have hiL : i < ρ.length := (List.getElem?_eq_some_iff.mp hi).1
    have out : ∀ (j : Nat) (u : Sl), (ρ.set i (.sh d))[j]? = some u → u.own = true → i ≠ j ∧ ρ[j]? = some u := fun j u h1 h2 => by
      by_cases e : i = j
      · subst e; rw [List.getElem?_set_self hiL] at h1; cases h1; cases h2
      · rw [List.getElem?_set_ne e] at h1; exact ⟨e, h1⟩
    have sub : ∀ b, Ow c σ (ρ.set i (.sh d)) b → Ow c σ ρ b := fun b h => h.imp id fun ⟨j, u, h1, h2, h3⟩ => ⟨j, u, (out j u h1 h2).2, h2, h3⟩
    have na : ¬ Ow c σ (ρ.set i (.sh d)) a := fun h => h.elim (fun z => wf a z hB) fun ⟨j, u, h1, h2, h3⟩ => by
      obtain ⟨n1, h1⟩ := out j u h1 h2
      exact n1 (st.inj i j s u a hi h1 hs h2 hv h3)
    have sm : Same (M c σ ρ H) (M c σ (ρ.set i (.sh d)) H) := msk_le sub
    refine ⟨⟨by rw [List.length_set, st.len], fun j u hj => ?_, fun j l u t b h1 h2 h3 h4 h5 h6 => st.inj j l u t b (out j u h1 h3).2 (out l t h2 h4).2 h3 h4 h5 h6, st.base, st.dom, fun t ht => ?_, st.tpB⟩, sm⟩
    · by_cases e : i = j
      · subst e
        rw [List.getElem?_set_self hiL] at hj
        cases hj
        exact ⟨.ref a, hv, hr _ sm (msk_of na)⟩
      · rw [List.getElem?_set_ne e] at hj
        exact (st.slot j u hj).mono sm fun b o _ z => z
    · obtain ⟨h1, n, o, h2, h3⟩ := st.tape t ht
      exact ⟨h1, n, o, h2, TapeI.mono sm h3⟩
  unfold frzR
  split
  · rename_i ds hi
    obtain ⟨a, xs, h1, h2, h3, h4⟩ := st.slot i _ hi
    exact main a (.lst ds) _ hi rfl h1 h4 fun m sm ea => .lst (ea.trans h2) (h3.mono sm)
  · rename_i ks ds hi
    obtain ⟨a, xs, h1, h2, h3, hz, h4, h5⟩ := st.slot i _ hi
    exact main a (.dic ks ds) _ hi rfl h1 h5 fun m sm ea => .dic (.inl (ea.trans h2)) h3 hz (h4.mono sm)
  · exact ⟨st, Same.refl _⟩
theorem dss_frz {sts : List Stmt} {g : FS} (i : Nat) (h : DSs K X sts g) : DSs K X sts (fun E ρ => g E (frzR ρ i)) := ⟨fun hK => pss_imp (h.ps hK) fun D σ H q => by
  obtain ⟨c, ρ, E, wf, s0, g, kn, kr, kb, kc⟩ := q
  obtain ⟨s1, sm⟩ := s0.frz wf i
  exact ⟨c, _, E, wf, s1, g, fun σ' ρ' H' s' sm' q => kn σ' ρ' H' s' (sm.trans sm') q, kr, fun σ' ρ' H' s' sm' q => kb σ' ρ' H' s' (sm.trans sm') q, fun σ' ρ' H' s' sm' q => kc σ' ρ' H' s' (sm.trans sm') q⟩⟩
/-! ### changes of what one owns -/
variable {x : Str} {p apos cpos p2 : Pos}
def olAt : Option Sl → (List D → Prop) → Prop
  | some (.ol ds), P => P ds
  | _, _ => False
def odAt : Option Sl → (List DK → List D → Prop) → Prop
  | some (.od ks ds), P => P ks ds
  | _, _ => False
theorem StR.ol {c : Fx} {σ : St} {ρ : Rho} {H : Hp} (st : StR K c σ ρ H) {i : Nat} {P : List D → Prop} (q : olAt ρ[i]? P) : ∃ a xs ds, ρ[i]? = some (.ol ds) ∧ σ[i]? = some (some (.ref a)) ∧ H a = some (.lst xs) ∧ RpAll K (M c σ ρ H) xs ds ∧ c.B a = none ∧ P ds := by
  cases e : ρ[i]? with
  | none => rw [e] at q; exact q.elim
  | some s =>
    rw [e] at q
    cases s with
    | ol ds =>
      obtain ⟨a, xs, h1, h2, h3, h4⟩ := st.slot i _ e
      exact ⟨a, xs, ds, rfl, h1, h2, h3, h4, q⟩
    | _ => exact q.elim
theorem StR.od {c : Fx} {σ : St} {ρ : Rho} {H : Hp} (st : StR K c σ ρ H) {i : Nat} {P : List DK → List D → Prop} (q : odAt ρ[i]? P) : ∃ a kvs ks ds, ρ[i]? = some (.od ks ds) ∧ σ[i]? = some (some (.ref a)) ∧ H a = some (.dK kvs) ∧ kvs.map (·.1) = ks.map dkey ∧ KeysOk ks ∧ RpAll K (M c σ ρ H) (kvs.map (·.2)) ds ∧ c.B a = none ∧ P ks ds := by
  cases e : ρ[i]? with
  | none => rw [e] at q; exact q.elim
  | some s =>
    rw [e] at q
    cases s with
    | od ks ds =>
      obtain ⟨a, kvs, h1, h2, h3, hz, h4, h5⟩ := st.slot i _ e
      exact ⟨a, kvs, ks, ds, rfl, h1, h2, h3, hz, h4, h5, q⟩
    | _ => exact q.elim
theorem StR.setOl {c : Fx} {σ : St} {ρ : Rho} {H : Hp} (st : StR K c σ ρ H) {i : Nat} {a : Addr} {ds ds' : List D} {xs xs' : List V} (hi : ρ[i]? = some (.ol ds)) (hv : σ[i]? = some (some (.ref a))) (hB : c.B a = none) (r : RpAll K (M c σ ρ H) xs' ds') :
    StR K c σ (ρ.set i (.ol ds')) (upd H a (.lst xs')) ∧ Same (M c σ ρ H) (M c σ (ρ.set i (.ol ds')) (upd H a (.lst xs'))) :=
  st.change i hi rfl rfl hv (fun t n z => by cases z) fun m sm => ⟨a, xs', rfl, upd_same, r.mono sm, hB⟩
end
end DL
/-! The layer DL: changes of what one owns; what one owns is read. -/
namespace DL
open PySem PySem.Spec PyProof.Rows L2
section
variable [TapeI] {K : PySem.W.Frag} {X : Cx} {pos : Pos} {e : Expr} {fa : FE}
/-! ### expressions that change the slots -/
abbrev FM := Rho → (D → Rho → Prop) → Prop
/-- behind an expression that changes what one owns: the names stand, the slots say what is there now -/
structure AftM (K : PySem.W.Frag) (c : Fx) (σ : St) (ρ : Rho) (H : Hp) (ρ' : Rho) (H' : Hp) : Prop where
  st : StR K c σ ρ' H'
  sm : Same (M c σ ρ H) (M c σ ρ' H')
  eo : own σ ρ' = own σ ρ
  oo : ∀ b o, c.O b → ¬ own σ ρ b → c.tp ≠ some b → H b = some o → H' b = some o
theorem StR.tkOwn {c : Fx} {σ : St} {ρ : Rho} {H : Hp} (st : StR K c σ ρ H) {b : Addr} (h : hasTk ρ b) : own σ ρ b := by
  obtain ⟨n, h⟩ := h
  obtain ⟨i, hi⟩ := List.getElem?_of_mem h
  exact ⟨i, _, hi, rfl, (st.slot i _ hi).1⟩
theorem AftM.of {c : Fx} {σ : St} {ρ : Rho} {H H' : Hp} (s0 : StR K c σ ρ H) (A : Aft K c σ ρ H H') : AftM K c σ ρ H ρ H' := ⟨A.st, A.sm, rfl, fun b o h1 h2 h3 e => A.oo b o (.inl h1) h3 (fun z => h2 (s0.tkOwn z)) e⟩
theorem AftM.trans {c : Fx} {σ : St} {ρ ρ1 ρ2 : Rho} {H H1 H2 : Hp} (A : AftM K c σ ρ H ρ1 H1) (B : AftM K c σ ρ1 H1 ρ2 H2) : AftM K c σ ρ H ρ2 H2 := ⟨B.st, A.sm.trans B.sm, B.eo.trans A.eo, fun b o h1 h2 h3 e => B.oo b o h1 (by rw [A.eo]; exact h2) h3 (A.oo b o h1 h2 h3 e)⟩
theorem own_swap {σ : St} {ρ : Rho} {i : Nat} {s s' : Sl} (hi : ρ[i]? = some s) (hs : s.own = true) (hs' : s'.own = true) : own σ (ρ.set i s') = own σ ρ := funext fun b => propext ⟨fun ⟨j, u, h1, h2, h3⟩ => by
    by_cases e : i = j
    · subst e; exact ⟨i, _, hi, hs, h3⟩
    · rw [List.getElem?_set_ne e] at h1; exact ⟨j, u, h1, h2, h3⟩, fun ⟨j, u, h1, h2, h3⟩ => by
    by_cases e : i = j
    · subst e; exact ⟨i, s', by rw [List.getElem?_set_self (List.getElem?_eq_some_iff.mp hi).1], hs', h3⟩
    · exact ⟨j, u, by rw [List.getElem?_set_ne e]; exact h1, h2, h3⟩⟩
def mOf (K : PySem.W.Frag) (f : FM) : TE := fun σ H Q => ∃ (c : Fx) (ρ : Rho) (P : D → Rho → Prop), StR K c σ ρ H ∧ f ρ P ∧ ∀ v H' d ρ', AftM K c σ ρ H ρ' H' → Rp K (M c σ ρ' H') v d → P d ρ' → Q v H'
structure DM (K : PySem.W.Frag) (X : Cx) (e : Expr) (f : FM) : Prop where
  pe : X.K = K → PE X e (mOf K f)
theorem ds_exprM {f : FM} (he : DM K X e f) (hs : swapsWith e none pos.line X.env = pure false := by rfl) : DS K X (.Expr e pos) (fun E ρ => f ρ fun _ ρ' => E.nx ρ') := ⟨fun hK => ps_imp (ps_expr (he.pe hK) hs) fun D σ H q => by
  obtain ⟨c, ρ, E, wf, s0, g, kn, kr, kb, kc⟩ := q
  exact ⟨c, ρ, _, s0, g, fun v H' d ρ' A _ p => kn _ _ H' A.st A.sm p⟩⟩
theorem ds_setM {x : Str} {pos' : Pos} {f : FM} (i : Nat) (hN : X.N.Nodup) (he : DM K X e f) (hi : X.N[i]? = some x := by rfl) (hx : Loc X.env.scope x := by first | exact Or.inl rfl | exact Or.inr rfl) (hs : swapsWith e (some (.Name x pos')) pos.line X.env = pure false := by rfl)
    (hf : X.fn x = true ∨ X.env.scope.names.lookup x = some .local := by first | exact .inl rfl | exact .inr rfl) : DS K X (.Assign [.Name x pos'] e pos) (fun E ρ => f ρ fun d ρ' => E.nx (ρ'.set i (.sh d))) := ⟨fun hK => ps_imp (L2.ps_set hN hi hx (he.pe hK) hs hf) fun D σ H q => by
  obtain ⟨c, ρ, E, wf, s0, g, kn, kr, kb, kc⟩ := q
  refine ⟨c, ρ, _, s0, g, fun v H' d ρ' A r p => ?_⟩
  obtain ⟨s2, sm2⟩ := A.st.setSh i r
  exact kn _ _ H' s2 (A.sm.trans sm2) p⟩
theorem ds_asgM {f : FM} {tg : Expr} {vs : List Nat} {fg : FG} (he : DM K X e f) (hg : DG K X tg vs fg) (hs : swapsWithSole [tg] e pos.line X.env = pure false := by rfl) (hw : swappedStores [tg] e X.env = pure none := by rfl)
    (h1 : (assignEach [tg] X.env).map (·.2) = [assign tg X.env] := by rfl) : DS K X (.Assign [tg] e pos) (fun E ρ => f ρ fun d ρ' => fg d ρ' E.nx) := ⟨fun hK => ps_imp (ps_asg (he.pe hK) (hg.pg hK) hs hw h1) fun D σ H q => by
  obtain ⟨c, ρ, E, wf, s0, g, kn, kr, kb, kc⟩ := q
  exact ⟨c, ρ, _, s0, g, fun v H' d ρ' A r p => ⟨c, ρ', d, _, A.st, r, p, fun σ2 ρ2 s2 sm2 _ q => kn σ2 ρ2 H' s2 (A.sm.trans sm2) q⟩⟩⟩
/-! ### methods of a list of one's own -/
variable {x : Str} {p apos cpos p2 : Pos}
abbrev GM := List D → List D → (D → List D → Prop) → Prop
/-- what a method of lists owes, by values -/
def MOk (K : PySem.W.Frag) (r : V → List V → Hp → VK → Prop) (g : GM) : Prop := ∀ (m H : Hp) (a : Addr) (xs ys : List V) (ds es : List D) (P : D → List D → Prop) (Q : VK), H a = some (.lst xs) → (∀ b o, m b = some o → H b = some o) → RpAll K m xs ds → RpAll K m ys es → g ds es P →
  (∀ v xs' d ds', Rp K m v d → RpAll K m xs' ds' → P d ds' → Q v (upd H a (.lst xs'))) → r (.ref a) ys H Q
theorem e_bmOl {r : V → List V → Hp → VK → Prop} {g : GM} {fs : FA} (i : Nat) (hr : MOk K r g) (σ : St) (H : Hp) (Q : VK) (q : mOf K (fun ρ P => olAt ρ[i]? fun ds => fs ρ fun es => g ds es fun d ds' => P d (ρ.set i (.ol ds'))) σ H Q) : tBM K "list" r (tVar i) (aOf K fs) σ H Q := by
  obtain ⟨c, ρ, P, st, f, k⟩ := q
  obtain ⟨a, xs, ds, h1, h2, h3, h4, h5, f⟩ := st.ol f
  refine ⟨.ref a, h2, .inl ⟨rfl, xs, .inl (.inl h3)⟩, c, ρ, _, st, f, fun ys H1 es A r1 p => ?_⟩
  obtain ⟨a', xs1, e1, e2, e3, e4⟩ := A.st.slot i _ h1
  rw [h2] at e1
  cases e1
  refine hr (M c σ ρ H1) H1 a xs1 ys ds es _ Q e2 (fun b o z => (msk_some z).2) e3 r1 p fun v xs' d ds' rv rx p2 => ?_
  obtain ⟨s2, sm2⟩ := A.st.setOl (xs := []) h1 h2 h5 rx
  exact k v _ d _ ((AftM.of st A).trans ⟨s2, sm2, own_swap h1 rfl rfl, fun b o z1 z2 _ e => by rw [upd_ne (fun z : b = a => by subst z; exact z2 ⟨i, _, h1, rfl, h2⟩)]; exact e⟩) (rv.mono sm2) p2
theorem dm_bm {name : Str} {id : String} {r : V → List V → Hp → VK → Prop} {g : GM} {es : List Expr} {fs : FA} (i : Nat) (slot : Slot "list" name id) (hty : typeOf (.builtin id) = pure (.type "method_descriptor")) (hm : MtR X id r) (hr : MOk K r g) (ha : DA K X (e :: es) fs)
    (hN : X.N[i]? = some x := by rfl) (hv : Vis X.env.scope x := by first | exact Or.inl rfl | exact Or.inr (Or.inl rfl) | exact Or.inr (Or.inr rfl))
    (hd1 : (x == ("__debug__" : Str)) = false := by decide) (hcd : (x == ("__classdict__" : Str)) = false := by decide)
    (hbase : attributeBase (.Name x p) name X.env (eval (.Name x p) X.env) = eval (.Name x p) X.env := by rfl)
    (hfew : ((backTo cpos (starEach (e :: es) X.env)).all (fun x => !x.1) && (backToKw cpos (keywordEach [] X.env)).all (fun x => x.1.isSome) && decide ((e :: es).length + ([] : List Keyword).length + (if ([] : List Keyword).isEmpty then 0 else 1) < 30)) = true := by rfl)
    (hline : (apos.endLine == cpos.line) = true := by rfl) (hs : starEach (e :: es) X.env = (false, eval e X.env) :: starEach es X.env := by rfl) (hplain : (backTo cpos (starEach es X.env)).any (·.1) = false := by rfl) :
    DM K X (.Call (.Attribute (.Name x p) name apos) (e :: es) [] cpos) (fun ρ P => olAt ρ[i]? fun ds => fs ρ fun es => g ds es fun d ds' => P d (ρ.set i (.ol ds'))) := ⟨fun hK => by
  subst hK
  exact pe_imp (pe_bm PySem.F.plainAttrs_list slot hty hm (pe_var hN hv hd1 hcd) (ha.pa rfl) hbase hfew hline hs hplain) (e_bmOl i hr)⟩
theorem dm_bm0 {name : Str} {id : String} {r : V → List V → Hp → VK → Prop} {g : GM} (i : Nat) (slot : Slot "list" name id) (hty : typeOf (.builtin id) = pure (.type "method_descriptor")) (hm : MtR X id r) (hr : MOk K r g)
    (hN : X.N[i]? = some x := by rfl) (hv : Vis X.env.scope x := by first | exact Or.inl rfl | exact Or.inr (Or.inl rfl) | exact Or.inr (Or.inr rfl))
    (hd1 : (x == ("__debug__" : Str)) = false := by decide) (hcd : (x == ("__classdict__" : Str)) = false := by decide)
    (hbase : attributeBase (.Name x p) name X.env (eval (.Name x p) X.env) = eval (.Name x p) X.env := by rfl) (hline : (apos.endLine == cpos.line) = true := by rfl) :
    DM K X (.Call (.Attribute (.Name x p) name apos) [] [] cpos) (fun ρ P => olAt ρ[i]? fun ds => g ds [] fun d ds' => P d (ρ.set i (.ol ds'))) := ⟨fun hK => by
  subst hK
  refine pe_imp (pe_bm0 PySem.F.plainAttrs_list slot hty hm (pe_var hN hv hd1 hcd) hbase hline) fun σ H Q q => ?_
  obtain ⟨c, ρ, P, st, f, k⟩ := q
  obtain ⟨a, xs, ds, h1, h2, h3, h4, h5, f⟩ := st.ol f
  refine ⟨.ref a, h2, .inl ⟨rfl, xs, .inl (.inl h3)⟩, ?_⟩
  refine hr (M c σ ρ H) H a xs [] ds [] _ Q h3 (fun b o z => (msk_some z).2) h4 .nil f fun v xs' d ds' rv rx p2 => ?_
  obtain ⟨s2, sm2⟩ := st.setOl (xs := []) h1 h2 h5 rx
  exact k v _ d _ ⟨s2, sm2, own_swap h1 rfl rfl, fun b o z1 z2 _ e => by rw [upd_ne (fun z : b = a => by subst z; exact z2 ⟨i, _, h1, rfl, h2⟩)]; exact e⟩ (rv.mono sm2) p2⟩
def gmApp : GM := fun ds es P => match es with
  | [d] => ds.length < sizeLine ∧ P .non (ds ++ [d])
  | _ => False
theorem mok_app : MOk K rAppend gmApp := fun m H a xs ys ds es P Q h1 h2 r1 r2 f k => by
  match r2 with
  | .nil => exact f.elim
  | .cons ry .nil => exact ⟨a, xs, _, rfl, rfl, h1, by rw [r1.length]; exact f.1, k _ _ _ _ .non (r1.append (.one ry)) f.2⟩
  | .cons _ (.cons _ _) => exact f.elim
def gmExt : GM := fun ds es P => match es with
  | [.lst es] => ds.length + es.length ≤ sizeLine ∧ P .non (ds ++ es)
  | _ => False
theorem mok_ext : MOk K rExtend gmExt := fun m H a xs ys ds es P Q h1 h2 r1 r2 f k => by
  match r2 with
  | .nil => exact f.elim
  | .cons (d := .lst es) (.lst hb rb) .nil => exact ⟨a, _, xs, _, rfl, rfl, h1, h2 _ _ hb, by rw [r1.length, rb.length]; exact f.1, k _ _ _ _ .non (r1.append rb) f.2⟩
  | .cons (d := .non) _ .nil => exact f.elim
  | .cons (d := .bl _) _ .nil => exact f.elim
  | .cons (d := .int _) _ .nil => exact f.elim
  | .cons (d := .str _) _ .nil => exact f.elim
  | .cons (d := .tup _) _ .nil => exact f.elim
  | .cons (d := .dic _ _) _ .nil => exact f.elim
  | .cons (d := .obj _) _ .nil => exact f.elim
  | .cons (d := .ty _) _ .nil => exact f.elim
  | .cons (d := d1) _ (.cons _ _) => cases d1 <;> exact f.elim
def gmPop : GM := fun ds es P => match es with
  | [] => ∃ d, ds[ds.length - 1]? = some d ∧ P d ds.dropLast
  | _ => False
theorem mok_pop : MOk K rPop gmPop := fun m H a xs ys ds es P Q h1 h2 r1 r2 f k => by
  match r2 with
  | .nil =>
    obtain ⟨d, e1, e2⟩ := f
    obtain ⟨y, e3, e4⟩ := r1.get e1
    exact ⟨a, xs, y, rfl, rfl, h1, by rw [r1.length]; exact e3, k _ _ _ _ e4 r1.dropLast e2⟩
  | .cons _ _ => exact f.elim
theorem RpAll.eraseIdx {H : Hp} : ∀ {vs : List V} {ds : List D} (i : Nat), RpAll K H vs ds → RpAll K H (vs.eraseIdx i) (ds.eraseIdx i)
  | _, _, _, .nil => .nil
  | _, _, 0, .cons _ t => t
  | _, _, i + 1, .cons q t => .cons q (RpAll.eraseIdx i t)
def gmPopAt : GM := fun ds es P => match es with
  | [.int i] => -(2 ^ 63) ≤ i ∧ i < 2 ^ 63 ∧ ∃ k d, seqIndex? i ds.length = some k ∧ ds[k]? = some d ∧ P d (ds.eraseIdx k)
  | _ => False
theorem mok_popAt : MOk K rPopAt gmPopAt := fun m H a xs ys ds es P Q h1 h2 r1 r2 f k => by
  match r2 with
  | .nil => exact f.elim
  | .cons (d := .int i) (.int _) .nil =>
    obtain ⟨b1, b2, j, d, e1, e2, e3⟩ := f
    obtain ⟨y, e4, e5⟩ := r1.get e2
    exact ⟨a, xs, i, j, y, rfl, rfl, h1, b1, b2, by rw [r1.length]; exact e1, e4, k _ _ _ _ e5 (r1.eraseIdx j) e3⟩
  | .cons (d := .lst _) _ .nil => exact f.elim
  | .cons (d := .non) _ .nil => exact f.elim
  | .cons (d := .bl _) _ .nil => exact f.elim
  | .cons (d := .str _) _ .nil => exact f.elim
  | .cons (d := .tup _) _ .nil => exact f.elim
  | .cons (d := .dic _ _) _ .nil => exact f.elim
  | .cons (d := .obj _) _ .nil => exact f.elim
  | .cons (d := .ty _) _ .nil => exact f.elim
  | .cons (d := d1) _ (.cons _ _) => cases d1 <;> exact f.elim
/-! ### a dict of one's own -/
def putKs (ks : List DK) (k : DK) : List DK := if memK k ks = true then ks else ks ++ [k]
def putDs (ks : List DK) (ds : List D) (k : DK) (d : D) : List D := if memK k ks = true then (ks.zip ds).map fun p => if p.1 = k then d else p.2 else ds ++ [d]
theorem any_memK {k : DK} {kvs : List (Key × V)} {ks : List DK} (h : kvs.map (·.1) = ks.map dkey) : (kvs.any fun kv => decide (kv.1 = dkey k)) = memK k ks := by
  rw [valV_any]; exact valV_none h
theorem putK_keys {k : DK} {v : V} {kvs : List (Key × V)} {ks : List DK} (h : kvs.map (·.1) = ks.map dkey) : (putK kvs (dkey k) v).map (·.1) = (putKs ks k).map dkey := by
  unfold putK putKs
  rw [any_memK h]
  split
  · rw [← h, List.map_map]
    apply List.map_congr_left
    intro p _
    show (if p.1 = dkey k then (p.1, v) else p).1 = p.1
    split <;> rfl
  · rw [List.map_append, List.map_append, h]; rfl
theorem repl_rp {H : Hp} {k : DK} {v : V} {d : D} (rv : Rp K H v d) : ∀ {kvs : List (Key × V)} {ks : List DK} {ds : List D}, kvs.map (·.1) = ks.map dkey → RpAll K H (kvs.map (·.2)) ds →
    RpAll K H ((kvs.map fun kv => if kv.1 = dkey k then (kv.1, v) else kv).map (·.2)) ((ks.zip ds).map fun p => if p.1 = k then d else p.2)
  | [], ks, ds, _, r => by cases r; simp; exact .nil
  | p :: kvs, [], ds, h, _ => by simp at h
  | p :: kvs, k' :: ks, ds, h, r => by
    rw [List.map_cons, List.map_cons, List.cons.injEq] at h
    cases r with
    | @cons _ _ d' ds' r1 t =>
      rw [List.zip_cons_cons, List.map_cons, List.map_cons, List.map_cons]
      refine .cons ?_ (repl_rp rv h.2 t)
      by_cases e : k' = k
      · rw [if_pos (by rw [h.1, e])]
        simp only [if_pos e]
        exact rv
      · rw [if_neg (fun z => e (dkey_inj (h.1.symm.trans z)))]
        simp only [if_neg e]
        exact r1
theorem putK_rp {H : Hp} {k : DK} {v : V} {d : D} (rv : Rp K H v d) {kvs : List (Key × V)} {ks : List DK} {ds : List D} (h : kvs.map (·.1) = ks.map dkey) (r : RpAll K H (kvs.map (·.2)) ds) : RpAll K H ((putK kvs (dkey k) v).map (·.2)) (putDs ks ds k d) := by
  unfold putK putDs
  rw [any_memK h]
  split
  · exact repl_rp rv h r
  · rw [List.map_append]; exact r.append (.one rv)
theorem keysOk_put {H : Hp} {v : V} {d : D} {ks : List DK} {k : DK} (hz : KeysOk ks) (r : Rp K H v d) (hk : keyD d = some k) : KeysOk (putKs ks k) := fun l hl => by
  unfold putKs at hl
  split at hl
  · exact hz l hl
  · rcases List.mem_append.mp hl with h | h
    · exact hz l h
    · rw [List.mem_singleton] at h
      subst h
      cases r with
      | str z hz' => cases hk; exact hz'
      | _ => cases hk
theorem StR.setOd {c : Fx} {σ : St} {ρ : Rho} {H : Hp} (st : StR K c σ ρ H) {i : Nat} {a : Addr} {ks ks' : List DK} {ds ds' : List D} {kvs kvs' : List (Key × V)} (hi : ρ[i]? = some (.od ks ds)) (hv : σ[i]? = some (some (.ref a))) (hB : c.B a = none) (hk : kvs'.map (·.1) = ks'.map dkey) (hz : KeysOk ks')
    (r : RpAll K (M c σ ρ H) (kvs'.map (·.2)) ds') : StR K c σ (ρ.set i (.od ks' ds')) (upd H a (.dK kvs')) ∧ Same (M c σ ρ H) (M c σ (ρ.set i (.od ks' ds')) (upd H a (.dK kvs'))) :=
  st.change i hi rfl rfl hv (fun t n z => by cases z) fun m sm => ⟨a, kvs', rfl, upd_same, hk, hz, r.mono sm, hB⟩
def gDput (i : Nat) (fk fv : FE) : FS := fun E ρ => fv ρ fun d => odAt ρ[i]? fun ks ds => fk ρ fun y => ∃ k, keyD y = some k ∧ ks.length < sizeLine ∧ E.nx (ρ.set i (.od (putKs ks k) (putDs ks ds k d)))
theorem ds_dput {ek ev : Expr} {fk fv : FE} {pos' : Pos} (i : Nat) (hr : X.K = K → X.A.units + 64 < cLine) (hk : DE K X ek fk) (hv : DE K X ev fv) (hN : X.N[i]? = some x := by rfl) (hvis : Vis X.env.scope x := by first | exact Or.inl rfl | exact Or.inr (Or.inl rfl) | exact Or.inr (Or.inr rfl))
    (hd1 : (x == ("__debug__" : Str)) = false := by decide) (hcd : (x == ("__classdict__" : Str)) = false := by decide) (hs : swapsWith ev (some (.Subscript (.Name x p) ek pos')) pos.line X.env = pure false := by rfl) :
    DS K X (.Assign [.Subscript (.Name x p) ek pos'] ev pos) (gDput i fk fv) := ⟨fun hK => by
  have hu := hr hK
  refine ps_imp (ps_dput (by omega) (pe_var hN hvis hd1 hcd) (hk.pe hK) (hv.pe hK) hs) fun D σ H q => ?_
  obtain ⟨c, ρ, E, wf, s0, g, kn, kr, kb, kc⟩ := q
  refine ⟨c, ρ, _, s0, g, fun v H1 d A rv p => ?_⟩
  obtain ⟨a, kvs, ks, ds, h1, h2, h3, h4, hz, h5, h6, p⟩ := A.st.od p
  refine ⟨.ref a, h2, c, ρ, _, A.st, p, fun y H2 dy A2 ry ⟨k, e1, e2, p⟩ => ?_⟩
  obtain ⟨a', kvs1, q1, q2, q3, q4, q5, q6⟩ := A2.st.slot i _ h1
  rw [h2] at q1
  cases q1
  have hl : kvs1.length = ks.length := by simpa using congrArg List.length q3
  have ey := keyD_rp ry e1
  subst ey
  obtain ⟨s2, sm2⟩ := A2.st.setOd (kvs := []) h1 h2 h6 (putK_keys (v := v) q3) (keysOk_put q4 ry e1) (putK_rp (rv.mono A2.sm) q3 q5)
  exact ⟨a, _, rfl, .k q2 (by rw [hl]; exact e2), kn _ _ _ s2 ((A.sm.trans A2.sm).trans sm2) p⟩⟩
/-! ### what one owns is read: nothing of it stays in the value -/
def thawS : Sl → Sl
  | .no => .no
  | .sh d => .sh d
  | .ol ds => .sh (.lst ds)
  | .od ks ds => .sh (.dic ks ds)
  | .tk _ _ => .no
  | .ot _ d => .sh d
def thawR (ρ : Rho) : Rho := ρ.map thawS
theorem thaw_sh {ρ : Rho} : ∀ s ∈ thawR ρ, s.own = false := fun s hs => by
  obtain ⟨t, _, rfl⟩ := List.mem_map.mp hs
  cases t <;> rfl
/-- one that is a list, a dict of one's own -/
def hard (σ : St) (ρ : Rho) (b : Addr) : Prop := ∃ (i : Nat) (s : Sl), ρ[i]? = some s ∧ s.own = true ∧ (∀ t n, s ≠ .tk t n) ∧ σ[i]? = some (some (.ref b))
def thawC (c : Fx) (σ : St) (ρ : Rho) (H : Hp) : Fx := ⟨H, fun b => Ow c σ ρ b ∧ ¬ hard σ ρ b, none⟩
theorem StR.thaw {c : Fx} {σ : St} {ρ : Rho} {H : Hp} (st : StR K c σ ρ H) : StR K (thawC c σ ρ H) σ (thawR ρ) H := by
  have hM : M (thawC c σ ρ H) σ (thawR ρ) H = msk (thawC c σ ρ H).O H := M_of fun b => ⟨fun h => h.resolve_right (own_sh thaw_sh b), .inl⟩
  have sm : Same (M c σ ρ H) (msk (thawC c σ ρ H).O H) := msk_le fun b h => h.1
  have at_ : ∀ a, hard σ ρ a → msk (thawC c σ ρ H).O H a = H a := fun a h => msk_of fun z => z.2 h
  refine ⟨by rw [← st.len]; exact List.length_map _, fun i s hi => ?_, fun i j s t a h1 h2 h3 => ?_, fun b o _ h => h, fun b h => st.ow_some h.1, (fun t h => by cases h), (fun t h => by cases h)⟩
  · rw [hM]
    unfold thawR at hi
    rw [List.getElem?_map] at hi
    obtain ⟨s', e1, e2⟩ := Option.map_eq_some_iff.mp hi
    have q := st.slot i s' e1
    subst e2
    cases s' with
    | no => trivial
    | sh d => obtain ⟨x, h1, h2⟩ := q; exact ⟨x, h1, h2.mono sm⟩
    | ol ds =>
      obtain ⟨a, xs, h1, h2, h3, h4⟩ := q
      exact ⟨.ref a, h1, .lst ((at_ a ⟨i, _, e1, rfl, (fun t n z => by cases z), h1⟩).trans h2) (h3.mono sm)⟩
    | od ks ds =>
      obtain ⟨a, xs, h1, h2, h3, hz, h4, h5⟩ := q
      exact ⟨.ref a, h1, .dic (.inl ((at_ a ⟨i, _, e1, rfl, (fun t n z => by cases z), h1⟩).trans h2)) h3 hz (h4.mono sm)⟩
    | tk t n => trivial
    | ot a d =>
      obtain ⟨h1, ⟨o, h2, h3⟩, h4⟩ := q
      have ha := at_ a ⟨i, _, e1, rfl, (fun t n z => by cases z), h1⟩
      refine ⟨.ref a, h1, ?_⟩
      cases d with
      | lst ds => obtain ⟨xs, z1, z2⟩ := h3; subst z1; exact .lst (ha.trans h2) (z2.mono sm)
      | dic ks ds => obtain ⟨xs, z1, z2, z3, z4⟩ := h3; subst z1; exact .dic (.inl (ha.trans h2)) z2 z3 (z4.mono sm)
      | _ => exact h3.elim
  · rw [thaw_sh s (List.mem_of_getElem? h1)] at h3
    cases h3
theorem Aft.thaw {c : Fx} {σ : St} {ρ : Rho} {H H' : Hp} (st : StR K c σ ρ H) (A : Aft K (thawC c σ ρ H) σ (thawR ρ) H H') : Same H H' := fun b o e => by
  by_cases z : Ow (thawC c σ ρ H) σ (thawR ρ) b
  · exact A.oo b o z (fun q => by cases q) (fun ⟨_, q⟩ => by have := thaw_sh _ q; cases this) e
  · have : M (thawC c σ ρ H) σ (thawR ρ) H b = some o := by show msk _ _ _ = _; rw [msk_of z]; exact e
    exact (msk_some (A.sm b o this)).2
theorem Rp.flatTo {H H' : Hp} {v : V} {d : D} (r : Rp K H v d) (h : flatD d = true) : Rp K H' v d := by
  cases r with
  | non => exact .non
  | bl b => exact .bl b
  | int i => exact .int i
  | str l hl => exact .str l hl
  | _ => cases h
def fThaw (f : FE) : FE := fun ρ P => f (thawR ρ) fun d => flatD d = true ∧ P d
theorem de_thaw (h : DE K X e fa) : DE K X e (fThaw fa) := ⟨fun hK => pe_imp (h.pe hK) fun σ H Q q => by
  obtain ⟨c, ρ, P, st, f, k⟩ := q
  refine ⟨thawC c σ ρ H, thawR ρ, _, st.thaw, f, fun v H' d A r p => ?_⟩
  exact k v H' d (.grow st (Aft.thaw st A)) (r.flatTo p.1) p.2⟩
def ftThaw (f : FT) : FT := fun ρ P => f (thawR ρ) P
theorem dt_thaw {f : FT} (h : DT K X e f) : DT K X e (ftThaw f) := ⟨fun hK => pt_imp (h.pt hK) fun σ H Q q => by
  obtain ⟨c, ρ, P, st, f, k⟩ := q
  refine ⟨thawC c σ ρ H, thawR ρ, _, st.thaw, f, fun b H' A p => ?_⟩
  exact k b H' (.grow st (Aft.thaw st A)) p⟩
end
end DL
/-! The layer DL: what is walked; built-ins. -/
namespace L2
open PySem PySem.Spec PyProof.Rows
section
variable {X : Cx} {tg : Expr}
/-- a list, a tuple, a text, walked -/
theorem pi_seq {l : Expr} {tl : TE} (hl : PE X l tl) : PI X tg l (fun σ H R => tl σ H fun x H1 => (∃ a xs, x = .ref a ∧ SqL X.K H1 a xs ∧ R (Itl X.K a) H1) ∨ (∃ a xs, x = .ref a ∧ SqT X.K H1 a xs ∧ R (Itt X.K a) H1) ∨ ∃ z, x = .str z ∧ R (Its z) H1) := by
  refine ⟨fun pins s σ H R I h => ?_⟩
  refine thn (hl.run pins s σ H _ I h) fun v s1 ⟨x, H1, I1, r1, q1⟩ => ?_
  rcases q1 with ⟨a, xs, e, hq, q⟩ | ⟨a, xs, e, hq, q⟩ | ⟨z, e, q⟩
  · subst e
    cases r1
    obtain ⟨its, rv, p, hz⟩ := I1.list hq
    refine wpAny_pyIter_list p.isList ?_
    refine ⟨s1.heap.objs.size, [s1.heap.objs.size], _, _, H1, rfl, I1.kept (t' := s1.toks) fun b o e => Heap.get?_push_of_some _ e, turn_list a _, ⟨_, Heap.get?_push_size _ rfl, rfl, rfl⟩, fun b hb => ?_, q⟩
    have e : b = s1.heap.objs.size := by simpa using hb
    subst e
    exact I1.fpOk (Nat.le_refl _) (I1.hok.fresh (Nat.le_refl _))
  · subst e
    cases r1
    obtain ⟨its, rv, p, hz⟩ := I1.tuple hq
    refine wpAny_pyIter_tuple (show s1.heap.IsTuple a its.toArray from p) ?_
    refine ⟨s1.heap.objs.size, [s1.heap.objs.size], _, _, H1, rfl, I1.kept (t' := s1.toks) fun b o e => Heap.get?_push_of_some _ e, turn_tuple a _, ⟨_, Heap.get?_push_size _ rfl, rfl, rfl⟩, fun b hb => ?_, q⟩
    have e : b = s1.heap.objs.size := by simpa using hb
    subst e
    exact I1.fpOk (Nat.le_refl _) (I1.hok.fresh (Nat.le_refl _))
  · subst e
    obtain ⟨t, rfl⟩ := r1
    cases ha : z.cps.all (· < 128)
    · exact wpAny_pyIter_wide ha (pi_one (tk := s1.toks) I1 _ (turn_str _ z t "str_iterator" (.inr rfl)) ⟨_, Heap.get?_push_size _ rfl, rfl, rfl⟩ q)
    · exact wpAny_pyIter_ascii ha (pi_one (tk := s1.toks) I1 _ (turn_str _ z t "str_ascii_iterator" (.inl rfl)) ⟨_, Heap.get?_push_size _ rfl, rfl, rfl⟩ q)
/-- list(range(a, b, c)) -/
theorem pe_listRg3 {a b c : Expr} {ta : TA} {p pos p2 pos2 : Pos} (hc : X.calm = true) (hg : Gl X "list") (hm : X.mg "list" = none) (hg2 : Gl X "range") (hm2 : X.mg "range" = none) (ha : PA X [a, b, c] ta)
    (hs : starEach [a, b, c] X.env = (false, eval a X.env) :: starEach [b, c] X.env := by rfl) (hpl : (backTo pos2 (starEach [b, c] X.env)).any (·.1) = false := by rfl)
    (na : starEach [.Call (.Name "range" p2) [a, b, c] [] pos2] X.env = (false, eval (.Call (.Name "range" p2) [a, b, c] [] pos2) X.env) :: starEach [] X.env := by rfl) :
    PE X (.Call (.Name "list" p) [.Call (.Name "range" p2) [a, b, c] [] pos2] [] pos) (fun σ H Q => ta σ H fun vs H1 => ∃ (i j k : Int) (n : Nat), vs = [.int i, .int j, .int k] ∧ RgC i j k n ∧ n ≤ 2 ^ 24 ∧ ∀ q, H1 q = none → Q (.ref q) (upd H1 q (.lst ((List.range n).map fun m => V.int (i + (m : Nat) * k))))) := by
  refine ⟨fun pins s σ H Q I h => ?_⟩
  refine Call_ (ld_blt I hg hm boot_list (PyProof.Rows.callWith_type1 (args_cons ?_ na) na))
  refine Call_ (ld_blt I hg2 hm2 boot_range (PyProof.Rows.callWith_type1 (thn (ha.run pos2 pins s σ H _ I h) fun us s1 ⟨vs, H1, I1, r1, q1⟩ => ?_) hs hpl))
  obtain ⟨i, j, k, n, e, ⟨c0, c1, c2, c3⟩, hn, q⟩ := q1
  subst e
  cases r1 with
  | cons r rr =>
    cases rr with
    | cons r' rr =>
      cases rr with
      | cons r'' rr =>
        cases rr
        obtain ⟨t, rfl⟩ := r
        obtain ⟨t', rfl⟩ := r'
        obtain ⟨t'', rfl⟩ := r''
        refine call_range_3 c0 ?_ (.inl (PyProof.noPylong_small c1))
        refine args_nil ?_
        have I2 : Inv X pins σ H1 { s1 with heap := s1.heap.push { cls := .type "range", data := .fields #[.int i t, .int j t', .int k t''] } } := I1.kept (t' := s1.toks) fun b o e => Heap.get?_push_of_some _ e
        refine call_list_range (n := n) (I2.ok.hd hc) (IsRange.new ..) c2 c3 hn fun h' tk acc c' hk e' hi => ?_
        refine ⟨.ref _, upd H1 _ (.lst ((List.range n).map fun m => V.int (i + (m : Nat) * k))), I2.laid hk (Nat.le_refl _) (show ObjOk X.prog X.w _ _ _ (.lst _) from ⟨?_, acc.toList, c', ?_, ?_⟩), rfl, q _ (I2.hok.fresh (Nat.le_refl _))⟩
        · rw [List.length_map, List.length_range, sizeLine_eq]; omega
        · have e : acc.toList.length = n := by rw [Array.length_toList]; exact hi.1
          rw [← e]
          refine vals_of_get acc.toList _ fun m u hm => ?_
          obtain ⟨t, rfl⟩ := hi.2 m u (by rw [← hm, Array.getElem?_toList])
          exact ⟨t, rfl⟩
        · rw [Array.toArray_toList]; exact e'
theorem eachRel {H : Hp} {s : Shared} {pins : List (Addr × Obj)} {σ : St} (I : Inv X pins σ H s) : ∀ {bs : List (V × PyData)} {us : List Value}, Vals (bs.map (·.1)) us → (∀ b ∈ bs, Dp X.K H b.1 b.2) →
    PySem.W.EachIs (fun (v : Value) (b : V × PyData) => RelV b.1 v) us bs ∧ PySem.W.EachIs (fun (v : Value) (b : V × PyData) => ∃ as, Reads s.heap v b.2 as) us bs
  | [], _, r, _ => by
    rw [List.map_nil] at r
    cases r
    exact ⟨.nil, .nil⟩
  | b :: bs, _, r, h => by
    rw [List.map_cons] at r
    cases r with
    | cons r1 t =>
      obtain ⟨q1, q2⟩ := eachRel I t fun x hx => h x (List.mem_cons_of_mem _ hx)
      exact ⟨.cons r1 q1, .cons (Dp.reads I _ _ _ (h b List.mem_cons_self) r1) q2⟩
theorem valsOfEach : ∀ {bs : List (V × PyData)} {us : List Value}, PySem.W.EachIs (fun (v : Value) (b : V × PyData) => RelV b.1 v) us bs → Vals (bs.map (·.1)) us
  | [], _, .nil => .nil
  | _ :: _, _, .cons h t => .cons h (valsOfEach t)
/-- sorted(xs) of plain data -/
def rSortedDat (K : PySem.W.Frag) : List V → Hp → VK → Prop := fun vs H Q => ∃ (a : Addr) (bs : List (V × PyData)), vs = [V.ref a] ∧ SqL K H a (bs.map (·.1)) ∧ (∀ b ∈ bs, Dp K H b.1 b.2) ∧ PySem.W.AllAlike (bs.map (·.2)) ∧ PySem.W.Sortable (bs.map (·.2)) ∧ (∀ b ∈ bs, b.2.depth ≤ 60) ∧
  ∀ p, H p = none → Q (.ref p) (upd H p (.lst ((bs.mergeSort (PySem.W.dataLe false (·.2))).map (·.1))))
theorem cr_sortedDat (hu : X.A.units + 64 < cLine) : CallR X (.builtin "sorted") (rSortedDat X.K) := by
  intro pins s σ H vs us Q I r h
  obtain ⟨a, bs, rfl, hs, hd, hal, hk, hdep, q⟩ := h
  obtain ⟨its, rv, hl, hz⟩ := I.list hs
  rw [Vals.ref1 r]
  obtain ⟨e1, e2⟩ := eachRel I rv hd
  rw [List.length_map] at hz
  refine PySem.W.sorted_data hl.isList e1 e2 hal hk hz (fun b hb => by have := hdep b hb; omega) fun out ho eo => ?_
  obtain ⟨ep, he'⟩ := PyProof.Rows.sortedAll_at s.heap its out.toArray
  have hlen : ((bs.mergeSort (PySem.W.dataLe false (·.2))).map (·.1)).length ≤ sizeLine := by
    rw [List.length_map, List.length_mergeSort]; exact hz
  exact ⟨.ref _, upd H (s.heap.objs.size + 1) (.lst _), I.laid (t' := s.toks) (fun _ _ => PyProof.Rows.sortedAll_old) (Nat.le_succ _) ⟨hlen, out, ep, valsOfEach eo, he'⟩, rfl, q _ (I.hok.fresh (Nat.le_succ _))⟩
/-- repr of plain data -/
def rRepr (K : PySem.W.Frag) : List V → Hp → VK → Prop := fun vs H Q => ∃ (a : Addr) (d : PyData), vs = [V.ref a] ∧ Dp K H (V.ref a) d ∧ d.showable = true ∧ d.hasDict = false ∧ d.depth ≤ 60 ∧ d.shown.length ≤ sizeLine ∧ Q (.str d.shown) H
theorem cr_repr (hu : X.A.units + 64 < cLine) (hg : X.A.guards = some []) : CallR X (.builtin "repr") (rRepr X.K) := by
  intro pins s σ H vs us Q I r h
  obtain ⟨a, d, rfl, hd, hs, hn, hdep, hz, q⟩ := h
  rw [Vals.ref1 r]
  obtain ⟨as, rd⟩ := Dp.reads I d (.ref a) (.ref a) hd rfl
  exact PySem.repr_of_reads' rd hs (fun z => by rw [hn] at z; cases z) hg (by omega) (fun _ _ e => e) (fun h' u tk hk => ⟨.str d.shown, H, I.kept (t' := tk) hk, ⟨u, rfl⟩, q⟩) hz
end
end L2
namespace DL
open PySem PySem.Spec PyProof.Rows L2
section
variable [TapeI] {K : PySem.W.Frag} {X : Cx} {pos : Pos} {e : Expr} {fa : FE} {fs : FA} {tg : Expr} {es : List Expr}
/-! ### what is walked -/
def chD (c : Nat) : D := .str [c]
def asSeq (d : D) (P : List D → Prop) : Prop := match d with
  | .tup ds => P ds
  | .lst ds => P ds
  | .str l => P (l.map chD)
  | _ => False
def fSeq (f : FE) : FA := fun ρ P => f ρ fun d => asSeq d P
theorem yl_at {O : Addr → Prop} {m H : Hp} (e : Same m (msk O H)) {xs : List V} {ds : List D} (r : RpAll K m xs ds) {i : Nat} {x : V} (hx : xs[i]? = some x) : ∃ d, ds[i]? = some d ∧ Same H H ∧ Rp K (msk O H) x d := by
  obtain ⟨d, e1, e2⟩ := r.getV hx
  exact ⟨d, e1, Same.refl _, e2.mono e⟩
theorem yl_seqL {m : Hp} {a : Addr} {xs : List V} {ds : List D} (h : m a = some (.lst xs)) (r : RpAll K m xs ds) : Yl K (Itl K a) m ds := fun O H hO e i => by
  have ha : SqL K H a xs := .inl (.inl (msk_some (e _ _ h)).2)
  refine ⟨fun hi => ?_, fun hi => ⟨xs, ha, by rw [r.length]; exact hi⟩, fun x H' _ ⟨e1, e2⟩ => ?_⟩
  · rw [← r.length] at hi
    exact ⟨xs, xs[i], ha, List.getElem?_eq_getElem hi⟩
  · subst e1
    exact yl_at e r (e2 xs ha)
theorem yl_seqT {m : Hp} {a : Addr} {xs : List V} {ds : List D} (h : SqT K m a xs) (r : RpAll K m xs ds) : Yl K (Itt K a) m ds := fun O H hO e i => by
  have ha : SqT K H a xs := Same.sqT same_msk (Same.sqT e h)
  refine ⟨fun hi => ?_, fun hi => ⟨xs, ha, by rw [r.length]; exact hi⟩, fun x H' _ ⟨e1, e2⟩ => ?_⟩
  · rw [← r.length] at hi
    exact ⟨xs, xs[i], ha, List.getElem?_eq_getElem hi⟩
  · subst e1
    exact yl_at e r (e2 xs ha)
theorem one_le : 1 ≤ sizeLine := by rw [sizeLine_eq]; decide
theorem yl_str {m : Hp} (l : Tx) : Yl K (Its (S l)) m (l.map chD) := fun O H hO e i => by
  have hs : (S l).cps.size = l.length := by simp [S]
  refine ⟨fun hi => ?_, fun hi => ?_, fun x H' _ ⟨e1, c, e2, e3⟩ => ?_⟩
  · show i < (S l).cps.size; rw [hs]; simpa using hi
  · show (S l).cps.size ≤ i; rw [hs]; simpa using hi
  · subst e1 e3
    have : l[i]? = some c := by simpa [S] using e2
    exact ⟨chD c, by rw [List.getElem?_map, this]; rfl, Same.refl _, .str [c] one_le⟩
theorem di_seq (h : DE K X e fa) : DI K X tg e (fSeq fa) := ⟨fun hK => by
  subst hK
  refine pi_imp (pi_seq (h.pe rfl)) fun σ H R q => ?_
  obtain ⟨c, ρ, P, st, f, k⟩ := q
  refine ⟨c, ρ, _, st, f, fun v H1 d A r p => ?_⟩
  cases r with
  | @lst a xs ds h1 r => exact .inl ⟨a, xs, rfl, .inl (.inl (msk_some h1).2), k _ H1 ds A (yl_seqL h1 r) p⟩
  | @tup a xs ds h1 r => exact .inr (.inl ⟨a, xs, rfl, Same.sqT same_msk h1, k _ H1 ds A (yl_seqT h1 r) p⟩)
  | str l hl => exact .inr (.inr ⟨S l, rfl, k _ H1 _ A (yl_str l) p⟩)
  | _ => exact p.elim⟩
def rngD (i c : Int) (n : Nat) : List D := (List.range n).map fun k => .int (i + (k : Nat) * c)
theorem rngD_get {i c : Int} {n k : Nat} (h : k < n) : (rngD i c n)[k]? = some (.int (i + (k : Nat) * c)) := by
  unfold rngD
  rw [List.getElem?_map, List.getElem?_range h]; rfl
theorem rngD_len (i c : Int) (n : Nat) : (rngD i c n).length = n := by simp [rngD]
theorem yl_rng {m : Hp} (i : Int) (n : Nat) : Yl K (Itr i n) m (rngD i 1 n) := fun O H hO e k => by
  refine ⟨fun hi => ?_, fun hi => ?_, fun x H' hk ⟨e1, e2⟩ => ?_⟩
  · show k < n; rwa [rngD_len] at hi
  · show n ≤ k; rwa [rngD_len] at hi
  · subst e1 e2
    rw [rngD_len] at hk
    exact ⟨_, rngD_get hk, Same.refl _, by rw [Int.mul_one]; exact .int _⟩
theorem yl_rngc {m : Hp} (i c : Int) (n : Nat) : Yl K (Itc i c n) m (rngD i c n) := fun O H hO e k => by
  refine ⟨fun hi => ?_, fun hi => ?_, fun x H' hk ⟨e1, e2⟩ => ?_⟩
  · show k < n; rwa [rngD_len] at hi
  · show n ≤ k; rwa [rngD_len] at hi
  · subst e1 e2
    rw [rngD_len] at hk
    exact ⟨_, rngD_get hk, Same.refl _, .int _⟩
def int1 : List D → (Int → Prop) → Prop
  | [.int j], p => p j
  | _, _ => False
def int2 : List D → (Int → Int → Prop) → Prop
  | [.int i, .int j], p => p i j
  | _, _ => False
def int3 : List D → (Int → Int → Int → Prop) → Prop
  | [.int i, .int j, .int c], p => p i j c
  | _, _ => False
def fRng1 (fs : FA) : FA := fun ρ P => fs ρ fun ds => int1 ds fun j => -(2 ^ 62) ≤ j ∧ j < 2 ^ 62 ∧ P (rngD 0 1 j.toNat)
theorem ints1 {H : Hp} {vs : List V} {ds : List D} (r : RpAll K H vs ds) {p : Int → Prop} (f : int1 ds p) : ∃ j, vs = [.int j] ∧ p j := by
  match ds, r, f with
  | [.int j], .cons (.int _) .nil, f => exact ⟨j, rfl, f⟩
theorem di_range1 {a : Expr} {p : Pos} (hg : Gl X "range") (hm : X.mg "range" = none) (ha : DA K X [a] fs)
    (hs : starEach [a] X.env = [(false, eval a X.env)] := by rfl) : DI K X tg (.Call (.Name "range" p) [a] [] pos) (fRng1 fs) := ⟨fun hK => pi_imp (pi_range1 hg hm (ha.pa hK) hs) fun σ H R q => by
  obtain ⟨c, ρ, P, st, f, k⟩ := q
  refine ⟨c, ρ, _, st, f, fun vs H1 ds A r p => ?_⟩
  obtain ⟨j, e, p1, p2, p3⟩ := ints1 r p
  exact ⟨j, e, p1, p2, k _ H1 _ A (yl_rng 0 j.toNat) p3⟩⟩
def fRng2 (fs : FA) : FA := fun ρ P => fs ρ fun ds => int2 ds fun i j => (-(2 ^ 62) ≤ i ∧ i < 2 ^ 62 ∧ -(2 ^ 62) ≤ j ∧ j < 2 ^ 62) ∧ P (rngD i 1 (j - i).toNat)
theorem ints2 {H : Hp} {vs : List V} {ds : List D} (r : RpAll K H vs ds) {p : Int → Int → Prop} (f : int2 ds p) : ∃ i j, vs = [.int i, .int j] ∧ p i j := by
  match ds, r, f with
  | [.int i, .int j], .cons (.int _) (.cons (.int _) .nil), f => exact ⟨i, j, rfl, f⟩
theorem di_range2 {a b : Expr} {p : Pos} (hg : Gl X "range") (hm : X.mg "range" = none) (ha : DA K X [a, b] fs)
    (hs : starEach [a, b] X.env = [(false, eval a X.env), (false, eval b X.env)] := by rfl) (hs2 : starEach [b] X.env = [(false, eval b X.env)] := by rfl) : DI K X tg (.Call (.Name "range" p) [a, b] [] pos) (fRng2 fs) := ⟨fun hK => pi_imp (pi_range2 hg hm (ha.pa hK) hs hs2) fun σ H R q => by
  obtain ⟨c, ρ, P, st, f, k⟩ := q
  refine ⟨c, ρ, _, st, f, fun vs H1 ds A r p => ?_⟩
  obtain ⟨i, j, e, p1, p3⟩ := ints2 r p
  exact ⟨i, j, e, p1, k _ H1 _ A (yl_rng i (j - i).toNat) p3⟩⟩
def fRng3 (fs : FA) : FA := fun ρ P => fs ρ fun ds => int3 ds fun i j c => ∃ n, RgC i j c n ∧ P (rngD i c n)
theorem ints3 {H : Hp} {vs : List V} {ds : List D} (r : RpAll K H vs ds) {p : Int → Int → Int → Prop} (f : int3 ds p) : ∃ i j c, vs = [.int i, .int j, .int c] ∧ p i j c := by
  match ds, r, f with
  | [.int i, .int j, .int c], .cons (.int _) (.cons (.int _) (.cons (.int _) .nil)), f => exact ⟨i, j, c, rfl, f⟩
theorem di_range3 {a b c : Expr} {p : Pos} (hg : Gl X "range") (hm : X.mg "range" = none) (ha : DA K X [a, b, c] fs)
    (hs : starEach [a, b, c] X.env = (false, eval a X.env) :: starEach [b, c] X.env := by rfl) (hpl : (backTo pos (starEach [b, c] X.env)).any (·.1) = false := by rfl) : DI K X tg (.Call (.Name "range" p) [a, b, c] [] pos) (fRng3 fs) := ⟨fun hK => pi_imp (pi_range3 hg hm (ha.pa hK) hs hpl) fun σ H R q => by
  obtain ⟨c', ρ, P, st, f, k⟩ := q
  refine ⟨c', ρ, _, st, f, fun vs H1 ds A r p => ?_⟩
  obtain ⟨i, j, c, e, n, p1, p3⟩ := ints3 r p
  exact ⟨i, j, c, n, e, p1, k _ H1 _ A (yl_rngc i c n) p3⟩⟩
/-! ### lists of ranges -/
theorem rngV_rp {H : Hp} (i c : Int) (n : Nat) : RpAll K H ((List.range n).map fun m => V.int (i + (m : Nat) * c)) (rngD i c n) := by
  unfold rngD
  induction List.range n with
  | nil => exact .nil
  | cons k ks ih => exact .cons (.int _) ih
def fLstRg3 (fs : FA) : FE := fun ρ P => fs ρ fun ds => int3 ds fun i j c => ∃ n, RgC i j c n ∧ n ≤ 2 ^ 24 ∧ P (.lst (rngD i c n))
theorem de_lstRg3 {a b c : Expr} {p pos p2 pos2 : Pos} (hc : X.calm = true) (hg : Gl X "list") (hm : X.mg "list" = none) (hg2 : Gl X "range") (hm2 : X.mg "range" = none) (ha : DA K X [a, b, c] fs)
    (hs : starEach [a, b, c] X.env = (false, eval a X.env) :: starEach [b, c] X.env := by rfl) (hpl : (backTo pos2 (starEach [b, c] X.env)).any (·.1) = false := by rfl)
    (na : starEach [.Call (.Name "range" p2) [a, b, c] [] pos2] X.env = (false, eval (.Call (.Name "range" p2) [a, b, c] [] pos2) X.env) :: starEach [] X.env := by rfl) :
    DE K X (.Call (.Name "list" p) [.Call (.Name "range" p2) [a, b, c] [] pos2] [] pos) (fLstRg3 fs) := ⟨fun hK => pe_imp (pe_listRg3 hc hg hm hg2 hm2 (ha.pa hK) hs hpl na) fun σ H Q q => by
  obtain ⟨c', ρ, P, st, f, k⟩ := q
  refine ⟨c', ρ, _, st, f, fun vs H1 ds A r p => ?_⟩
  obtain ⟨i, j, c, e, n, p1, p2, p3⟩ := ints3 r p
  refine ⟨i, j, c, n, e, p1, p2, fun q hq => ?_⟩
  have en := same_new (o := .lst ((List.range n).map fun m => V.int (i + (m : Nat) * c))) hq
  exact k _ _ _ (A.trans (.grow A.st en)) (.lst (A.st.newM hq) (rngV_rp i c n)) p3⟩
def fLstRg1 (f : FE) : FE := fun ρ P => f ρ fun d => match d with
  | .int j => RgOk 0 j ∧ P (.lst (rngD 0 1 j.toNat))
  | _ => False
theorem rgV_rp {H : Hp} (i j : Int) : RpAll K H (rgV i j) (rngD i 1 (j - i).toNat) := by
  have := rngV_rp (K := K) (H := H) i 1 (j - i).toNat
  simpa [rgV] using this
theorem de_lstRg1 {a : Expr} {p pos p2 pos2 : Pos} (hc : X.calm = true) (hg : Gl X "list") (hm : X.mg "list" = none) (hg2 : Gl X "range") (hm2 : X.mg "range" = none) (ha : DE K X a fa)
    (na2 : starEach [a] X.env = (false, eval a X.env) :: starEach [] X.env := by rfl)
    (na : starEach [.Call (.Name "range" p2) [a] [] pos2] X.env = (false, eval (.Call (.Name "range" p2) [a] [] pos2) X.env) :: starEach [] X.env := by rfl) :
    DE K X (.Call (.Name "list" p) [.Call (.Name "range" p2) [a] [] pos2] [] pos) (fLstRg1 fa) := ⟨fun hK => pe_imp (pe_listRg hc hg hm (prg_1 hg2 hm2 (ha.pe hK) na2) na) fun σ H Q q => by
  obtain ⟨c', ρ, P, st, f, k⟩ := q
  refine ⟨c', ρ, _, st, f, fun v H1 d A r p => ?_⟩
  cases r with
  | int j =>
    refine ⟨j, rfl, p.1, fun q hq => ?_⟩
    have en := same_new (o := .lst (rgV 0 j)) hq
    have e : (j - 0).toNat = j.toNat := by rw [Int.sub_zero]
    exact k _ _ _ (A.trans (.grow A.st en)) (.lst (A.st.newM hq) (by rw [← e]; exact rgV_rp 0 j)) p.2
  | _ => exact p.elim⟩
def fLstRg2 (f g : FE) : FE := fun ρ P => f ρ fun d => g ρ fun e => match d, e with
  | .int i, .int j => RgOk i j ∧ P (.lst (rngD i 1 (j - i).toNat))
  | _, _ => False
theorem de_lstRg2 {a b : Expr} {fb : FE} {p pos p2 pos2 : Pos} (hc : X.calm = true) (hg : Gl X "list") (hm : X.mg "list" = none) (hg2 : Gl X "range") (hm2 : X.mg "range" = none) (ha : DE K X a fa) (hb : DE K X b fb)
    (na3 : starEach [a, b] X.env = (false, eval a X.env) :: starEach [b] X.env := by rfl) (nb : starEach [b] X.env = (false, eval b X.env) :: starEach [] X.env := by rfl) (hp : (backTo pos2 (starEach [b] X.env)).any (·.1) = false := by rfl)
    (na : starEach [.Call (.Name "range" p2) [a, b] [] pos2] X.env = (false, eval (.Call (.Name "range" p2) [a, b] [] pos2) X.env) :: starEach [] X.env := by rfl) :
    DE K X (.Call (.Name "list" p) [.Call (.Name "range" p2) [a, b] [] pos2] [] pos) (fLstRg2 fa fb) := ⟨fun hK => pe_imp (pe_listRg hc hg hm (prg_2 hg2 hm2 (ha.pe hK) (hb.pe hK) na3 nb hp) na) fun σ H Q q => by
  obtain ⟨c', ρ, P, st, f, k⟩ := q
  refine ⟨c', ρ, _, st, f, fun v H1 d A r p => ⟨c', ρ, _, A.st, p, fun w H2 e A2 r2 p => ?_⟩⟩
  cases r with
  | int i =>
    cases r2 with
    | int j =>
      refine ⟨i, j, rfl, rfl, p.1, fun q hq => ?_⟩
      have en := same_new (o := .lst (rgV i j)) hq
      exact k _ _ _ ((A.trans A2).trans (.grow A2.st en)) (.lst (A2.st.newM hq) (rgV_rp i j)) p.2
    | _ => exact p.elim
  | _ => exact p.elim⟩
end
end DL
/-! The layer DL: built-ins by plain data. -/
namespace DL
open PySem PySem.Spec PyProof.Rows L2
section
variable [TapeI] {K : PySem.W.Frag} {X : Cx} {pos : Pos} {e : Expr} {fa : FE} {fs : FA} {tg : Expr} {es : List Expr}
def a1 : List D → (D → Prop) → Prop
  | [d], p => p d
  | _, _ => False
def a2 : List D → (D → D → Prop) → Prop
  | [d, e], p => p d e
  | _, _ => False
theorem a1_rp {H : Hp} {vs : List V} {ds : List D} (r : RpAll K H vs ds) {p : D → Prop} (f : a1 ds p) : ∃ v d, vs = [v] ∧ Rp K H v d ∧ p d := by
  match ds, r, f with
  | [d], .cons h .nil, f => exact ⟨_, d, rfl, h, f⟩
theorem a2_rp {H : Hp} {vs : List V} {ds : List D} (r : RpAll K H vs ds) {p : D → D → Prop} (f : a2 ds p) : ∃ v w d e, vs = [v, w] ∧ Rp K H v d ∧ Rp K H w e ∧ p d e := by
  match ds, r, f with
  | [d, e], .cons h (.cons h' .nil), f => exact ⟨_, _, d, e, rfl, h, h', f⟩
/-! ### len -/
def lenD : D → Option Nat
  | .str l => some l.length
  | .tup ds => some ds.length
  | .lst ds => some ds.length
  | .dic ks _ => some ks.length
  | _ => none
def gLen : GA := fun ds P => a1 ds fun d => ∃ n, lenD d = some n ∧ P (.int (n : Nat))
/-- len of a dict of which is read -/
theorem dc_len : DCall K X (.builtin "len") (fun ds P => a1 ds fun d => ∃ n, lenD d = some n ∧ (∀ ks es, d ≠ .dic ks es) ∧ P (.int (n : Nat))) := ⟨_, call_len, fun hK O H vs ds P Q hO r g o => by
  subst hK
  obtain ⟨v, d, e, rd, n, hn, hd, p⟩ := a1_rp r g
  cases rd with
  | str l hl => cases hn; exact ⟨_, l.length, e, ⟨by rw [S_length]; exact hl, (S_length l).symm⟩, o.int p⟩
  | @lst a xs ds h r => cases hn; exact ⟨_, _, e, .inl ⟨xs, .inl (.inl (msk_some h).2), r.length.symm⟩, o.int p⟩
  | @tup a xs ds h r => cases hn; exact ⟨_, _, e, .inr ⟨xs, Same.sqT same_msk h, r.length.symm⟩, o.int p⟩
  | @dic a kvs ks ds h => exact (hd _ _ rfl).elim
  | _ => cases hn⟩
/-! ### tuple, list -/
def gTuple : GA := fun ds P => a1 ds fun d => match d with
  | .tup ds => P (.tup ds)
  | .lst ds => P (.tup ds)
  | _ => False
theorem dc_tuple : DCall K X (.type "tuple") gTuple := ⟨_, call_tuple_of, fun hK O H vs ds P Q hO r g o => by
  subst hK
  obtain ⟨v, d, e, rd, p⟩ := a1_rp r g
  cases rd with
  | @lst a xs ds h r => exact ⟨a, xs, e, .inl ⟨.inl (.inl (msk_some h).2), fun l hl => o.tup hO r p l hl⟩⟩
  | @tup a xs ds h r => exact ⟨a, xs, e, .inr ⟨Same.sqT same_msk h, o.ret (.tup h r) p⟩⟩
  | _ => exact p.elim⟩
def kD : DK → D
  | .inl i => .int i
  | .inr l => .str l
def gList : GA := fun ds P => a1 ds fun d => match d with
  | .tup ds => P (.lst ds)
  | .lst ds => P (.lst ds)
  | .dic ks _ => P (.lst (ks.map kD))
  | _ => False
theorem keys_rp {H : Hp} : ∀ {kvs : List (Key × V)} {ks : List DK}, kvs.map (·.1) = ks.map dkey → KeysOk ks → RpAll K H (kvs.map fun kv => kV kv.1) (ks.map kD)
  | [], [], _, _ => .nil
  | p :: kvs, k :: ks, h, z => by
    rw [List.map_cons, List.map_cons, List.cons.injEq] at h
    refine .cons ?_ (keys_rp h.2 fun l hl => z l (List.mem_cons_of_mem _ hl))
    show Rp K H (kV p.1) (kD k)
    rw [h.1]
    cases k with
    | inl i => exact .int i
    | inr l => exact .str l (z l List.mem_cons_self)
  | [], _ :: _, h, _ => by simp at h
  | _ :: _, [], h, _ => by simp at h
theorem dc_list (hc : X.calm = true) : DCall K X (.type "list") gList := ⟨_, call_list_of.or (call_listD hc), fun hK O H vs ds P Q hO r g o => by
  subst hK
  obtain ⟨v, d, e, rd, p⟩ := a1_rp r g
  cases rd with
  | @lst a xs ds h r => exact .inl ⟨a, xs, e, .inl (.inl (.inl (msk_some h).2)), fun l hl => o.lst hO r p l hl⟩
  | @tup a xs ds h r => exact .inl ⟨a, xs, e, .inr (Same.sqT same_msk h), fun l hl => o.lst hO r p l hl⟩
  | @dic a kvs ks ds h hk hz r => exact .inr ⟨a, kvs, e, Same.rd same_msk h, fun l hl => o.lst hO (keys_rp hk hz) p l hl⟩
  | _ => exact p.elim⟩
/-! ### all, any, sum, max, min -/
def bsOf : List D → Option (List Bool)
  | [] => some []
  | .bl b :: ds => (bsOf ds).map (b :: ·)
  | _ => none
def isOf : List D → Option (List Int)
  | [] => some []
  | .int b :: ds => (isOf ds).map (b :: ·)
  | _ => none
def ssOf : List D → Option (List Tx)
  | [] => some []
  | .str b :: ds => (ssOf ds).map (b :: ·)
  | _ => none
theorem bsOf_map : ∀ {ds : List D} {bs : List Bool}, bsOf ds = some bs → ds = bs.map .bl
  | [], bs, h => by cases h; rfl
  | d :: ds, bs, h => by
    cases d <;> first | (cases h; done) | skip
    unfold bsOf at h
    obtain ⟨cs, e1, e2⟩ := Option.map_eq_some_iff.mp h
    subst e2
    rw [bsOf_map e1]; rfl
theorem isOf_map : ∀ {ds : List D} {bs : List Int}, isOf ds = some bs → ds = bs.map .int
  | [], bs, h => by cases h; rfl
  | d :: ds, bs, h => by
    cases d <;> first | (cases h; done) | skip
    unfold isOf at h
    obtain ⟨cs, e1, e2⟩ := Option.map_eq_some_iff.mp h
    subst e2
    rw [isOf_map e1]; rfl
theorem ssOf_map : ∀ {ds : List D} {bs : List Tx}, ssOf ds = some bs → ds = bs.map .str
  | [], bs, h => by cases h; rfl
  | d :: ds, bs, h => by
    cases d <;> first | (cases h; done) | skip
    unfold ssOf at h
    obtain ⟨cs, e1, e2⟩ := Option.map_eq_some_iff.mp h
    subst e2
    rw [ssOf_map e1]; rfl
theorem bsOf_bl (bs : List Bool) : bsOf (bs.map .bl) = some bs := by
  induction bs with
  | nil => rfl
  | cons b bs ih => simp [bsOf, ih]
theorem isOf_int (bs : List Int) : isOf (bs.map .int) = some bs := by
  induction bs with
  | nil => rfl
  | cons b bs ih => simp [isOf, ih]
theorem ssOf_str (bs : List Tx) : ssOf (bs.map .str) = some bs := by
  induction bs with
  | nil => rfl
  | cons b bs ih => simp [ssOf, ih]
def gBools (f : List Bool → Bool) : GA := fun ds P => a1 ds fun d => match d with
  | .lst ds => ∃ bs, bsOf ds = some bs ∧ P (.bl (f bs))
  | _ => False
theorem dc_all (hc : X.calm = true) : DCall K X (.builtin "all") (gBools fun bs => bs.all id) := ⟨_, cr_all hc, fun hK O H vs ds P Q hO r g o => by
  subst hK
  obtain ⟨v, d, e, rd, p⟩ := a1_rp r g
  cases rd with
  | @lst a xs ds h r =>
    obtain ⟨bs, e2, p⟩ := p
    rw [bsOf_map e2] at r
    exact ⟨a, bs, e, .inl (.inl (by rw [← RpAll.bls r]; exact (msk_some h).2)), o.bl p⟩
  | _ => exact p.elim⟩
theorem dc_any (hc : X.calm = true) : DCall K X (.builtin "any") (gBools fun bs => bs.any id) := ⟨_, cr_any hc, fun hK O H vs ds P Q hO r g o => by
  subst hK
  obtain ⟨v, d, e, rd, p⟩ := a1_rp r g
  cases rd with
  | @lst a xs ds h r =>
    obtain ⟨bs, e2, p⟩ := p
    rw [bsOf_map e2] at r
    exact ⟨a, bs, e, .inl (.inl (by rw [← RpAll.bls r]; exact (msk_some h).2)), o.bl p⟩
  | _ => exact p.elim⟩
def gSum : GA := fun ds P => a1 ds fun d => match d with
  | .lst ds => ∃ bs, isOf ds = some bs ∧ P (.int bs.sum)
  | _ => False
theorem dc_sum (hc : X.calm = true) : DCall K X (.builtin "sum") gSum := ⟨_, cr_sum hc, fun hK O H vs ds P Q hO r g o => by
  subst hK
  obtain ⟨v, d, e, rd, p⟩ := a1_rp r g
  cases rd with
  | @lst a xs ds h r =>
    obtain ⟨bs, e2, p⟩ := p
    rw [isOf_map e2] at r
    exact ⟨a, bs, e, .inl (.inl (by rw [← RpAll.ints r]; exact (msk_some h).2)), o.int p⟩
  | _ => exact p.elim⟩
def gMax : GA := fun ds P => match ds with
  | [.int i, .int j] => P (.int (if j > i then j else i))
  | [.lst ds] => ∃ bs, isOf ds = some bs ∧ bs ≠ [] ∧ ∀ m ∈ bs, (∀ y ∈ bs, y ≤ m) → P (.int m)
  | _ => False
theorem dc_max (hc : X.calm = true) : DCall K X (.builtin "max") gMax := ⟨_, (call_max2 hc).or (cr_max hc), fun hK O H vs ds P Q hO r g o => by
  subst hK
  unfold gMax at g
  split at g
  · match r with
    | .cons (.int i) (.cons (.int j) .nil) => exact .inl ⟨_, _, rfl, o.int g⟩
  · match r with
    | .cons (.lst h r) .nil =>
      obtain ⟨bs, e2, n, p⟩ := g
      rw [isOf_map e2] at r
      exact .inr ⟨_, bs, rfl, .inl (.inl (by rw [← RpAll.ints r]; exact (msk_some h).2)), List.length_pos_iff.mpr n, fun m h1 h2 => o.int (p m h1 h2)⟩
  · exact g.elim⟩
def gMin : GA := fun ds P => match ds with
  | [.int i, .int j] => P (.int (if j < i then j else i))
  | [.lst ds] => ∃ bs, isOf ds = some bs ∧ bs ≠ [] ∧ ∀ m ∈ bs, (∀ y ∈ bs, m ≤ y) → P (.int m)
  | _ => False
theorem dc_min (hc : X.calm = true) : DCall K X (.builtin "min") gMin := ⟨_, (call_min2 hc).or (cr_min hc), fun hK O H vs ds P Q hO r g o => by
  subst hK
  unfold gMin at g
  split at g
  · match r with
    | .cons (.int i) (.cons (.int j) .nil) => exact .inl ⟨_, _, rfl, o.int g⟩
  · match r with
    | .cons (.lst h r) .nil =>
      obtain ⟨bs, e2, n, p⟩ := g
      rw [isOf_map e2] at r
      exact .inr ⟨_, bs, rfl, .inl (.inl (by rw [← RpAll.ints r]; exact (msk_some h).2)), List.length_pos_iff.mpr n, fun m h1 h2 => o.int (p m h1 h2)⟩
  · exact g.elim⟩
/-! ### int, str -/
def gInt : GA := fun ds P => a1 ds fun d => match d with
  | .int i => P (.int i)
  | .str l => l.length ≤ 640 ∧ ∃ n, PySem.intText? (S l) = some n ∧ P (.int n)
  | _ => False
theorem dc_int : DCall K X (.type "int") gInt := ⟨_, call_int1.or call_int_str, fun hK O H vs ds P Q hO r g o => by
  subst hK
  obtain ⟨v, d, e, rd, p⟩ := a1_rp r g
  cases rd with
  | int i => exact .inl (.inl ⟨i, e, o.int p⟩)
  | str l hl =>
    obtain ⟨p1, n, p2, p3⟩ := p
    exact .inr ⟨S l, n, e, p2, by rw [S_length]; exact p1, o.int p3⟩
  | _ => exact p.elim⟩
/-! ### isinstance -/
def tyN : D → Option String
  | .non => some "NoneType"
  | .bl _ => some "bool"
  | .int _ => some "int"
  | .str _ => some "str"
  | .tup _ => some "tuple"
  | .lst _ => some "list"
  | .dic _ _ => some "dict"
  | _ => none
def isB (d : D) (n : String) : Option Bool := match d, n with
  | .non, "int" => some false | .non, "str" => some false | .non, "bool" => some false | .non, "tuple" => some false | .non, "list" => some false | .non, "dict" => some false
  | .bl _, "int" => some true | .bl _, "str" => some false | .bl _, "bool" => some true | .bl _, "tuple" => some false | .bl _, "list" => some false | .bl _, "dict" => some false
  | .int _, "int" => some true | .int _, "str" => some false | .int _, "bool" => some false | .int _, "tuple" => some false | .int _, "list" => some false | .int _, "dict" => some false
  | .str _, "int" => some false | .str _, "str" => some true | .str _, "bool" => some false | .str _, "tuple" => some false | .str _, "list" => some false | .str _, "dict" => some false
  | .tup _, "int" => some false | .tup _, "str" => some false | .tup _, "bool" => some false | .tup _, "tuple" => some true | .tup _, "list" => some false | .tup _, "dict" => some false
  | .lst _, "int" => some false | .lst _, "str" => some false | .lst _, "bool" => some false | .lst _, "tuple" => some false | .lst _, "list" => some true | .lst _, "dict" => some false
  | .dic _ _, "int" => some false | .dic _ _, "str" => some false | .dic _ _, "bool" => some false | .dic _ _, "tuple" => some false | .dic _ _, "list" => some false | .dic _ _, "dict" => some true
  | _, _ => none
theorem isB_kit {d : D} {n : String} {b : Bool} (h : isB d n = some b) : ∃ t, tyN d = some t ∧ PySem.W.kitOne K (.type t) (.type n) = some b := by
  unfold isB at h
  split at h <;> first | (cases h; exact ⟨_, rfl, rfl⟩) | cases h
theorem tyN_x {O : Addr → Prop} {H : Hp} {v : V} {d : D} {t : String} (r : Rp K (msk O H) v d) (h : tyN d = some t) : TyX K H v (.type t) := by
  cases r with
  | non => cases h; exact .base .non
  | bl b => cases h; exact .base (.bl b)
  | int i => cases h; exact .base (.int i)
  | str l => cases h; exact .base (.str _)
  | lst e => cases h; exact .base (.lst (msk_some e).2)
  | tup e =>
    cases h
    rcases Same.sqT same_msk e with (e | ⟨o, e⟩) | ⟨o, its, n, e1, e2, _⟩
    · exact .base (.tup e)
    · exact .fTuple e
    · exact .kTuple e1 e2
  | dic e =>
    cases h
    rcases Same.rd same_msk e with e | ⟨o, e⟩
    · exact .base (.dK e)
    · exact .fDict e
  | _ => cases h
def gIsi : GA := fun ds P => a2 ds fun d c => match c with
  | .ty n => ∃ b, isB d n = some b ∧ P (.bl b)
  | _ => False
theorem dc_isi : DCall K X (.builtin "isinstance") gIsi := ⟨_, call_isi, fun hK O H vs ds P Q hO r g o => by
  subst hK
  obtain ⟨v, w, d, c, e, rd, rc, p⟩ := a2_rp r g
  cases rc with
  | ty n =>
    obtain ⟨b, hb, p⟩ := p
    obtain ⟨t, h1, h2⟩ := isB_kit (K := X.K) hb
    exact ⟨v, _, _, _, b, e, .ty n, tyN_x rd h1, h2, o.bl p⟩
  | _ => exact p.elim⟩
/-! ### sorted -/
def leD (d e : D) : Bool := PySem.W.dataLe false toPy d e
def gSorted : GA := fun ds P => a1 ds fun d => match d with
  | .lst ds => ds.all okE = true ∧ PySem.W.AllAlike (ds.map toPy) ∧ PySem.W.Sortable (ds.map toPy) ∧ (∀ d ∈ ds, depE d ≤ 60) ∧ P (.lst (ds.mergeSort leD))
  | _ => False
theorem zip_fst {H : Hp} : ∀ {xs : List V} {ds : List D}, RpAll K H xs ds → (xs.zip ds).map (·.1) = xs ∧ (xs.zip ds).map (·.2) = ds
  | _, _, .nil => ⟨rfl, rfl⟩
  | _, _, .cons _ t => by simp [zip_fst t]
theorem zip_rp {H : Hp} : ∀ {xs : List V} {ds : List D}, RpAll K H xs ds → ∀ p ∈ xs.zip ds, Rp K H p.1 p.2
  | _, _, .nil, p, h => by simp at h
  | _, _, .cons r t, p, h => by
    rcases List.mem_cons.mp h with rfl | h
    · exact r
    · exact zip_rp t p h
theorem rpAll_zip {H : Hp} : ∀ {ps : List (V × D)}, (∀ p ∈ ps, Rp K H p.1 p.2) → RpAll K H (ps.map (·.1)) (ps.map (·.2))
  | [], _ => .nil
  | p :: ps, h => .cons (h p List.mem_cons_self) (rpAll_zip fun q hq => h q (List.mem_cons_of_mem _ hq))
theorem dc_sorted (hu : X.K = K → X.A.units + 64 < cLine) : X.K = K → DCall K X (.builtin "sorted") gSorted := fun hK => ⟨_, cr_sortedDat (hu hK), fun hK O H vs ds P Q hO r g o => by
  subst hK
  obtain ⟨v, d, e, rd, p⟩ := a1_rp r g
  cases rd with
  | @lst a xs ds h r =>
    obtain ⟨g1, g2, g3, g4, p⟩ := p
    obtain ⟨z1, z2⟩ := zip_fst r
    have z3 := zip_rp r
    let ps := xs.zip ds
    let bs : List (V × PyData) := ps.map fun p => (p.1, toPy p.2)
    have b1 : bs.map (·.1) = xs := by
      show (List.map _ (List.map _ _)) = _
      rw [List.map_map]; exact z1
    have b2 : bs.map (·.2) = ds.map toPy := by
      show (List.map _ (List.map _ _)) = _
      rw [List.map_map]
      conv => rhs; rw [← z2]
      rw [List.map_map]; rfl
    have dm : ∀ p ∈ ps, p.2 ∈ ds := fun p hp => by rw [← z2]; exact List.mem_map_of_mem hp
    refine ⟨a, bs, e, .inl (.inl (by rw [b1]; exact (msk_some h).2)), fun b hb => ?_, by rw [b2]; exact g2, by rw [b2]; exact g3, fun b hb => ?_, fun q hq => ?_⟩
    · obtain ⟨p, hp, rfl⟩ := List.mem_map.mp hb
      exact (Rp.mono same_msk (z3 p hp)).dp (List.all_eq_true.mp g1 p.2 (dm p hp))
    · obtain ⟨p, hp, rfl⟩ := List.mem_map.mp hb
      exact g4 p.2 (dm p hp)
    · have m1 : bs.mergeSort (PySem.W.dataLe false (·.2)) = (ps.mergeSort fun p q => leD p.2 q.2).map fun p => (p.1, toPy p.2) := by
        refine (List.map_mergeSort (r := fun p q : V × D => leD p.2 q.2) (s := PySem.W.dataLe false (·.2)) (f := fun p : V × D => (p.1, toPy p.2)) fun _ _ _ _ => ?_).symm
        rfl
      have m2 : ds.mergeSort leD = (ps.mergeSort fun p q => leD p.2 q.2).map (·.2) := by
        rw [List.map_mergeSort (r := fun p q : V × D => leD p.2 q.2) (s := leD) (f := fun p : V × D => p.2) fun _ _ _ _ => rfl]
        rw [z2]
      have m3 : (bs.mergeSort (PySem.W.dataLe false (·.2))).map (·.1) = (ps.mergeSort fun p q => leD p.2 q.2).map (·.1) := by
        rw [m1, List.map_map]; rfl
      rw [m3]
      rw [m2] at p
      exact o.lst hO (rpAll_zip fun p hp => z3 p (List.mem_mergeSort.mp hp)) p q hq
  | _ => exact p.elim⟩
/-! ### repr -/
def shT (d : D) : Tx := (toPy d).shown.cps.toList
def gRepr : GA := fun ds P => a1 ds fun d => (match d with | .tup _ => True | .lst _ => True | _ => False) ∧ okE d = true ∧ (toPy d).showable = true ∧ (toPy d).hasDict = false ∧ depE d ≤ 60 ∧ (shT d).length ≤ sizeLine ∧ P (.str (shT d))
theorem dc_repr (hu : X.K = K → X.A.units + 64 < cLine) (hg : X.K = K → X.A.guards = some []) : X.K = K → DCall K X (.builtin "repr") gRepr := fun hK => ⟨_, cr_repr (hu hK) (hg hK), fun hK O H vs ds P Q hO r g o => by
  subst hK
  obtain ⟨v, d, e, rd, g0, g1, g2, g3, g4, g5, p⟩ := a1_rp r g
  have fin : ∀ a, v = .ref a → ∃ (a : Addr) (d : PyData), vs = [V.ref a] ∧ Dp X.K H (V.ref a) d ∧ d.showable = true ∧ d.hasDict = false ∧ d.depth ≤ 60 ∧ d.shown.length ≤ sizeLine ∧ Q (.str d.shown) H := fun a ea => by
    subst ea
    refine ⟨a, toPy d, e, (Rp.mono same_msk rd).dp g1, g2, g3, g4, by simpa [shT, Str.length] using g5, ?_⟩
    have := o.str g5 p
    unfold shT at this
    rwa [S_of] at this
  cases rd with
  | lst => exact fin _ rfl
  | tup => exact fin _ rfl
  | _ => exact g0.elim⟩
/-! ### dict(pairs) -/
def pairsOf : List D → Option (List (DK × D))
  | [] => some []
  | .tup [k, d] :: ds => (keyD k).bind fun k => (pairsOf ds).map ((k, d) :: ·)
  | _ => none
def mrgD (ks : List DK) (ds : List D) : List (DK × D) → List DK × List D
  | [] => (ks, ds)
  | (k, d) :: ps => mrgD (putKs ks k) (putDs ks ds k d) ps
def gDictP : GA := fun ds P => a1 ds fun d => match d with
  | .lst ds => ∃ ps, pairsOf ds = some ps ∧ P (.dic (mrgD [] [] ps).1 (mrgD [] [] ps).2)
  | _ => False
theorem pairsOf_cons {d : D} {ds : List D} {ps : List (DK × D)} (h : pairsOf (d :: ds) = some ps) : ∃ k d' key qs, d = .tup [k, d'] ∧ keyD k = some key ∧ pairsOf ds = some qs ∧ ps = (key, d') :: qs := by
  match d, h with
  | .tup [k, d'], h =>
    obtain ⟨key, e1, e2⟩ := Option.bind_eq_some_iff.mp (show (keyD k).bind _ = some ps from h)
    obtain ⟨qs, e3, e4⟩ := Option.map_eq_some_iff.mp e2
    exact ⟨k, d', key, qs, rfl, e1, e3, e4.symm⟩
theorem pairsOf_rp {O : Addr → Prop} {H : Hp} : ∀ {xs : List V} {ds : List D} {ps : List (DK × D)}, RpAll K (msk O H) xs ds → pairsOf ds = some ps → ∃ (as : List Addr) (kvs : List (Key × V)), xs = as.map V.ref ∧ Paired (fun p (kv : Key × V) => SqT K H p [kV kv.1, kv.2]) as kvs ∧ kvs.map (·.1) = (ps.map (·.1)).map dkey ∧
    KeysOk (ps.map (·.1)) ∧ RpAll K (msk O H) (kvs.map (·.2)) (ps.map (·.2))
  | _, [], ps, .nil, h => by
    cases h
    exact ⟨[], [], rfl, .nil, rfl, fun l h => by simp at h, .nil⟩
  | _, d :: ds, ps, .cons r t, h => by
    obtain ⟨k, d', key, qs, rfl, e1, e3, rfl⟩ := pairsOf_cons h
    obtain ⟨as, kvs, h1, h2, h3, hz, h4⟩ := pairsOf_rp t e3
    cases r with
    | @tup a vs _ hs rr =>
      cases rr with
      | @cons x1 _ _ _ r1 rr =>
        cases rr with
        | @cons x2 _ _ _ r2 rr =>
          cases rr
          have ek := keyD_rp r1 e1
          have kz : KeysOk [key] := keysOk_put (ks := []) (fun l hl => by simp at hl) r1 e1
          subst ek
          refine ⟨a :: as, (dkey key, x2) :: kvs, by rw [h1]; rfl, .cons (Same.sqT same_msk hs) h2, by rw [List.map_cons, h3]; rfl, fun l hl => ?_, .cons r2 h4⟩
          rcases List.mem_cons.mp hl with hl | hl
          · exact kz l (by rw [hl]; exact List.mem_cons_self)
          · exact hz l hl
theorem mrgD_rp {H : Hp} : ∀ {ps : List (DK × D)} {more kvs : List (Key × V)} {ks : List DK} {ds : List D}, more.map (·.1) = (ps.map (·.1)).map dkey → KeysOk (ps.map (·.1)) → RpAll K H (more.map (·.2)) (ps.map (·.2)) →
    kvs.map (·.1) = ks.map dkey → KeysOk ks → RpAll K H (kvs.map (·.2)) ds → (mergeK kvs more).map (·.1) = (mrgD ks ds ps).1.map dkey ∧ KeysOk (mrgD ks ds ps).1 ∧ RpAll K H ((mergeK kvs more).map (·.2)) (mrgD ks ds ps).2
  | [], [], kvs, ks, ds, _, _, _, h1, h2, h3 => ⟨h1, h2, h3⟩
  | [], _ :: _, _, _, _, h, _, _, _, _, _ => by simp at h
  | _ :: _, [], _, _, _, h, _, _, _, _, _ => by simp at h
  | (k, d) :: ps, p :: more, kvs, ks, ds, h, hz, r, h1, h2, h3 => by
    rw [List.map_cons, List.map_cons, List.map_cons, List.cons.injEq] at h
    rw [List.map_cons, List.map_cons] at r
    cases r with
    | cons r1 t =>
      have e : mergeK kvs (p :: more) = mergeK (putK kvs (dkey k) p.2) more := by
        show mergeK (putK kvs p.1 p.2) more = _
        rw [h.1]
      rw [e]
      refine mrgD_rp (ps := ps) h.2 (fun l hl => hz l (List.mem_cons_of_mem _ hl)) t (putK_keys h1) ?_ (putK_rp r1 h1 h3)
      intro l hl
      unfold putKs at hl
      split at hl
      · exact h2 l hl
      · rcases List.mem_append.mp hl with hl | hl
        · exact h2 l hl
        · rw [List.mem_singleton] at hl
          exact hz l (by rw [hl]; exact List.mem_cons_self)
theorem dc_dictP (hc : X.calm = true) : DCall K X (.type "dict") gDictP := ⟨_, call_dictP hc, fun hK O H vs ds P Q hO r g o => by
  subst hK
  obtain ⟨v, d, e, rd, p⟩ := a1_rp r g
  cases rd with
  | @lst a xs ds h r =>
    obtain ⟨ps, e2, p⟩ := p
    obtain ⟨as, kvs, h1, h2, h3, hz, h4⟩ := pairsOf_rp r e2
    refine ⟨a, as, kvs, e, .inl (.inl (by rw [← h1]; exact (msk_some h).2)), h2, fun q hq => ?_⟩
    obtain ⟨m1, m2, m3⟩ := mrgD_rp (kvs := []) (ks := []) (ds := []) h3 hz h4 rfl (fun l hl => by simp at hl) .nil
    have en := same_new (o := .dK (mergeK [] kvs)) hq
    refine o _ _ _ en (.dic (.inl ?_) m1 m2 (m3.mono (msk_same en))) p
    show msk _ _ _ = _
    rw [msk_of fun z => hO q z hq, upd_same]
  | _ => exact p.elim⟩
/-! ### methods of texts -/
def asStr (d : D) (p : Tx → Prop) : Prop := match d with
  | .str a => p a
  | _ => False
def asStrs (d : D) (p : List Tx → Prop) : Prop := match d with
  | .lst ds => ∃ ls, ssOf ds = some ls ∧ p ls
  | .tup ds => ∃ ls, ssOf ds = some ls ∧ p ls
  | _ => False
theorem tl_S (l : Tx) : TL.tl (S l) = l := S_cps l
theorem join_S (a : Tx) (ls : List Tx) : Txt.join (S a) (ls.map S) = S (TL.joinL a ls) := by
  rw [TL.join_eq]
  have := TL.tl_join (S a) (ls.map S)
  rw [tl_S, List.map_map] at this
  have e : ls.map (TL.tl ∘ S) = ls := by
    conv => rhs; rw [← List.map_id ls]
    exact List.map_congr_left fun l _ => tl_S l
  rw [e] at this
  rw [← this]
  exact (S_of _).symm
theorem joinL_len (a : Tx) : ∀ ls : List Tx, (TL.joinL a ls).length ≤ (ls.map (·.length)).sum + ls.length * a.length
  | [] => by simp [TL.joinL]
  | [p] => by simp [TL.joinL]
  | p :: q :: r => by
    have := joinL_len a (q :: r)
    simp only [TL.joinL, List.length_append, List.map_cons, List.sum_cons, List.length_cons, Nat.add_mul, Nat.one_mul] at *
    omega
def fJoin (f g : FE) : FE := fun ρ P => f ρ fun d => asStr d fun a => g ρ fun e => asStrs e fun ls => (ls.map (·.length)).sum + ls.length * a.length ≤ 16777216 ∧ P (.str (TL.joinL a ls))
theorem de_join {o e : Expr} {fb : FE} {apos pos : Pos} (ho : DE K X o fa) (he : DE K X e fb) (hs : starEach [e] X.env = [(false, eval e X.env)] := by rfl) (hbase : attributeBase o "join" X.env (eval o X.env) = eval o X.env := by rfl) (hline : (apos.endLine == pos.line) = true := by rfl) :
    DE K X (.Call (.Attribute o "join" apos) [e] [] pos) (fJoin fa fb) := ⟨fun hK => by
  subst hK
  refine pe_imp (pe_join (ho.pe rfl) (he.pe rfl) hs hbase hline) fun σ H Q q => ?_
  obtain ⟨c, ρ, P, st, f, k⟩ := q
  refine ⟨c, ρ, _, st, f, fun v H1 d A1 r1 p => ?_⟩
  cases r1 with
  | str l hl =>
    refine ⟨⟨S l, rfl⟩, c, ρ, _, A1.st, p, fun w H2 e A2 r2 p2 => ?_⟩
    have fin : ∀ (a : Addr) (xs : List V) (ds : List D) (ls : List Tx), w = .ref a → RpAll X.K (M c σ ρ H2) xs ds → (SqL X.K H2 a xs ∨ SqT X.K H2 a xs) → ssOf ds = some ls → ((ls.map (·.length)).sum + ls.length * l.length ≤ 16777216 ∧ P (.str (TL.joinL l ls))) →
        ∃ b p, ∃ ys : List Str, V.str (S l) = .str b ∧ [w] = [.ref p] ∧ (SqL X.K H2 p (ys.map V.str) ∨ SqT X.K H2 p (ys.map V.str)) ∧ (ys.map (·.length)).sum + ys.length * b.length ≤ 16777216 ∧ Q (.str (Txt.join b ys)) H2 := by
      intro a xs ds ls ew r h1 h2 p2
      subst ew
      rw [ssOf_map h2] at r
      have ex := RpAll.strs r
      subst ex
      have em : (ls.map fun l => V.str (S l)) = (ls.map S).map V.str := by rw [List.map_map]; rfl
      rw [em] at h1
      have e1 : ((ls.map S).map (·.length)) = ls.map (·.length) := by
        rw [List.map_map]
        exact List.map_congr_left fun l _ => S_length l
      refine ⟨S l, a, ls.map S, rfl, rfl, h1, by rw [e1, List.length_map, S_length]; exact p2.1, ?_⟩
      rw [join_S]
      exact k _ _ _ (A1.trans A2) (.str _ (Nat.le_trans (joinL_len l ls) (by rw [sizeLine_eq]; exact p2.1))) p2.2
    cases r2 with
    | @lst a xs ds h r =>
      obtain ⟨ls, h2, p2⟩ := p2
      exact fin a xs ds ls rfl r (.inl (.inl (.inl (msk_some h).2))) h2 p2
    | @tup a xs ds h r =>
      obtain ⟨ls, h2, p2⟩ := p2
      exact fin a xs ds ls rfl r (.inr (Same.sqT same_msk h)) h2 p2
    | _ => exact p2.elim
  | _ => exact p.elim⟩
def fSplit (f g : FE) : FE := fun ρ P => f ρ fun d => asStr d fun a => g ρ fun e => asStr e fun b => b ≠ [] ∧ b.all (· < 256) = true ∧ a.length + 2 ≤ sizeLine ∧ P (.lst ((TL.spl b 0 [] a).map .str))
theorem split_S {a b : Tx} (hb : b ≠ []) (hk : b.all (· < 256) = true) : Txt.split (S a) (S b) = (TL.spl b 0 [] a).map S := by
  have h := TL.split_spl (S a) (S b) (by rw [tl_S]; exact hb) (TL.kind_ok (by
    show (S b).cps.all _ = true
    rw [← Array.all_toList, S_cps]; exact hk))
  rw [tl_S, tl_S] at h
  rw [← h, List.map_map]
  exact (List.map_id _).symm.trans (List.map_congr_left fun x _ => (S_of x).symm)
theorem spl_len {S : Tx} : ∀ {l acc : Tx} {k : Nat}, ∀ z ∈ TL.spl S k acc l, z.length ≤ acc.length + l.length
  | [], acc, k, z, h => by
    unfold TL.spl at h
    rw [List.mem_singleton.mp h]
    exact Nat.le_refl _
  | c :: r, acc, 0, z, h => by
    unfold TL.spl at h
    split at h
    · rcases List.mem_cons.mp h with rfl | h
      · omega
      · have := spl_len z h
        simp only [List.length_nil, List.length_cons] at *
        omega
    · have := spl_len z h
      simp only [List.length_append, List.length_cons, List.length_nil] at *
      omega
  | c :: r, acc, k + 1, z, h => by
    unfold TL.spl at h
    have := spl_len z h
    simp only [List.length_cons]
    omega
theorem de_split {o e : Expr} {fb : FE} {apos pos : Pos} (ho : DE K X o fa) (he : DE K X e fb) (hs : starEach [e] X.env = [(false, eval e X.env)] := by rfl) (hbase : attributeBase o "split" X.env (eval o X.env) = eval o X.env := by rfl) (hline : (apos.endLine == pos.line) = true := by rfl) :
    DE K X (.Call (.Attribute o "split" apos) [e] [] pos) (fSplit fa fb) := ⟨fun hK => by
  subst hK
  refine pe_imp (pe_split (ho.pe rfl) (he.pe rfl) hs hbase hline) fun σ H Q q => ?_
  obtain ⟨c, ρ, P, st, f, k⟩ := q
  refine ⟨c, ρ, _, st, f, fun v H1 d A1 r1 p => ?_⟩
  cases r1 with
  | str l hl =>
    refine ⟨⟨S l, rfl⟩, c, ρ, _, A1.st, p, fun w H2 e A2 r2 p2 => ?_⟩
    cases r2 with
    | str b hb =>
      obtain ⟨p1, p2, p3, p4⟩ := p2
      refine ⟨S l, S b, rfl, rfl, by rw [S_length]; exact beq_eq_false_iff_ne.mpr fun z => p1 (List.length_eq_zero_iff.mp z), by rw [S_length]; exact p3, fun q hq => ?_⟩
      rw [split_S p1 p2, List.map_map]
      have en := same_new (o := .lst ((TL.spl b 0 [] l).map (V.str ∘ S))) hq
      refine k _ _ _ ((A1.trans A2).trans (.grow A2.st en)) (.lst (A2.st.newM hq) (RpAll.ofStrs fun z hz => ?_)) p4
      have := spl_len z hz
      simp only [List.length_nil] at this
      omega
    | _ => exact p2.elim
  | _ => exact p.elim⟩
end
end DL
/-! The layer DL: displays, comprehensions of dicts, of two clauses, over a dict's items. -/
namespace DL
open PySem PySem.Spec PyProof.Rows L2
section
variable [TapeI] {K : PySem.W.Frag} {X : Cx} {pos : Pos} {e : Expr} {fa : FE} {fs : FA} {tg : Expr} {es : List Expr}
/-! ### a new object that is shared at once -/
def shP : Sl → (D → Prop) → Prop
  | .ol ds, P => P (.lst ds)
  | .od ks ds, P => P (.dic ks ds)
  | _, _ => False
theorem NewR.share {c : Fx} {σ : St} {ρ : Rho} {H H' : Hp} {q : Addr} {s : Sl} (n : NewR K c σ ρ H q H' s) {P : D → Prop} (p : shP s P) : ∃ d, Aft K c σ ρ H H' ∧ Rp K (M c σ ρ H') (.ref q) d ∧ P d := by
  obtain ⟨s3, sm3⟩ := n.st.unplus n.nB
  have A : Aft K c σ ρ H H' := ⟨s3, n.sm.trans sm3, n.oo⟩
  have sl := n.sl _ sm3
  have at_ : M c σ ρ H' q = H' q := msk_of fun z => z.elim n.nO n.no
  cases s with
  | ol ds =>
    obtain ⟨a, xs, e1, e2, e3, _⟩ := sl
    cases e1
    exact ⟨_, A, .lst (at_.trans e2) e3, p⟩
  | od ks ds =>
    obtain ⟨a, kvs, e1, e2, e3, hz, e4, _⟩ := sl
    cases e1
    exact ⟨_, A, .dic (.inl (at_.trans e2)) e3 hz e4, p⟩
  | _ => exact p.elim
theorem de_df {f : FN} (h : DF K X e f) : DE K X e (fun ρ P => f ρ fun s => shP s P) := ⟨fun hK => pe_imp (h.pe hK) fun σ H Q q => by
  obtain ⟨c, ρ, P, st, f, k⟩ := q
  refine ⟨c, ρ, _, st, f, fun q H' s n p => ?_⟩
  obtain ⟨d, A, r, p⟩ := n.share p
  exact k _ H' d A r p⟩
/-! ### displays of dicts -/
def fPairs : List (FE × FE) → Rho → (List (D × D) → Prop) → Prop
  | [], _, P => P []
  | (fk, fv) :: r, ρ, P => fk ρ fun k => fv ρ fun v => fPairs r ρ fun ps => P ((k, v) :: ps)
structure DPs (K : PySem.W.Frag) (X : Cx) (pos : Pos) (keys : List (Option Expr)) (values : List Expr) (fps : List (FE × FE)) : Prop where
  pp : X.K = K → PPs X pos keys values (fps.map fun p => (eOf K p.1, eOf K p.2))
theorem dps_nil : DPs K X pos [] [] [] := ⟨fun _ => pps_nil⟩
theorem dps_cons {k v : Expr} {ks : List (Option Expr)} {vs : List Expr} {fk fv : FE} {fps : List (FE × FE)} (hk : DE K X k fk) (hv : DE K X v fv) (hr : DPs K X pos ks vs fps) : DPs K X pos (some k :: ks) (v :: vs) ((fk, fv) :: fps) := ⟨fun hK => pps_cons (hk.pe hK) (hv.pe hK) (hr.pp hK)⟩
theorem e_pairs {c : Fx} {σ : St} {ρ : Rho} : ∀ {fps : List (FE × FE)} {H : Hp} {Q : List (V × V) → Hp → Prop} {P : List (D × D) → Prop}, StR K c σ ρ H → fPairs fps ρ P →
    (∀ ps H' qs, Aft K c σ ρ H H' → RpAll K (M c σ ρ H') (ps.map (·.1)) (qs.map (·.1)) → RpAll K (M c σ ρ H') (ps.map (·.2)) (qs.map (·.2)) → P qs → Q ps H') → tPairs (fps.map fun p => (eOf K p.1, eOf K p.2)) σ H Q
  | [], H, Q, P, st, f, k => k [] H [] (.refl st) .nil .nil f
  | (fk, fv) :: fps, H, Q, P, st, f, k => by
    refine ⟨c, ρ, _, st, f, fun x H1 d A1 r1 p1 => ⟨c, ρ, _, A1.st, p1, fun y H2 e A2 r2 p2 => ?_⟩⟩
    refine e_pairs A2.st p2 fun ps H3 qs A3 ra rb p3 => ?_
    exact k ((x, y) :: ps) H3 ((d, e) :: qs) ((A1.trans A2).trans A3) (.cons ((r1.mono A2.sm).mono A3.sm) ra) (.cons (r2.mono A3.sm) rb) p3
/-- the keys of a display -/
def keysOf : List (D × D) → Option (List (DK × D))
  | [] => some []
  | (k, d) :: r => (keyD k).bind fun k => (keysOf r).map ((k, d) :: ·)
theorem keysOf_rp {H : Hp} : ∀ {ps : List (V × V)} {qs : List (D × D)} {ks : List (DK × D)}, RpAll K H (ps.map (·.1)) (qs.map (·.1)) → RpAll K H (ps.map (·.2)) (qs.map (·.2)) → keysOf qs = some ks →
    ∃ kvs : List (Key × V), ps = kvs.map (fun kv => (kV kv.1, kv.2)) ∧ kvs.map (·.1) = (ks.map (·.1)).map dkey ∧ KeysOk (ks.map (·.1)) ∧ RpAll K H (kvs.map (·.2)) (ks.map (·.2))
  | [], [], ks, _, _, h => by
    cases h
    exact ⟨[], rfl, rfl, fun l hl => by simp at hl, .nil⟩
  | [], _ :: _, _, r, _, _ => by cases r
  | _ :: _, [], _, r, _, _ => by cases r
  | (x, y) :: ps, (k, d) :: qs, ks, ra, rb, h => by
    obtain ⟨key, e1, e2⟩ := Option.bind_eq_some_iff.mp (show (keyD k).bind _ = some ks from h)
    obtain ⟨ls, e3, e4⟩ := Option.map_eq_some_iff.mp e2
    subst e4
    rw [List.map_cons, List.map_cons] at ra rb
    cases ra with
    | cons r1 ra =>
      cases rb with
      | cons r2 rb =>
        obtain ⟨kvs, h1, h2, h3, h4⟩ := keysOf_rp ra rb e3
        have ek := keyD_rp r1 e1
        have kz : KeysOk [key] := keysOk_put (ks := []) (fun l hl => by simp at hl) r1 e1
        refine ⟨(dkey key, y) :: kvs, by rw [h1]; exact congrArg (· :: _) (Prod.ext ek rfl), by rw [List.map_cons, h2]; rfl, fun l hl => ?_, .cons r2 h4⟩
        rcases List.mem_cons.mp hl with hl | hl
        · exact kz l (by rw [hl]; exact List.mem_cons_self)
        · exact h3 l hl
def fDisp (fps : List (FE × FE)) : FN := fun ρ P => fPairs fps ρ fun qs => ∃ ks, keysOf qs = some ks ∧ ks.length ≤ 15 ∧ P (.od (mrgD [] [] ks).1 (mrgD [] [] ks).2)
theorem df_disp {keys : List (Option Expr)} {values : List Expr} {fps : List (FE × FE)} (h : DPs K X pos keys values fps) (hall : keys.all (·.isSome) = true := by rfl) (hl : keys.length = values.length := by rfl) (h0 : keys ≠ [] := by exact fun z => nomatch z) (h15 : keys.length ≤ 15 := by decide) :
    DF K X (.Dict keys values pos) (fDisp fps) := ⟨fun hK => pe_imp (pe_disp (h.pp hK) hall hl h0 h15) fun σ H Q q => by
  obtain ⟨c, ρ, P, st, f, k⟩ := q
  intro D hD
  have hB := st.freshB hD
  have hno : ¬ own σ ρ D := fun z => st.own_some z hD
  obtain ⟨sp, smp⟩ := st.plus (o := .dK []) hD
  refine e_pairs sp f fun ps H2 qs A ra rb ⟨ks, e1, e2, p⟩ => ?_
  have tpD : (c.plus D).tp ≠ some D := fun z => sp.tpB D z hB
  have ntk : ¬ hasTk ρ D := fun z => by
    obtain ⟨_, z⟩ := z
    obtain ⟨j, hj⟩ := List.getElem?_of_mem z
    exact hno ⟨j, _, hj, rfl, (st.slot j _ hj).1⟩
  have hD2 : H2 D = some (.dK []) := A.oo D _ (.inl (.inr rfl)) tpD ntk upd_same
  obtain ⟨kvs, h1, h2, h3, h4⟩ := keysOf_rp ra rb e1
  have hl : kvs.length = ks.length := by simpa using congrArg List.length h2
  refine ⟨hD2, kvs, h1, by rw [hl]; exact e2, ?_⟩
  obtain ⟨m1, m2, m3⟩ := mrgD_rp (kvs := []) (ks := []) (ds := []) h2 h3 h4 rfl (fun l hl => by simp at hl) .nil
  obtain ⟨s7, eM7⟩ := A.st.plusUpd (o := .dK (mergeK [] kvs)) (by rw [hD2]; exact fun z => nomatch z) hB hno
  refine k D _ (.od _ _) ⟨s7, smp.trans (by rw [eM7]; exact A.sm), fun b o h1 h2 h3 e => ?_, hB, hno, fun z => st.dom D z hD, rfl, fun m em => ⟨D, _, rfl, upd_same, m1, m2, ?_, hB⟩⟩ p
  · have ne : b ≠ D := ne_of_none e hD
    rw [upd_ne ne]
    exact A.oo b o (ow_plus.2 (.inl h1)) h2 h3 (same_new hD b o e)
  · rw [eM7] at em
    exact m3.mono em⟩
theorem df_dnil : DF K X (.Dict [] [] pos) (fun _ P => P (.od [] [])) := ⟨fun hK => pe_imp pe_dnewK fun σ H Q q => by
  obtain ⟨c, ρ, P, st, f, k⟩ := q
  exact fun D hD => k D _ _ (.dic (.refl st) hD rfl (fun l hl => by simp at hl) .nil) f⟩
/-! ### comprehensions of dicts -/
def ARD (K : PySem.W.Frag) (m : Hp) (a : List DK × List D) (o : HO) : Prop := ∃ kvs, o = .dK kvs ∧ kvs.map (·.1) = a.1.map dkey ∧ KeysOk a.1 ∧ RpAll K m (kvs.map (·.2)) a.2
theorem ARD.mono {m m' : Hp} {a : List DK × List D} {o : HO} (e : Same m m') (h : ARD K m a o) : ARD K m' a o := by
  obtain ⟨acc, h1, h2, h3, h4⟩ := h
  exact ⟨acc, h1, h2, h3, h4.mono e⟩
def bodyD (tk tv : FE) : Rho → List DK × List D → (List DK × List D → Prop) → Prop := fun ρ a P => tk ρ fun y => tv ρ fun d => ∃ k, keyD y = some k ∧ a.1.length < sizeLine ∧ P (putKs a.1 k, putDs a.1 a.2 k d)
theorem body_D {c : Fx} {tk tv : FE} {D : Addr} (hB : c.B D = none) : BodyOk K (ARD K) c D (fun σ2 H3 Nx => eOf K tk σ2 H3 fun y H4 => eOf K tv σ2 H4 fun z H5 => ∃ kvs k, y = kV k ∧ H5 D = some (.dK kvs) ∧ kvs.length < sizeLine ∧ Nx (upd H5 D (.dK (putK kvs k z)))) (bodyD tk tv) := fun σ ρ H a P Nx st hno ⟨o, hD, kvs, eo, hk, hz, rd⟩ f k => by
  subst eo
  have tpD : (c.plus D).tp ≠ some D := fun z => st.tpB D z hB
  have ntk : ¬ hasTk ρ D := fun z => by
    obtain ⟨_, z⟩ := z
    obtain ⟨j, hj⟩ := List.getElem?_of_mem z
    exact hno ⟨j, _, hj, rfl, (st.slot j _ hj).1⟩
  refine ⟨c.plus D, ρ, _, st, f, fun y H4 dy A4 r4 p4 => ⟨c.plus D, ρ, _, A4.st, p4, fun z H5 dz A5 r5 ⟨key, e1, e2, p5⟩ => ?_⟩⟩
  have A := A4.trans A5
  have hD5 : H5 D = some (.dK kvs) := A.oo D _ (.inl (.inr rfl)) tpD ntk hD
  obtain ⟨s7, eM7⟩ := A.st.plusUpd (o := .dK (putK kvs (dkey key) z)) (by rw [hD5]; exact fun z => nomatch z) hB hno
  have hl : kvs.length = a.1.length := by simpa using congrArg List.length hk
  refine ⟨kvs, dkey key, keyD_rp r4 e1, hD5, by rw [hl]; exact e2, k _ _ ⟨s7, by rw [eM7]; exact A.sm, ⟨_, upd_same, _, rfl, putK_keys hk, keysOk_put hz r4 e1, ?_⟩, fun b o h1 h2 h3 h4 e => ?_⟩ p5⟩
  · rw [eM7]; exact putK_rp r5 hk (rd.mono A.sm)
  · rw [upd_ne h4]; exact A.oo b o (ow_plus.2 (.inl h1)) h2 h3 e
variable {kx vx iter : Expr} {ifs : List Expr} {scope : Scope} {fi : FA} {fg : FG} {tt : FT} {te tk tv : FE} {ws : List Nat}
def fDc (fi : FA) (fg : FG) (tt : FT) (tk tv : FE) (vs : List Nat) : FN := fun ρ P => noOwn ρ vs = true ∧ fi ρ fun ds => blkD fg tt (bodyD tk tv) vs ds ρ ([], []) fun a => P (.od a.1 a.2)
theorem df_dc (hc : X.calm = true) (hN : X.N.Nodup) (hi : DI K X tg iter fi) (own : List (Str × Nat)) (ok : blkC X.N X.env.scope scope own = true) (hw : ∀ i ∈ ws, i ∈ own.map (·.2))
    (hg : AllB X scope fun X' => DG K X' tg ws fg) (ht : AllB X scope fun X' => DTs K X' ifs tt) (hk : AllB X scope fun X' => DE K X' kx tk) (he : AllB X scope fun X' => DE K X' vx tv) (hs : ∀ x, foldedSetIterable iter X.env x = pure x := by intro _; rfl) :
    DF K X (.DictComp kx vx [⟨tg, iter, ifs, 0⟩] scope pos) (fDc fi fg tt tk tv (own.map (·.2))) := ⟨fun hK => by
  refine pe_imp (pe_dc hc hN (hi.pi hK) (blkOk_by ok) (fun s H C cl fp => (hg s H C cl fp).pg hK) (fun s H C cl fp => (ht s H C cl fp).pt hK) (fun s H C cl fp => (hk s H C cl fp).pe hK) (fun s H C cl fp => (he s H C cl fp).pe hK) hs) fun σ H Q q => ?_
  obtain ⟨c, ρ, P, st, ⟨hn, f⟩, k⟩ := q
  refine ⟨c, ρ, _, st, f, fun J H1 ds A y p => fun D hD => ?_⟩
  have hB := A.st.freshB hD
  have hno : ¬ DL.own σ ρ D := fun z => A.st.own_some z hD
  obtain ⟨sp, smp⟩ := A.st.plus (o := .dK []) hD
  refine blk_loop (AR := ARD K) ARD.mono (body_D hB) hw hB hno hn sp (y.L.mono smp) (fun _ _ => trivial) ⟨_, upd_same, [], rfl, rfl, (fun l hl => by simp at hl), .nil⟩ p fun H' a B pe => ?_
  obtain ⟨o, hD', kvs, eo, h1, h2, h3⟩ := B.at_
  subst eo
  exact k D H' (.od a.1 a.2) ⟨B.st, A.sm.trans (smp.trans B.sm), fun b o q1 q2 q3 e => by
    have e1 := A.oo b o q1 q2 q3 e
    exact B.oo b o q1 q2 q3 (ne_of_none e1 hD) (same_new hD b o e1), hB, hno, fun z => A.st.dom D z hD, rfl, fun m em => ⟨D, kvs, rfl, hD', h1, h2, h3.mono em, hB⟩⟩ pe⟩
/-! ### two clauses -/
variable {elt tg1 iter1 : Expr} {ifs1 : List Expr} {fi1 : FA} {fg1 : FG} {tt1 : FT} {ws1 vs1 : List Nat}
def bodyL2 (fi1 : FA) (fg1 : FG) (tt1 : FT) (te : FE) (vs1 : List Nat) : Rho → List D → (List D → Prop) → Prop := fun ρ acc P => noOwn ρ vs1 = true ∧ fi1 ρ fun ds => blkD fg1 tt1 (bodyL te) vs1 ds ρ acc P
theorem body_L2 {c : Fx} {D : Addr} (hB : c.B D = none) (hw : ∀ i ∈ ws1, i ∈ vs1) : BodyOk K (ARL K) c D (fun σ2 H3 Nx => iOf K fi1 σ2 H3 fun J1 H4 => ∃ W1 : Nat → Nat → Hp → Prop, (∃ m, W1 0 m H4) ∧ ∀ j k H, W1 j k H →
      (J1.stop j H ∧ Nx H) ∨ (J1.go j H ∧ ∃ Nx1 : Hp → Prop, (∀ H', Nx1 H' → ∃ k', k' < k ∧ W1 (j + 1) k' H') ∧ ∀ x H', J1.yld j H x H' → gOf K ws1 fg1 x (wipe σ2 vs1) H' fun σ3 H5 => wipe σ3 vs1 = wipe σ2 vs1 ∧ bOf K tt1 σ3 H5 fun b H6 =>
        if b = true then eOf K te σ3 H6 fun y H7 => ∃ acc, H7 D = some (.lst acc) ∧ acc.length < sizeLine ∧ Nx1 (upd H7 D (.lst (acc ++ [y]))) else Nx1 H6)) (bodyL2 fi1 fg1 tt1 te vs1) := fun σ ρ H es P Nx st hno ⟨o, hD, rest⟩ ⟨hn, f⟩ k => by
  have tpD : (c.plus D).tp ≠ some D := fun z => st.tpB D z hB
  have ntk : ¬ hasTk ρ D := fun z => by
    obtain ⟨_, z⟩ := z
    obtain ⟨j, hj⟩ := List.getElem?_of_mem z
    exact hno ⟨j, _, hj, rfl, (st.slot j _ hj).1⟩
  refine ⟨c.plus D, ρ, _, st, f, fun J H4 ds A y p => ?_⟩
  have hD4 : H4 D = some o := A.oo D _ (.inl (.inr rfl)) tpD ntk hD
  refine blk_loop (AR := ARL K) ARL.mono (body_L hB) hw hB hno hn A.st y.L (fun _ _ => trivial) ⟨o, hD4, ARL.mono A.sm rest⟩ p fun H' a B pe => ?_
  exact k H' a ⟨B.st, A.sm.trans B.sm, B.at_, fun b o h1 h2 h3 h4 e => B.oo b o h1 h2 h3 h4 (A.oo b o (ow_plus.2 (.inl h1)) h2 h3 e)⟩ pe
def fLc2 (fi : FA) (fg : FG) (tt : FT) (fi1 : FA) (fg1 : FG) (tt1 : FT) (te : FE) (vs vs1 : List Nat) (ρ : Rho) (P : List D → Prop) : Prop := noOwn ρ vs = true ∧ fi ρ fun ds => blkD fg tt (bodyL2 fi1 fg1 tt1 te vs1) vs ds ρ [] P
theorem e_lc2 {vs : List Nat} (hw : ∀ i ∈ ws, i ∈ vs) (hw1 : ∀ i ∈ ws1, i ∈ vs1) {c : Fx} {σ : St} {ρ : Rho} {H : Hp} {Q : VK} {P : List D → Prop} (st : StR K c σ ρ H) (f : fLc2 fi fg tt fi1 fg1 tt1 te vs vs1 ρ P)
    (k : ∀ D H' es, NewR K c σ ρ H D H' (.ol es) → P es → Q (.ref D) H') :
    tLc2 (iOf K fi) (gOf K ws fg) (bOf K tt) (iOf K fi1) (gOf K ws1 fg1) (bOf K tt1) (eOf K te) vs vs1 σ H Q := by
  obtain ⟨hn, f⟩ := f
  refine ⟨c, ρ, _, st, f, fun J H1 ds A y p => fun D hD => ?_⟩
  have hB := A.st.freshB hD
  have hno : ¬ own σ ρ D := fun z => A.st.own_some z hD
  obtain ⟨sp, smp⟩ := A.st.plus (o := .lst []) hD
  refine blk_loop (AR := ARL K) ARL.mono (body_L2 hB hw1) hw hB hno hn sp (y.L.mono smp) (fun _ _ => trivial) ⟨_, upd_same, [], rfl, .nil⟩ p fun H' es B pe => ?_
  obtain ⟨o, hD', acc, eo, racc⟩ := B.at_
  subst eo
  exact k D H' es ⟨B.st, A.sm.trans (smp.trans B.sm), fun b o q1 q2 q3 e => by
    have e1 := A.oo b o q1 q2 q3 e
    exact B.oo b o q1 q2 q3 (ne_of_none e1 hD) (same_new hD b o e1), hB, hno, fun z => A.st.dom D z hD, rfl, fun m em => ⟨D, acc, rfl, hD', racc.mono em, hB⟩⟩ pe
theorem df_lc2 (hc : X.calm = true) (hN : X.N.Nodup) (hi : DI K X tg iter fi) (own : List (Str × Nat)) (vs1 : List Nat) (ok : blkC X.N X.env.scope scope own = true) (hv : ∀ i ∈ vs1, i ∈ own.map (·.2)) (hw : ∀ i ∈ ws, i ∈ own.map (·.2)) (hw1 : ∀ i ∈ ws1, i ∈ vs1)
    (hg : AllB X scope fun X' => DG K X' tg ws fg) (ht : AllB X scope fun X' => DTs K X' ifs tt) (hi1 : AllB X scope fun X' => DI K X' tg1 iter1 fi1) (hg1 : AllB X scope fun X' => DG K X' tg1 ws1 fg1) (ht1 : AllB X scope fun X' => DTs K X' ifs1 tt1)
    (he : AllB X scope fun X' => DE K X' elt te) (hs : ∀ x, foldedSetIterable iter X.env x = pure x := by intro _; rfl) (hs1 : ∀ env x, foldedSetIterable iter1 env x = pure x := by intro _ _; rfl) :
    DF K X (.ListComp elt [⟨tg, iter, ifs, 0⟩, ⟨tg1, iter1, ifs1, 0⟩] scope pos) (fun ρ P => fLc2 fi fg tt fi1 fg1 tt1 te (own.map (·.2)) vs1 ρ fun es => P (.ol es)) := ⟨fun hK => by
  refine pe_imp (pe_lc2 hc hN (hi.pi hK) (blkOk_by ok) hv (fun s H C cl fp => (hg s H C cl fp).pg hK) (fun s H C cl fp => (ht s H C cl fp).pt hK) (fun s H C cl fp => (hi1 s H C cl fp).pi hK) (fun s H C cl fp => (hg1 s H C cl fp).pg hK) (fun s H C cl fp => (ht1 s H C cl fp).pt hK) (fun s H C cl fp => (he s H C cl fp).pe hK) hs hs1) fun σ H Q q => ?_
  obtain ⟨c, ρ, P, st, f, k⟩ := q
  exact e_lc2 hw hw1 st f fun D H' es n p => k D H' _ n p⟩
end
end DL
/-! The layer DL: a dict of one's own, its items walked. -/
namespace DL
open PySem PySem.Spec PyProof.Rows L2
section
variable [TapeI] {K : PySem.W.Frag} {X : Cx} {pos : Pos} {e : Expr} {fa : FE} {fs : FA} {tg : Expr} {es : List Expr} {c : Fx} {σ : St} {ρ : Rho} {H H' : Hp}
theorem plus_comm (c : Fx) (a b : Addr) : (c.plus a).plus b = (c.plus b).plus a := by
  unfold Fx.plus
  congr 1
  funext x
  exact propext ⟨fun h => h.elim (fun h => h.elim (fun h => .inl (.inl h)) .inr) fun h => .inl (.inr h), fun h => h.elim (fun h => h.elim (fun h => .inl (.inl h)) .inr) fun h => .inl (.inr h)⟩
theorem ow_hide {i : Nat} {a : Addr} {s : Sl} (hi : ρ[i]? = some s) (hs : s.own = true) (hv : σ[i]? = some (some (.ref a))) : Ow (c.plus a) σ (ρ.set i .no) = Ow c σ ρ := by
  have hiL : i < ρ.length := (List.getElem?_eq_some_iff.mp hi).1
  funext b
  refine propext ⟨fun h => ?_, fun h => ?_⟩
  · rcases h with (h | h) | ⟨j, u, h1, h2, h3⟩
    · exact .inl h
    · exact .inr ⟨i, s, hi, hs, by rw [h]; exact hv⟩
    · by_cases e : i = j
      · subst e; rw [List.getElem?_set_self hiL] at h1; cases h1; cases h2
      · rw [List.getElem?_set_ne e] at h1; exact .inr ⟨j, u, h1, h2, h3⟩
  · rcases h with h | ⟨j, u, h1, h2, h3⟩
    · exact .inl (.inl h)
    · by_cases e : i = j
      · subst e
        rw [hv] at h3
        exact .inl (.inr (V.ref.inj (Option.some.inj (Option.some.inj h3))).symm)
      · exact .inr ⟨j, u, by rw [List.getElem?_set_ne e]; exact h1, h2, h3⟩
theorem StR.lockIn (st : StR K c σ ρ H) {i : Nat} {a : Addr} {ks : List DK} {ds : List D} (o' : HO) (hi : ρ[i]? = some (.od ks ds)) (hv : σ[i]? = some (some (.ref a))) (hB : c.B a = none) :
    StR K (c.plus a) σ (ρ.set i .no) (upd H a o') ∧ M (c.plus a) σ (ρ.set i .no) (upd H a o') = M c σ ρ H := by
  have hiL : i < ρ.length := (List.getElem?_eq_some_iff.mp hi).1
  have eO := ow_hide (c := c) hi rfl hv
  have eM : M (c.plus a) σ (ρ.set i .no) (upd H a o') = M c σ ρ H := by
    show msk _ _ = msk _ _
    rw [eO, msk_upd (.inr ⟨i, _, hi, rfl, hv⟩)]
  have old : ∀ (j : Nat) (u : Sl), (ρ.set i .no)[j]? = some u → u.own = true → i ≠ j ∧ ρ[j]? = some u := fun j u h1 h2 => by
    by_cases e : i = j
    · subst e; rw [List.getElem?_set_self hiL] at h1; cases h1; cases h2
    · rw [List.getElem?_set_ne e] at h1; exact ⟨e, h1⟩
  have keep : ∀ b o, b ≠ a → H b = some o → upd H a o' b = some o := fun b o n e => by rw [upd_ne n]; exact e
  refine ⟨⟨by rw [List.length_set]; exact st.len, fun j u hj => ?_, fun j l u t b h1 h2 h3 h4 h5 h6 => st.inj j l u t b (old j u h1 h3).2 (old l t h2 h4).2 h3 h4 h5 h6, fun b o h1 h2 => keep b o (fun z => by subst z; rw [show (c.plus b).B b = c.B b from rfl, hB] at h2; cases h2) (st.base b o h1 h2), fun b h1 h2 => ?_, fun t ht => ?_, st.tpB⟩, eM⟩
  · rw [eM]
    by_cases e : i = j
    · subst e; rw [List.getElem?_set_self hiL] at hj; cases hj; trivial
    · rw [List.getElem?_set_ne e] at hj
      have qj := st.slot j u hj
      have nx : u.own = true → σ[j]? = some (some (.ref a)) → False := fun z1 z2 => e (st.inj i j _ u a hi hj rfl z1 hv z2)
      cases u with
      | no => trivial
      | sh d => exact qj
      | ol ds => obtain ⟨b, xs, e1, e2, e3⟩ := qj; exact ⟨b, xs, e1, keep b _ (fun z => nx rfl (z ▸ e1)) e2, e3⟩
      | od ks ds => obtain ⟨b, xs, e1, e2, e3⟩ := qj; exact ⟨b, xs, e1, keep b _ (fun z => nx rfl (z ▸ e1)) e2, e3⟩
      | tk t n => obtain ⟨e1, ⟨o, e2, e3⟩, e4⟩ := qj; exact ⟨e1, ⟨o, keep t _ (fun z => nx rfl (z ▸ e1)) e2, e3⟩, e4⟩
      | ot t n => obtain ⟨e1, ⟨o, e2, e3⟩, e4⟩ := qj; exact ⟨e1, ⟨o, keep t _ (fun z => nx rfl (z ▸ e1)) e2, e3⟩, e4⟩
  · by_cases z : b = a
    · subst z; rw [upd_same] at h2; cases h2
    · rw [upd_ne z] at h2
      exact h1.elim (fun q => st.dom b q h2) z
  · obtain ⟨h1, n, o, h2, h3⟩ := st.tape t ht
    exact ⟨.inl h1, n, o, keep t o (fun z => by subst z; exact st.tpB t ht hB) h2, by rw [eM]; exact h3⟩
theorem StR.lockOut {H0 : Hp} (st0 : StR K c σ ρ H0) {i : Nat} {a : Addr} {ks : List DK} {ds : List D} {kvs : List (Key × V)} (hi : ρ[i]? = some (.od ks ds)) (hv : σ[i]? = some (some (.ref a))) (hB : c.B a = none) {c2 : Fx} (e2 : c2.B = c.B ∧ c2.tp = c.tp)
    (st : StR K (c2.plus a) σ (ρ.set i .no) H') (hk : kvs.map (·.1) = ks.map dkey) (hz : KeysOk ks) (r : RpAll K (M (c2.plus a) σ (ρ.set i .no) H') (kvs.map (·.2)) ds) :
    StR K c2 σ ρ (upd H' a (.dK kvs)) ∧ M c2 σ ρ (upd H' a (.dK kvs)) = M (c2.plus a) σ (ρ.set i .no) H' := by
  have hiL : i < ρ.length := (List.getElem?_eq_some_iff.mp hi).1
  have eO := ow_hide (c := c2) hi rfl hv
  have hB2 : c2.B a = none := by rw [e2.1]; exact hB
  have eM : M c2 σ ρ (upd H' a (.dK kvs)) = M (c2.plus a) σ (ρ.set i .no) H' := by
    show msk _ _ = msk _ _
    rw [eO, msk_upd (.inr ⟨i, _, hi, rfl, hv⟩)]
  have keep : ∀ b o, b ≠ a → H' b = some o → upd H' a (.dK kvs) b = some o := fun b o n e => by rw [upd_ne n]; exact e
  refine ⟨⟨st0.len, fun j u hj => ?_, st0.inj, fun b o h1 h2 => keep b o (fun z => by subst z; rw [hB2] at h2; cases h2) (st.base b o h1 h2), fun b h1 h2 => ?_, fun t ht => ?_, st.tpB⟩, eM⟩
  · rw [eM]
    by_cases e : i = j
    · subst e
      rw [hi] at hj
      cases hj
      exact ⟨a, kvs, hv, upd_same, hk, hz, r, hB2⟩
    · have qj := st.slot j u (by rw [List.getElem?_set_ne e]; exact hj)
      have nx : u.own = true → σ[j]? = some (some (.ref a)) → False := fun z1 z2 => e (st0.inj i j _ u a hi hj rfl z1 hv z2)
      cases u with
      | no => trivial
      | sh d => exact qj
      | ol ds => obtain ⟨b, xs, e1, e2, e3⟩ := qj; exact ⟨b, xs, e1, keep b _ (fun z => nx rfl (z ▸ e1)) e2, e3⟩
      | od ks ds => obtain ⟨b, xs, e1, e2, e3⟩ := qj; exact ⟨b, xs, e1, keep b _ (fun z => nx rfl (z ▸ e1)) e2, e3⟩
      | tk t n => obtain ⟨e1, ⟨o, e2, e3⟩, e4⟩ := qj; exact ⟨e1, ⟨o, keep t _ (fun z => nx rfl (z ▸ e1)) e2, e3⟩, e4⟩
      | ot t n => obtain ⟨e1, ⟨o, e2, e3⟩, e4⟩ := qj; exact ⟨e1, ⟨o, keep t _ (fun z => nx rfl (z ▸ e1)) e2, e3⟩, e4⟩
  · by_cases z : b = a
    · subst z; rw [upd_same] at h2; cases h2
    · rw [upd_ne z] at h2
      exact st.dom b (.inl h1) h2
  · obtain ⟨h1, n, o, h2, h3⟩ := st.tape t ht
    have ne : t ≠ a := fun z => by subst z; exact st.tpB t ht hB2
    exact ⟨h1.resolve_right ne, n, o, keep t o ne h2, by rw [eM]; exact h3⟩
def itemsD (ks : List DK) (ds : List D) : List D := (ks.zip ds).map fun p => .tup [kD p.1, p.2]
theorem items_get {H : Hp} : ∀ {kvs : List (Key × V)} {ks : List DK} {ds : List D} {i : Nat} {k : Key} {v : V}, kvs.map (·.1) = ks.map dkey → KeysOk ks → RpAll K H (kvs.map (·.2)) ds → kvs[i]? = some (k, v) → ∃ q d, (itemsD ks ds)[i]? = some (.tup [kD q, d]) ∧ Rp K H (kV k) (kD q) ∧ Rp K H v d
  | [], _, _, _, _, _, _, _, _, h => by simp at h
  | p :: kvs, [], _, _, _, _, h, _, _, _ => by simp at h
  | p :: kvs, q :: ks, ds, i, k, v, h, hz, r, hi => by
    rw [List.map_cons, List.map_cons, List.cons.injEq] at h
    cases r with
    | @cons _ _ d ds' r1 t =>
      cases i with
      | zero =>
        simp only [List.getElem?_cons_zero, Option.some.injEq] at hi
        subst hi
        refine ⟨q, d, rfl, ?_, r1⟩
        rw [show k = dkey q from h.1]
        cases q with
        | inl i => exact .int i
        | inr l => exact .str l (hz l List.mem_cons_self)
      | succ i =>
        rw [List.getElem?_cons_succ] at hi
        obtain ⟨q', d', e1, e2, e3⟩ := items_get h.2 (fun l hl => hz l (List.mem_cons_of_mem _ hl)) t hi
        exact ⟨q', d', by simpa [itemsD] using e1, e2, e3⟩
theorem items_len {H : Hp} {kvs : List (Key × V)} {ks : List DK} {ds : List D} (h : kvs.map (·.1) = ks.map dkey) (r : RpAll K H (kvs.map (·.2)) ds) : (itemsD ks ds).length = kvs.length := by
  have h1 : kvs.length = ks.length := by simpa using congrArg List.length h
  have h2 := r.length
  rw [List.length_map] at h2
  unfold itemsD
  rw [List.length_map, List.length_zip]
  omega
theorem yl_items {m : Hp} {a : Addr} {od : Obj} {kvs : List (Key × V)} {ks : List DK} {ds : List D} (hk : kvs.map (·.1) = ks.map dkey) (hz : KeysOk ks) (r : RpAll K m (kvs.map (·.2)) ds) : YlL K (Iti a od kvs) m (fun H => H a = some (.frz od (.dK kvs))) (itemsD ks ds) := fun O H hO e hL i => by
  have hl := items_len hk r
  refine ⟨fun hi => ⟨hL, by omega⟩, fun hi => ⟨hL, by omega⟩, fun x H' hi ⟨T, k, v, e1, e2, e3, e4⟩ => ?_⟩
  subst e2 e4
  obtain ⟨q, d, h1, h2, h3⟩ := items_get hk hz r e1
  have en := same_new (o := .tup [kV k, v]) e3
  refine ⟨_, h1, en, .tup (.inl (.inl ?_)) (RpAll.mono (msk_same en) (.cons (h2.mono e) (.cons (h3.mono e) .nil)))⟩
  show msk _ _ _ = _
  rw [msk_of fun z => hO T z e3, upd_same]
variable {kx vx iter elt : Expr} {ifs : List Expr} {scope : Scope} {fi : FA} {fg : FG} {tt : FT} {te tk tv : FE} {ws : List Nat} {x : Str} {p apos cpos tpos : Pos} {elts : List Expr} {kk : Nat}
/-- [elt for k, v in found.items() if ..], found one's own -/
theorem df_lcItems (i : Nat) (hc : X.calm = true) (hNd : X.N.Nodup) (own : List (Str × Nat)) (ok : blkC X.N X.env.scope scope own = true) (hw : ∀ i ∈ ws, i ∈ own.map (·.2))
    (hg : AllB X scope fun X' => DG K X' (.Tuple elts kk tpos) ws fg) (ht : AllB X scope fun X' => DTs K X' ifs tt) (he : AllB X scope fun X' => DE K X' elt te)
    (hN : X.N[i]? = some x := by rfl) (hv : Vis X.env.scope x := by first | exact Or.inl rfl | exact Or.inr (Or.inl rfl) | exact Or.inr (Or.inr rfl))
    (hd1 : (x == ("__debug__" : Str)) = false := by decide) (hcd : (x == ("__classdict__" : Str)) = false := by decide)
    (hs : ∀ y, foldedSetIterable (.Call (.Attribute (.Name x p) "items" apos) [] [] cpos) X.env y = pure y := by intro _; rfl)
    (hbase : attributeBase (.Name x p) "items" X.env (eval (.Name x p) X.env) = eval (.Name x p) X.env := by rfl) (hline : (apos.endLine == cpos.line) = true := by rfl) :
    DF K X (.ListComp elt [⟨.Tuple elts kk tpos, .Call (.Attribute (.Name x p) "items" apos) [] [] cpos, ifs, 0⟩] scope pos)
      (fun ρ P => odAt ρ[i]? fun ks ds => noOwn (ρ.set i .no) (own.map (·.2)) = true ∧ blkD fg tt (bodyL te) (own.map (·.2)) (itemsD ks ds) (ρ.set i .no) [] fun es => P (.ol es)) := ⟨fun hK => by
  refine pe_imp (pe_lock (pe_lc hc hNd (pi_items (pe_var hN hv hd1 hcd) hbase hline) (blkOk_by ok) (fun s H C cl fp => (hg s H C cl fp).pg hK) (fun s H C cl fp => (ht s H C cl fp).pt hK) (fun s H C cl fp => (he s H C cl fp).pe hK) hs)) fun σ H Q q => ?_
  obtain ⟨c, ρ, P, st, f, k⟩ := q
  obtain ⟨a, kvs, ks, ds, h1, h2, h3, h4, hz, h5, h6, hn, f⟩ := st.od f
  refine ⟨a, .dK kvs, h3, trivial, fun ob => ⟨.ref a, h2, a, ob, kvs, rfl, upd_same, ?_⟩⟩
  obtain ⟨s1, eM⟩ := st.lockIn (.frz ob (.dK kvs)) h1 h2 h6
  have ow : ∀ b, Ow c σ ρ b → Ow (c.plus a) σ (ρ.set i .no) b := fun b h => by rw [ow_hide h1 rfl h2]; exact h
  have tpa : c.tp ≠ some a := fun z => st.tpB a z h6
  have tkm : ∀ b, hasTk (ρ.set i .no) b → hasTk ρ b := fun b ⟨n, hb⟩ => ⟨n, (List.mem_or_eq_of_mem_set hb).resolve_right fun z => by cases z⟩
  have ntk : ¬ hasTk ρ a := fun z => by
    obtain ⟨_, z⟩ := z
    obtain ⟨j, hj⟩ := List.getElem?_of_mem z
    have := st.inj i j _ _ a h1 hj rfl rfl h2 (st.slot j _ hj).1
    subst this
    rw [h1] at hj
    cases hj
  have hoa : Ow c σ ρ a := .inr ⟨i, _, h1, rfl, h2⟩
  refine e_lcJ (Q := fun v H' => H' a = some (.frz ob (.dK kvs)) ∧ Q v (upd H' a (.dK kvs))) hw s1 hn (L := fun H => H a = some (.frz ob (.dK kvs))) (yl_items h4 hz (by rw [eM]; exact h5)) (fun H2 oo => oo a _ (ow a hoa) tpa (fun z => ntk (tkm _ z)) upd_same) f fun D H' es acc hD hD' racc s2 sm2 oo pe => ?_
  have ha' : H' a = some (.frz ob (.dK kvs)) := oo a _ (ow a hoa) tpa (fun z => ntk (tkm _ z)) upd_same
  have neD : D ≠ a := fun z => by subst z; rw [upd_same] at hD; cases hD
  have hHD : H D = none := by rwa [upd_ne neD] at hD
  rw [plus_comm] at s2 racc
  have sm2' : Same (M c σ ρ H) (M ((c.plus D).plus a) σ (ρ.set i .no) H') := by rw [← eM, plus_comm]; exact sm2
  obtain ⟨s3, eM3⟩ := st.lockOut (c2 := c.plus D) h1 h2 h6 ⟨rfl, rfl⟩ s2 h4 hz (h5.mono sm2')
  refine ⟨ha', k D _ (.ol es) ⟨s3, by rw [eM3]; exact sm2', fun b o q1 q2 q3 e => ?_, st.freshB hHD, fun z => st.own_some z hHD, fun z => st.dom D z hHD, rfl, fun m em => ⟨D, acc, rfl, by rw [upd_ne neD]; exact hD', ?_, st.freshB hHD⟩⟩ pe⟩
  · by_cases z : b = a
    · subst z
      rw [h3] at e
      cases e
      exact upd_same
    · rw [upd_ne z]
      exact oo b o (ow b q1) q2 (fun z => q3 (tkm _ z)) (by rw [upd_ne z]; exact e)
  · rw [eM3] at em
    exact racc.mono em⟩
end
end DL
/-! The layer DL: name = a comprehension on one line; odds and ends. -/
namespace L2
open PySem PySem.Spec PyProof.Rows
theorem sw_trueD {kx vx : Expr} {gs : List Comprehension} {scope : Scope} {pos py : Pos} {y : Str} {l : Nat} {env : Env} (hk : env.scope.kind = .function) (hy : env.scope.names.lookup y = some .local) (hl : (py.line == pos.line) = true)
    (ha : (scope.names.any fun (n, k) => n == y && (k == .local || k == .cell)) = false) : swapsWith (.DictComp kx vx gs scope pos) (some (.Name y py)) l env = pure true := by
  have ky : env.kindOf y = some .local := hy
  have hb : env.blockKind = .function := by unfold Env.blockKind; rw [hk]; rfl
  unfold swapsWith
  simp only [hb, ky, ha, Expr.pos, hl]
  rfl
section
variable {X : Cx}
theorem ps_setDc {i : Nat} {y : Str} {py : Pos} {kx vx tg iter : Expr} {ifs : List Expr} {scope : Scope} {own : List (Str × Nat)} {pos spos : Pos} {wi : TI} {g : TG} {tt : TT} {tk tv : TE} (hc : X.calm = true) (hN : X.N.Nodup) (hy : X.N[i]? = some y) (hyl : X.env.scope.names.lookup y = some .local)
    (hsw : swapsWith (.DictComp kx vx [⟨tg, iter, ifs, 0⟩] scope pos) (some (.Name y py)) spos.line X.env = pure true) (hi : PI X tg iter wi) (ok : BlkOk X.N X.env.scope scope own)
    (hg : ∀ (s : Shared) (H : Hp) (C : Addr) (cl : List (Str × Addr)) (fp : List Addr), PG (X.blk s H scope (compEnvC scope cl C X.env) fp) tg g) (ht : ∀ (s : Shared) (H : Hp) (C : Addr) (cl : List (Str × Addr)) (fp : List Addr), PTs (X.blk s H scope (compEnvC scope cl C X.env) fp) ifs tt)
    (hk : ∀ (s : Shared) (H : Hp) (C : Addr) (cl : List (Str × Addr)) (fp : List Addr), PE (X.blk s H scope (compEnvC scope cl C X.env) fp) kx tk)
    (he : ∀ (s : Shared) (H : Hp) (C : Addr) (cl : List (Str × Addr)) (fp : List Addr), PE (X.blk s H scope (compEnvC scope cl C X.env) fp) vx tv) (hs : ∀ x, foldedSetIterable iter X.env x = pure x := by intro _; rfl) :
    PS X (.Assign [.Name y py] (.DictComp kx vx [⟨tg, iter, ifs, 0⟩] scope pos) spos) (tAsg (tDc wi g tt tk tv (own.map (·.2))) (gName i)) := by
  refine ⟨fun pins s σ H D I h => ?_⟩
  rw [exec_Assign_Name_used _ _ _ _ hsw]
  refine wpAny_bind (wpAny_standAt (wpAny_bind ?_))
  show wpAny _ X.A (do let _ ← comprehension (.DictComp kx vx [⟨tg, iter, ifs, 0⟩] scope pos) scope X.env (firstIterPos [⟨tg, iter, ifs, 0⟩] pos) newDict false (eval iter X.env) (some (assign (.Name y py) X.env))) _ _ s
  have h : tDc wi g tt tk tv (own.map (·.2)) σ H (fun x H1 => gName i x σ H1 D.nx) := h
  refine wpAny_bind (thn (dc_core (Qf := fun _ s' => SP X pins D .next s') hc hN I hi ok hg ht hk he hs h fun L C s' m H' I' q hn f => ?_) fun _ s' hq => wpAny_pure (wpAny_pure hq))
  show wpAny _ _ (assign (.Name y py) X.env (.ref L)) _ _ _
  refine wpAny_assign_Name (store_ok2 (v := V.ref L) I' hN hy (.inl hyl) rfl (fun s2 I2 ⟨a, sb, ha⟩ => ?_) (.inr hyl))
  obtain ⟨f0, f1, f2, f3, f4, f5⟩ := f
  have haC : C ≠ a := by
    rcases ha with z | z
    · rw [z]; exact f1
    · exact fun e => f4 y a z e.symm
  refine ⟨m, hn.sameBut sb haC, fun h3 sb3 => ?_⟩
  exact ⟨_, H', I2.turned (t' := s2.toks) (fun b o hb e => (sb3.2 b hb).trans e) f0 f1 f3 f4 f5, q⟩
end
end L2
namespace DL
open PySem PySem.Spec PyProof.Rows L2
section
variable [TapeI] {K : PySem.W.Frag} {X : Cx} {pos : Pos} {e : Expr} {fa : FE} {fs : FA} {tg : Expr} {es : List Expr}
/-- a comprehension, also as the value of an assignment on its line -/
structure DFC (K : PySem.W.Frag) (X : Cx) (e : Expr) (f : FN) : Prop where
  df : DF K X e f
  ps : X.K = K → ∀ {i : Nat} {y : Str} {py spos : Pos}, X.N[i]? = some y → X.env.scope.names.lookup y = some .local → swapsWith e (some (.Name y py)) spos.line X.env = pure true → PS X (.Assign [.Name y py] e spos) (tAsg (nOf K f) (gName i))
theorem tAsg_imp {t t' : TE} {g : TG} (h : ∀ σ H Q, t' σ H Q → t σ H Q) (D : Ends) (σ : St) (H : Hp) (q : tAsg t' g D σ H) : tAsg t g D σ H := h σ H _ q
variable {kx vx iter elt : Expr} {ifs : List Expr} {scope : Scope} {fi : FA} {fg : FG} {tt : FT} {te tk tv : FE} {ws : List Nat}
theorem e_lcN {own : List (Str × Nat)} (hw : ∀ i ∈ ws, i ∈ own.map (·.2)) (σ : St) (H : Hp) (Q : VK) (q : nOf K (fun ρ P => fLc fi fg tt te (own.map (·.2)) ρ fun es => P (.ol es)) σ H Q) : tLc (iOf K fi) (gOf K ws fg) (bOf K tt) (eOf K te) (own.map (·.2)) σ H Q := by
  obtain ⟨c, ρ, P, st, f, k⟩ := q
  refine e_lc hw st f fun D H1 H' es acc A hD hacc racc s2 sm2 oo p => ?_
  exact k D H' (.ol es) ⟨s2, A.sm.trans sm2, fun b o h1 h2 h3 e => oo b o h1 h2 h3 (A.oo b o h1 h2 h3 e), A.st.freshB hD, fun z => A.st.own_some z hD, fun z => A.st.dom D z hD, rfl, fun m em => ⟨D, acc, rfl, hacc, racc.mono em, A.st.freshB hD⟩⟩ p
theorem dfc_lc (hc : X.calm = true) (hN : X.N.Nodup) (hi : DI K X tg iter fi) (own : List (Str × Nat)) (ok : blkC X.N X.env.scope scope own = true) (hw : ∀ i ∈ ws, i ∈ own.map (·.2))
    (hg : AllB X scope fun X' => DG K X' tg ws fg) (ht : AllB X scope fun X' => DTs K X' ifs tt) (he : AllB X scope fun X' => DE K X' elt te) (hs : ∀ x, foldedSetIterable iter X.env x = pure x := by intro _; rfl) :
    DFC K X (.ListComp elt [⟨tg, iter, ifs, 0⟩] scope pos) (fun ρ P => fLc fi fg tt te (own.map (·.2)) ρ fun es => P (.ol es)) where
  df := ⟨fun hK => pe_imp (pe_lc hc hN (hi.pi hK) (blkOk_by ok) (fun s H C cl fp => (hg s H C cl fp).pg hK) (fun s H C cl fp => (ht s H C cl fp).pt hK) (fun s H C cl fp => (he s H C cl fp).pe hK) hs) (e_lcN hw)⟩
  ps := fun hK _ _ _ _ hy hyl hsw => ps_imp (L2.ps_setLc hc hN hy hyl hsw (hi.pi hK) (blkOk_by ok) (fun s H C cl fp => (hg s H C cl fp).pg hK) (fun s H C cl fp => (ht s H C cl fp).pt hK) (fun s H C cl fp => (he s H C cl fp).pe hK) hs) (tAsg_imp (e_lcN hw))
theorem e_dcN {own : List (Str × Nat)} (hw : ∀ i ∈ ws, i ∈ own.map (·.2)) (σ : St) (H : Hp) (Q : VK) (q : nOf K (fDc fi fg tt tk tv (own.map (·.2))) σ H Q) : tDc (iOf K fi) (gOf K ws fg) (bOf K tt) (eOf K tk) (eOf K tv) (own.map (·.2)) σ H Q := by
  obtain ⟨c, ρ, P, st, ⟨hn, f⟩, k⟩ := q
  refine ⟨c, ρ, _, st, f, fun J H1 ds A y p => fun D hD => ?_⟩
  have hB := A.st.freshB hD
  have hno : ¬ DL.own σ ρ D := fun z => A.st.own_some z hD
  obtain ⟨sp, smp⟩ := A.st.plus (o := .dK []) hD
  refine blk_loop (AR := ARD K) ARD.mono (body_D hB) hw hB hno hn sp (y.L.mono smp) (fun _ _ => trivial) ⟨_, upd_same, [], rfl, rfl, (fun l hl => by simp at hl), .nil⟩ p fun H' a B pe => ?_
  obtain ⟨o, hD', kvs, eo, h1, h2, h3⟩ := B.at_
  subst eo
  exact k D H' (.od a.1 a.2) ⟨B.st, A.sm.trans (smp.trans B.sm), fun b o q1 q2 q3 e => by
    have e1 := A.oo b o q1 q2 q3 e
    exact B.oo b o q1 q2 q3 (ne_of_none e1 hD) (same_new hD b o e1), hB, hno, fun z => A.st.dom D z hD, rfl, fun m em => ⟨D, kvs, rfl, hD', h1, h2, h3.mono em, hB⟩⟩ pe
theorem dfc_dc (hc : X.calm = true) (hN : X.N.Nodup) (hi : DI K X tg iter fi) (own : List (Str × Nat)) (ok : blkC X.N X.env.scope scope own = true) (hw : ∀ i ∈ ws, i ∈ own.map (·.2))
    (hg : AllB X scope fun X' => DG K X' tg ws fg) (ht : AllB X scope fun X' => DTs K X' ifs tt) (hk : AllB X scope fun X' => DE K X' kx tk) (he : AllB X scope fun X' => DE K X' vx tv) (hs : ∀ x, foldedSetIterable iter X.env x = pure x := by intro _; rfl) :
    DFC K X (.DictComp kx vx [⟨tg, iter, ifs, 0⟩] scope pos) (fDc fi fg tt tk tv (own.map (·.2))) where
  df := df_dc hc hN hi own ok hw hg ht hk he hs
  ps := fun hK _ _ _ _ hy hyl hsw => ps_imp (L2.ps_setDc hc hN hy hyl hsw (hi.pi hK) (blkOk_by ok) (fun s H C cl fp => (hg s H C cl fp).pg hK) (fun s H C cl fp => (ht s H C cl fp).pt hK) (fun s H C cl fp => (hk s H C cl fp).pe hK) (fun s H C cl fp => (he s H C cl fp).pe hK) hs) (tAsg_imp (e_dcN hw))
variable {tg1 iter1 : Expr} {ifs1 : List Expr} {fi1 : FA} {fg1 : FG} {tt1 : FT} {ws1 vs1 : List Nat}
theorem e_lc2N {vs : List Nat} (hw : ∀ i ∈ ws, i ∈ vs) (hw1 : ∀ i ∈ ws1, i ∈ vs1) (σ : St) (H : Hp) (Q : VK) (q : nOf K (fun ρ P => fLc2 fi fg tt fi1 fg1 tt1 te vs vs1 ρ fun es => P (.ol es)) σ H Q) : tLc2 (iOf K fi) (gOf K ws fg) (bOf K tt) (iOf K fi1) (gOf K ws1 fg1) (bOf K tt1) (eOf K te) vs vs1 σ H Q := by
  obtain ⟨c, ρ, P, st, f, k⟩ := q
  exact e_lc2 hw hw1 st f fun D H' es n p => k D H' _ n p
theorem dfc_lc2 (hc : X.calm = true) (hN : X.N.Nodup) (hi : DI K X tg iter fi) (own : List (Str × Nat)) (vs1 : List Nat) (ok : blkC X.N X.env.scope scope own = true) (hv : ∀ i ∈ vs1, i ∈ own.map (·.2)) (hw : ∀ i ∈ ws, i ∈ own.map (·.2)) (hw1 : ∀ i ∈ ws1, i ∈ vs1)
    (hg : AllB X scope fun X' => DG K X' tg ws fg) (ht : AllB X scope fun X' => DTs K X' ifs tt) (hi1 : AllB X scope fun X' => DI K X' tg1 iter1 fi1) (hg1 : AllB X scope fun X' => DG K X' tg1 ws1 fg1) (ht1 : AllB X scope fun X' => DTs K X' ifs1 tt1)
    (he : AllB X scope fun X' => DE K X' elt te) (hs : ∀ x, foldedSetIterable iter X.env x = pure x := by intro _; rfl) (hs1 : ∀ env x, foldedSetIterable iter1 env x = pure x := by intro _ _; rfl) :
    DFC K X (.ListComp elt [⟨tg, iter, ifs, 0⟩, ⟨tg1, iter1, ifs1, 0⟩] scope pos) (fun ρ P => fLc2 fi fg tt fi1 fg1 tt1 te (own.map (·.2)) vs1 ρ fun es => P (.ol es)) where
  df := df_lc2 hc hN hi own vs1 ok hv hw hw1 hg ht hi1 hg1 ht1 he hs hs1
  ps := fun hK _ _ _ _ hy hyl hsw => ps_imp (L2.ps_setLc2 hc hN hy hyl hsw (hi.pi hK) (blkOk_by ok) hv (fun s H C cl fp => (hg s H C cl fp).pg hK) (fun s H C cl fp => (ht s H C cl fp).pt hK) (fun s H C cl fp => (hi1 s H C cl fp).pi hK) (fun s H C cl fp => (hg1 s H C cl fp).pg hK) (fun s H C cl fp => (ht1 s H C cl fp).pt hK) (fun s H C cl fp => (he s H C cl fp).pe hK) hs hs1) (tAsg_imp (e_lc2N hw hw1))
/-- a comprehension goes into a slot, as one's own -/
theorem ds_setC {y : Str} {py : Pos} {f : FN} (i : Nat) (h : DFC K X e f) (hsw : swapsWith e (some (.Name y py)) pos.line X.env = pure true) (hy : X.N[i]? = some y := by rfl) (hyl : X.env.scope.names.lookup y = some .local := by rfl) :
    DS K X (.Assign [.Name y py] e pos) (fun E ρ => f ρ fun s => E.nx (ρ.set i s)) := ⟨fun hK => ps_imp (h.ps hK hy hyl hsw) fun D σ H q => by
  obtain ⟨c, ρ, E, wf, s0, g, kn, kr, kb, kc⟩ := q
  refine ⟨c, ρ, _, s0, g, fun D H' s n p => ?_⟩
  obtain ⟨s1, sm⟩ := StR.plusOwn i n
  exact kn _ _ H' s1 sm p⟩
/-- .. shared at once -/
theorem ds_setCs {y : Str} {py : Pos} {f : FN} (i : Nat) (h : DFC K X e f) (hsw : swapsWith e (some (.Name y py)) pos.line X.env = pure true) (hy : X.N[i]? = some y := by rfl) (hyl : X.env.scope.names.lookup y = some .local := by rfl) :
    DS K X (.Assign [.Name y py] e pos) (fun E ρ => f ρ fun s => shP s fun d => E.nx (ρ.set i (.sh d))) := ⟨fun hK => ps_imp (h.ps hK hy hyl hsw) fun D σ H q => by
  obtain ⟨c, ρ, E, wf, s0, g, kn, kr, kb, kc⟩ := q
  refine ⟨c, ρ, _, s0, g, fun D H' s n p => ?_⟩
  obtain ⟨d, A, r, p⟩ := n.share p
  obtain ⟨s1, sm⟩ := A.st.setSh i r
  exact kn _ _ H' s1 (A.sm.trans sm) p⟩
/-- a, b = e, a new object of one's own -/
theorem ds_parOwn {x y : Str} {a b : Expr} {fn : FN} {px py pt : Pos} {kt k2 pt2} (i j : Nat) (hc : X.calm = true) (hN : X.N.Nodup) (ha : DE K X a fa) (hb : DF K X b fn) (hij : i ≠ j := by decide) (hi : X.N[i]? = some x := by rfl) (hj : X.N[j]? = some y := by rfl)
    (hx : X.env.scope.names.lookup x = some .local := by rfl) (hy : X.env.scope.names.lookup y = some .local := by rfl)
    (hw : swappedStores [.Tuple [.Name x px, .Name y py] kt pt] (.Tuple [a, b] k2 pt2) X.env = pure (some [x, y]) := by rfl)
    (hs : swapsWithSole [.Tuple [.Name x px, .Name y py] kt pt] (.Tuple [a, b] k2 pt2) pos.line X.env = pure false := by rfl)
    (hs1 : starEach [a, b] X.env = (false, eval a X.env) :: starEach [b] X.env := by rfl) (hs2 : starEach [b] X.env = (false, eval b X.env) :: starEach [] X.env := by rfl) :
    DS K X (.Assign [.Tuple [.Name x px, .Name y py] kt pt] (.Tuple [a, b] k2 pt2) pos) (fun E ρ => fa ρ fun d => fn ρ fun s => E.nx ((ρ.set j s).set i (.sh d))) := ⟨fun hK => ps_imp (ps_par hc hN hi hj hij hx hy (pa_cons (ha.pe hK) (pa_cons (hb.pe hK) pa_nil hs2) hs1) hw hs) fun D σ H q => by
  obtain ⟨c, ρ, E, wf, s0, g, kn, kr, kb, kc⟩ := q
  refine ⟨c, ρ, _, s0, g, fun v H1 d A r p => ⟨c, ρ, _, A.st, p, fun q H2 s n p => ⟨v, .ref q, rfl, ?_⟩⟩⟩
  obtain ⟨s1, sm⟩ := StR.plusOwn j n
  obtain ⟨s2, sm2⟩ := s1.setSh i (r.mono sm)
  rw [List.set_comm _ _ hij] 
  exact kn _ _ H2 s2 ((A.sm.trans sm).trans sm2) p⟩
/-- -e -/
def fNeg (f : FE) : FE := fun ρ P => f ρ fun d => match d with
  | .int i => P (.int (-i))
  | _ => False
theorem de_neg {a : Expr} (h : DE K X a fa) : DE K X (.UnaryOp .USub a pos) (fNeg fa) := ⟨fun hK => pe_imp (pe_un un_neg (h.pe hK)) fun σ H Q q => by
  obtain ⟨c, ρ, P, st, f, k⟩ := q
  refine ⟨c, ρ, _, st, f, fun v H1 d A r p => ?_⟩
  cases r with
  | int i => exact ⟨i, rfl, k _ H1 _ A (.int _) p⟩
  | _ => exact p.elim⟩
/-- e[::-1], a list -/
def fRev (f : FE) : FE := fun ρ P => f ρ fun d => match d with
  | .lst ds => P (.lst ds.reverse)
  | _ => False
theorem de_rev {k : Nat} {p1 p2 p3 : Pos} (h : DE K X e fa) : DE K X (.Subscript e (.Slice none none (some (.UnaryOp .USub (.Constant (.int 1) k p1) p2)) p3) pos) (fRev fa) := ⟨fun hK => by
  subst hK
  refine pe_imp (pe_revL (h.pe rfl)) fun σ H Q q => ?_
  obtain ⟨c, ρ, P, st, f, k⟩ := q
  refine ⟨c, ρ, _, st, f, fun v H1 d A r p => ?_⟩
  cases r with
  | @lst a xs ds h r =>
    refine ⟨a, xs, rfl, .inl (.inl (msk_some h).2), fun q hq => ?_⟩
    have en := same_new (o := .lst xs.reverse) hq
    exact k _ _ _ (A.trans (.grow A.st en)) (.lst (A.st.newM hq) (r.reverse.mono (msk_same en))) p
  | _ => exact p.elim⟩
end
section
variable [TapeI] {K : PySem.W.Frag} {X : Cx} {pos : Pos}
def gLenS : GA := fun ds P => a1 ds fun d => ∃ n, lenD d = some n ∧ (∀ ks es, d ≠ .dic ks es) ∧ P (.int (n : Nat))
theorem dc_lenS : DCall K X (.builtin "len") gLenS := dc_len
theorem de_gstrT (s : String) {x : Str} (hg : Gl X x) (hm : ∃ t, X.mg x = some (.str (Str.ofString s) t)) (hz : (T s).length ≤ 16777216 := by decide +kernel) (hd : (x == ("__debug__" : Str)) = false := by decide) : DE K X (.Name x pos) (fC (.str (T s))) := by
  obtain ⟨t, hm⟩ := hm
  refine de_gstr hg hm ?_ hd
  rw [sizeLine_eq]
  simpa [T, Str.length] using hz
theorem ds_doc {x : Str} {j} {p p' : Pos} : DS K X (.Expr (.Constant (.str x) j p) p') gNext := ⟨fun hK => ps_imp ps_doc fun D σ H q => by
  obtain ⟨c, ρ, E, wf, st, g, kn, kr, kb, kc⟩ := q
  exact kn σ ρ H st (Same.refl _) g⟩
end
/-! ### the built-ins' names -/
theorem B_len : bootBuiltins "len" = some (.builtin "len") := by decide +kernel
theorem B_all : bootBuiltins "all" = some (.builtin "all") := by decide +kernel
theorem B_any : bootBuiltins "any" = some (.builtin "any") := by decide +kernel
theorem B_sum : bootBuiltins "sum" = some (.builtin "sum") := by decide +kernel
theorem B_max : bootBuiltins "max" = some (.builtin "max") := by decide +kernel
theorem B_min : bootBuiltins "min" = some (.builtin "min") := by decide +kernel
theorem B_sorted : bootBuiltins "sorted" = some (.builtin "sorted") := by decide +kernel
theorem B_repr : bootBuiltins "repr" = some (.builtin "repr") := by decide +kernel
theorem B_isinstance : bootBuiltins "isinstance" = some (.builtin "isinstance") := by decide +kernel
theorem B_tuple : bootBuiltins "tuple" = some (.type "tuple") := by decide +kernel
theorem B_list : bootBuiltins "list" = some (.type "list") := by decide +kernel
theorem B_dict : bootBuiltins "dict" = some (.type "dict") := by decide +kernel
theorem B_int : bootBuiltins "int" = some (.type "int") := by decide +kernel
theorem B_str : bootBuiltins "str" = some (.type "str") := by decide +kernel
theorem B_bool : bootBuiltins "bool" = some (.type "bool") := by decide +kernel
end DL
/-! The layer DL: expressions that draw. -/
namespace DL
open PySem PySem.Spec PyProof.Rows L2
section
variable [TapeI] {K : PySem.W.Frag} {X : Cx} {pos : Pos} {a b e : Expr} {es : List Expr} {fa fb : FM} {c : Fx} {σ : St} {ρ : Rho} {H H' : Hp}
def mE (f : FE) : FM := fun ρ P => f ρ fun d => P d ρ
theorem dm_of {f : FE} (h : DE K X e f) : DM K X e (mE f) := ⟨fun hK => pe_imp (h.pe hK) fun σ H Q q => by
  obtain ⟨c, ρ, P, st, f, k⟩ := q
  exact ⟨c, ρ, _, st, f, fun v H' d A r p => k v H' d ρ (.of st A) r p⟩⟩
/-! ### argument lists -/
abbrev FAM := Rho → (List D → Rho → Prop) → Prop
def amOf (K : PySem.W.Frag) (f : FAM) : TA := fun σ H Q => ∃ (c : Fx) (ρ : Rho) (P : List D → Rho → Prop), StR K c σ ρ H ∧ f ρ P ∧ ∀ vs H' ds ρ', AftM K c σ ρ H ρ' H' → RpAll K (M c σ ρ' H') vs ds → P ds ρ' → Q vs H'
structure DAM (K : PySem.W.Frag) (X : Cx) (es : List Expr) (f : FAM) : Prop where
  pa : X.K = K → PA X es (amOf K f)
def mA (f : FA) : FAM := fun ρ P => f ρ fun ds => P ds ρ
theorem dam_of {f : FA} (h : DA K X es f) : DAM K X es (mA f) := ⟨fun hK => pa_imp (h.pa hK) fun σ H Q q => by
  obtain ⟨c, ρ, P, st, f, k⟩ := q
  exact ⟨c, ρ, _, st, f, fun v H' d A r p => k v H' d ρ (.of st A) r p⟩⟩
def fNilM : FAM := fun ρ P => P [] ρ
def fConsM (fe : FM) (fs : FAM) : FAM := fun ρ P => fe ρ fun d ρ1 => fs ρ1 fun ds ρ2 => P (d :: ds) ρ2
theorem dam_nil : DAM K X [] fNilM := ⟨fun hK => pa_imp pa_nil fun σ H Q q => by
  obtain ⟨c, ρ, P, st, f, k⟩ := q
  exact k [] H [] ρ (.of st (.refl st)) .nil f⟩
theorem dam_cons {fs : FAM} (he : DM K X e fa) (hr : DAM K X es fs) (hs : starEach (e :: es) X.env = (false, eval e X.env) :: starEach es X.env := by rfl) : DAM K X (e :: es) (fConsM fa fs) := ⟨fun hK => pa_imp (pa_cons (he.pe hK) (hr.pa hK) hs) fun σ H Q q => by
  obtain ⟨c, ρ, P, st, f, k⟩ := q
  refine ⟨c, ρ, _, st, f, fun v H1 d ρ1 A1 r1 p => ?_⟩
  exact ⟨c, ρ1, _, A1.st, p, fun vs H2 ds ρ2 A2 r2 p => k (v :: vs) H2 (d :: ds) ρ2 (A1.trans A2) (.cons (r1.mono A2.sm) r2) p⟩⟩
/-! ### the draw -/
def tkn : Option Sl → (Addr → Nat → Prop) → Prop
  | some (.tk t m), P => P t m
  | _, _ => False
def fDraw (spec : GA) (cost n i : Nat) (fs : FAM) : FM := fun ρ P => tkn ρ[i]? fun _ _ => fs ρ fun ds ρ1 => tkn ρ1[i]? fun t m => ds.length = n ∧ m + cost ≤ LIM ∧ spec ds fun d => P d (ρ1.set i (.tk t (m + cost)))
variable {x : Str} {p : Pos} {k n cost : Nat} {spec : GA} {fs : FAM}
theorem dm_draw {y : Str} {p2 : Pos} (i : Nat) (C : CalT X.prog X.w X.K X.mg X.base k x n spec cost) (hr : RoomG k X.A) (hg : Gl X x) (ha : DAM K X es fs) (hN : X.N[i]? = some y := by rfl) (hv : Vis X.env.scope y := by first | exact Or.inl rfl | exact Or.inr (Or.inl rfl) | exact Or.inr (Or.inr rfl))
    (hd1 : (y == ("__debug__" : Str)) = false := by decide) (hcd : (y == ("__classdict__" : Str)) = false := by decide)
    (hdb : (x == ("__debug__" : Str)) = false := by decide) (he : starEach (.Name y p2 :: es) X.env = (false, eval (.Name y p2) X.env) :: starEach es X.env := by rfl) (hpl : (backTo pos (starEach es X.env)).any (·.1) = false := by rfl) :
    DM K X (.Call (.Name x p) (.Name y p2 :: es) [] pos) (fDraw spec cost n i fs) := ⟨fun hK => by
  subst hK
  obtain ⟨f, fd, ps, g, h1, h2, h3, h4⟩ := C
  refine pe_imp (pe_callG h3 hr hg h1 h2 h4 passG (pa_cons (pe_var hN hv hd1 hcd) (ha.pa rfl) he) hdb he hpl) fun σ H Q q => ?_
  obtain ⟨c, ρ, P, st, f, k⟩ := q
  unfold fDraw at f
  cases hi : ρ[i]? with
  | none => rw [hi] at f; exact f.elim
  | some sl =>
    rw [hi] at f
    cases sl with
    | tk t m0 =>
      have hsl := st.slot i _ hi
      refine ⟨.ref t, hsl.1, c, ρ, _, st, f, fun vs H1 ds ρ1 A1 r q => ?_⟩
      cases hi1 : ρ1[i]? with
      | none => rw [hi1] at q; exact q.elim
      | some sl1 =>
        rw [hi1] at q
        cases sl1 with
        | tk t1 m =>
          obtain ⟨hl, hm, q⟩ := q
          have hsl1 := A1.st.slot i _ hi1
          have et : t1 = t := by
            have := hsl.1.symm.trans hsl1.1
            cases this; rfl
          subst et
          refine ⟨by rw [List.length_cons, r.length, hl], rfl, ?_⟩
          refine ⟨Ow c σ ρ1, t1, m, vs, ds, fun d => P d (ρ1.set i (.tk t1 (m + cost))), rfl, hl, hm, fun b => A1.st.ow_some, .inr ⟨i, _, hi1, rfl, hsl1.1⟩, hsl1.2.1, r, q, fun v H' d rv hs tp p => ?_⟩
          obtain ⟨s2, eM, sm⟩ := A1.st.drawn i hi1 hs tp
          refine k v H' d _ (A1.trans ⟨s2, by rw [eM]; exact sm, own_swap hi1 rfl rfl, fun b o z1 z2 _ e => hs b o (fun z => ?_) e⟩) (by rw [eM]; exact rv) p
          subst z
          exact z2 ⟨i, _, hi1, rfl, hsl1.1⟩
        | _ => exact q.elim
    | _ => exact f.elim⟩
/-! ### two values, displays, calls -/
def fOpM (g : G2) (fa fb : FM) : FM := fun ρ P => fa ρ fun x ρ1 => fb ρ1 fun y ρ2 => g x y fun z => P z ρ2
theorem e_binM {r : R2} {g : G2} (hr : ∀ (O : Addr → Prop) (H : Hp) (x y : V) (dx dy : D) (P : D → Prop) (Q : VK), (∀ b, O b → H b ≠ none) → Rp K (msk O H) x dx → Rp K (msk O H) y dy → g dx dy P → Out K O H P Q → r x y H Q)
    (σ : St) (H : Hp) (Q : VK) (q : mOf K (fOpM g fa fb) σ H Q) : tOp r (mOf K fa) (mOf K fb) σ H Q := by
  obtain ⟨c, ρ, P, st, f, k⟩ := q
  refine ⟨c, ρ, _, st, f, fun x H1 dx ρ1 A1 rx p1 => ?_⟩
  refine ⟨c, ρ1, _, A1.st, p1, fun y H2 dy ρ2 A2 ry p2 => ?_⟩
  exact hr (Ow c σ ρ2) H2 x y dx dy (fun z => P z ρ2) Q (fun b => A2.st.ow_some) (rx.mono A2.sm) ry p2 fun v H' d e rv p => k v H' d ρ2 ((A1.trans A2).trans (.of A2.st (.grow A2.st e))) rv p
theorem dm_op {op : Operator} {g : G2} (ho : DOp K X (binaryOp op) g) (ha : DM K X a fa) (hb : DM K X b fb) : DM K X (.BinOp a op b pos) (fOpM g fa fb) := ⟨fun hK => by
  obtain ⟨r, h1, h2⟩ := ho
  exact pe_imp (pe_op h1 (ha.pe hK) (hb.pe hK)) (e_binM (h2 hK))⟩
theorem dm_cmp {op : CmpOp} {g : G2} (ho : DOp K X (compareOp op) g) (ha : DM K X a fa) (hb : DM K X b fb) (hm : behindInMarks op b = false := by first | exact nomark _ | rfl) : DM K X (.Compare a [op] [b] pos) (fOpM g fa fb) := ⟨fun hK => by
  obtain ⟨r, h1, h2⟩ := ho
  exact pe_imp (pe_cmpR h1 (ha.pe hK) (hb.pe hK) hm) (e_binM (h2 hK))⟩
theorem dm_ix (hu : X.A.units + 64 < cLine) (ha : DM K X a fa) (hb : DM K X b fb) (hs : PlainIx b := by intro _ _; rfl) : DM K X (.Subscript a b pos) (fOpM gIx fa fb) := ⟨fun hK => by
  subst hK
  obtain ⟨r, h1, h2⟩ := ix_ok hu
  exact pe_imp (pe_ix h1 (ha.pe rfl) (hb.pe rfl) hs) (e_binM h2)⟩
def fTupM (fs : FAM) : FM := fun ρ P => fs ρ fun ds ρ1 => ds.length ≤ sizeLine ∧ P (.tup ds) ρ1
theorem dm_tup {x1} (h : DAM K X es fs) : DM K X (.Tuple es x1 pos) (fTupM fs) := ⟨fun hK => pe_imp (pe_tup (h.pa hK)) fun σ H Q q => by
  obtain ⟨c, ρ, P, st, f, k⟩ := q
  refine ⟨c, ρ, _, st, f, fun vs H1 ds ρ1 A1 r p => ?_⟩
  refine ⟨by rw [r.length]; exact p.1, fun a ha => ?_⟩
  have e := same_new (o := .tup vs) ha
  exact k (.ref a) _ (.tup ds) ρ1 (A1.trans (.of A1.st (.grow A1.st e))) (.tup (.inl (.inl (A1.st.newM ha))) (r.mono (msk_same e))) p.2⟩
def fLstM (fs : FAM) : FM := fun ρ P => fs ρ fun ds ρ1 => ds.length ≤ sizeLine ∧ P (.lst ds) ρ1
theorem dm_lst {x1} (h : DAM K X es fs) : DM K X (.List es x1) (fLstM fs) := ⟨fun hK => pe_imp (pe_lst (h.pa hK)) fun σ H Q q => by
  obtain ⟨c, ρ, P, st, f, k⟩ := q
  refine ⟨c, ρ, _, st, f, fun vs H1 ds ρ1 A1 r p => ?_⟩
  refine ⟨by rw [r.length]; exact p.1, fun a ha => ?_⟩
  have e := same_new (o := .lst vs) ha
  exact k (.ref a) _ (.lst ds) ρ1 (A1.trans (.of A1.st (.grow A1.st e))) (.lst (A1.st.newM ha) (r.mono (msk_same e))) p.2⟩
def fCallBM (g : GA) (fs : FAM) : FM := fun ρ P => fs ρ fun ds ρ1 => g ds fun d => P d ρ1
theorem e_callBM {r : List V → Hp → VK → Prop} {g : GA} (hr : ∀ (O : Addr → Prop) (H : Hp) (xs : List V) (ds : List D) (P : D → Prop) (Q : VK), (∀ b, O b → H b ≠ none) → RpAll K (msk O H) xs ds → g ds P → Out K O H P Q → r xs H Q)
    (σ : St) (H : Hp) (Q : VK) (q : mOf K (fCallBM g fs) σ H Q) : tCB r (amOf K fs) σ H Q := by
  obtain ⟨c, ρ, P, st, f, k⟩ := q
  refine ⟨c, ρ, _, st, f, fun xs H1 ds ρ1 A1 rx p => ?_⟩
  exact hr (Ow c σ ρ1) H1 xs ds (fun d => P d ρ1) Q (fun b => A1.st.ow_some) rx p fun v H' d e rv p => k v H' d ρ1 (A1.trans (.of A1.st (.grow A1.st e))) rv p
theorem dm_callB {id : String} {g : GA} (hc : DCall K X (.builtin id) g) (hg : Gl X x) (hm : X.mg x = none) (hv : bootBuiltins x = some (.builtin id)) (ha : DAM K X (e :: es) fs) (hn : x ≠ "__name__" := by decide) (hdb : (x == ("__debug__" : Str)) = false := by decide)
    (he : starEach (e :: es) X.env = (false, eval e X.env) :: starEach es X.env := by rfl) (hpl : (backTo pos (starEach es X.env)).any (·.1) = false := by rfl) : DM K X (.Call (.Name x p) (e :: es) [] pos) (fCallBM g fs) := ⟨fun hK => by
  obtain ⟨r, h1, h2⟩ := hc
  exact pe_imp (pe_callB h1 hg hm hv (ha.pa hK) hn hdb he hpl) (e_callBM (h2 hK))⟩
theorem dm_callTy {n : String} {g : GA} (hc : DCall K X (.type n) g) (hg : Gl X x) (hm : X.mg x = none) (hv : bootBuiltins x = some (.type n)) (ha : DAM K X (e :: es) fs) (hn : x ≠ "__name__" := by decide) (hdb : (x == ("__debug__" : Str)) = false := by decide)
    (he : starEach (e :: es) X.env = (false, eval e X.env) :: starEach es X.env := by rfl) (hpl : (backTo pos (starEach es X.env)).any (·.1) = false := by rfl) : DM K X (.Call (.Name x p) (e :: es) [] pos) (fCallBM g fs) := ⟨fun hK => by
  obtain ⟨r, h1, h2⟩ := hc
  exact pe_imp (pe_callTy h1 hg hm hv (ha.pa hK) hn hdb he hpl) (e_callBM (h2 hK))⟩
def fCallM (spec : GA) (n : Nat) (fs : FAM) : FM := fun ρ P => fs ρ fun ds ρ1 => ds.length = n ∧ spec ds fun d => P d ρ1
theorem dm_call (C : CalD X.prog X.w X.K X.mg X.base k x n [] spec) (hr : RoomG k X.A) (hg : Gl X x) (ha : DAM K X (e :: es) fs) (hdb : (x == ("__debug__" : Str)) = false := by decide) (he : starEach (e :: es) X.env = (false, eval e X.env) :: starEach es X.env := by rfl) (hpl : (backTo pos (starEach es X.env)).any (·.1) = false := by rfl) :
    DM K X (.Call (.Name x p) (e :: es) [] pos) (fCallM spec n fs) := ⟨fun hK => by
  subst hK
  obtain ⟨f, fd, ps, m, s0, g, gV, h1, h2, h3, h4, h5⟩ := C
  refine pe_imp (pe_callG h3 hr hg h1 h2 h4 passG (ha.pa rfl) hdb he hpl) fun σ H Q q => ?_
  obtain ⟨c, ρ, P, st, f, k⟩ := q
  refine ⟨c, ρ, _, st, f, fun vs H1 ds ρ1 A1 r ⟨hl, q⟩ => ⟨r.length.trans hl, rfl, ?_⟩⟩
  obtain ⟨all, r', hm, hq⟩ := h5 _ vs [] ds [] r .nil hl rfl
  exact ⟨Ow c σ ρ1, all, fun d => P d ρ1, hm, fun b => A1.st.ow_some, r', hq _ (by rw [List.append_nil]; exact q), call_fin A1.st fun v H' d A2 => k v H' d ρ1 (A1.trans (.of A1.st A2))⟩⟩
/-! ### tests, if -/
abbrev FTM := Rho → (Bool → Rho → Prop) → Prop
def bmOf (K : PySem.W.Frag) (f : FTM) : TT := fun σ H Q => ∃ (c : Fx) (ρ : Rho) (P : Bool → Rho → Prop), StR K c σ ρ H ∧ f ρ P ∧ ∀ b H' ρ', AftM K c σ ρ H ρ' H' → P b ρ' → Q b H'
structure DTM (K : PySem.W.Frag) (X : Cx) (e : Expr) (f : FTM) : Prop where
  pt : X.K = K → PT X e (bmOf K f)
def mT (f : FT) : FTM := fun ρ P => f ρ fun b => P b ρ
theorem dtm_of {f : FT} (h : DT K X e f) : DTM K X e (mT f) := ⟨fun hK => pt_imp (h.pt hK) fun σ H Q q => by
  obtain ⟨c, ρ, P, st, f, k⟩ := q
  exact ⟨c, ρ, _, st, f, fun b H' A p => k b H' ρ (.of st A) p⟩⟩
def fBM (f : FM) : FTM := fun ρ P => f ρ fun d ρ1 => asB d fun b => P b ρ1
theorem dtm_cmp {op : CmpOp} {g : G2} (ho : DOp K X (compareOp op) g) (ha : DM K X a fa) (hb : DM K X b fb) (hm : behindInMarks op b = false := by first | exact nomark _ | rfl) : DTM K X (.Compare a [op] [b] pos) (fBM (fOpM g fa fb)) := ⟨fun hK => by
  obtain ⟨r, h1, h2⟩ := ho
  refine pt_imp (pt_cmpR h1 (ha.pe hK) (hb.pe hK) hm) fun σ H Q q => ?_
  obtain ⟨c, ρ, P, st, f, k⟩ := q
  refine e_binM (h2 hK) σ H _ ⟨c, ρ, _, st, f, fun v H' d ρ1 A rv p => ?_⟩
  cases d with
  | bl b => cases rv; exact ⟨b, rfl, k b H' ρ1 A p⟩
  | _ => exact p.elim⟩
theorem dtm_val (h : DM K X a fa) (he : ∀ whole, isTrue a X.env whole = (do let v ← whole; standAt a.pos; holding [v] (truthy v)) := by intro _; rfl) : DTM K X a (fBM fa) := ⟨fun hK => by
  refine pt_imp (pt_val (h.pe hK) he) fun σ H Q q => ?_
  obtain ⟨c, ρ, P, st, f, k⟩ := q
  refine ⟨c, ρ, _, st, f, fun v H' d ρ1 A rv p => ?_⟩
  cases d with
  | bl b => cases rv; exact ⟨b, rfl, k b H' ρ1 A p⟩
  | _ => exact p.elim⟩
structure DWM (K : PySem.W.Frag) (X : Cx) (e : Expr) (f : FTM) : Prop where
  pw : X.K = K → PW X e (bmOf K f)
theorem DWM.dt {f : FTM} (h : DWM K X e f) : DTM K X e f := ⟨fun hK => (h.pw hK).pt⟩
variable {f g : FTM} {rest : List Expr}
def fAndM (f g : FTM) : FTM := fun ρ P => f ρ fun b ρ1 => if b = true then g ρ1 P else P false ρ1
def fOrM (f g : FTM) : FTM := fun ρ P => f ρ fun b ρ1 => if b = true then P true ρ1 else g ρ1 P
def fNotM (f : FTM) : FTM := fun ρ P => f ρ fun b ρ1 => P (!b) ρ1
theorem dwm_and1 (h : DTM K X a f) : DWM K X (.BoolOp .And [a] pos) f := ⟨fun hK => pw_and1 (h.pt hK)⟩
theorem dwm_or1 (h : DTM K X a f) : DWM K X (.BoolOp .Or [a] pos) f := ⟨fun hK => pw_or1 (h.pt hK)⟩
theorem dwm_and (h : DTM K X a f) (h2 : DWM K X (.BoolOp .And (b :: rest) pos) g) : DWM K X (.BoolOp .And (a :: b :: rest) pos) (fAndM f g) := ⟨fun hK => pw_imp (pw_and (h.pt hK) (h2.pw hK)) fun σ H Q q => by
  obtain ⟨c, ρ, P, st, f, k⟩ := q
  refine ⟨c, ρ, _, st, f, fun b H1 ρ1 A1 p => ?_⟩
  cases b with
  | true => exact ⟨c, ρ1, P, A1.st, p, fun b H2 ρ2 A2 p => k b H2 ρ2 (A1.trans A2) p⟩
  | false => exact k false H1 ρ1 A1 p⟩
theorem dwm_or (h : DTM K X a f) (h2 : DWM K X (.BoolOp .Or (b :: rest) pos) g) : DWM K X (.BoolOp .Or (a :: b :: rest) pos) (fOrM f g) := ⟨fun hK => pw_imp (pw_or (h.pt hK) (h2.pw hK)) fun σ H Q q => by
  obtain ⟨c, ρ, P, st, f, k⟩ := q
  refine ⟨c, ρ, _, st, f, fun b H1 ρ1 A1 p => ?_⟩
  cases b with
  | false => exact ⟨c, ρ1, P, A1.st, p, fun b H2 ρ2 A2 p => k b H2 ρ2 (A1.trans A2) p⟩
  | true => exact k true H1 ρ1 A1 p⟩
theorem dtm_not (h : DTM K X a f) : DTM K X (.UnaryOp .Not a pos) (fNotM f) := ⟨fun hK => pt_imp (pt_not (h.pt hK)) fun σ H Q q => by
  obtain ⟨c, ρ, P, st, f, k⟩ := q
  exact ⟨c, ρ, _, st, f, fun b H1 ρ1 A1 p => k _ H1 ρ1 A1 p⟩⟩
def fIfM (f : FTM) (fa fb : FM) : FM := fun ρ P => f ρ fun b ρ1 => if b = true then fa ρ1 P else fb ρ1 P
theorem dm_if {t : Expr} (ht : DTM K X t f) (ha : DM K X a fa) (hb : DM K X b fb) : DM K X (.IfExp t a b pos) (fIfM f fa fb) := ⟨fun hK => pe_imp (pe_ifExp (ht.pt hK) (ha.pe hK) (hb.pe hK)) fun σ H Q q => by
  obtain ⟨c, ρ, P, st, f, k⟩ := q
  refine ⟨c, ρ, _, st, f, fun b H1 ρ1 A1 p => ?_⟩
  cases b with
  | true => exact ⟨c, ρ1, P, A1.st, p, fun v H2 d ρ2 A2 r2 p => k v H2 d ρ2 (A1.trans A2) r2 p⟩
  | false => exact ⟨c, ρ1, P, A1.st, p, fun v H2 d ρ2 A2 r2 p => k v H2 d ρ2 (A1.trans A2) r2 p⟩⟩
/-! ### statements -/
def gIfM (f : FTM) (g h : FS) : FS := fun E ρ => f ρ fun b ρ1 => if b = true then g E ρ1 else h E ρ1
theorem ds_ifM {t : Expr} {a b : List Stmt} {f : FTM} {g h : FS} (ht : DTM K X t f) (ha : DSs K X a g) (hb : DSs K X b h) : DS K X (.If t a b pos) (gIfM f g h) := ⟨fun hK => ps_imp (ps_if (ht.pt hK) (ha.ps hK) (hb.ps hK)) fun D σ H q => by
  obtain ⟨c, ρ, E, wf, s0, g, kn, kr, kb, kc⟩ := q
  refine ⟨c, ρ, _, s0, g, fun b H1 ρ1 A p => ?_⟩
  cases b <;> exact ⟨c, ρ1, E, wf, A.st, p, fun σ2 ρ2 H2 s2 sm2 q => kn σ2 ρ2 H2 s2 (A.sm.trans sm2) q, kr, fun σ2 ρ2 H2 s2 sm2 q => kb σ2 ρ2 H2 s2 (A.sm.trans sm2) q, fun σ2 ρ2 H2 s2 sm2 q => kc σ2 ρ2 H2 s2 (A.sm.trans sm2) q⟩⟩
def gRetM (f : FM) : FS := fun E ρ => f ρ fun d ρ' => E.rt d ρ'
theorem ds_retM (he : DM K X e fa) : DS K X (.Return (some e) pos) (gRetM fa) := ⟨fun hK => ps_imp (ps_ret (he.pe hK)) fun D σ H q => by
  obtain ⟨c, ρ, E, wf, s0, g, kn, kr, kb, kc⟩ := q
  exact ⟨c, ρ, _, s0, g, fun v H' d ρ' A r p => kr v H' d ρ' (A.st.rt (r.mono (msk_le fun b z => .inl z))) p⟩⟩
/-! ### what is walked -/
def imOf (K : PySem.W.Frag) (f : FAM) : TI := fun σ H R => ∃ (c : Fx) (ρ : Rho) (P : List D → Rho → Prop), StR K c σ ρ H ∧ f ρ P ∧ ∀ J H' ds ρ', AftM K c σ ρ H ρ' H' → Yl K J (M c σ ρ' H') ds → P ds ρ' → R J H'
structure DIM (K : PySem.W.Frag) (X : Cx) (tg iter : Expr) (f : FAM) : Prop where
  pi : X.K = K → PI X tg iter (imOf K f)
variable {tg iter : Expr}
theorem dim_of {f : FA} (h : DI K X tg iter f) : DIM K X tg iter (mA f) := ⟨fun hK => pi_imp (h.pi hK) fun σ H R q => by
  obtain ⟨c, ρ, P, st, f, k⟩ := q
  exact ⟨c, ρ, _, st, f, fun J H' ds A y p => k J H' ds ρ (.of st A) y p⟩⟩
def fRng1M (fs : FAM) : FAM := fun ρ P => fs ρ fun ds ρ1 => int1 ds fun j => -(2 ^ 62) ≤ j ∧ j < 2 ^ 62 ∧ P (rngD 0 1 j.toNat) ρ1
theorem dim_range1 {a : Expr} {p : Pos} (hg : Gl X "range") (hm : X.mg "range" = none) (ha : DAM K X [a] fs) (hs : starEach [a] X.env = [(false, eval a X.env)] := by rfl) : DIM K X tg (.Call (.Name "range" p) [a] [] pos) (fRng1M fs) := ⟨fun hK => pi_imp (pi_range1 hg hm (ha.pa hK) hs) fun σ H R q => by
  obtain ⟨c, ρ, P, st, f, k⟩ := q
  refine ⟨c, ρ, _, st, f, fun vs H1 ds ρ1 A r p => ?_⟩
  obtain ⟨j, e, p1, p2, p3⟩ := ints1 r p
  exact ⟨j, e, p1, p2, k _ H1 _ ρ1 A (yl_rng 0 j.toNat) p3⟩⟩
def fSeqM (f : FM) : FAM := fun ρ P => f ρ fun d ρ1 => asSeq d fun ds => P ds ρ1
theorem dim_seq (h : DM K X e fa) : DIM K X tg e (fSeqM fa) := ⟨fun hK => by
  subst hK
  refine pi_imp (pi_seq (h.pe rfl)) fun σ H R q => ?_
  obtain ⟨c, ρ, P, st, f, k⟩ := q
  refine ⟨c, ρ, _, st, f, fun v H1 d ρ1 A r p => ?_⟩
  cases r with
  | @lst a xs ds h1 r => exact .inl ⟨a, xs, rfl, .inl (.inl (msk_some h1).2), k _ H1 ds ρ1 A (yl_seqL h1 r) p⟩
  | @tup a xs ds h1 r => exact .inr (.inl ⟨a, xs, rfl, Same.sqT same_msk h1, k _ H1 ds ρ1 A (yl_seqT h1 r) p⟩)
  | str l hl => exact .inr (.inr ⟨S l, rfl, k _ H1 _ ρ1 A (yl_str l) p⟩)
  | _ => exact p.elim⟩
def gForM (fi : FAM) (fg : FG) (gb : FS) : FS := fun E ρ => fi ρ fun ds ρ1 => forD fg gb ds E ρ1
theorem ds_forM {body : List Stmt} {fi : FAM} {fg : FG} {gb : FS} {vs : List Nat} (hp : X.K = K → PassesOwn (model X.prog X.w) X.A X.env X.xe) (hc : X.calm = true) (hi : DIM K X tg iter fi) (hg : DG K X tg vs fg) (hb : DSs K X body gb)
    (hs : ∀ x, foldedSetIterable iter X.env x = pure x := by intro _; rfl) : DS K X (.For tg iter body [] pos) (gForM fi fg gb) := ⟨fun hK => ps_imp (ps_for (hp hK) hc (hi.pi hK) (hg.pg hK) (hb.ps hK) hs) fun D σ H q => by
  obtain ⟨c, ρ0, E, wf, s0, g, kn, kr, kb, kc⟩ := q
  refine ⟨c, ρ0, _, s0, g, fun J H1 ds ρ A y p => ?_⟩
  refine ⟨fun i m σ1 H1' => m = ds.length - i ∧ i ≤ ds.length ∧ ∃ ρ1, StR K c σ1 ρ1 H1' ∧ Same (M c σ ρ H1) (M c σ1 ρ1 H1') ∧ forD fg gb (ds.drop i) E ρ1, ⟨ds.length, rfl, Nat.zero_le _, ρ, A.st, Same.refl _, p⟩, fun i m σ1 H2 ⟨hm, hle, ρ1, s1, sm1, w1⟩ => ?_⟩
  obtain ⟨y1, y2, y3⟩ := y (Ow c σ1 ρ1) H2 (fun b => s1.ow_some) sm1 i
  by_cases hlt : i < ds.length
  · refine .inr ⟨y1 hlt, fun σ' H' => ∃ ρ', StR K c σ' ρ' H' ∧ Same (M c σ ρ H1) (M c σ' ρ' H') ∧ forD fg gb (ds.drop (i + 1)) E ρ', fun σ' H' q => ⟨ds.length - (i + 1), by omega, rfl, hlt, q⟩, fun x H3 hy => ?_⟩
    obtain ⟨d, e1, e2, e3⟩ := y3 x H3 hlt hy
    have ed : ds.drop i = d :: ds.drop (i + 1) := by
      rw [List.drop_eq_getElem_cons hlt]
      rw [List.getElem?_eq_getElem hlt] at e1
      rw [Option.some.inj e1]
    rw [ed] at w1
    have A2 := Aft.grow s1 e2
    refine ⟨c, ρ1, d, _, A2.st, e3, w1, fun σ3 ρ3 s3 sm3 _ q3 => ?_⟩
    have sm : Same (M c σ ρ H1) (M c σ3 ρ3 H3) := (sm1.trans A2.sm).trans sm3
    exact ⟨c, ρ3, _, wf, s3, q3, fun σ' ρ' H' s4 sm4 q => ⟨ρ', s4, sm.trans sm4, q⟩, kr, fun σ' ρ' H' s4 sm4 q => kn σ' ρ' H' s4 (A.sm.trans (sm.trans sm4)) q, fun σ' ρ' H' s4 sm4 q => ⟨ρ', s4, sm.trans sm4, q⟩⟩
  · have e : i = ds.length := by omega
    subst e
    rw [List.drop_length] at w1
    exact .inl ⟨y2 (Nat.le_refl _), kn σ1 ρ1 H2 s1 (A.sm.trans sm1) w1⟩⟩
end
end DL
/-! The layer DL: comprehensions that draw. -/
namespace DL
open PySem PySem.Spec PyProof.Rows L2
section
variable [TapeI] {K : PySem.W.Frag} {X : Cx} {pos : Pos} {a b e : Expr} {es : List Expr} {fa fb : FM} {c : Fx} {σ σ' : St} {ρ ρ' : Rho} {H H' : Hp} {vs : List Nat}
/-- out of a turn: the block's own slots are as they were -/
def backR (ρ ρ' : Rho) : List Nat → Rho
  | [] => ρ'
  | v :: vs => (backR ρ ρ' vs).set v (ρ.getD v .no)
theorem backR_len : ∀ vs, (backR ρ ρ' vs).length = ρ'.length
  | [] => rfl
  | v :: vs => by unfold backR; rw [List.length_set, backR_len vs]
theorem backR_out {i : Nat} : ∀ {vs : List Nat}, i ∉ vs → (backR ρ ρ' vs)[i]? = ρ'[i]?
  | [], _ => rfl
  | v :: vs, h => by
    rw [List.mem_cons, not_or] at h
    unfold backR
    rw [List.getElem?_set_ne (fun e => h.1 e.symm), backR_out h.2]
theorem backR_in {i : Nat} (hl : ρ'.length = ρ.length) : ∀ {vs : List Nat}, i ∈ vs → (backR ρ ρ' vs)[i]? = ρ[i]?
  | [], h => by cases h
  | v :: vs, h => by
    unfold backR
    by_cases q : v = i
    · subst q
      by_cases hv : v < ρ.length
      · rw [List.getElem?_set_self (by rw [backR_len, hl]; exact hv), List.getD_eq_getElem?_getD, List.getElem?_eq_getElem hv]; rfl
      · rw [List.getElem?_eq_none (by rw [List.length_set, backR_len, hl]; omega), List.getElem?_eq_none (by omega)]
    · rw [List.getElem?_set_ne q]
      exact backR_in hl ((List.mem_cons.mp h).resolve_left fun z => q z.symm)
theorem unwipeM (st : StR K c σ ρ H) (st' : StR K c σ' ρ' H') (eo : own σ' ρ' = own σ ρ) (hw : wipe σ' vs = wipe σ vs) (hn : noOwn ρ vs = true) (hn' : noOwn ρ' vs = true) (sm : Same (M c σ ρ H) (M c σ' ρ' H')) :
    StR K c σ (backR ρ ρ' vs) H' ∧ own σ (backR ρ ρ' vs) = own σ ρ ∧ noOwn (backR ρ ρ' vs) vs = true := by
  have hlσ : σ'.length = σ.length := by rw [← wipe_length σ' vs, hw, wipe_length]
  have hl : ρ'.length = ρ.length := by rw [st'.len, st.len, hlσ]
  have off : ∀ i, i ∉ vs → σ'[i]? = σ[i]? := fun i hi => by rw [← wipe_out hi, hw, wipe_out hi]
  have eo2 : own σ (backR ρ ρ' vs) = own σ' ρ' := own_off (vs := vs) (fun i hi => ⟨(off i hi).symm, backR_out hi⟩) (fun i hi s e => noOwn_at hn' hi e) fun i hi s e => by
    rw [backR_in hl hi] at e
    exact noOwn_at hn hi e
  have eO : Ow c σ (backR ρ ρ' vs) = Ow c σ' ρ' := by unfold Ow; rw [eo2]
  have eM : M c σ (backR ρ ρ' vs) H' = M c σ' ρ' H' := by show msk _ _ = msk _ _; rw [eO]
  have nvs : ∀ (i : Nat) (s : Sl), (backR ρ ρ' vs)[i]? = some s → s.own = true → i ∉ vs := fun i s h1 h2 z => by
    rw [backR_in hl z] at h1
    rw [noOwn_at hn z h1] at h2
    cases h2
  refine ⟨⟨by rw [backR_len, hl]; exact st.len, fun i s hi => ?_, fun i j s t a h1 h2 h3 h4 h5 h6 => ?_, st'.base, st'.dom, fun t ht => by rw [eM]; exact st'.tape t ht, st'.tpB⟩, eo2.trans eo, ?_⟩
  · rw [eM]
    by_cases q : i ∈ vs
    · rw [backR_in hl q] at hi
      have ns := noOwn_at hn q hi
      have := st.slot i s hi
      cases s with
      | no => trivial
      | sh d => obtain ⟨x, h1, h2⟩ := this; exact ⟨x, h1, h2.mono sm⟩
      | _ => cases ns
    · rw [backR_out q] at hi
      have := st'.slot i s hi
      rwa [off i q] at this
  · have g1 := nvs i s h1 h3
    have g2 := nvs j t h2 h4
    rw [backR_out g1] at h1
    rw [backR_out g2] at h2
    rw [← off i g1] at h5
    rw [← off j g2] at h6
    exact st'.inj i j s t a h1 h2 h3 h4 h5 h6
  · refine List.all_eq_true.mpr fun i hi => ?_
    rw [backR_in hl hi]
    exact List.all_eq_true.mp hn i hi
def blkM (fg : FG) (tt : FT) (te : FM) (vs : List Nat) : List D → Rho → List D → (List D → Rho → Prop) → Prop
  | [], ρ, acc, P => P acc ρ
  | d :: ds, ρ, acc, P => turnR fg vs d ρ fun ρ2 => tt ρ2 fun b => if b = true then te ρ2 fun e ρ3 => acc.length < sizeLine ∧ noOwn ρ3 vs = true ∧ blkM fg tt te vs ds (backR ρ ρ3 vs) (acc ++ [e]) P else blkM fg tt te vs ds ρ acc P
def fLcM (fi : FAM) (fg : FG) (tt : FT) (te : FM) (vs : List Nat) (ρ : Rho) (P : List D → Rho → Prop) : Prop := fi ρ fun ds ρ1 => noOwn ρ1 vs = true ∧ blkM fg tt te vs ds ρ1 [] P
section
variable {elt tg iter : Expr} {ifs : List Expr} {scope : Scope} {fi : FAM} {fg : FG} {tt : FT} {te : FM} {ws : List Nat}
theorem e_lcM (hw : ∀ i ∈ ws, i ∈ vs) {Q : VK} {P : D → Rho → Prop} (st : StR K c σ ρ H) (f : fLcM fi fg tt te vs ρ fun es ρ' => P (.lst es) ρ') (k : ∀ v H' d ρ', AftM K c σ ρ H ρ' H' → Rp K (M c σ ρ' H') v d → P d ρ' → Q v H') :
    tLc (imOf K fi) (gOf K ws fg) (bOf K tt) (mOf K te) vs σ H Q := by
  refine ⟨c, ρ, _, st, f, fun J H1 ds ρ1 A y ⟨hn, p⟩ => fun D hD => ?_⟩
  have s1 := A.st
  have hB := s1.freshB hD
  have hno : ¬ own σ ρ1 D := fun z => s1.own_some z hD
  obtain ⟨sp, smp⟩ := s1.plus (o := .lst []) hD
  have tpD : (c.plus D).tp ≠ some D := fun z => s1.tpB D z hB
  have nD : ∀ b o, H1 b = some o → b ≠ D := fun b o e => ne_of_none e hD
  refine ⟨fun i m H2 => m = ds.length - i ∧ i ≤ ds.length ∧ ∃ ρi es acc, StR K (c.plus D) σ ρi H2 ∧ own σ ρi = own σ ρ1 ∧ noOwn ρi vs = true ∧ Same (M c σ ρ1 H1) (M (c.plus D) σ ρi H2) ∧ H2 D = some (.lst acc) ∧ RpAll K (M (c.plus D) σ ρi H2) acc es ∧
      (∀ b o, c.O b → ¬ own σ ρ1 b → c.tp ≠ some b → H1 b = some o → H2 b = some o) ∧ blkM fg tt te vs (ds.drop i) ρi es (fun es ρ' => P (.lst es) ρ'),
    ⟨ds.length, rfl, Nat.zero_le _, ρ1, [], [], sp, rfl, hn, smp, upd_same, .nil, fun b o _ _ _ e => same_new hD b o e, p⟩, fun i m H2 ⟨hm, hle, ρi, es, acc, s2, eoi, hni, sm2, hacc, racc, oo2, w2⟩ => ?_⟩
  have hnoi : ¬ own σ ρi D := by rw [eoi]; exact hno
  have eOi : Ow (c.plus D) σ ρi = Ow (c.plus D) σ ρ1 := by unfold Ow; rw [eoi]
  obtain ⟨y1, y2, y3⟩ := y (Ow (c.plus D) σ ρi) H2 (fun b => s2.ow_some) sm2 i
  by_cases hlt : i < ds.length
  · refine .inr ⟨y1 hlt, fun H' => ∃ ρi es acc, StR K (c.plus D) σ ρi H' ∧ own σ ρi = own σ ρ1 ∧ noOwn ρi vs = true ∧ Same (M c σ ρ1 H1) (M (c.plus D) σ ρi H') ∧ H' D = some (.lst acc) ∧ RpAll K (M (c.plus D) σ ρi H') acc es ∧
        (∀ b o, c.O b → ¬ own σ ρ1 b → c.tp ≠ some b → H1 b = some o → H' b = some o) ∧ blkM fg tt te vs (ds.drop (i + 1)) ρi es (fun es ρ' => P (.lst es) ρ'),
      fun H' q => ⟨ds.length - (i + 1), by omega, rfl, hlt, q⟩, fun x H3 hy => ?_⟩
    obtain ⟨d, e1, e2, e3⟩ := y3 x H3 hlt hy
    have ed : ds.drop i = d :: ds.drop (i + 1) := by
      rw [List.drop_eq_getElem_cons hlt]
      rw [List.getElem?_eq_getElem hlt] at e1
      rw [Option.some.inj e1]
    rw [ed] at w2
    have s3 := s2.grow e2
    have sm3 : Same (M (c.plus D) σ ρi H2) (M (c.plus D) σ ρi H3) := msk_same e2
    refine turn_in s3 hni hw e3 w2 fun σ4 ρ4 s4 ew eo tkm q4 back => ⟨ew, c.plus D, ρ4, _, s4, q4, fun b H5 A5 p5 => ?_⟩
    have eO : Ow (c.plus D) σ4 ρ4 = Ow (c.plus D) σ ρi := by unfold Ow; rw [eo]
    have eM : ∀ H, M (c.plus D) σ4 ρ4 H = M (c.plus D) σ ρi H := fun H => by show msk _ _ = msk _ _; rw [eO]
    have sm5 : Same (M (c.plus D) σ ρi H3) (M (c.plus D) σ ρi H5) := by
      have := A5.sm
      rwa [eM, eM] at this
    have ntk : ¬ hasTk ρ4 D := fun z => hnoi (s2.tkOwn (tkm _ z))
    have hD5 : H5 D = some (.lst acc) := A5.oo D _ (.inl (.inr rfl)) tpD ntk (e2 _ _ hacc)
    have s5 := back H5 A5.st sm5
    have oo5 : ∀ b o, c.O b → ¬ own σ ρ1 b → c.tp ≠ some b → H1 b = some o → H5 b = some o := fun b o h1 h2 h3 e => A5.oo b o (.inl (.inl h1)) h3 (fun z => h2 (by rw [← eoi]; exact s2.tkOwn (tkm _ z))) (e2 _ _ (oo2 b o h1 h2 h3 e))
    cases b with
    | true =>
      refine ⟨c.plus D, ρ4, _, A5.st, p5, fun v H6 e ρ6 A6 r6 ⟨p6, hn6, p7⟩ => ?_⟩
      have hno4 : ¬ own σ4 ρ4 D := by rw [eo]; exact hnoi
      have hD6 : H6 D = some (.lst acc) := A6.oo D _ (.inr rfl) hno4 tpD hD5
      have sm36 : Same (M (c.plus D) σ ρi H5) (M (c.plus D) σ4 ρ6 H6) := by
        have := A6.sm
        rwa [eM] at this
      obtain ⟨s6, eo6, hnb⟩ := unwipeM s5 A6.st (A6.eo.trans eo) ew hni hn6 sm36
      have eO6 : Ow (c.plus D) σ (backR ρi ρ6 vs) = Ow (c.plus D) σ4 ρ6 := by unfold Ow; rw [eo6, A6.eo, eo]
      have eM6 : M (c.plus D) σ (backR ρi ρ6 vs) H6 = M (c.plus D) σ4 ρ6 H6 := by show msk _ _ = msk _ _; rw [eO6]
      have hno6 : ¬ own σ (backR ρi ρ6 vs) D := by rw [eo6]; exact hnoi
      obtain ⟨s7, eM7⟩ := s6.plusUpd (o := .lst (acc ++ [v])) (by rw [hD6]; exact fun z => nomatch z) hB hno6
      have smT : Same (M (c.plus D) σ ρi H2) (M (c.plus D) σ (backR ρi ρ6 vs) H6) := by
        rw [eM6]
        exact (sm3.trans sm5).trans sm36
      refine ⟨acc, hD6, by rw [racc.length]; exact p6, backR ρi ρ6 vs, es ++ [e], acc ++ [v], s7, eo6.trans eoi, hnb, by rw [eM7]; exact sm2.trans smT, upd_same, ?_, fun b o h1 h2 h3 q => ?_, p7⟩
      · rw [eM7]
        exact (racc.mono smT).append (.one (by rw [eM6]; exact r6))
      · rw [upd_ne (nD b o q)]
        exact A6.oo b o (.inl h1) (by rw [eo, eoi]; exact h2) h3 (oo5 b o h1 h2 h3 q)
    | false => exact ⟨ρi, es, acc, s5, eoi, hni, sm2.trans (sm3.trans sm5), hD5, racc.mono (sm3.trans sm5), oo5, p5⟩
  · have e : i = ds.length := by omega
    subst e
    rw [List.drop_length] at w2
    refine .inl ⟨y2 (Nat.le_refl _), ?_⟩
    obtain ⟨s3, sm3⟩ := s2.unplus hB
    refine k (.ref D) H2 (.lst es) ρi (A.trans ⟨s3, sm2.trans sm3, eoi, oo2⟩) (.lst ?_ (racc.mono sm3)) w2
    show msk _ _ _ = _
    rw [msk_of, hacc]
    intro z
    exact z.elim (fun z => s1.dom D z hD) hnoi
theorem dm_lc (hc : X.calm = true) (hN : X.N.Nodup) (hi : DIM K X tg iter fi) (own : List (Str × Nat)) (ok : blkC X.N X.env.scope scope own = true) (hw : ∀ i ∈ ws, i ∈ own.map (·.2))
    (hg : AllB X scope fun X' => DG K X' tg ws fg) (ht : AllB X scope fun X' => DTs K X' ifs tt) (he : AllB X scope fun X' => DM K X' elt te) (hs : ∀ x, foldedSetIterable iter X.env x = pure x := by intro _; rfl) :
    DM K X (.ListComp elt [⟨tg, iter, ifs, 0⟩] scope pos) (fun ρ P => fLcM fi fg tt te (own.map (·.2)) ρ fun es ρ' => P (.lst es) ρ') := ⟨fun hK => by
  refine pe_imp (pe_lc hc hN (hi.pi hK) (blkOk_by ok) (fun s H C cl fp => (hg s H C cl fp).pg hK) (fun s H C cl fp => (ht s H C cl fp).pt hK) (fun s H C cl fp => (he s H C cl fp).pe hK) hs) fun σ H Q q => ?_
  obtain ⟨c, ρ, P, st, f, k⟩ := q
  exact e_lcM hw st f k⟩
end
/-! ### join -/
def fJoinM (f g : FM) : FM := fun ρ P => f ρ fun d ρ1 => asStr d fun a => g ρ1 fun e ρ2 => asStrs e fun ls => (ls.map (·.length)).sum + ls.length * a.length ≤ 16777216 ∧ P (.str (TL.joinL a ls)) ρ2
theorem dm_join {o e : Expr} {apos pos : Pos} (ho : DM K X o fa) (he : DM K X e fb) (hs : starEach [e] X.env = [(false, eval e X.env)] := by rfl) (hbase : attributeBase o "join" X.env (eval o X.env) = eval o X.env := by rfl) (hline : (apos.endLine == pos.line) = true := by rfl) :
    DM K X (.Call (.Attribute o "join" apos) [e] [] pos) (fJoinM fa fb) := ⟨fun hK => by
  subst hK
  refine pe_imp (pe_join (ho.pe rfl) (he.pe rfl) hs hbase hline) fun σ H Q q => ?_
  obtain ⟨c, ρ, P, st, f, k⟩ := q
  refine ⟨c, ρ, _, st, f, fun v H1 d ρ1 A1 r1 p => ?_⟩
  cases r1 with
  | str l hl =>
    refine ⟨⟨S l, rfl⟩, c, ρ1, _, A1.st, p, fun w H2 e ρ2 A2 r2 p2 => ?_⟩
    have fin : ∀ (a : Addr) (xs : List V) (ds : List D) (ls : List Tx), w = .ref a → RpAll X.K (M c σ ρ2 H2) xs ds → (SqL X.K H2 a xs ∨ SqT X.K H2 a xs) → ssOf ds = some ls → ((ls.map (·.length)).sum + ls.length * l.length ≤ 16777216 ∧ P (.str (TL.joinL l ls)) ρ2) →
        ∃ b p, ∃ ys : List Str, V.str (S l) = .str b ∧ [w] = [.ref p] ∧ (SqL X.K H2 p (ys.map V.str) ∨ SqT X.K H2 p (ys.map V.str)) ∧ (ys.map (·.length)).sum + ys.length * b.length ≤ 16777216 ∧ Q (.str (Txt.join b ys)) H2 := by
      intro a xs ds ls ew r h1 h2 p2
      subst ew
      rw [ssOf_map h2] at r
      have ex := RpAll.strs r
      subst ex
      have em : (ls.map fun l => V.str (S l)) = (ls.map S).map V.str := by rw [List.map_map]; rfl
      rw [em] at h1
      have e1 : ((ls.map S).map (·.length)) = ls.map (·.length) := by
        rw [List.map_map]
        exact List.map_congr_left fun l _ => S_length l
      refine ⟨S l, a, ls.map S, rfl, rfl, h1, by rw [e1, List.length_map, S_length]; exact p2.1, ?_⟩
      rw [join_S]
      exact k _ _ _ ρ2 (A1.trans A2) (.str _ (Nat.le_trans (joinL_len l ls) (by rw [sizeLine_eq]; exact p2.1))) p2.2
    cases r2 with
    | @lst a xs ds h r =>
      obtain ⟨ls, h2, p2⟩ := p2
      exact fin a xs ds ls rfl r (.inl (.inl (.inl (msk_some h).2))) h2 p2
    | @tup a xs ds h r =>
      obtain ⟨ls, h2, p2⟩ := p2
      exact fin a xs ds ls rfl r (.inr (Same.sqT same_msk h)) h2 p2
    | _ => exact p2.elim
  | _ => exact p.elim⟩
end
end DL
/-! The layer DL: the draws' object: made, drawn from. -/
namespace DL
open PySem PySem.Spec PyProof.Rows L2
/-- what a family of draws promises: the object's data, drawn from at most n times -/
class TapeD where
  TD : Nat → D → Prop
  le : ∀ {n m : Nat} {d : D}, n ≤ m → TD n d → TD m d
instance tapeOf [TapeD] : TapeI where
  TP := fun K n m o => ∃ d, TapeD.TD n d ∧ OR K m o d
  mono := fun e ⟨d, h1, h2⟩ => ⟨d, h1, h2.mono e⟩
  le := fun h ⟨d, h1, h2⟩ => ⟨d, TapeD.le h h1, h2⟩
section
variable [TapeI] {K : PySem.W.Frag} {X : Cx} {pos p apos cpos pos' : Pos} {x : Str} {e ek ev : Expr} {fe fk fv : FE} {c : Fx} {σ : St} {ρ : Rho} {H H' : Hp}
/-! ### an item of what one owns -/
def ownDat : Option Sl → (D → Prop) → Prop
  | some (.ol ds), P => P (.lst ds)
  | some (.od ks ds), P => P (.dic ks ds)
  | some (.ot _ d), P => P d
  | _, _ => False
theorem StR.dat (st : StR K c σ ρ H) {i : Nat} {P : D → Prop} (q : ownDat ρ[i]? P) : ∃ a o d, σ[i]? = some (some (.ref a)) ∧ H a = some o ∧ OR K (M c σ ρ H) o d ∧ P d := by
  cases e : ρ[i]? with
  | none => rw [e] at q; exact q.elim
  | some s =>
    rw [e] at q
    have sl := st.slot i s e
    cases s with
    | ol ds => obtain ⟨a, xs, h1, h2, h3, h4⟩ := sl; exact ⟨a, _, .lst ds, h1, h2, ⟨xs, rfl, h3⟩, q⟩
    | od ks ds => obtain ⟨a, xs, h1, h2, h3, hz, h4, h5⟩ := sl; exact ⟨a, _, .dic ks ds, h1, h2, ⟨xs, rfl, h3, hz, h4⟩, q⟩
    | ot t d => obtain ⟨h1, ⟨o, h2, h3⟩, h4⟩ := sl; exact ⟨t, o, d, h1, h2, h3, q⟩
    | _ => exact q.elim
def fOwnIx (i : Nat) (fe : FE) : FE := fun ρ P => ownDat ρ[i]? fun _ => fe ρ fun y => ownDat ρ[i]? fun d => gIx d y P
theorem de_ownIx (i : Nat) (hu : X.A.units + 64 < cLine) (he : DE K X e fe) (hN : X.N[i]? = some x := by rfl) (hv : Vis X.env.scope x := by first | exact Or.inl rfl | exact Or.inr (Or.inl rfl) | exact Or.inr (Or.inr rfl))
    (hd1 : (x == ("__debug__" : Str)) = false := by decide) (hcd : (x == ("__classdict__" : Str)) = false := by decide) (hs : PlainIx e := by intro _ _; rfl) : DE K X (.Subscript (.Name x p) e pos) (fOwnIx i fe) := ⟨fun hK => by
  subst hK
  refine pe_imp (pe_ix (IxR.or ix_seq (ix_dict (by omega))) (pe_var hN hv hd1 hcd) (he.pe rfl) hs) fun σ H Q q => ?_
  obtain ⟨c, ρ, P, st, f, k⟩ := q
  obtain ⟨a, _, _, hv, _, _, f⟩ := st.dat f
  refine ⟨.ref a, hv, c, ρ, _, st, f, fun y H1 dy A ry p => ?_⟩
  obtain ⟨a', o, d, hv', ho, hr, p⟩ := A.st.dat p
  rw [hv] at hv'
  cases hv'
  cases d with
  | lst ds =>
    obtain ⟨xs, e1, r⟩ := hr
    subst e1
    cases ry with
    | int i =>
      obtain ⟨d, h1, h2⟩ := p
      obtain ⟨v, e1, e2⟩ := atI_rp r h1
      exact .inl (.inl ⟨a, xs, i, v, rfl, rfl, .inl (.inl ho), e1, k _ H1 d A e2 h2⟩)
    | _ => exact p.elim
  | dic ks ds =>
    obtain ⟨kvs, e1, h2, hz, h3⟩ := hr
    subst e1
    obtain ⟨key, e, e1, e2, p⟩ := p
    obtain ⟨v, z1, z2⟩ := valV_getK h2 h3 e2
    exact .inr ⟨a, v, rfl, .inl ⟨kvs, dkey key, .inl ho, keyD_rp ry e1, z1.symm⟩, k _ H1 e A z2 p⟩
  | _ => exact hr.elim⟩
/-! ### an item is stored -/
def otAt : Option Sl → (Addr → D → Prop) → Prop
  | some (.ot a d), P => P a d
  | _, _ => False
theorem StR.ot (st : StR K c σ ρ H) {i : Nat} {P : Addr → D → Prop} (q : otAt ρ[i]? P) : ∃ a o d, ρ[i]? = some (.ot a d) ∧ σ[i]? = some (some (.ref a)) ∧ H a = some o ∧ OR K (M c σ ρ H) o d ∧ c.B a = none ∧ P a d := by
  cases e : ρ[i]? with
  | none => rw [e] at q; exact q.elim
  | some s =>
    rw [e] at q
    cases s with
    | ot a d => obtain ⟨h1, ⟨o, h2, h3⟩, h4⟩ := st.slot i _ e; exact ⟨a, o, d, rfl, h1, h2, h3, h4, q⟩
    | _ => exact q.elim
theorem StR.setOt (st : StR K c σ ρ H) {i : Nat} {a : Addr} {d d' : D} {o' : HO} (hi : ρ[i]? = some (.ot a d)) (hv : σ[i]? = some (some (.ref a))) (hB : c.B a = none) (r : OR K (M c σ ρ H) o' d') :
    StR K c σ (ρ.set i (.ot a d')) (upd H a o') ∧ Same (M c σ ρ H) (M c σ (ρ.set i (.ot a d')) (upd H a o')) :=
  st.change i hi rfl rfl hv (fun t n z => by cases z) fun m sm => ⟨rfl, ⟨o', upd_same, r.mono sm⟩, hB⟩
def gOtD (i : Nat) (fk fv : FE) : FS := fun E ρ => fv ρ fun v => otAt ρ[i]? fun _ _ => fk ρ fun y => otAt ρ[i]? fun a d => match d with
  | .dic ks ds => ∃ k, keyD y = some k ∧ ks.length < sizeLine ∧ E.nx (ρ.set i (.ot a (.dic (putKs ks k) (putDs ks ds k v))))
  | _ => False
theorem ds_otD (i : Nat) (hr : X.K = K → X.A.units + 64 < cLine) (hk : DE K X ek fk) (hv : DE K X ev fv) (hN : X.N[i]? = some x := by rfl) (hvis : Vis X.env.scope x := by first | exact Or.inl rfl | exact Or.inr (Or.inl rfl) | exact Or.inr (Or.inr rfl))
    (hd1 : (x == ("__debug__" : Str)) = false := by decide) (hcd : (x == ("__classdict__" : Str)) = false := by decide) (hs : swapsWith ev (some (.Subscript (.Name x p) ek pos')) pos.line X.env = pure false := by rfl) :
    DS K X (.Assign [.Subscript (.Name x p) ek pos'] ev pos) (gOtD i fk fv) := ⟨fun hK => by
  have hu := hr hK
  refine ps_imp (ps_dput (by omega) (pe_var hN hvis hd1 hcd) (hk.pe hK) (hv.pe hK) hs) fun D σ H q => ?_
  obtain ⟨c, ρ, E, wf, s0, g, kn, kr, kb, kc⟩ := q
  refine ⟨c, ρ, _, s0, g, fun v H1 d A rv p => ?_⟩
  obtain ⟨a, _, _, hi, h2, _, _, hB, p⟩ := A.st.ot p
  refine ⟨.ref a, h2, c, ρ, _, A.st, p, fun y H2 dy A2 ry p => ?_⟩
  obtain ⟨a', o, d', hi', h2', ho, hr', _, p⟩ := A2.st.ot p
  rw [h2] at h2'
  cases h2'
  cases d' with
  | dic ks ds =>
    obtain ⟨kvs, e1, h3, hz, h4⟩ := hr'
    subst e1
    obtain ⟨key, e1, e2, p⟩ := p
    have hl : kvs.length = ks.length := by simpa using congrArg List.length h3
    have ey := keyD_rp ry e1
    have kz := keysOk_put hz ry e1
    subst ey
    obtain ⟨s2, sm2⟩ := A2.st.setOt (o' := .dK (putK kvs (dkey key) v)) hi' h2 hB (d' := .dic (putKs ks key) (putDs ks ds key d)) ⟨_, rfl, putK_keys h3, kz, putK_rp (rv.mono A2.sm) h3 h4⟩
    exact ⟨a, _, rfl, .k ho (by rw [hl]; exact e2), kn _ _ _ s2 ((A.sm.trans A2.sm).trans sm2) p⟩
  | _ => exact p.elim⟩
def gOtL (i : Nat) (fk fv : FE) : FS := fun E ρ => fv ρ fun v => otAt ρ[i]? fun _ _ => fk ρ fun y => otAt ρ[i]? fun a d => match d, y with
  | .lst ds, .int k => ∃ j, ixN ds.length k = some j ∧ E.nx (ρ.set i (.ot a (.lst (ds.set j v))))
  | _, _ => False
theorem ds_otL (i : Nat) (hk : DE K X ek fk) (hv : DE K X ev fv) (hN : X.N[i]? = some x := by rfl) (hvis : Vis X.env.scope x := by first | exact Or.inl rfl | exact Or.inr (Or.inl rfl) | exact Or.inr (Or.inr rfl))
    (hd1 : (x == ("__debug__" : Str)) = false := by decide) (hcd : (x == ("__classdict__" : Str)) = false := by decide)
    (ha : ∀ v, assign (.Subscript (.Name x p) ek pos') X.env v = (do
      let ov ← holding [v] (eval (.Name x p) X.env)
      let iv ← holding [v, ov] (eval ek X.env)
      standAt pos'
      holding [v, ov, iv] (setItem ov iv v)
      release [v, ov, iv] []) := by intro _; rfl)
    (hs : swapsWithSole [.Subscript (.Name x p) ek pos'] ev pos.line X.env = pure false := by rfl) (hw : swappedStores [.Subscript (.Name x p) ek pos'] ev X.env = pure none := by rfl)
    (h1 : (assignEach [.Subscript (.Name x p) ek pos'] X.env).map (·.2) = [assign (.Subscript (.Name x p) ek pos') X.env] := by rfl) :
    DS K X (.Assign [.Subscript (.Name x p) ek pos'] ev pos) (gOtL i fk fv) := ⟨fun hK => by
  refine ps_imp (ps_asg (hv.pe hK) (pg_sub (pe_var hN hvis hd1 hcd) (hk.pe hK) set_list ha) hs hw h1) fun D σ H q => ?_
  obtain ⟨c, ρ, E, wf, s0, g, kn, kr, kb, kc⟩ := q
  refine ⟨c, ρ, _, s0, g, fun v H1 d A rv p => ?_⟩
  obtain ⟨a, _, _, hi, h2, _, _, hB, p⟩ := A.st.ot p
  refine ⟨.ref a, h2, c, ρ, _, A.st, p, fun y H2 dy A2 ry p => ?_⟩
  obtain ⟨a', o, d', hi', h2', ho, hr', _, p⟩ := A2.st.ot p
  rw [h2] at h2'
  cases h2'
  cases d' with
  | lst ds =>
    obtain ⟨xs, e1, r⟩ := hr'
    subst e1
    cases ry with
    | int k =>
      obtain ⟨j, e1, p⟩ := p
      obtain ⟨s2, sm2⟩ := A2.st.setOt (o' := .lst (xs.set j v)) hi' h2 hB (d' := .lst (ds.set j d)) ⟨_, rfl, RpAll.set (rv.mono A2.sm) j r⟩
      exact ⟨a, xs, k, j, rfl, rfl, ho, by rw [r.length]; exact e1, kn _ _ _ s2 ((A.sm.trans A2.sm).trans sm2) p⟩
    | _ => exact p.elim
  | _ => exact p.elim⟩
end
section
variable [TapeI] {K : PySem.W.Frag} {X : Cx}
abbrev gPow : G2 := gInt2 CPow fun a b => .int (a ^ b.toNat)
theorem dop_pow : DOp K X (binaryOp .Pow) gPow := dop_int op_pow fun i j H => .int _
theorem dip_add : DOp K X (inplaceOp .Add) (gInt2 (fun _ _ => True) fun a b => .int (a + b)) := dop_int (gv := fun i j => .int (i + j)) (OpR.imp iop_add fun x y H Q ⟨i, j, e1, e2, _, q⟩ => ⟨i, j, e1, e2, q⟩) fun i j H => .int _
theorem dip_sub : DOp K X (inplaceOp .Sub) (gInt2 (fun _ _ => True) fun a b => .int (a - b)) := dop_int (gv := fun i j => .int (i - j)) (OpR.imp iop_sub fun x y H Q ⟨i, j, e1, e2, _, q⟩ => ⟨i, j, e1, e2, q⟩) fun i j H => .int _
theorem dip_mul : DOp K X (inplaceOp .Mult) gMul := dop_int iop_mul fun i j H => .int _
end
/-! ### the def that draws -/
def initO (n : Nat) (t : Addr) (d : D) (ds : List D) : Rho := .ot t d :: (ds.map .sh ++ List.replicate (n - (ds.length + 1)) .no)
section
variable [TapeD] {K : PySem.W.Frag}
def EnO (t : Addr) (m : Nat) (P : D → Prop) : Dn := { nx := fun _ => False, rt := fun d ρ => flatD d = true ∧ (∃ d2, ρ[0]? = some (.ot t d2) ∧ TapeD.TD m d2) ∧ P d }
theorem st_initO {N : List Str} {O : Addr → Prop} {t : Addr} {d : D} {o : HO} {H : Hp} {vs : List V} {ds : List D} (hl : ds.length + 1 ≤ N.length) (hO : ∀ b, O b → H b ≠ none) (hT : O t) (ho : H t = some o) (tp : OR K (msk O H) o d) (r : RpAll K (msk O H) vs ds) :
    StR K ⟨fun b => if b = t then none else H b, fun b => O b ∧ b ≠ t, none⟩ (start N (.ref t :: vs)) (initO N.length t d ds) H := by
  have sh : ∀ i s, (initO N.length t d ds)[i + 1]? = some s → s.own = false := fun i s h => by
    have h' : (ds.map Sl.sh ++ List.replicate (N.length - (ds.length + 1)) .no)[i]? = some s := h
    rcases List.mem_append.mp (List.mem_of_getElem? h') with h | h
    · obtain ⟨d, _, rfl⟩ := List.mem_map.mp h; rfl
    · rw [(List.mem_replicate.mp h).2]; rfl
  have s0 : (start N (.ref t :: vs))[0]? = some (some (.ref t)) := start_get rfl
  have hM : M ⟨fun b => if b = t then none else H b, fun b => O b ∧ b ≠ t, none⟩ (start N (.ref t :: vs)) (initO N.length t d ds) H = msk O H := by
    show msk _ _ = _
    congr 1
    funext b
    refine propext ⟨fun h => h.elim (fun h => h.1) (fun ⟨i, s, h1, h2, h3⟩ => ?_), fun h => ?_⟩
    · cases i with
      | zero => rw [s0] at h3; cases h3; exact hT
      | succ i => rw [sh i s h1] at h2; cases h2
    · by_cases z : b = t
      · exact .inr ⟨0, _, rfl, rfl, by rw [z]; exact s0⟩
      · exact .inl ⟨h, z⟩
  refine ⟨?_, fun i s hs => ?_, fun i j s u a h1 h2 h3 h4 _ _ => ?_, fun b o' _ h => ?_, fun b h => hO b h.1, (fun u h => by cases h), (fun u h => by cases h)⟩
  · simp only [initO, L2.start, List.length_cons, List.length_append, List.length_map, List.length_replicate, r.length]
    omega
  · rw [hM]
    cases i with
    | zero => cases hs; exact ⟨s0, ⟨o, ho, tp⟩, if_pos rfl⟩
    | succ i =>
      have hs' : (ds.map Sl.sh ++ List.replicate (N.length - (ds.length + 1)) .no)[i]? = some s := hs
      by_cases hi : i < ds.length
      · rw [List.getElem?_append_left (by simpa using hi), List.getElem?_map, List.getElem?_eq_getElem hi] at hs'
        cases hs'
        obtain ⟨v, e1, e2⟩ := r.get (List.getElem?_eq_getElem hi)
        exact ⟨v, start_get (i := i + 1) e1, e2⟩
      · rw [List.getElem?_append_right (by simpa using hi), List.getElem?_replicate] at hs'
        split at hs'
        · cases hs'; trivial
        · cases hs'
  · cases i with
    | succ i => rw [sh i s h1] at h3; cases h3
    | zero =>
      cases j with
      | zero => rfl
      | succ j => rw [sh j u h2] at h4; cases h4
  · have h : (if b = t then none else H b) = some o' := h
    by_cases z : b = t
    · rw [if_pos z] at h; cases h
    · rwa [if_neg z] at h
variable {P : Program} {w : World} {mg : Str → Option Value} {base : Heap} {x qual : Str} {params : Arguments} {body : List Stmt} {scope : Scope} {dvs : List V} {kws : List (Str × V)} {f : Addr} {fd : FuncData} {N ps : List Str} {k : Nat}
theorem fnO (F : FunD K x qual params body scope dvs kws f fd) (S : FnScope N ps scope) (hN : ps.length ≤ N.length) (G : FS) (spec : GA)
    (der : ∀ (cdv : Value) (A : Around) (outer : List Env) (s : Shared) (H : Hp) (E : XK), RoomG k (A.deeper (envOfC qual scope s.heap.objs.size f cdv)) → DSs K (cxOf CX0 P w K mg base N qual scope f cdv A outer s H E).nox body G)
    (h : ∀ (t : Addr) (m : Nat) (d : D) (ds : List D) (Q : D → Prop), ds.length + 1 = ps.length → m + 1 ≤ LIM → TapeD.TD m d → spec ds Q → G (EnO t (m + 1) Q) (initO N.length t d ds)) (n : Nat) (hn : n + 1 = ps.length) : FnG P w K mg base CX0 (k + 1) f fd ps (spT K n spec 1) := by
  obtain ⟨oc, od, dV, kV, doc, pm, an, cdv, ct, osl, rfl, lk, hcd, _, _⟩ := F.ex
  refine fnG_of lk hcd S (fun vs H Q E ⟨O, t, m, vs', ds, Pd, h0, h1, _, _, _, _, h3, _⟩ => by rw [h0, List.length_cons, h3.length, h1, hn]) fun A outer s H vs Q E hr hsp => ?_
  obtain ⟨O, t, m, vs', ds, Pd, rfl, h1, hm, h2, hT, ⟨o, ho, d, hd, hor⟩, h3, h4, h5⟩ := hsp
  have eO : (fun b => (O b ∧ b ≠ t) ∨ b = t) = O := funext fun b => propext ⟨fun h => h.elim (fun h => h.1) fun h => h ▸ hT, fun h => by
    by_cases z : b = t
    · exact .inr z
    · exact .inl ⟨h, z⟩⟩
  refine ⟨sOf K G, PSs.nox' ((der cdv A outer s H E hr).ps rfl), _, initO N.length t d ds, EnO t (m + 1) Pd, fun b h z => ?_, st_initO (by omega) h2 hT ho hor h3, h t m d ds Pd (by omega) hm hd h4, fun σ' ρ' H' st _ q => q.elim, fun v H' d ρ' r q => ?_, fun _ _ _ _ _ q => q.elim, fun _ _ _ _ _ q => q.elim⟩
  · have z : (if b = t then none else H b) = none := z
    rw [if_neg h.2] at z
    exact h2 b h.1 z
  · obtain ⟨q0, ⟨d2, q1, q2⟩, q3⟩ := q
    obtain ⟨o2, e1, e2⟩ := r.ot t 0 d2 q1
    rw [eO] at e2
    exact h5 _ _ _ (r.rp.flatTo q0) (fun b o' ne e => r.base b o' (fun z => by cases z) (show (if b = t then none else H b) = some o' by rw [if_neg ne]; exact e)) ⟨o2, e1, d2, q2, e2⟩ q3
/-! ### the def that makes the object -/
def slD : Sl → Option D
  | .ol ds => some (.lst ds)
  | .od ks ds => some (.dic ks ds)
  | _ => none
variable (K) in
def spN : Sp := fun vs H Q _ => ∃ (O : Addr → Prop) (ns : List Int), (∀ b, O b → H b ≠ none) ∧ RpAll K (msk O H) vs [.scr ns] ∧ ∀ a H', H a = none → Same H H' → (∃ o, H' a = some o ∧ TapeI.TP K 0 (msk (fun b => O b ∨ b = a) H') o) → Q (.ref a) H'
theorem fnN {e : Expr} {pos : Pos} (F : FunD K x qual params [.Return (some e) pos] scope dvs kws f fd) (S : FnScope N ps scope) (hp : ps.length = 1) (hN : 1 ≤ N.length) (g : FN)
    (der : ∀ (cdv : Value) (A : Around) (outer : List Env) (s : Shared) (H : Hp) (E : XK), RoomG k (A.deeper (envOfC qual scope s.heap.objs.size f cdv)) → DF K (cxOf CX0 P w K mg base N qual scope f cdv A outer s H E).nox e g)
    (h : ∀ ns : List Int, g (initR N.length [.scr ns]) fun s => ∃ d, slD s = some d ∧ TapeD.TD 0 d) : FnG P w K mg base CX0 (k + 1) f fd ps (spN K) := by
  obtain ⟨oc, od, dV, kV, doc, pm, an, cdv, ct, osl, rfl, lk, hcd, _, _⟩ := F.ex
  refine fnG_of lk hcd S (fun vs H Q E ⟨O, ns, _, h3, _⟩ => by rw [h3.length, hp]; rfl) fun A outer s H vs Q E hr hsp => ?_
  obtain ⟨O, ns, h2, h3, h5⟩ := hsp
  refine ⟨_, PSs.nox' (pss_one (ps_ret ((der cdv A outer s H E hr).pe rfl))), ⟨H, O, none⟩, initR N.length [.scr ns], _, st_init (by simpa using hN) h2 h3, h ns, fun q H' sl n ⟨d, q1, q2⟩ => ?_⟩
  have hHq : H q = none := n.nB
  have so := n.sl _ (Same.refl _)
  have sub : ∀ b, Ow (Fx.plus ⟨H, O, none⟩ q) (start N vs) (initR N.length [.scr ns]) b ↔ O b ∨ b = q := fun b => ⟨fun z => z.elim id fun z => (own_sh initR_own b z).elim, .inl⟩
  have eM : M (Fx.plus ⟨H, O, none⟩ q) (start N vs) (initR N.length [.scr ns]) H' = msk (fun b => O b ∨ b = q) H' := by
    show msk _ _ = _
    congr 1
    funext b
    exact propext (sub b)
  refine h5 q H' hHq (fun b o e => n.st.base b o (fun z => by cases z) e) ?_
  rw [eM] at so
  cases sl with
  | ol ds =>
    cases q1
    obtain ⟨a, xs, e1, e2, e3, _⟩ := so
    cases e1
    exact ⟨_, e2, _, q2, xs, rfl, e3⟩
  | od ks ds =>
    cases q1
    obtain ⟨a, kvs, e1, e2, e3, hz, e4, _⟩ := so
    cases e1
    exact ⟨_, e2, _, q2, kvs, rfl, e3, hz, e4⟩
  | _ => cases q1
/-- the def that makes the draws' object -/
def CalN (P : Program) (w : World) (K : PySem.W.Frag) (mg : Str → Option Value) (base : Heap) (k : Nat) (x : Str) : Prop :=
  ∃ (f : Addr) (fd : FuncData) (ps : List Str) (g : List Value → List Value → List Value), mg x = some (.ref f) ∧ PySem.W.keepIn K (.ref f) = true ∧ FnG P w K mg base CX0 k f fd ps (spN K) ∧ KBn K fd ps 1 [] g (fun vs _ => vs)
theorem CalN.mono {j : Nat} (h : CalN P w K mg base j x) (hj : j ≤ k) : CalN P w K mg base k x := by
  obtain ⟨f, fd, ps, g, h1, h2, h3, h4⟩ := h
  exact ⟨f, fd, ps, g, h1, h2, h3.mono hj, h4⟩
theorem CalN.pos {nm : Str} (F : FunD K nm qual params body scope [] [] f fd) (hm : mg x = some (.ref f)) (hp : ps.length = 1) (G : FnG P w K mg base CX0 k f fd ps (spN K))
    (h : ∀ (kV doc pm : Value) (an : Option Addr) (cdv ct : Value) (us : List Value), us.length = ps.length → bindArgs (PySem.W.fnOf nm qual params body scope .none kV doc pm an cdv ct) ⟨us, []⟩ = pure (ps.zip us)) : CalN P w K mg base k x := by
  have hb := FunD.bindsA F h
  refine ⟨f, fd, ps, fun us _ => us, hm, F.kp, G, ⟨fun s us ws _ h1 h2 => ?_, fun r _ => r⟩⟩
  cases ws with
  | nil => exact hb s us (h1.trans hp.symm)
  | cons a b => cases h2
variable {c : Fx} {σ : St} {ρ : Rho} {H H' : Hp}
theorem StR.plusG (st : StR K c σ ρ H) {q : Addr} (e : Same H H') (hq : H q = none) (hq' : H' q ≠ none) : StR K (c.plus q) σ ρ H' ∧ Same (M c σ ρ H) (M (c.plus q) σ ρ H') := by
  have sm : Same (M c σ ρ H) (M (c.plus q) σ ρ H') := fun b x z => by
    obtain ⟨h1, h2⟩ := msk_some z
    have ne : b ≠ q := ne_of_none h2 hq
    show msk _ _ _ = _
    rw [msk_of (fun z => (ow_plus.1 z).elim h1 ne)]
    exact e _ _ h2
  refine ⟨⟨st.len, fun i s hi => ?_, st.inj, fun b x h1 h2 => e b x (st.base b x h1 h2), fun b h1 h2 => ?_, fun t ht => ?_, st.tpB⟩, sm⟩
  · have z := st.slot i s hi
    cases s with
    | no => trivial
    | sh d => obtain ⟨x, h1, h2⟩ := z; exact ⟨x, h1, h2.mono sm⟩
    | ol ds => obtain ⟨a, xs, h1, h2, h3, h4⟩ := z; exact ⟨a, xs, h1, e _ _ h2, h3.mono sm, h4⟩
    | od ks ds => obtain ⟨a, xs, h1, h2, h3, hz, h4, h5⟩ := z; exact ⟨a, xs, h1, e _ _ h2, h3, hz, h4.mono sm, h5⟩
    | tk a n => obtain ⟨h1, ⟨o, h2, h3⟩, h4⟩ := z; exact ⟨h1, ⟨o, e _ _ h2, TapeI.mono sm h3⟩, h4⟩
    | ot a n => obtain ⟨h1, ⟨o, h2, h3⟩, h4⟩ := z; exact ⟨h1, ⟨o, e _ _ h2, OR.mono sm h3⟩, h4⟩
  · rcases h1 with h1 | rfl
    · cases z : H b with
      | none => exact st.dom b h1 z
      | some x => rw [e b x z] at h2; cases h2
    · exact hq' h2
  · obtain ⟨h1, n, x, h2, h3⟩ := st.tape t ht
    exact ⟨.inl h1, n, x, e _ _ h2, TapeI.mono sm h3⟩
theorem ds_mkTape {X : Cx} {y x : Str} {p pos pos' cpos : Pos} {e : Expr} {fa : FE} (i : Nat) (C : CalN X.prog X.w X.K X.mg X.base k x) (hr : RoomG k X.A) (hNd : X.N.Nodup) (hg : Gl X x) (ha : DE K X e fa) (hi : X.N[i]? = some y := by rfl) (hx : Loc X.env.scope y := by first | exact Or.inl rfl | exact Or.inr rfl)
    (hs : swapsWith (.Call (.Name x p) [e] [] cpos) (some (.Name y pos')) pos.line X.env = pure false := by rfl) (hf : X.fn y = true ∨ X.env.scope.names.lookup y = some .local := by first | exact .inl rfl | exact .inr rfl)
    (hdb : (x == ("__debug__" : Str)) = false := by decide) (he : starEach [e] X.env = (false, eval e X.env) :: starEach [] X.env := by rfl) (hpl : (backTo cpos (starEach [] X.env)).any (·.1) = false := by rfl) :
    DS K X (.Assign [.Name y pos'] (.Call (.Name x p) [e] [] cpos) pos) (fun E ρ => fa ρ fun d => ∃ ns : List Int, d = .scr ns ∧ ∀ a, E.nx (ρ.set i (.tk a 0))) := ⟨fun hK => by
  subst hK
  obtain ⟨f, fd, ps, g, h1, h2, h3, h4⟩ := C
  refine ps_imp (L2.ps_set hNd hi hx (pe_callG h3 hr hg h1 h2 h4 passG (pa_cons (ha.pe rfl) pa_nil he) hdb he hpl) hs hf) fun D σ H q => ?_
  obtain ⟨c, ρ, E, wf, s0, g, kn, kr, kb, kc⟩ := q
  refine ⟨c, ρ, _, s0, g, fun v H1 d A r ⟨ns, ed, p⟩ => ⟨rfl, rfl, ?_⟩⟩
  subst ed
  refine ⟨Ow c σ ρ, ns, fun b => A.st.ow_some, .one r, fun a H' ha e tp => ?_⟩
  obtain ⟨o, ho, tp⟩ := tp
  obtain ⟨s1, sm1⟩ := A.st.plusG e ha (by rw [ho]; exact fun z => nomatch z)
  have eM : M (c.plus a) σ ρ H' = msk (fun b => Ow c σ ρ b ∨ b = a) H' := by
    show msk _ _ = _
    congr 1
    funext b
    exact propext ow_plus
  obtain ⟨s2, sm2⟩ := StR.plusOwn (s := .tk a 0) i (H := H1) (σ := σ) (ρ := ρ) (c := c) (H' := H') (D := a) ⟨s1, sm1, fun b o z1 z2 z3 z4 => e b o z4, A.st.freshB ha, fun z => A.st.own_some z ha, fun z => A.st.dom a z ha, rfl, fun m em => ⟨rfl, ⟨o, ho, TapeI.mono (by rw [eM] at em; exact em) tp⟩, .inr (A.st.freshB ha)⟩⟩
  exact kn _ _ H' s2 (A.sm.trans sm2) (p a)⟩
end
end DL
/-! The layer DL: plain laws of the readings. -/
namespace DL
open PySem PySem.Spec PyProof.Rows L2
/-! ### comprehensions -/
theorem blkL {fg : FG} {tt : FT} {te : FE} {vs : List Nat} (g : D → Option D) {ρ : Rho} {P : List D → Prop} : ∀ {ds acc : List D}, (∀ d ∈ ds, ∀ R : Option D → Prop, R (g d) → turnR fg vs d ρ fun ρ2 => tt ρ2 fun b => if b = true then te ρ2 fun e => R (some e) else R none) →
    acc.length + ds.length ≤ sizeLine → P (acc ++ ds.filterMap g) → blkD fg tt (bodyL te) vs ds ρ acc P
  | [], acc, _, _, p => by simpa [blkD] using p
  | d :: ds, acc, h, hl, p => by
    simp only [List.length_cons] at hl
    refine h d List.mem_cons_self (fun o => match o with
      | some e => acc.length < sizeLine ∧ blkD fg tt (bodyL te) vs ds ρ (acc ++ [e]) P
      | none => blkD fg tt (bodyL te) vs ds ρ acc P) ?_
    cases e : g d with
    | none =>
      rw [List.filterMap_cons_none e] at p
      exact blkL g (fun x hx => h x (List.mem_cons_of_mem _ hx)) (by omega) p
    | some y =>
      rw [List.filterMap_cons_some e] at p
      exact ⟨by omega, blkL g (fun x hx => h x (List.mem_cons_of_mem _ hx)) (by simp only [List.length_append, List.length_cons, List.length_nil]; omega) (by simpa using p)⟩
/-- every item, made -/
theorem blkMap {fg : FG} {te : FE} {vs : List Nat} (g : D → D) {ρ : Rho} {P : List D → Prop} {ds : List D} (h : ∀ d ∈ ds, ∀ R : D → Prop, R (g d) → turnR fg vs d ρ fun ρ2 => te ρ2 R) (hl : ds.length ≤ sizeLine) (p : P (ds.map g)) : blkD fg fYes (bodyL te) vs ds ρ [] P :=
  blkL (fun d => some (g d)) (fun d hd R r => h d hd (fun e => R (some e)) r) (by simpa using hl) (by simpa using p)
theorem blkDic {fg : FG} {tt : FT} {tk tv : FE} {vs : List Nat} (g : D → Option (DK × D)) {ρ : Rho} {P : List DK × List D → Prop} : ∀ {ds : List D} {a : List DK × List D}, (∀ d ∈ ds, ∀ R : Option (DK × D) → Prop, R (g d) → turnR fg vs d ρ fun ρ2 => tt ρ2 fun b => if b = true then tk ρ2 fun y => tv ρ2 fun v => ∃ k, keyD y = some k ∧ R (some (k, v)) else R none) →
    a.1.length + ds.length ≤ sizeLine → P (mrgD a.1 a.2 (ds.filterMap g)) → blkD fg tt (bodyD tk tv) vs ds ρ a P
  | [], a, _, _, p => p
  | d :: ds, a, h, hl, p => by
    simp only [List.length_cons] at hl
    refine h d List.mem_cons_self (fun o => match o with
      | some kv => a.1.length < sizeLine ∧ blkD fg tt (bodyD tk tv) vs ds ρ (putKs a.1 kv.1, putDs a.1 a.2 kv.1 kv.2) P
      | none => blkD fg tt (bodyD tk tv) vs ds ρ a P) ?_
    cases e : g d with
    | none =>
      rw [List.filterMap_cons_none e] at p
      exact blkDic g (fun x hx => h x (List.mem_cons_of_mem _ hx)) (by omega) p
    | some kv =>
      rw [List.filterMap_cons_some e] at p
      refine ⟨by omega, blkDic g (fun x hx => h x (List.mem_cons_of_mem _ hx)) ?_ p⟩
      have : (putKs a.1 kv.1).length ≤ a.1.length + 1 := by unfold putKs; split <;> simp
      show (putKs a.1 kv.1).length + ds.length ≤ sizeLine
      omega
theorem blkL2 {fg fg1 : FG} {tt tt1 : FT} {fi1 : FA} {te : FE} {vs vs1 : List Nat} (g : D → List D) {ρ : Rho} {P : List D → Prop} (B : Nat) : ∀ {ds acc : List D}, (∀ d ∈ ds, (g d).length ≤ B ∧ ∀ (acc : List D) (R : List D → Prop), acc.length + B ≤ sizeLine → R (acc ++ g d) → turnR fg vs d ρ fun ρ2 => tt ρ2 fun b => if b = true then bodyL2 fi1 fg1 tt1 te vs1 ρ2 acc R else R acc) →
    acc.length + (ds.length + 1) * B ≤ sizeLine → P (acc ++ ds.flatMap g) → blkD fg tt (bodyL2 fi1 fg1 tt1 te vs1) vs ds ρ acc P
  | [], acc, _, _, p => by simpa [blkD] using p
  | d :: ds, acc, h, hl, p => by
    obtain ⟨h0, h1⟩ := h d List.mem_cons_self
    simp only [List.length_cons, Nat.add_mul, Nat.one_mul] at hl
    refine h1 acc (fun acc' => blkD fg tt (bodyL2 fi1 fg1 tt1 te vs1) vs ds ρ acc' P) (by omega) ?_
    refine blkL2 g B (fun x hx => h x (List.mem_cons_of_mem _ hx)) ?_ (by simpa using p)
    simp only [List.length_append, Nat.add_mul, Nat.one_mul]
    omega
/-! ### repr -/
mutual
/-- a bound on the repr's length -/
def szD : D → Nat
  | .non => 4
  | .bl _ => 5
  | .int i => i.natAbs + 2
  | .str l => 10 * l.length + 2
  | .tup ds => szAll ds + 3
  | .lst ds => szAll ds + 3
  | _ => 0
def szAll : List D → Nat
  | [] => 0
  | d :: ds => szD d + 2 + szAll ds
end
mutual
/-- plain data that repr takes -/
def repOk : Nat → D → Bool
  | _, .non => true
  | _, .bl _ => true
  | _, .int i => decide (i.natAbs.log2 < 1920)
  | _, .str l => decide (l.length ≤ sizeLine) && l.all fun c => decide (c < 1114112)
  | n + 1, .tup ds => repAll n ds
  | n + 1, .lst ds => repAll n ds
  | _, _ => false
def repAll : Nat → List D → Bool
  | _, [] => true
  | n, d :: ds => repOk n d && repAll n ds
end
theorem S_all (l : Tx) (p : Nat → Bool) : (S l).cps.all p = l.all p := by simp [S]
theorem join_len_le : ∀ ts : List Str, (Str.join ", " ts).length ≤ (ts.map fun t => t.length + 2).sum
  | [] => Nat.zero_le _
  | t :: ts => by
    have h := join_length_add (t :: ts) (by simp)
    unfold piled at h
    omega
theorem textFrom_le : ∀ (ts : List Str) (k : Nat) (acc : Str), (textFrom k acc ts).length ≤ acc.length + (ts.map fun t => t.length + 2).sum
  | [], k, acc => Nat.le_add_right _ _
  | t :: ts, k, acc => by
    have h := textFrom_le ts (k + 1) (acc ++ (if k > 0 then ", " else "" : String) ++ t)
    have e : (acc ++ (if k > 0 then ", " else "" : String) ++ t).length ≤ acc.length + 2 + t.length := by
      rw [strLen_append, strLen_append]
      have : ((if k > 0 then ", " else "" : String) : Str).length ≤ 2 := by split <;> decide
      omega
    show (textFrom (k + 1) _ ts).length ≤ _
    rw [List.map_cons, List.sum_cons]
    omega
mutual
theorem repOk_py : ∀ {n : Nat} {d : D}, repOk n d = true → (toPy d).canLay0 = true ∧ (toPy d).showable = true ∧ (toPy d).hasDict = false ∧ (toPy d).depth ≤ n ∧ (toPy d).shown.length ≤ szD d
  | n, .non, _ => ⟨rfl, rfl, rfl, Nat.zero_le _, by show ("None" : Str).length ≤ 4; decide⟩
  | n, .bl b, _ => ⟨rfl, rfl, rfl, Nat.zero_le _, by cases b <;> (show (_ : Str).length ≤ 5) <;> decide⟩
  | n, .int i, h => by
    have h' : i.natAbs.log2 < 1920 := by
      cases n <;> simpa [repOk] using h
    refine ⟨rfl, by show decide _ = true; exact decide_eq_true h', rfl, Nat.zero_le _, ?_⟩
    have := PyProof.Rows.len_str_of_int i
    show (Str.ofString (toString i)).length ≤ i.natAbs + 2
    omega
  | n, .str l, h => by
    have h' : l.length ≤ sizeLine ∧ ∀ c ∈ l, c < 1114112 := by
      cases n <;> simpa [repOk] using h
    refine ⟨?_, rfl, rfl, Nat.zero_le _, ?_⟩
    · show (S l).cps.all _ = true
      rw [S_all]
      exact List.all_eq_true.mpr fun c hc => decide_eq_true (h'.2 c hc)
    · have := StrLaws.reprText_len (S l) (by
        rw [S_cps]
        exact fun c hc => Nat.lt_trans (h'.2 c hc) (by decide))
      rw [S_length] at this
      exact this
  | n + 1, .tup ds, h => by
    obtain ⟨h1, h2, h3, h4, h5⟩ := repAll_py (show repAll n ds = true by simpa [repOk] using h)
    refine ⟨h1, h2, h3, ?_, ?_⟩
    · show PyData.depthAll (toPyAll ds) + 1 ≤ n + 1
      omega
    · show (tupleText (PyData.shownAll (toPyAll ds))).length ≤ szAll ds + 3
      unfold tupleText
      rw [strLen_append, strLen_append]
      have e1 : ((("(" : String) : Str)).length = 1 := rfl
      have e3 : (((if (PyData.shownAll (toPyAll ds)).length == 1 then ",)" else ")" : String) : Str)).length ≤ 2 := by split <;> decide
      have := join_len_le (PyData.shownAll (toPyAll ds))
      omega
  | n + 1, .lst ds, h => by
    obtain ⟨h1, h2, h3, h4, h5⟩ := repAll_py (show repAll n ds = true by simpa [repOk] using h)
    refine ⟨h1, h2, h3, ?_, ?_⟩
    · show PyData.depthAll (toPyAll ds) + 1 ≤ n + 1
      omega
    · show (listText (PyData.shownAll (toPyAll ds))).length ≤ szAll ds + 3
      unfold listText
      rw [strLen_append]
      have e1 : ((("[" : String) : Str)).length = 1 := rfl
      have e2 : ((("]" : String) : Str)).length = 1 := rfl
      have := textFrom_le (PyData.shownAll (toPyAll ds)) 0 "["
      omega
  | 0, .tup ds, h => by simp [repOk] at h
  | 0, .lst ds, h => by simp [repOk] at h
  | 0, .dic _ _, h => by simp [repOk] at h
  | n + 1, .dic _ _, h => by simp [repOk] at h
  | 0, .obj _, h => by simp [repOk] at h
  | n + 1, .obj _, h => by simp [repOk] at h
  | 0, .ty _, h => by simp [repOk] at h
  | n + 1, .ty _, h => by simp [repOk] at h
theorem repAll_py : ∀ {n : Nat} {ds : List D}, repAll n ds = true → PyData.canLayAll0 (toPyAll ds) = true ∧ PyData.showableAll (toPyAll ds) = true ∧ PyData.hasDictAll (toPyAll ds) = false ∧ PyData.depthAll (toPyAll ds) ≤ n ∧ ((PyData.shownAll (toPyAll ds)).map fun t => t.length + 2).sum ≤ szAll ds
  | n, [], _ => ⟨rfl, rfl, rfl, Nat.zero_le _, Nat.le_refl _⟩
  | n, d :: ds, h => by
    have h' : repOk n d = true ∧ repAll n ds = true := by
      cases n <;> simpa [repAll] using h
    obtain ⟨a1, a2, a3, a4, a5⟩ := repOk_py h'.1
    obtain ⟨b1, b2, b3, b4, b5⟩ := repAll_py h'.2
    refine ⟨?_, ?_, ?_, ?_, ?_⟩
    · show ((toPy d).canLay0 && PyData.canLayAll0 (toPyAll ds)) = true
      rw [a1, b1]; rfl
    · show ((toPy d).showable && PyData.showableAll (toPyAll ds)) = true
      rw [a2, b2]; rfl
    · show ((toPy d).hasDict || PyData.hasDictAll (toPyAll ds)) = false
      rw [a3, b3]; rfl
    · show max (toPy d).depth (PyData.depthAll (toPyAll ds)) ≤ n
      omega
    · show (((toPy d).shown :: PyData.shownAll (toPyAll ds)).map fun t => t.length + 2).sum ≤ szD d + 2 + szAll ds
      rw [List.map_cons, List.sum_cons]
      omega
end
theorem shT_len {n : Nat} {d : D} (h : repOk n d = true) : (shT d).length ≤ szD d := by
  have := (repOk_py h).2.2.2.2
  unfold shT
  simpa [Str.length] using this
theorem gRepr_tup {n : Nat} {ds : List D} {P : D → Prop} (h : repOk n (.tup ds) = true) (hn : n ≤ 60) (hz : szD (.tup ds) ≤ sizeLine) (p : P (.str (shT (.tup ds)))) : gRepr [.tup ds] P := by
  obtain ⟨h1, h2, h3, h4, h5⟩ := repOk_py h
  exact ⟨trivial, h1, h2, h3, Nat.le_trans h4 hn, Nat.le_trans (shT_len h) hz, p⟩
theorem gRepr_lst {n : Nat} {ds : List D} {P : D → Prop} (h : repOk n (.lst ds) = true) (hn : n ≤ 60) (hz : szD (.lst ds) ≤ sizeLine) (p : P (.str (shT (.lst ds)))) : gRepr [.lst ds] P := by
  obtain ⟨h1, h2, h3, h4, h5⟩ := repOk_py h
  exact ⟨trivial, h1, h2, h3, Nat.le_trans h4 hn, Nat.le_trans (shT_len h) hz, p⟩
/-! ### lists of texts -/
theorem szAll_le {B : Nat} : ∀ {ds : List D}, (∀ d ∈ ds, szD d ≤ B) → szAll ds ≤ ds.length * (B + 2)
  | [], _ => Nat.zero_le _
  | d :: ds, h => by
    have h1 := h d List.mem_cons_self
    have h2 := szAll_le (B := B) fun x hx => h x (List.mem_cons_of_mem _ hx)
    simp only [szAll, List.length_cons, Nat.add_mul, Nat.one_mul]
    omega
theorem repAll_of {n : Nat} : ∀ {ds : List D}, (∀ d ∈ ds, repOk n d = true) → repAll n ds = true
  | [], _ => by cases n <;> rfl
  | d :: ds, h => by
    have h1 := h d List.mem_cons_self
    have h2 := repAll_of (n := n) fun x hx => h x (List.mem_cons_of_mem _ hx)
    cases n <;> simp [repAll, h1, h2]
end DL
/-! The layer DL: a law's end, where repr is called (the guards are known to be empty at the law's call). -/
namespace DL
open PySem PySem.Spec PyProof.Rows L2
section
variable [TapeI] {P : Program} {w : World} {K : PySem.W.Frag} {mg mb : Str → Option Value} {k : Nat} {fa a : Addr} {fd : FuncData} {x : Str} {s₁ : Shared} {vs : List Value} {ns : List Int}
/-- from an abstract heap that holds the script alone, or nothing -/
theorem coreG (KX : K.In s₁.heap) (hns : s₁.heap.Ns mainGlobals mg) (hb : s₁.heap.Ns builtinsNs mb) (hbb : ∀ x : Str, x ≠ "__name__" → mb x = bootBuiltins x) (hlim : s₁.heap.NoLimit) (hg : s₁.gens = #[])
    (ha : s₁.heap.get? a = some { cls := .type "list", data := .seq vs.toArray }) (hr : Room k callerA) {spec : GA}
    (F : ∀ base : Heap, K.In base → base.Ns mainGlobals mg → FnG P w K mg base CX0 k fa fd [x] (spD K 1 spec)) (hbind : ∀ (s : Shared) (u : Value), BindsTo s fd ⟨[u], []⟩ [(x, u)])
    (hsp : spec [.scr ns] fun d => d = .bl true) (H : Hp) (hS : SqL K H a (ns.map V.int)) (hok : HOk P w H s₁.heap) (hA : ∀ b, H b ≠ none → b = a) (hF : ∀ u, H a = some u → ∃ o y, u = .frz o y) (hK : H a ≠ none → K.lookup a = none) :
    codeAny (model P w) callerA (.call (.ref fa) ⟨[.ref a], []⟩) (fun r s' => r = .ok (.ret (.bool true)) ∧ OldK s₁.heap s'.heap ∧ s'.os = s₁.os ∧ AllBare s'.gens) s₁ := by
  have out : ∀ {b : Addr}, b ≠ a → H b = none := fun {b} n => by
    cases q : H b with
    | none => rfl
    | some u => exact absurd (hA b (by rw [q]; simp)) n
  have low : ∀ {b : Addr} {o : Obj}, s₁.heap.get? b = some o → H b = none → (hidT s₁.heap H).get? b = some o := fun e n => hidT_get e n
  have nsK : ∀ {b : Addr} {m : Str → Option Value}, s₁.heap.Ns b m → (hidT s₁.heap H).Ns b m := fun {b m} ⟨o, es, ep, e, d, r⟩ => ⟨o, es, ep, low e (out fun z => by
    rw [z, ha] at e
    cases e
    cases (show Data.seq vs.toArray _ = Data.dict es ep from d)), d, r⟩
  have M : Mod K mg (hidT s₁.heap H) := by
    refine ⟨fun b o e => low (KX b o e) ?_, nsK hns, ⟨mb, nsK hb, hbb⟩, ?_⟩
    · by_cases z : b = a
      · subst z
        cases q : H b with
        | none => rfl
        | some u => rw [hK (by rw [q]; simp)] at e; cases e
      · exact out z
    · obtain ⟨mc, h1, h2⟩ := hlim
      exact ⟨mc, nsK h1, h2⟩
  have e0 : Env0 P w K mg (hidT s₁.heap H) callerA [] s₁ H := ⟨rfl, M, fun b o e => of_hidT e, Nat.le_of_eq (hidT_size _ _), trivial, fun b hb => absurd (show b ∈ ([] : List Addr) from hb) (by simp), hok, .of_eq hg⟩
  have same : msk (fun _ : Addr => False) H = H := funext fun b => msk_of (O := fun _ => False) (H := H) (b := b) id
  have sp : spD K 1 spec [.ref a] H (fun v _ => v = .bl true) fun _ _ _ => False :=
    ⟨fun _ => False, [.scr ns], fun d => d = .bl true, rfl, fun b z => z.elim, by rw [same]; exact .cons (.scr hS) .nil, hsp, fun v H' d r _ e => by
      subst e
      cases r
      rfl⟩
  refine codeAny_mono ((F _ M.kin (nsK hns)).run callerA [] s₁ H ⟨[.ref a], []⟩ [.ref a] [.ref a] _ _ ⟨hr, rfl⟩ e0 (hbind s₁ (.ref a)) (.cons rfl .nil) sp) fun r s' h => ?_
  cases r with
  | error e => exact False.elim h
  | ok fl =>
    cases fl with
    | ret u =>
      obtain ⟨v, H', os, bare, un, hok', r', q⟩ := h
      obtain rfl : v = .bl true := q
      obtain rfl : u = Value.bool true := r'
      refine ⟨rfl, OldK.of_keep fun b o e => ?_, os, bare⟩
      cases q : H b with
      | none => exact un.keep b o e q (by intro z; exact absurd (show b ∈ ([] : List Addr) from z) (by simp)) (by simp)
      | some u =>
        obtain rfl := hA b (by rw [q]; simp)
        obtain ⟨ob, y, rfl⟩ := hF u q
        obtain ⟨e1, _⟩ := hok b _ q
        obtain ⟨e2, _⟩ := hok' b _ (un.frzs b ob y q)
        rw [e] at e1
        cases e1
        exact e2
    | _ => exact False.elim h
theorem callG (KX : K.In s₁.heap) (hns : s₁.heap.Ns mainGlobals mg) (hb : s₁.heap.Ns builtinsNs mb) (hbb : ∀ x : Str, x ≠ "__name__" → mb x = bootBuiltins x) (hlim : s₁.heap.NoLimit) (hg : s₁.gens = #[])
    (ha : s₁.heap.get? a = some { cls := .type "list", data := .seq vs.toArray }) (hi : IntsAre vs ns) (hl : ns.length ≤ sizeLine) (hr : Room k callerA) {spec : GA}
    (F : ∀ base : Heap, K.In base → base.Ns mainGlobals mg → FnG P w K mg base CX0 k fa fd [x] (spD K 1 spec)) (hbind : ∀ (s : Shared) (u : Value), BindsTo s fd ⟨[u], []⟩ [(x, u)])
    (hsp : spec [.scr ns] fun d => d = .bl true) :
    codeAny (model P w) callerA (.call (.ref fa) ⟨[.ref a], []⟩) (fun r s' => r = .ok (.ret (.bool true)) ∧ OldK s₁.heap s'.heap ∧ s'.os = s₁.os ∧ AllBare s'.gens) s₁ := by
  have rv := vals_ints hi
  by_cases hk : K.lookup a = none
  · let o0 : Obj := { cls := .type "list", data := .seq vs.toArray }
    have at_ : upd (fun _ => none) a (.frz o0 (.lst (ns.map V.int))) a = some (.frz o0 (.lst (ns.map V.int))) := if_pos rfl
    have ne : ∀ {b : Addr} {u : HO}, upd (fun _ => none) a (.frz o0 (.lst (ns.map V.int))) b = some u → b = a ∧ u = .frz o0 (.lst (ns.map V.int)) := fun {b u} z => by
      by_cases hb : b = a
      · subst hb
        rw [at_] at z
        exact ⟨rfl, (Option.some.inj z).symm⟩
      · rw [upd_ne hb] at z
        cases z
    refine coreG KX hns hb hbb hlim hg ha hr F hbind hsp (upd (fun _ => none) a (.frz o0 (.lst (ns.map V.int)))) (.inl (.inr ⟨_, at_⟩)) (fun b u z => ?_) (fun b z => ?_) (fun u z => ?_) fun _ => hk
    · obtain ⟨rfl, rfl⟩ := ne z
      exact ⟨ha, by rw [List.length_map]; exact hl, vs, _, rv, ha⟩
    · cases q : upd (fun _ => none) a (.frz o0 (.lst (ns.map V.int))) b with
      | none => exact absurd q z
      | some u => exact (ne q).1
    · obtain ⟨_, rfl⟩ := ne z
      exact ⟨_, _, rfl⟩
  · obtain ⟨o, hk⟩ := Option.ne_none_iff_exists'.mp hk
    have e := KX a o hk
    rw [ha] at e
    cases e
    refine coreG KX hns hb hbb hlim hg ha hr F hbind hsp (fun _ => none) (.inr ⟨_, vs.toArray, _, hk, rfl, rfl, rfl, by rw [List.size_toArray, hi.length]; exact hl, by simpa using rv⟩) (fun b u z => by cases z) (fun b z => absurd rfl z) (fun u z => by cases z) fun z => absurd rfl z
end
/-- a law: F gives the written part, the function object, the promise over every base -/
theorem walkG [TapeI] {l : PySem.W.OpenLaw} {n k : Nat} {q : Program} {loose : List Str} {XP : (Str → Option Value) → Heap → Prop} {YP : World → Heap → Prop} {d : DefRec} {x : Str} {spec : GA}
    (hn : l.most = some n) (hn2 : n ≤ sizeLine) (hdf : d.params.defaults = []) (hr : Room k callerA) (hsp : ∀ ns : List Int, spec [.scr ns] fun d => d = .bl true)
    (F : ∀ (w : World) (mg : Str → Option Value) (fa : Addr) (h : Heap), YP w h → h.Ns mainGlobals mg → mg d.name = some (.ref fa) →
      ∃ (K : PySem.W.Frag) (fd : FuncData), K.In h ∧ (∀ (s : Shared) (u : Value), BindsTo s fd ⟨[u], []⟩ [(x, u)]) ∧
        ∀ base : Heap, K.In base → base.Ns mainGlobals mg → FnG l.prog w K mg base CX0 k fa fd [x] (spD K 1 spec)) :
    PySem.W.WalkO q loose XP YP l.row.toRowW d [] (fun f vs => PySem.call f vs) := by
  refine Att.attach_call hn hdf fun w s₀ s₁ mg mb fa o pm cd doc a vs ns G Y ho hd hcd hmg hobj hints hlen hg => ?_
  obtain ⟨K, fd, KX, hb, hF⟩ := F w mg fa _ Y G.T.g hmg
  exact callG KX G.T.g G.T.b G.T.builtins G.T.nolimit hg hobj hints (Nat.le_trans hlen hn2) hr hF hb (hsp ns)
end DL
namespace K16
open PySem PySem.Spec PyProof.Rows L2 DL
/-! ### the text: where the defs stand -/
def top (i : Nat) : Stmt := PySem.Challenge.pw_firstfailing_k16_steps_told.main.body.getD i (.Pass ⟨0, 0, 0, 0⟩)
abbrev s_is_integer : Stmt := top 6
abbrev s_is_number : Stmt := top 7
abbrev s_is_thing : Stmt := top 8
abbrev s_want : Stmt := top 10
abbrev s_known_letters : Stmt := top 11
abbrev s_is_thing_of : Stmt := top 12
abbrev s_want_thing : Stmt := top 13
abbrev s_places_of : Stmt := top 15
abbrev s_dropped : Stmt := top 16
abbrev s_halved : Stmt := top 17
abbrev s_lowered : Stmt := top 18
abbrev s_put_results : Stmt := top 19
abbrev s_results_of : Stmt := top 20
abbrev s_steps_from : Stmt := top 21
abbrev s_plain_steps : Stmt := top 22
abbrev s_steps_of : Stmt := top 23
abbrev s_rule_steps : Stmt := top 24
abbrev s_L_spring : Stmt := top 26
abbrev s_L_dip : Stmt := top 27
abbrev s_L_pick : Stmt := top 28
abbrev s_L_rule : Stmt := top 29
abbrev s_L_read : Stmt := top 30
abbrev s_L_names : Stmt := top 31
abbrev s_L_drawn : Stmt := top 32
abbrev s_L_book : Stmt := top 33
abbrev s_L_word : Stmt := top 34
abbrev s_L_results : Stmt := top 35
abbrev s_L_once : Stmt := top 36
abbrev s_L_steps : Stmt := top 37
abbrev s_L_scenes : Stmt := top 38
abbrev s_L_menu : Stmt := top 39
abbrev s_law : Stmt := top 40
section
variable [TapeD]
/-! ### is_integer -/
abbrev N_is_integer : List Str := ["thing"]
abbrev P_is_integer : List Str := ["thing"]
def G_is_integer : FS :=
  (gRet (fAndV (fCallB gIsi (fCons (fVar 0) (fCons (fC (.ty "int")) fNil))) (fNotV (fCallB gIsi (fCons (fVar 0) (fCons (fC (.ty "bool")) fNil))))))
theorem sc_is_integer : FnScope N_is_integer P_is_integer (defScope s_is_integer) := C8.fnScope_by (by decide +kernel)
theorem dv_is_integer {P : Program} {w : World} {K : PySem.W.Frag} {mg : Str → Option Value} {base : Heap} {k : Nat} {qual : Str} {f : Addr} (g_bool : mg "bool" = none) (g_int : mg "int" = none) (g_isinstance : mg "isinstance" = none)
    (cdv : Value) (A : Around) (outer : List Env) (s : Shared) (H : Hp) (E : XK) (hr : RoomG k (A.deeper (envOfC qual (defScope s_is_integer) s.heap.objs.size f cdv))) :
    DSs K (cxOf CX0 P w K mg base N_is_integer qual (defScope s_is_integer) f cdv A outer s H E).nox (defBody s_is_integer) (G_is_integer) :=
  have nd := (sc_is_integer).nd
  (dss_one (ds_ret (de_and (de_callB dc_isi (by rfl) g_isinstance B_isinstance (da_cons (de_var 0) (da_cons (de_ty (by rfl) g_int B_int) da_nil))) (de_one (de_not (de_callB dc_isi (by rfl) g_isinstance B_isinstance (da_cons (de_var 0) (da_cons (de_ty (by rfl) g_bool B_bool) da_nil))))))))
/-! ### is_number -/
abbrev N_is_number : List Str := ["thing"]
abbrev P_is_number : List Str := ["thing"]
def G_is_number (c_is_integer : GA) : FS :=
  (gRet (fAndV (fCall c_is_integer 1 (fCons (fVar 0) fNil)) (fOp gGe (fVar 0) (fC (.int 0)))))
theorem sc_is_number : FnScope N_is_number P_is_number (defScope s_is_number) := C8.fnScope_by (by decide +kernel)
theorem dv_is_number {P : Program} {w : World} {K : PySem.W.Frag} {mg : Str → Option Value} {base : Heap} {k : Nat} {qual : Str} {f : Addr} {c_is_integer : GA}
    (Cc_is_integer : CalD P w K mg base k "is_integer" 1 [] c_is_integer)
    (cdv : Value) (A : Around) (outer : List Env) (s : Shared) (H : Hp) (E : XK) (hr : RoomG k (A.deeper (envOfC qual (defScope s_is_number) s.heap.objs.size f cdv))) :
    DSs K (cxOf CX0 P w K mg base N_is_number qual (defScope s_is_number) f cdv A outer s H E).nox (defBody s_is_number) (G_is_number c_is_integer) :=
  have nd := (sc_is_number).nd
  (dss_one (ds_ret (de_and (de_call Cc_is_integer hr (by rfl) (da_cons (de_var 0) da_nil)) (de_one (de_cmp dop_ge (de_var 0) de_int)))))
/-! ### is_thing -/
abbrev N_is_thing : List Str := ["thing", "sign"]
abbrev P_is_thing : List Str := ["thing"]
def G_is_thing : FS :=
  (gRet (fAndV (fCallB gIsi (fCons (fVar 0) (fCons (fC (.ty "str")) fNil))) (fCallB (gBools fun bs => bs.all id) (fCons (fun ρ P => fLc (fSeq (fVar 0)) (fgN 1) fYes (fOp gIn (fVar 1) (fC (.str (T "abcdefghijklmnopqrstuvwxyz")))) [1] ρ fun es => P (.lst es)) fNil))))
theorem sc_is_thing : FnScope N_is_thing P_is_thing (defScope s_is_thing) := C8.fnScope_by (by decide +kernel)
theorem dv_is_thing {P : Program} {w : World} {K : PySem.W.Frag} {mg : Str → Option Value} {base : Heap} {k : Nat} {qual : Str} {f : Addr} (g_all : mg "all" = none) (g_isinstance : mg "isinstance" = none) (g_str : mg "str" = none) (k_LOWERCASE : ∃ t, mg "LOWERCASE" = some (.str (Str.ofString "abcdefghijklmnopqrstuvwxyz") t))
    (cdv : Value) (A : Around) (outer : List Env) (s : Shared) (H : Hp) (E : XK) (hr : RoomG k (A.deeper (envOfC qual (defScope s_is_thing) s.heap.objs.size f cdv))) :
    DSs K (cxOf CX0 P w K mg base N_is_thing qual (defScope s_is_thing) f cdv A outer s H E).nox (defBody s_is_thing) (G_is_thing) :=
  have nd := (sc_is_thing).nd
  (dss_one (ds_ret (de_and (de_callB dc_isi (by rfl) g_isinstance B_isinstance (da_cons (de_var 0) (da_cons (de_ty (by rfl) g_str B_str) da_nil))) (de_one (de_callB (dc_all rfl) (by rfl) g_all B_all (da_cons (de_lc (own' := []) rfl nd (di_seq (de_var 0)) [("sign", 1)] (by rfl) (by decide) (fun _ _ _ _ _ => (dg_name 1 nd)) (fun _ _ _ _ _ => dts_nil) (fun _ _ _ _ _ => (de_cmp (dop_in hr.hu) (de_var 1) (de_gstrT "abcdefghijklmnopqrstuvwxyz" (by rfl) k_LOWERCASE)))) da_nil))))))
/-! ### want -/
abbrev N_want : List Str := ["is_right", "name", "at"]
abbrev P_want : List Str := ["is_right", "name", "at"]
def G_want : FS :=
  (gIf (fNot (fB (fVar 0)))
  (fun _ _ => False)
  gNext)
theorem sc_want : FnScope N_want P_want (defScope s_want) := C8.fnScope_by (by decide +kernel)
theorem dv_want {P : Program} {w : World} {K : PySem.W.Frag} {mg : Str → Option Value} {base : Heap} {k : Nat} {qual : Str} {f : Addr}
    (cdv : Value) (A : Around) (outer : List Env) (s : Shared) (H : Hp) (E : XK) (hr : RoomG k (A.deeper (envOfC qual (defScope s_want) s.heap.objs.size f cdv))) :
    DSs K (cxOf CX0 P w K mg base N_want qual (defScope s_want) f cdv A outer s H E).nox (defBody s_want) (G_want) :=
  have nd := (sc_want).nd
  (dss_one (ds_if (dt_not (dt_val (de_var 0)))
      (dss_one ds_never)
      dss_nil))
/-! ### known_letters -/
abbrev N_known_letters : List Str := ["book", "letter", "lessers"]
abbrev P_known_letters : List Str := ["book"]
def G_known_letters : FS :=
  (gRet (fCallB gTuple (fCons (fun ρ P => fLc (fSeq (fOp gIx (fVar 0) (fC (.int 0)))) (fgTup 2 (fgCons (fgN 1) (fgCons (fgN 2) fgNil))) fYes (fVar 1) [1, 2] ρ fun es => P (.lst es)) fNil)))
theorem sc_known_letters : FnScope N_known_letters P_known_letters (defScope s_known_letters) := C8.fnScope_by (by decide +kernel)
theorem dv_known_letters {P : Program} {w : World} {K : PySem.W.Frag} {mg : Str → Option Value} {base : Heap} {k : Nat} {qual : Str} {f : Addr} (g_tuple : mg "tuple" = none)
    (cdv : Value) (A : Around) (outer : List Env) (s : Shared) (H : Hp) (E : XK) (hr : RoomG k (A.deeper (envOfC qual (defScope s_known_letters) s.heap.objs.size f cdv))) :
    DSs K (cxOf CX0 P w K mg base N_known_letters qual (defScope s_known_letters) f cdv A outer s H E).nox (defBody s_known_letters) (G_known_letters) :=
  have nd := (sc_known_letters).nd
  (dss_one (ds_ret (de_callTy dc_tuple (by rfl) g_tuple B_tuple (da_cons (de_lc (own' := []) rfl nd (di_seq (de_ix hr.hu (de_var 0) de_int)) [("letter", 1), ("lessers", 2)] (by rfl) (by decide) (fun _ _ _ _ _ => (dg_tup rfl (dgs_cons (dg_name 1 nd) (dgs_cons (dg_name 2 nd) dgs_nil)) (n := 2))) (fun _ _ _ _ _ => dts_nil) (fun _ _ _ _ _ => (de_var 1))) da_nil))))
/-! ### is_thing_of -/
abbrev N_is_thing_of : List Str := ["book", "thing", "known", "sign"]
abbrev P_is_thing_of : List Str := ["book", "thing"]
def G_is_thing_of (c_is_thing c_known_letters : GA) : FS :=
  (gSeq (gAsg (fCall c_known_letters 1 (fCons (fVar 0) fNil)) (fgN 2))
  (gRet (fAndV (fCall c_is_thing 1 (fCons (fVar 1) fNil)) (fCallB (gBools fun bs => bs.all id) (fCons (fun ρ P => fLc (fSeq (fVar 1)) (fgN 3) fYes (fOp gIn (fVar 3) (fVar 2)) [3] ρ fun es => P (.lst es)) fNil)))))
theorem sc_is_thing_of : FnScope N_is_thing_of P_is_thing_of (defScope s_is_thing_of) := C8.fnScope_by (by decide +kernel)
theorem dv_is_thing_of {P : Program} {w : World} {K : PySem.W.Frag} {mg : Str → Option Value} {base : Heap} {k : Nat} {qual : Str} {f : Addr} {c_is_thing c_known_letters : GA} (g_all : mg "all" = none)
    (Cc_is_thing : CalD P w K mg base k "is_thing" 1 [] c_is_thing)
    (Cc_known_letters : CalD P w K mg base k "known_letters" 1 [] c_known_letters)
    (cdv : Value) (A : Around) (outer : List Env) (s : Shared) (H : Hp) (E : XK) (hr : RoomG k (A.deeper (envOfC qual (defScope s_is_thing_of) s.heap.objs.size f cdv))) :
    DSs K (cxOf CX0 P w K mg base N_is_thing_of qual (defScope s_is_thing_of) f cdv A outer s H E).nox (defBody s_is_thing_of) (G_is_thing_of c_is_thing c_known_letters) :=
  have nd := (sc_is_thing_of).nd
  (dss_cons (ds_set 2 nd (de_call Cc_known_letters hr (by rfl) (da_cons (de_var 0) da_nil)))
      (dss_one (ds_ret (de_and (de_call Cc_is_thing hr (by rfl) (da_cons (de_var 1) da_nil)) (de_one (de_callB (dc_all rfl) (by rfl) g_all B_all (da_cons (de_lc (own' := []) rfl nd (di_seq (de_var 1)) [("sign", 3)] (by rfl) (by decide) (fun _ _ _ _ _ => (dg_name 3 nd)) (fun _ _ _ _ _ => dts_nil) (fun _ _ _ _ _ => (de_cmp (dop_in hr.hu) (de_var 3) (de_var 2)))) da_nil)))))))
/-! ### want_thing -/
abbrev N_want_thing : List Str := ["book", "name", "thing"]
abbrev P_want_thing : List Str := ["book", "name", "thing"]
def G_want_thing (c_is_thing_of c_want_2 : GA) : FS :=
  (gDrop (fCall c_want_2 2 (fCons (fCall c_is_thing_of 2 (fCons (fVar 0) (fCons (fVar 2) fNil))) (fCons (fVar 1) fNil))))
theorem sc_want_thing : FnScope N_want_thing P_want_thing (defScope s_want_thing) := C8.fnScope_by (by decide +kernel)
theorem dv_want_thing {P : Program} {w : World} {K : PySem.W.Frag} {mg : Str → Option Value} {base : Heap} {k : Nat} {qual : Str} {f : Addr} {c_is_thing_of c_want_2 : GA}
    (Cc_is_thing_of : CalD P w K mg base k "is_thing_of" 2 [] c_is_thing_of)
    (Cc_want_2 : CalD P w K mg base k "want" 2 [] c_want_2)
    (cdv : Value) (A : Around) (outer : List Env) (s : Shared) (H : Hp) (E : XK) (hr : RoomG k (A.deeper (envOfC qual (defScope s_want_thing) s.heap.objs.size f cdv))) :
    DSs K (cxOf CX0 P w K mg base N_want_thing qual (defScope s_want_thing) f cdv A outer s H E).nox (defBody s_want_thing) (G_want_thing c_is_thing_of c_want_2) :=
  have nd := (sc_want_thing).nd
  (dss_one (ds_expr (de_call Cc_want_2 hr (by rfl) (da_cons (de_call Cc_is_thing_of hr (by rfl) (da_cons (de_var 0) (da_cons (de_var 2) da_nil))) (da_cons (de_var 1) da_nil)))))
/-! ### places_of -/
abbrev N_places_of : List Str := ["many", "side"]
abbrev P_places_of : List Str := ["many", "side"]
def G_places_of : FS :=
  (gRet (fIf (fB (fOp gEq (fVar 1) (fC (.str (T "left"))))) (fLstRg1 (fVar 0)) (fLstRg3 (fCons (fOp gSub (fVar 0) (fC (.int 1))) (fCons (fNeg (fC (.int 1))) (fCons (fNeg (fC (.int 1))) fNil))))))
theorem sc_places_of : FnScope N_places_of P_places_of (defScope s_places_of) := C8.fnScope_by (by decide +kernel)
theorem dv_places_of {P : Program} {w : World} {K : PySem.W.Frag} {mg : Str → Option Value} {base : Heap} {k : Nat} {qual : Str} {f : Addr} (g_list : mg "list" = none) (g_range : mg "range" = none)
    (cdv : Value) (A : Around) (outer : List Env) (s : Shared) (H : Hp) (E : XK) (hr : RoomG k (A.deeper (envOfC qual (defScope s_places_of) s.heap.objs.size f cdv))) :
    DSs K (cxOf CX0 P w K mg base N_places_of qual (defScope s_places_of) f cdv A outer s H E).nox (defBody s_places_of) (G_places_of) :=
  have nd := (sc_places_of).nd
  (dss_one (ds_ret (de_if (dt_cmp (dop_eq hr.hu) (de_var 1) (de_str "left")) (de_lstRg1 rfl (by rfl) g_list (by rfl) g_range (de_var 0)) (de_lstRg3 rfl (by rfl) g_list (by rfl) g_range (da_cons (de_op dop_sub (de_var 0) de_int) (da_cons (de_neg de_int) (da_cons (de_neg de_int) da_nil)))))))
/-! ### dropped -/
abbrev N_dropped : List Str := ["rule", "x", "many", "k"]
abbrev P_dropped : List Str := ["rule", "x"]
def G_dropped (c_places_of : GA) : FS :=
  (gSeq (gAsg (fCallB gMax (fCons (fC (.int 0)) (fCons (fOp gAdd (fOp gSub (fCallB gLenS (fCons (fVar 1) fNil)) (fOp gIx (fVar 0) (fC (.int 1)))) (fC (.int 1))) fNil))) (fgN 2))
  (gRet (fun ρ P => fLc (fSeq (fCall c_places_of 2 (fCons (fVar 2) (fCons (fOp gIx (fVar 0) (fC (.int 2))) fNil)))) (fgN 3) fYes (fOp gAdd (fSl (fVar 1) foN (foS (fVar 3))) (fSl (fVar 1) (foS (fOp gAdd (fVar 3) (fOp gIx (fVar 0) (fC (.int 1))))) foN)) [3] ρ fun es => P (.lst es))))
theorem sc_dropped : FnScope N_dropped P_dropped (defScope s_dropped) := C8.fnScope_by (by decide +kernel)
theorem dv_dropped {P : Program} {w : World} {K : PySem.W.Frag} {mg : Str → Option Value} {base : Heap} {k : Nat} {qual : Str} {f : Addr} {c_places_of : GA} (g_len : mg "len" = none) (g_max : mg "max" = none)
    (Cc_places_of : CalD P w K mg base k "places_of" 2 [] c_places_of)
    (cdv : Value) (A : Around) (outer : List Env) (s : Shared) (H : Hp) (E : XK) (hr : RoomG k (A.deeper (envOfC qual (defScope s_dropped) s.heap.objs.size f cdv))) :
    DSs K (cxOf CX0 P w K mg base N_dropped qual (defScope s_dropped) f cdv A outer s H E).nox (defBody s_dropped) (G_dropped c_places_of) :=
  have nd := (sc_dropped).nd
  (dss_cons (ds_set 2 nd (de_callB (dc_max rfl) (by rfl) g_max B_max (da_cons de_int (da_cons (de_op dop_add (de_op dop_sub (de_callB dc_lenS (by rfl) g_len B_len (da_cons (de_var 1) da_nil)) (de_ix hr.hu (de_var 0) de_int)) de_int) da_nil))))
      (dss_one (ds_ret (de_lc (own' := []) rfl nd (di_seq (de_call Cc_places_of hr (by rfl) (da_cons (de_var 2) (da_cons (de_ix hr.hu (de_var 0) de_int) da_nil)))) [("k", 3)] (by rfl) (by decide) (fun _ _ _ _ _ => (dg_name 3 nd)) (fun _ _ _ _ _ => dts_nil) (fun _ _ _ _ _ => (de_op dop_add (de_sl (de_var 1) do_none (do_some (de_var 3))) (de_sl (de_var 1) (do_some (de_op dop_add (de_var 3) (de_ix hr.hu (de_var 0) de_int))) do_none)))))))
/-! ### halved -/
abbrev N_halved : List Str := ["rule", "x", "size"]
abbrev P_halved : List Str := ["rule", "x"]
def G_halved : FS :=
  (gSeq (gAsg (fOp gFdiv (fCallB gLenS (fCons (fVar 1) fNil)) (fC (.int 2))) (fgN 2))
  (gRet (fLst (fCons (fIf (fB (fOp gEq (fOp gIx (fVar 0) (fC (.int 1))) (fC (.str (T "left"))))) (fSl (fVar 1) foN (foS (fVar 2))) (fSl (fVar 1) (foS (fOp gSub (fCallB gLenS (fCons (fVar 1) fNil)) (fVar 2))) foN)) fNil))))
theorem sc_halved : FnScope N_halved P_halved (defScope s_halved) := C8.fnScope_by (by decide +kernel)
theorem dv_halved {P : Program} {w : World} {K : PySem.W.Frag} {mg : Str → Option Value} {base : Heap} {k : Nat} {qual : Str} {f : Addr} (g_len : mg "len" = none)
    (cdv : Value) (A : Around) (outer : List Env) (s : Shared) (H : Hp) (E : XK) (hr : RoomG k (A.deeper (envOfC qual (defScope s_halved) s.heap.objs.size f cdv))) :
    DSs K (cxOf CX0 P w K mg base N_halved qual (defScope s_halved) f cdv A outer s H E).nox (defBody s_halved) (G_halved) :=
  have nd := (sc_halved).nd
  (dss_cons (ds_set 2 nd (de_op dop_fdiv (de_callB dc_lenS (by rfl) g_len B_len (da_cons (de_var 1) da_nil)) de_int))
      (dss_one (ds_ret (de_lst (da_cons (de_if (dt_cmp (dop_eq hr.hu) (de_ix hr.hu (de_var 0) de_int) (de_str "left")) (de_sl (de_var 1) do_none (do_some (de_var 2))) (de_sl (de_var 1) (do_some (de_op dop_sub (de_callB dc_lenS (by rfl) g_len B_len (da_cons (de_var 1) da_nil)) (de_var 2))) do_none)) da_nil)))))
/-! ### lowered -/
abbrev N_lowered : List Str := ["lessers", "rule", "x", "k", "less"]
abbrev P_lowered : List Str := ["lessers", "rule", "x"]
def G_lowered (c_places_of : GA) : FS :=
  (gRet (fun ρ P => (fun ρ P => fLc2 (fSeq (fCall c_places_of 2 (fCons (fCallB gLenS (fCons (fVar 2) fNil)) (fCons (fOp gIx (fVar 1) (fC (.int 1))) fNil)))) (fgN 3) fYes (fSeq (fOp gIx (fVar 0) (fOp gIx (fVar 2) (fVar 3)))) (fgN 4) fYes (fOp gAdd (fOp gAdd (fSl (fVar 2) foN (foS (fVar 3))) (fVar 4)) (fSl (fVar 2) (foS (fOp gAdd (fVar 3) (fC (.int 1)))) foN)) [3, 4] [4] ρ fun es => P (.ol es)) ρ fun s => shP s P))
theorem sc_lowered : FnScope N_lowered P_lowered (defScope s_lowered) := C8.fnScope_by (by decide +kernel)
theorem dv_lowered {P : Program} {w : World} {K : PySem.W.Frag} {mg : Str → Option Value} {base : Heap} {k : Nat} {qual : Str} {f : Addr} {c_places_of : GA} (g_len : mg "len" = none)
    (Cc_places_of : CalD P w K mg base k "places_of" 2 [] c_places_of)
    (cdv : Value) (A : Around) (outer : List Env) (s : Shared) (H : Hp) (E : XK) (hr : RoomG k (A.deeper (envOfC qual (defScope s_lowered) s.heap.objs.size f cdv))) :
    DSs K (cxOf CX0 P w K mg base N_lowered qual (defScope s_lowered) f cdv A outer s H E).nox (defBody s_lowered) (G_lowered c_places_of) :=
  have nd := (sc_lowered).nd
  (dss_one (ds_ret (de_df (dfc_lc2 rfl nd (di_seq (de_call Cc_places_of hr (by rfl) (da_cons (de_callB dc_lenS (by rfl) g_len B_len (da_cons (de_var 2) da_nil)) (da_cons (de_ix hr.hu (de_var 1) de_int) da_nil)))) [("k", 3), ("less", 4)] [4] (by rfl) (by decide) (by decide) (by decide) (fun _ _ _ _ _ => (dg_name 3 nd)) (fun _ _ _ _ _ => dts_nil) (fun _ _ _ _ _ => (di_seq (de_ix hr.hu (de_var 0) (de_ix hr.hu (de_var 2) (de_var 3))))) (fun _ _ _ _ _ => (dg_name 4 nd)) (fun _ _ _ _ _ => dts_nil) (fun _ _ _ _ _ => (de_op dop_add (de_op dop_add (de_sl (de_var 2) do_none (do_some (de_var 3))) (de_var 4)) (de_sl (de_var 2) (do_some (de_op dop_add (de_var 3) de_int)) do_none)))).df)))
/-! ### put_results -/
abbrev N_put_results : List Str := ["rule", "x", "k"]
abbrev P_put_results : List Str := ["rule", "x"]
def G_put_results (c_places_of : GA) : FS :=
  (gRet (fun ρ P => fLc (fSeq (fCall c_places_of 2 (fCons (fCallB gLenS (fCons (fVar 1) fNil)) (fCons (fOp gIx (fVar 0) (fC (.int 3))) fNil)))) (fgN 2) (fB (fOp gEq (fOp gIx (fVar 1) (fVar 2)) (fOp gIx (fVar 0) (fC (.int 1))))) (fOp gAdd (fOp gAdd (fSl (fVar 1) foN (foS (fVar 2))) (fOp gIx (fVar 0) (fC (.int 2)))) (fSl (fVar 1) (foS (fOp gAdd (fVar 2) (fC (.int 1)))) foN)) [2] ρ fun es => P (.lst es)))
theorem sc_put_results : FnScope N_put_results P_put_results (defScope s_put_results) := C8.fnScope_by (by decide +kernel)
theorem dv_put_results {P : Program} {w : World} {K : PySem.W.Frag} {mg : Str → Option Value} {base : Heap} {k : Nat} {qual : Str} {f : Addr} {c_places_of : GA} (g_len : mg "len" = none)
    (Cc_places_of : CalD P w K mg base k "places_of" 2 [] c_places_of)
    (cdv : Value) (A : Around) (outer : List Env) (s : Shared) (H : Hp) (E : XK) (hr : RoomG k (A.deeper (envOfC qual (defScope s_put_results) s.heap.objs.size f cdv))) :
    DSs K (cxOf CX0 P w K mg base N_put_results qual (defScope s_put_results) f cdv A outer s H E).nox (defBody s_put_results) (G_put_results c_places_of) :=
  have nd := (sc_put_results).nd
  (dss_one (ds_ret (de_lc (own' := []) rfl nd (di_seq (de_call Cc_places_of hr (by rfl) (da_cons (de_callB dc_lenS (by rfl) g_len B_len (da_cons (de_var 1) da_nil)) (da_cons (de_ix hr.hu (de_var 0) de_int) da_nil)))) [("k", 2)] (by rfl) (by decide) (fun _ _ _ _ _ => (dg_name 2 nd)) (fun _ _ _ _ _ => (dts_one (dt_cmp (dop_eq hr.hu) (de_ix hr.hu (de_var 1) (de_var 2)) (de_ix hr.hu (de_var 0) de_int)))) (fun _ _ _ _ _ => (de_op dop_add (de_op dop_add (de_sl (de_var 1) do_none (do_some (de_var 2))) (de_ix hr.hu (de_var 0) de_int)) (de_sl (de_var 1) (do_some (de_op dop_add (de_var 2) de_int)) do_none))))))
/-! ### results_of -/
abbrev N_results_of : List Str := ["book", "k", "x", "rule", "letter", "lessers"]
abbrev P_results_of : List Str := ["book", "k", "x"]
def G_results_of (c_dropped c_halved c_lowered c_put_results : GA) : FS :=
  (gSeq (gAsg (fOp gIx (fOp gIx (fVar 0) (fC (.int 1))) (fVar 1)) (fgN 3))
  (gSeq (gIf (fB (fOp gEq (fOp gIx (fVar 3) (fC (.int 0))) (fC (.str (T "drop")))))
  (gRet (fCall c_dropped 2 (fCons (fVar 3) (fCons (fVar 2) fNil))))
  gNext)
  (gSeq (gIf (fB (fOp gEq (fOp gIx (fVar 3) (fC (.int 0))) (fC (.str (T "half")))))
  (gRet (fCall c_halved 2 (fCons (fVar 3) (fCons (fVar 2) fNil))))
  gNext)
  (gSeq (gIf (fB (fOp gEq (fOp gIx (fVar 3) (fC (.int 0))) (fC (.str (T "lower")))))
  (gRet (fCall c_lowered 3 (fCons (fun ρ P => (fDc (fSeq (fOp gIx (fVar 0) (fC (.int 0)))) (fgTup 2 (fgCons (fgN 4) (fgCons (fgN 5) fgNil))) fYes (fVar 4) (fVar 5) [4, 5]) ρ fun s => shP s P) (fCons (fVar 3) (fCons (fVar 2) fNil)))))
  gNext)
  (gRet (fIf (fB (fOp gEq (fOp gIx (fVar 3) (fC (.int 0))) (fC (.str (T "put"))))) (fCall c_put_results 2 (fCons (fVar 3) (fCons (fVar 2) fNil))) (fLst (fCons (fC (.str (T ""))) fNil))))))))
theorem sc_results_of : FnScope N_results_of P_results_of (defScope s_results_of) := C8.fnScope_by (by decide +kernel)
theorem dv_results_of {P : Program} {w : World} {K : PySem.W.Frag} {mg : Str → Option Value} {base : Heap} {k : Nat} {qual : Str} {f : Addr} {c_dropped c_halved c_lowered c_put_results : GA}
    (Cc_dropped : CalD P w K mg base k "dropped" 2 [] c_dropped)
    (Cc_halved : CalD P w K mg base k "halved" 2 [] c_halved)
    (Cc_lowered : CalD P w K mg base k "lowered" 3 [] c_lowered)
    (Cc_put_results : CalD P w K mg base k "put_results" 2 [] c_put_results)
    (cdv : Value) (A : Around) (outer : List Env) (s : Shared) (H : Hp) (E : XK) (hr : RoomG k (A.deeper (envOfC qual (defScope s_results_of) s.heap.objs.size f cdv))) :
    DSs K (cxOf CX0 P w K mg base N_results_of qual (defScope s_results_of) f cdv A outer s H E).nox (defBody s_results_of) (G_results_of c_dropped c_halved c_lowered c_put_results) :=
  have nd := (sc_results_of).nd
  (dss_cons (ds_set 3 nd (de_ix hr.hu (de_ix hr.hu (de_var 0) de_int) (de_var 1)))
      (dss_cons (ds_if (dt_cmp (dop_eq hr.hu) (de_ix hr.hu (de_var 3) de_int) (de_str "drop"))
      (dss_one (ds_ret (de_call Cc_dropped hr (by rfl) (da_cons (de_var 3) (da_cons (de_var 2) da_nil)))))
      dss_nil)
      (dss_cons (ds_if (dt_cmp (dop_eq hr.hu) (de_ix hr.hu (de_var 3) de_int) (de_str "half"))
      (dss_one (ds_ret (de_call Cc_halved hr (by rfl) (da_cons (de_var 3) (da_cons (de_var 2) da_nil)))))
      dss_nil)
      (dss_cons (ds_if (dt_cmp (dop_eq hr.hu) (de_ix hr.hu (de_var 3) de_int) (de_str "lower"))
      (dss_one (ds_ret (de_call Cc_lowered hr (by rfl) (da_cons (de_df (dfc_dc rfl nd (di_seq (de_ix hr.hu (de_var 0) de_int)) [("letter", 4), ("lessers", 5)] (by rfl) (by decide) (fun _ _ _ _ _ => (dg_tup rfl (dgs_cons (dg_name 4 nd) (dgs_cons (dg_name 5 nd) dgs_nil)) (n := 2))) (fun _ _ _ _ _ => dts_nil) (fun _ _ _ _ _ => (de_var 4)) (fun _ _ _ _ _ => (de_var 5))).df) (da_cons (de_var 3) (da_cons (de_var 2) da_nil))))))
      dss_nil)
      (dss_one (ds_ret (de_if (dt_cmp (dop_eq hr.hu) (de_ix hr.hu (de_var 3) de_int) (de_str "put")) (de_call Cc_put_results hr (by rfl) (da_cons (de_var 3) (da_cons (de_var 2) da_nil))) (de_lst (da_cons (de_str "") da_nil)))))))))
/-! ### steps_from -/
abbrev N_steps_from : List Str := ["book", "x", "first", "found", "k", "step"]
abbrev P_steps_from : List Str := ["book", "x", "first"]
def G_steps_from (c_results_of : GA) : FS :=
  (gSeq (fun E ρ => (fDisp [((fVar 1), (fNeg (fC (.int 1))))]) ρ fun s => E.nx (ρ.set 3 s))
  (gSeq (gFor (fSeq (fOp gAdd (fLstRg2 (fVar 2) (fCallB gLenS (fCons (fOp gIx (fVar 0) (fC (.int 1))) fNil))) (fLstRg1 (fVar 2)))) (fgN 4)
  (gFor (fSeq (fCall c_results_of 3 (fCons (fVar 0) (fCons (fVar 4) (fCons (fVar 1) fNil))))) (fgN 5)
  (gIf (ftThaw (fB (fOp gNotIn (fVar 5) (fVar 3))))
  (gDput 3 (fVar 5) (fVar 4))
  gNext)))
  (gRet (fun ρ P => (fun ρ P => odAt ρ[3]? fun ks ds => noOwn (ρ.set 3 .no) [5, 4] = true ∧ blkD (fgTup 2 (fgCons (fgN 5) (fgCons (fgN 4) fgNil))) (fB (fOp gNe (fVar 5) (fVar 1))) (bodyL (fTup (fCons (fVar 4) (fCons (fVar 5) fNil)))) [5, 4] (itemsD ks ds) (ρ.set 3 .no) [] fun es => P (.ol es)) ρ fun s => shP s P))))
theorem sc_steps_from : FnScope N_steps_from P_steps_from (defScope s_steps_from) := C8.fnScope_by (by decide +kernel)
theorem dv_steps_from {P : Program} {w : World} {K : PySem.W.Frag} {mg : Str → Option Value} {base : Heap} {k : Nat} {qual : Str} {f : Addr} {c_results_of : GA} (g_len : mg "len" = none) (g_list : mg "list" = none) (g_range : mg "range" = none)
    (Cc_results_of : CalD P w K mg base k "results_of" 3 [] c_results_of)
    (cdv : Value) (A : Around) (outer : List Env) (s : Shared) (H : Hp) (E : XK) (hr : RoomG k (A.deeper (envOfC qual (defScope s_steps_from) s.heap.objs.size f cdv))) :
    DSs K (cxOf CX0 P w K mg base N_steps_from qual (defScope s_steps_from) f cdv A outer s H E).nox (defBody s_steps_from) (G_steps_from c_results_of) :=
  have nd := (sc_steps_from).nd
  (dss_cons (ds_setOwn 3 nd (df_disp (dps_cons (de_var 1) (de_neg de_int) dps_nil)))
      (dss_cons (ds_for (fun _ => PassesOwn.never) rfl (di_seq (de_op dop_add (de_lstRg2 rfl (by rfl) g_list (by rfl) g_range (de_var 2) (de_callB dc_lenS (by rfl) g_len B_len (da_cons (de_ix hr.hu (de_var 0) de_int) da_nil))) (de_lstRg1 rfl (by rfl) g_list (by rfl) g_range (de_var 2)))) (dg_name 4 nd)
      (dss_one (ds_for (fun _ => PassesOwn.never) rfl (di_seq (de_call Cc_results_of hr (by rfl) (da_cons (de_var 0) (da_cons (de_var 4) (da_cons (de_var 1) da_nil))))) (dg_name 5 nd)
      (dss_one (ds_if (dt_thaw (dt_cmp (dop_notIn hr.hu) (de_var 5) (de_var 3)))
      (dss_one (ds_dput 3 (fun _ => hr.hu) (de_var 5) (de_var 4)))
      dss_nil)))))
      (dss_one (ds_ret (de_df (df_lcItems 3 rfl nd [("step", 5), ("k", 4)] (by rfl) (by decide) (fun _ _ _ _ _ => (dg_tup rfl (dgs_cons (dg_name 5 nd) (dgs_cons (dg_name 4 nd) dgs_nil)) (n := 2))) (fun _ _ _ _ _ => (dts_one (dt_cmp (dop_ne hr.hu) (de_var 5) (de_var 1)))) (fun _ _ _ _ _ => (de_tup (da_cons (de_var 4) (da_cons (de_var 5) da_nil))))))))))
/-! ### plain_steps -/
abbrev N_plain_steps : List Str := ["book", "x", "k", "step"]
abbrev P_plain_steps : List Str := ["book", "x"]
def G_plain_steps (c_steps_from : GA) : FS :=
  (gRet (fCallB gTuple (fCons (fun ρ P => fLc (fSeq (fCall c_steps_from 3 (fCons (fVar 0) (fCons (fVar 1) (fCons (fC (.int 0)) fNil))))) (fgTup 2 (fgCons (fgN 2) (fgCons (fgN 3) fgNil))) fYes (fVar 3) [2, 3] ρ fun es => P (.lst es)) fNil)))
theorem sc_plain_steps : FnScope N_plain_steps P_plain_steps (defScope s_plain_steps) := C8.fnScope_by (by decide +kernel)
theorem dv_plain_steps {P : Program} {w : World} {K : PySem.W.Frag} {mg : Str → Option Value} {base : Heap} {k : Nat} {qual : Str} {f : Addr} {c_steps_from : GA} (g_tuple : mg "tuple" = none)
    (Cc_steps_from : CalD P w K mg base k "steps_from" 3 [] c_steps_from)
    (cdv : Value) (A : Around) (outer : List Env) (s : Shared) (H : Hp) (E : XK) (hr : RoomG k (A.deeper (envOfC qual (defScope s_plain_steps) s.heap.objs.size f cdv))) :
    DSs K (cxOf CX0 P w K mg base N_plain_steps qual (defScope s_plain_steps) f cdv A outer s H E).nox (defBody s_plain_steps) (G_plain_steps c_steps_from) :=
  have nd := (sc_plain_steps).nd
  (dss_one (ds_ret (de_callTy dc_tuple (by rfl) g_tuple B_tuple (da_cons (de_lc (own' := []) rfl nd (di_seq (de_call Cc_steps_from hr (by rfl) (da_cons (de_var 0) (da_cons (de_var 1) (da_cons de_int da_nil))))) [("k", 2), ("step", 3)] (by rfl) (by decide) (fun _ _ _ _ _ => (dg_tup rfl (dgs_cons (dg_name 2 nd) (dgs_cons (dg_name 3 nd) dgs_nil)) (n := 2))) (fun _ _ _ _ _ => dts_nil) (fun _ _ _ _ _ => (de_var 3))) da_nil))))
/-! ### steps_of -/
abbrev N_steps_of : List Str := ["book", "x"]
abbrev P_steps_of : List Str := ["book", "x"]
def G_steps_of (c_plain_steps c_want_thing : GA) : FS :=
  (gSeq (gDrop (fCall c_want_thing 3 (fCons (fVar 0) (fCons (fC (.str (T "x"))) (fCons (fVar 1) fNil)))))
  (gRet (fCall c_plain_steps 2 (fCons (fVar 0) (fCons (fVar 1) fNil)))))
theorem sc_steps_of : FnScope N_steps_of P_steps_of (defScope s_steps_of) := C8.fnScope_by (by decide +kernel)
theorem dv_steps_of {P : Program} {w : World} {K : PySem.W.Frag} {mg : Str → Option Value} {base : Heap} {k : Nat} {qual : Str} {f : Addr} {c_plain_steps c_want_thing : GA}
    (Cc_plain_steps : CalD P w K mg base k "plain_steps" 2 [] c_plain_steps)
    (Cc_want_thing : CalD P w K mg base k "want_thing" 3 [] c_want_thing)
    (cdv : Value) (A : Around) (outer : List Env) (s : Shared) (H : Hp) (E : XK) (hr : RoomG k (A.deeper (envOfC qual (defScope s_steps_of) s.heap.objs.size f cdv))) :
    DSs K (cxOf CX0 P w K mg base N_steps_of qual (defScope s_steps_of) f cdv A outer s H E).nox (defBody s_steps_of) (G_steps_of c_plain_steps c_want_thing) :=
  have nd := (sc_steps_of).nd
  (dss_cons (ds_expr (de_call Cc_want_thing hr (by rfl) (da_cons (de_var 0) (da_cons (de_str "x") (da_cons (de_var 1) da_nil)))))
      (dss_one (ds_ret (de_call Cc_plain_steps hr (by rfl) (da_cons (de_var 0) (da_cons (de_var 1) da_nil))))))
/-! ### rule_steps -/
abbrev N_rule_steps : List Str := ["book", "k", "x", "found", "step"]
abbrev P_rule_steps : List Str := ["book", "k", "x"]
def G_rule_steps (c_is_number c_results_of c_want_2 c_want_thing : GA) : FS :=
  (gSeq (gDrop (fCall c_want_2 2 (fCons (fAndV (fCall c_is_number 1 (fCons (fVar 1) fNil)) (fOp gLt (fVar 1) (fCallB gLenS (fCons (fOp gIx (fVar 0) (fC (.int 1))) fNil)))) (fCons (fC (.str (T "k"))) fNil))))
  (gSeq (gDrop (fCall c_want_thing 3 (fCons (fVar 0) (fCons (fC (.str (T "x"))) (fCons (fVar 2) fNil)))))
  (gSeq (fun E ρ => (fDc (fSeq (fCall c_results_of 3 (fCons (fVar 0) (fCons (fVar 1) (fCons (fVar 2) fNil))))) (fgN 4) (fB (fOp gNe (fVar 4) (fVar 2))) (fVar 4) (fC (.bl true)) [4]) ρ fun s => shP s fun d => E.nx (ρ.set 3 (.sh d)))
  (gRet (fCallB gTuple (fCons (fCallB gList (fCons (fVar 3) fNil)) fNil))))))
theorem sc_rule_steps : FnScope N_rule_steps P_rule_steps (defScope s_rule_steps) := C8.fnScope_by (by decide +kernel)
theorem dv_rule_steps {P : Program} {w : World} {K : PySem.W.Frag} {mg : Str → Option Value} {base : Heap} {k : Nat} {qual : Str} {f : Addr} {c_is_number c_results_of c_want_2 c_want_thing : GA} (g_len : mg "len" = none) (g_list : mg "list" = none) (g_tuple : mg "tuple" = none)
    (Cc_is_number : CalD P w K mg base k "is_number" 1 [] c_is_number)
    (Cc_results_of : CalD P w K mg base k "results_of" 3 [] c_results_of)
    (Cc_want_2 : CalD P w K mg base k "want" 2 [] c_want_2)
    (Cc_want_thing : CalD P w K mg base k "want_thing" 3 [] c_want_thing)
    (cdv : Value) (A : Around) (outer : List Env) (s : Shared) (H : Hp) (E : XK) (hr : RoomG k (A.deeper (envOfC qual (defScope s_rule_steps) s.heap.objs.size f cdv))) :
    DSs K (cxOf CX0 P w K mg base N_rule_steps qual (defScope s_rule_steps) f cdv A outer s H E).nox (defBody s_rule_steps) (G_rule_steps c_is_number c_results_of c_want_2 c_want_thing) :=
  have nd := (sc_rule_steps).nd
  (dss_cons (ds_expr (de_call Cc_want_2 hr (by rfl) (da_cons (de_and (de_call Cc_is_number hr (by rfl) (da_cons (de_var 1) da_nil)) (de_one (de_cmp dop_lt (de_var 1) (de_callB dc_lenS (by rfl) g_len B_len (da_cons (de_ix hr.hu (de_var 0) de_int) da_nil))))) (da_cons (de_str "k") da_nil))))
      (dss_cons (ds_expr (de_call Cc_want_thing hr (by rfl) (da_cons (de_var 0) (da_cons (de_str "x") (da_cons (de_var 2) da_nil)))))
      (dss_cons (ds_setCs 3 (dfc_dc rfl nd (di_seq (de_call Cc_results_of hr (by rfl) (da_cons (de_var 0) (da_cons (de_var 1) (da_cons (de_var 2) da_nil))))) [("step", 4)] (by rfl) (by decide) (fun _ _ _ _ _ => (dg_name 4 nd)) (fun _ _ _ _ _ => (dts_one (dt_cmp (dop_ne hr.hu) (de_var 4) (de_var 2)))) (fun _ _ _ _ _ => (de_var 4)) (fun _ _ _ _ _ => de_bl)) (sw_trueD rfl rfl (by decide +kernel) (by decide +kernel)))
      (dss_one (ds_ret (de_callTy dc_tuple (by rfl) g_tuple B_tuple (da_cons (de_callTy (dc_list rfl) (by rfl) g_list B_list (da_cons (de_var 3) da_nil)) da_nil)))))))
/-! ### L_spring -/
abbrev N_L_spring : List Str := ["_law_script"]
abbrev P_L_spring : List Str := ["_law_script"]
def F_L_spring : FN := (fDisp [((fC (.str (T "cells"))), (fCallB gList (fCons (fSl (fVar 0) foN (foS (fC (.int 60)))) fNil))), ((fC (.str (T "place"))), (fC (.int 0))), ((fC (.str (T "rest"))), (fC (.int 0))), ((fC (.str (T "count"))), (fC (.int 0)))])
def E_L_spring : Expr := match defBody s_L_spring with
  | [.Return (some e) _] => e
  | _ => .Constant .none 0 ⟨0, 0, 0, 0⟩
theorem sc_L_spring : FnScope N_L_spring P_L_spring (defScope s_L_spring) := C8.fnScope_by (by decide +kernel)
theorem dv_L_spring {P : Program} {w : World} {K : PySem.W.Frag} {mg : Str → Option Value} {base : Heap} {k : Nat} {qual : Str} {f : Addr} (g_list : mg "list" = none)
    (cdv : Value) (A : Around) (outer : List Env) (s : Shared) (H : Hp) (E : XK) (hr : RoomG k (A.deeper (envOfC qual (defScope s_L_spring) s.heap.objs.size f cdv))) :
    DF K (cxOf CX0 P w K mg base N_L_spring qual (defScope s_L_spring) f cdv A outer s H E).nox E_L_spring F_L_spring :=
  have nd := (sc_L_spring).nd
  (df_disp (dps_cons (de_str "cells") (de_callTy (dc_list rfl) (by rfl) g_list B_list (da_cons (de_sl (de_var 0) do_none (do_some de_int)) da_nil)) (dps_cons (de_str "place") de_int (dps_cons (de_str "rest") de_int (dps_cons (de_str "count") de_int dps_nil)))))
/-! ### L_dip -/
abbrev N_L_dip : List Str := ["_law_spring_here", "_law_many", "_law_count", "_law_figure", "_law_turn", "_law_cell", "_law_mixed"]
abbrev P_L_dip : List Str := ["_law_spring_here", "_law_many"]
def G_L_dip : FS :=
  (gSeq (gAsg (fOp gAdd (fOwnIx 0 (fC (.str (T "count")))) (fC (.int 1))) (fgN 2))
  (gSeq (gOtD 0 (fC (.str (T "count"))) (fVar 2))
  (gSeq (gIf (fB (fOp gGt (fOwnIx 0 (fC (.str (T "rest")))) (fC (.int 0))))
  (gSeq (gAsg (fOp gMod (fCallB gInt (fCons (fOwnIx 0 (fC (.str (T "rest")))) fNil)) (fVar 1)) (fgN 3))
  (gSeq (gOtD 0 (fC (.str (T "rest"))) (fOp gFdiv (fOwnIx 0 (fC (.str (T "rest")))) (fVar 1)))
  (gRet (fVar 3))))
  gNext)
  (gSeq (gAsg (fOwnIx 0 (fC (.str (T "place")))) (fgN 4))
  (gSeq (gOtD 0 (fC (.str (T "place"))) (fOp gAdd (fVar 4) (fC (.int 1))))
  (gSeq (gAsg (fC (.int 77317)) (fgN 5))
  (gSeq (gIf (fB (fOp gNe (fOwnIx 0 (fC (.str (T "cells")))) (fLst fNil)))
  (gAsg (fOp gIx (fOwnIx 0 (fC (.str (T "cells")))) (fOp gMod (fCallB gInt (fCons (fVar 4) fNil)) (fCallB gLenS (fCons (fOwnIx 0 (fC (.str (T "cells")))) fNil)))) (fgN 5))
  gNext)
  (gSeq (gIf (fAnd (fB (fOp gGe (fVar 5) (fOp gPow (fC (.int 10)) (fC (.int 18))))) (fB (fOp gLt (fVar 4) (fCallB gLenS (fCons (fOwnIx 0 (fC (.str (T "cells")))) fNil)))))
  (gSeq (gOtD 0 (fC (.str (T "rest"))) (fOp gFdiv (fVar 5) (fVar 1)))
  (gRet (fOp gMod (fCallB gInt (fCons (fVar 5) fNil)) (fVar 1))))
  gNext)
  (gSeq (gAsg (fOp gMod (fCallB gInt (fCons (fOp gPow (fOp gAdd (fOp gAdd (fOp gMod (fCallB gInt (fCons (fVar 5) fNil)) (fC (.int 2147483353))) (fOp gMul (fC (.int 6007)) (fVar 2))) (fC (.int 211))) (fC (.int 3))) fNil)) (fC (.int 2147483647))) (fgN 6))
  (gSeq (gAsg (fOp gMod (fCallB gInt (fCons (fOp gPow (fOp gAdd (fVar 6) (fOp gMul (fC (.int 40009)) (fVar 2))) (fC (.int 5))) fNil)) (fC (.int 2147483587))) (fgN 6))
  (gRet (fOp gMod (fCallB gInt (fCons (fOp gFdiv (fVar 6) (fC (.int 128))) fNil)) (fVar 1)))))))))))))
theorem sc_L_dip : FnScope N_L_dip P_L_dip (defScope s_L_dip) := C8.fnScope_by (by decide +kernel)
theorem dv_L_dip {P : Program} {w : World} {K : PySem.W.Frag} {mg : Str → Option Value} {base : Heap} {k : Nat} {qual : Str} {f : Addr} (g_int : mg "int" = none) (g_len : mg "len" = none)
    (cdv : Value) (A : Around) (outer : List Env) (s : Shared) (H : Hp) (E : XK) (hr : RoomG k (A.deeper (envOfC qual (defScope s_L_dip) s.heap.objs.size f cdv))) :
    DSs K (cxOf CX0 P w K mg base N_L_dip qual (defScope s_L_dip) f cdv A outer s H E).nox (defBody s_L_dip) (G_L_dip) :=
  have nd := (sc_L_dip).nd
  (dss_cons (ds_set 2 nd (de_op dop_add (de_ownIx 0 hr.hu (de_str "count")) de_int))
      (dss_cons (ds_otD 0 (fun _ => hr.hu) (de_str "count") (de_var 2))
      (dss_cons (ds_if (dt_cmp dop_gt (de_ownIx 0 hr.hu (de_str "rest")) de_int)
      (dss_cons (ds_set 3 nd (de_op dop_mod (de_callTy dc_int (by rfl) g_int B_int (da_cons (de_ownIx 0 hr.hu (de_str "rest")) da_nil)) (de_var 1)))
      (dss_cons (ds_otD 0 (fun _ => hr.hu) (de_str "rest") (de_op dop_fdiv (de_ownIx 0 hr.hu (de_str "rest")) (de_var 1)))
      (dss_one (ds_ret (de_var 3)))))
      dss_nil)
      (dss_cons (ds_set 4 nd (de_ownIx 0 hr.hu (de_str "place")))
      (dss_cons (ds_otD 0 (fun _ => hr.hu) (de_str "place") (de_op dop_add (de_var 4) de_int))
      (dss_cons (ds_set 5 nd de_int)
      (dss_cons (ds_if (dt_cmp (dop_ne hr.hu) (de_ownIx 0 hr.hu (de_str "cells")) (de_lst da_nil))
      (dss_one (ds_set 5 nd (de_ix hr.hu (de_ownIx 0 hr.hu (de_str "cells")) (de_op dop_mod (de_callTy dc_int (by rfl) g_int B_int (da_cons (de_var 4) da_nil)) (de_callB dc_lenS (by rfl) g_len B_len (da_cons (de_ownIx 0 hr.hu (de_str "cells")) da_nil))))))
      dss_nil)
      (dss_cons (ds_if (dw_and (dt_cmp dop_ge (de_var 5) (de_op dop_pow de_int de_int)) (dw_and1 (dt_cmp dop_lt (de_var 4) (de_callB dc_lenS (by rfl) g_len B_len (da_cons (de_ownIx 0 hr.hu (de_str "cells")) da_nil))))).dt
      (dss_cons (ds_otD 0 (fun _ => hr.hu) (de_str "rest") (de_op dop_fdiv (de_var 5) (de_var 1)))
      (dss_one (ds_ret (de_op dop_mod (de_callTy dc_int (by rfl) g_int B_int (da_cons (de_var 5) da_nil)) (de_var 1)))))
      dss_nil)
      (dss_cons (ds_set 6 nd (de_op dop_mod (de_callTy dc_int (by rfl) g_int B_int (da_cons (de_op dop_pow (de_op dop_add (de_op dop_add (de_op dop_mod (de_callTy dc_int (by rfl) g_int B_int (da_cons (de_var 5) da_nil)) de_int) (de_op dop_mul de_int (de_var 2))) de_int) de_int) da_nil)) de_int))
      (dss_cons (ds_set 6 nd (de_op dop_mod (de_callTy dc_int (by rfl) g_int B_int (da_cons (de_op dop_pow (de_op dop_add (de_var 6) (de_op dop_mul de_int (de_var 2))) de_int) da_nil)) de_int))
      (dss_one (ds_ret (de_op dop_mod (de_callTy dc_int (by rfl) g_int B_int (da_cons (de_op dop_fdiv (de_var 6) de_int) da_nil)) (de_var 1))))))))))))))
/-! ### L_pick -/
abbrev N_L_pick : List Str := ["_law_spring_here", "_law_items"]
abbrev P_L_pick : List Str := ["_law_spring_here", "_law_items"]
def G_L_pick (c_L_dip : GA) (k_L_dip : Nat) : FS :=
  (gRetM (fOpM gIx (mE (fVar 1)) (fDraw c_L_dip k_L_dip 1 0 (mA (fCons (fCallB gLenS (fCons (fVar 1) fNil)) fNil)))))
theorem sc_L_pick : FnScope N_L_pick P_L_pick (defScope s_L_pick) := C8.fnScope_by (by decide +kernel)
theorem dv_L_pick {P : Program} {w : World} {K : PySem.W.Frag} {mg : Str → Option Value} {base : Heap} {k : Nat} {qual : Str} {f : Addr} {c_L_dip : GA} {k_L_dip : Nat} (g_len : mg "len" = none)
    (Cc_L_dip : CalT P w K mg base k "_law_dip" 1 c_L_dip k_L_dip)
    (cdv : Value) (A : Around) (outer : List Env) (s : Shared) (H : Hp) (E : XK) (hr : RoomG k (A.deeper (envOfC qual (defScope s_L_pick) s.heap.objs.size f cdv))) :
    DSs K (cxOf CX0 P w K mg base N_L_pick qual (defScope s_L_pick) f cdv A outer s H E).nox (defBody s_L_pick) (G_L_pick c_L_dip k_L_dip) :=
  have nd := (sc_L_pick).nd
  (dss_one (ds_retM (dm_ix hr.hu (dm_of (de_var 1)) (dm_draw 0 Cc_L_dip hr (by rfl) (dam_of (da_cons (de_callB dc_lenS (by rfl) g_len B_len (da_cons (de_var 1) da_nil)) da_nil))))))
/-! ### L_rule -/
abbrev N_L_rule : List Str := ["_law_sign", "_law_names_here", "_law_side", "_law_one"]
abbrev P_L_rule : List Str := ["_law_sign", "_law_names_here"]
def G_L_rule : FS :=
  (gSeq (gAsg (fIf (fB (fOp gEq (fOp gIx (fVar 0) (fNeg (fC (.int 1)))) (fC (.str (T "l"))))) (fC (.str (T "left"))) (fC (.str (T "right")))) (fgN 2))
  (gSeq (gIf (fB (fOp gEq (fOp gIx (fVar 0) (fC (.int 0))) (fC (.str (T "d")))))
  (gRet (fTup (fCons (fC (.str (T "drop"))) (fCons (fCallB gInt (fCons (fOp gIx (fVar 0) (fC (.int 1))) fNil)) (fCons (fVar 2) fNil)))))
  gNext)
  (gSeq (gIf (fB (fOp gEq (fOp gIx (fVar 0) (fC (.int 0))) (fC (.str (T "p")))))
  (gRet (fTup (fCons (fC (.str (T "put"))) (fCons (fOp gIx (fVar 1) (fOp gIx (fVar 0) (fC (.int 1)))) (fCons (fJoin (fC (.str (T ""))) (fun ρ P => fLc (fSeq (fSl (fVar 0) (foS (fC (.int 3))) (foS (fNeg (fC (.int 2)))))) (fgN 3) fYes (fOp gIx (fVar 1) (fVar 3)) [3] ρ fun es => P (.lst es))) (fCons (fVar 2) fNil))))))
  gNext)
  (gSeq (gIf (fB (fOp gEq (fVar 0) (fC (.str (T "e")))))
  (gRet (fTup (fCons (fC (.str (T "empty"))) fNil)))
  gNext)
  (gRet (fTup (fCons (fIf (fB (fOp gEq (fOp gIx (fVar 0) (fC (.int 0))) (fC (.str (T "h"))))) (fC (.str (T "half"))) (fC (.str (T "lower")))) (fCons (fVar 2) fNil))))))))
theorem sc_L_rule : FnScope N_L_rule P_L_rule (defScope s_L_rule) := C8.fnScope_by (by decide +kernel)
theorem dv_L_rule {P : Program} {w : World} {K : PySem.W.Frag} {mg : Str → Option Value} {base : Heap} {k : Nat} {qual : Str} {f : Addr} (g_int : mg "int" = none)
    (cdv : Value) (A : Around) (outer : List Env) (s : Shared) (H : Hp) (E : XK) (hr : RoomG k (A.deeper (envOfC qual (defScope s_L_rule) s.heap.objs.size f cdv))) :
    DSs K (cxOf CX0 P w K mg base N_L_rule qual (defScope s_L_rule) f cdv A outer s H E).nox (defBody s_L_rule) (G_L_rule) :=
  have nd := (sc_L_rule).nd
  (dss_cons (ds_set 2 nd (de_if (dt_cmp (dop_eq hr.hu) (de_ix hr.hu (de_var 0) (de_neg de_int)) (de_str "l")) (de_str "left") (de_str "right")))
      (dss_cons (ds_if (dt_cmp (dop_eq hr.hu) (de_ix hr.hu (de_var 0) de_int) (de_str "d"))
      (dss_one (ds_ret (de_tup (da_cons (de_str "drop") (da_cons (de_callTy dc_int (by rfl) g_int B_int (da_cons (de_ix hr.hu (de_var 0) de_int) da_nil)) (da_cons (de_var 2) da_nil))))))
      dss_nil)
      (dss_cons (ds_if (dt_cmp (dop_eq hr.hu) (de_ix hr.hu (de_var 0) de_int) (de_str "p"))
      (dss_one (ds_ret (de_tup (da_cons (de_str "put") (da_cons (de_ix hr.hu (de_var 1) (de_ix hr.hu (de_var 0) de_int)) (da_cons (de_join (de_str "") (de_lc (own' := []) rfl nd (di_seq (de_sl (de_var 0) (do_some de_int) (do_some (de_neg de_int)))) [("_law_one", 3)] (by rfl) (by decide) (fun _ _ _ _ _ => (dg_name 3 nd)) (fun _ _ _ _ _ => dts_nil) (fun _ _ _ _ _ => (de_ix hr.hu (de_var 1) (de_var 3))))) (da_cons (de_var 2) da_nil)))))))
      dss_nil)
      (dss_cons (ds_if (dt_cmp (dop_eq hr.hu) (de_var 0) (de_str "e"))
      (dss_one (ds_ret (de_tup (da_cons (de_str "empty") da_nil))))
      dss_nil)
      (dss_one (ds_ret (de_tup (da_cons (de_if (dt_cmp (dop_eq hr.hu) (de_ix hr.hu (de_var 0) de_int) (de_str "h")) (de_str "half") (de_str "lower")) (da_cons (de_var 2) da_nil)))))))))
/-! ### L_read -/
abbrev N_L_read : List Str := ["_law_text", "_law_names_here", "_law_first", "_law_last", "_law_entries", "_law_word_here", "_law_one", "_law_sign"]
abbrev P_L_read : List Str := ["_law_text", "_law_names_here"]
def G_L_read (c_L_rule : GA) : FS :=
  (gSeq (gAsg (fSplit (fVar 0) (fC (.str (T ";")))) (fgLst 2 (fgCons (fgN 2) (fgCons (fgN 3) fgNil))))
  (gSeq (fun E ρ => (fun ρ P => fNil ρ fun ds => ds.length ≤ sizeLine ∧ P (.ol ds)) ρ fun s => E.nx (ρ.set 4 s))
  (gSeq (gFor (fSeq (fIf (fB (fOp gNe (fVar 2) (fC (.str (T ""))))) (fSplit (fVar 2) (fC (.str (T " ")))) (fLst fNil))) (fgN 5)
  (fun E ρ => (fun ρ P => olAt ρ[4]? fun ds => (fCons (fTup (fCons (fOp gIx (fVar 1) (fOp gIx (fVar 5) (fC (.int 0)))) (fCons (fCallB gTuple (fCons (fCallB gSorted (fCons (fun ρ P => fLc (fSeq (fSl (fVar 5) (foS (fC (.int 2))) foN)) (fgN 6) fYes (fOp gIx (fVar 1) (fVar 6)) [6] ρ fun es => P (.lst es)) fNil)) fNil)) fNil))) fNil) ρ fun es => gmApp ds es fun d ds' => P d (ρ.set 4 (.ol ds'))) ρ fun _ ρ' => E.nx ρ'))
  (fun E ρ => (gRet (fTup (fCons (fCallB gTuple (fCons (fCallB gSorted (fCons (fVar 4) fNil)) fNil)) (fCons (fCallB gTuple (fCons (fIf (fB (fOp gNe (fVar 3) (fC (.str (T ""))))) (fun ρ P => fLc (fSeq (fSplit (fVar 3) (fC (.str (T " "))))) (fgN 7) fYes (fCall c_L_rule 2 (fCons (fVar 7) (fCons (fVar 1) fNil))) [7] ρ fun es => P (.lst es)) (fLst fNil)) fNil)) fNil)))) E (frzR ρ 4)))))
theorem sc_L_read : FnScope N_L_read P_L_read (defScope s_L_read) := C8.fnScope_by (by decide +kernel)
theorem dv_L_read {P : Program} {w : World} {K : PySem.W.Frag} {mg : Str → Option Value} {base : Heap} {k : Nat} {qual : Str} {f : Addr} {c_L_rule : GA} (g_sorted : mg "sorted" = none) (g_tuple : mg "tuple" = none)
    (Cc_L_rule : CalD P w K mg base k "_law_rule" 2 [] c_L_rule)
    (cdv : Value) (A : Around) (outer : List Env) (s : Shared) (H : Hp) (E : XK) (hr : RoomG k (A.deeper (envOfC qual (defScope s_L_read) s.heap.objs.size f cdv))) :
    DSs K (cxOf CX0 P w K mg base N_L_read qual (defScope s_L_read) f cdv A outer s H E).nox (defBody s_L_read) (G_L_read c_L_rule) :=
  have nd := (sc_L_read).nd
  (dss_cons (ds_asg (de_split (de_var 0) (de_str ";")) (dg_lst rfl (dgs_cons (dg_name 2 nd) (dgs_cons (dg_name 3 nd) dgs_nil)) (n := 2)))
      (dss_cons (ds_setOwn 4 nd (df_lst da_nil))
      (dss_cons (ds_for (fun _ => PassesOwn.never) rfl (di_seq (de_if (dt_cmp (dop_ne hr.hu) (de_var 2) (de_str "")) (de_split (de_var 2) (de_str " ")) (de_lst da_nil))) (dg_name 5 nd)
      (dss_one (ds_exprM (dm_bm 4 PySem.F.slot_list_append PySem.F.type_list_append mt_append mok_app (da_cons (de_tup (da_cons (de_ix hr.hu (de_var 1) (de_ix hr.hu (de_var 5) de_int)) (da_cons (de_callTy dc_tuple (by rfl) g_tuple B_tuple (da_cons (de_callB (dc_sorted (by exact fun _ => hr.hu) (by rfl)) (by rfl) g_sorted B_sorted (da_cons (de_lc (own' := []) rfl nd (di_seq (de_sl (de_var 5) (do_some de_int) do_none)) [("_law_one", 6)] (by rfl) (by decide) (fun _ _ _ _ _ => (dg_name 6 nd)) (fun _ _ _ _ _ => dts_nil) (fun _ _ _ _ _ => (de_ix hr.hu (de_var 1) (de_var 6)))) da_nil)) da_nil)) da_nil))) da_nil)))))
      (dss_frz 4 (dss_one (ds_ret (de_tup (da_cons (de_callTy dc_tuple (by rfl) g_tuple B_tuple (da_cons (de_callB (dc_sorted (by exact fun _ => hr.hu) (by rfl)) (by rfl) g_sorted B_sorted (da_cons (de_var 4) da_nil)) da_nil)) (da_cons (de_callTy dc_tuple (by rfl) g_tuple B_tuple (da_cons (de_if (dt_cmp (dop_ne hr.hu) (de_var 3) (de_str "")) (de_lc (own' := []) rfl nd (di_seq (de_split (de_var 3) (de_str " "))) [("_law_sign", 7)] (by rfl) (by decide) (fun _ _ _ _ _ => (dg_name 7 nd)) (fun _ _ _ _ _ => dts_nil) (fun _ _ _ _ _ => (de_call Cc_L_rule hr (by rfl) (da_cons (de_var 7) (da_cons (de_var 1) da_nil))))) (de_lst da_nil)) da_nil)) da_nil)))))))))
/-! ### L_names -/
abbrev N_L_names : List Str := ["_law_spring_here", "_law_tables", "_law_table"]
abbrev P_L_names : List Str := ["_law_spring_here"]
def G_L_names (c_L_pick : GA) (k_L_pick : Nat) : FS :=
  (gSeq (gAsg (fLst (fCons (fC (.str (T "abcd"))) (fCons (fC (.str (T "bxyz"))) (fCons (fC (.str (T "pqrs"))) (fCons (fC (.str (T "dacb"))) (fCons (fC (.str (T "zyxw"))) fNil)))))) (fgN 1))
  (gSeq (fun E ρ => (fDraw c_L_pick k_L_pick 1 0 (mA (fCons (fVar 1) fNil))) ρ fun d ρ' => E.nx (ρ'.set 2 (.sh d)))
  (gRet (fun ρ P => (fDisp [((fC (.str (T "a"))), (fOp gIx (fVar 2) (fC (.int 0)))), ((fC (.str (T "b"))), (fOp gIx (fVar 2) (fC (.int 1)))), ((fC (.str (T "c"))), (fOp gIx (fVar 2) (fC (.int 2)))), ((fC (.str (T "d"))), (fOp gIx (fVar 2) (fC (.int 3))))]) ρ fun s => shP s P))))
theorem sc_L_names : FnScope N_L_names P_L_names (defScope s_L_names) := C8.fnScope_by (by decide +kernel)
theorem dv_L_names {P : Program} {w : World} {K : PySem.W.Frag} {mg : Str → Option Value} {base : Heap} {k : Nat} {qual : Str} {f : Addr} {c_L_pick : GA} {k_L_pick : Nat}
    (Cc_L_pick : CalT P w K mg base k "_law_pick" 1 c_L_pick k_L_pick)
    (cdv : Value) (A : Around) (outer : List Env) (s : Shared) (H : Hp) (E : XK) (hr : RoomG k (A.deeper (envOfC qual (defScope s_L_names) s.heap.objs.size f cdv))) :
    DSs K (cxOf CX0 P w K mg base N_L_names qual (defScope s_L_names) f cdv A outer s H E).nox (defBody s_L_names) (G_L_names c_L_pick k_L_pick) :=
  have nd := (sc_L_names).nd
  (dss_cons (ds_set 1 nd (de_lst (da_cons (de_str "abcd") (da_cons (de_str "bxyz") (da_cons (de_str "pqrs") (da_cons (de_str "dacb") (da_cons (de_str "zyxw") da_nil)))))))
      (dss_cons (ds_setM 2 nd (dm_draw 0 Cc_L_pick hr (by rfl) (dam_of (da_cons (de_var 1) da_nil))))
      (dss_one (ds_ret (de_df (df_disp (dps_cons (de_str "a") (de_ix hr.hu (de_var 2) de_int) (dps_cons (de_str "b") (de_ix hr.hu (de_var 2) de_int) (dps_cons (de_str "c") (de_ix hr.hu (de_var 2) de_int) (dps_cons (de_str "d") (de_ix hr.hu (de_var 2) de_int) dps_nil))))))))))
/-! ### L_drawn -/
abbrev N_L_drawn : List Str := ["_law_spring_here", "_law_menu_here", "_law_first", "_law_last", "_law_lap", "_law_sign", "_law_one"]
abbrev P_L_drawn : List Str := ["_law_spring_here", "_law_menu_here"]
def G_L_drawn (c_L_dip c_L_pick : GA) (k_L_dip k_L_pick : Nat) : FS :=
  (gSeq (fun E ρ => (fDraw c_L_pick k_L_pick 1 0 (mA (fCons (fLst (fCons (fC (.str (T "a b>a c"))) (fCons (fC (.str (T "a b"))) (fCons (fC (.str (T "a b>a"))) (fCons (fC (.str (T "a b>a c>ab"))) (fCons (fC (.str (T "a b c"))) (fCons (fC (.str (T "a"))) (fCons (fC (.str (T "a b>a c>b d>a"))) fNil)))))))) fNil))) ρ fun d ρ' => E.nx (ρ'.set 2 (.sh d)))
  (gSeq (fun E ρ => (fun ρ P => fNil ρ fun ds => ds.length ≤ sizeLine ∧ P (.ol ds)) ρ fun s => E.nx (ρ.set 3 s))
  (gSeq (gForM (fRng1M (fConsM (fOpM gAdd (mE (fC (.int 1))) (fDraw c_L_dip k_L_dip 1 0 (fConsM (fDraw c_L_pick k_L_pick 1 0 (mA (fCons (fLst (fCons (fC (.int 3)) (fCons (fC (.int 4)) (fCons (fC (.int 6)) fNil)))) fNil))) fNilM))) fNilM)) (fgN 4)
  (gSeq (fun E ρ => (fDraw c_L_pick k_L_pick 1 0 (mA (fCons (fVar 1) fNil))) ρ fun d ρ' => E.nx (ρ'.set 5 (.sh d)))
  (gIf (fOr (fB (fOp gNe (fOp gIx (fVar 5) (fC (.int 0))) (fC (.str (T "p"))))) (fB (fOp gEq (fun ρ P => fLc (fSeq (fOp gAdd (fOp gIx (fVar 5) (fC (.int 1))) (fSl (fVar 5) (foS (fC (.int 3))) (foS (fNeg (fC (.int 2))))))) (fgN 6) (fB (fOp gNotIn (fVar 6) (fVar 2))) (fVar 6) [6] ρ fun es => P (.lst es)) (fLst fNil))))
  (fun E ρ => (fun ρ P => olAt ρ[3]? fun ds => (fCons (fVar 5) fNil) ρ fun es => gmApp ds es fun d ds' => P d (ρ.set 3 (.ol ds'))) ρ fun _ ρ' => E.nx ρ')
  gNext)))
  (fun E ρ => (gRet (fOp gAdd (fOp gAdd (fVar 2) (fC (.str (T ";")))) (fJoin (fC (.str (T " "))) (fVar 3)))) E (frzR ρ 3)))))
theorem sc_L_drawn : FnScope N_L_drawn P_L_drawn (defScope s_L_drawn) := C8.fnScope_by (by decide +kernel)
theorem dv_L_drawn {P : Program} {w : World} {K : PySem.W.Frag} {mg : Str → Option Value} {base : Heap} {k : Nat} {qual : Str} {f : Addr} {c_L_dip c_L_pick : GA} {k_L_dip k_L_pick : Nat} (g_range : mg "range" = none)
    (Cc_L_dip : CalT P w K mg base k "_law_dip" 1 c_L_dip k_L_dip)
    (Cc_L_pick : CalT P w K mg base k "_law_pick" 1 c_L_pick k_L_pick)
    (cdv : Value) (A : Around) (outer : List Env) (s : Shared) (H : Hp) (E : XK) (hr : RoomG k (A.deeper (envOfC qual (defScope s_L_drawn) s.heap.objs.size f cdv))) :
    DSs K (cxOf CX0 P w K mg base N_L_drawn qual (defScope s_L_drawn) f cdv A outer s H E).nox (defBody s_L_drawn) (G_L_drawn c_L_dip c_L_pick k_L_dip k_L_pick) :=
  have nd := (sc_L_drawn).nd
  (dss_cons (ds_setM 2 nd (dm_draw 0 Cc_L_pick hr (by rfl) (dam_of (da_cons (de_lst (da_cons (de_str "a b>a c") (da_cons (de_str "a b") (da_cons (de_str "a b>a") (da_cons (de_str "a b>a c>ab") (da_cons (de_str "a b c") (da_cons (de_str "a") (da_cons (de_str "a b>a c>b d>a") da_nil)))))))) da_nil))))
      (dss_cons (ds_setOwn 3 nd (df_lst da_nil))
      (dss_cons (ds_forM (fun _ => PassesOwn.never) rfl (dim_range1 (by rfl) g_range (dam_cons (dm_op dop_add (dm_of de_int) (dm_draw 0 Cc_L_dip hr (by rfl) (dam_cons (dm_draw 0 Cc_L_pick hr (by rfl) (dam_of (da_cons (de_lst (da_cons de_int (da_cons de_int (da_cons de_int da_nil)))) da_nil))) dam_nil))) dam_nil)) (dg_name 4 nd)
      (dss_cons (ds_setM 5 nd (dm_draw 0 Cc_L_pick hr (by rfl) (dam_of (da_cons (de_var 1) da_nil))))
      (dss_one (ds_if (dw_or (dt_cmp (dop_ne hr.hu) (de_ix hr.hu (de_var 5) de_int) (de_str "p")) (dw_or1 (dt_cmp (dop_eq hr.hu) (de_lc (own' := []) rfl nd (di_seq (de_op dop_add (de_ix hr.hu (de_var 5) de_int) (de_sl (de_var 5) (do_some de_int) (do_some (de_neg de_int))))) [("_law_one", 6)] (by rfl) (by decide) (fun _ _ _ _ _ => (dg_name 6 nd)) (fun _ _ _ _ _ => (dts_one (dt_cmp (dop_notIn hr.hu) (de_var 6) (de_var 2)))) (fun _ _ _ _ _ => (de_var 6))) (de_lst da_nil)))).dt
      (dss_one (ds_exprM (dm_bm 3 PySem.F.slot_list_append PySem.F.type_list_append mt_append mok_app (da_cons (de_var 5) da_nil))))
      dss_nil))))
      (dss_frz 3 (dss_one (ds_ret (de_op dop_add (de_op dop_add (de_var 2) (de_str ";")) (de_join (de_str " ") (de_var 3)))))))))
/-! ### L_book -/
abbrev N_L_book : List Str := ["_law_spring_here", "_law_scenes_here", "_law_menu_here", "_law_names_here"]
abbrev P_L_book : List Str := ["_law_spring_here", "_law_scenes_here", "_law_menu_here", "_law_names_here"]
def G_L_book (c_L_dip c_L_drawn c_L_pick c_L_read : GA) (k_L_dip k_L_drawn k_L_pick : Nat) : FS :=
  (gRetM (fCallM c_L_read 2 (fConsM (fIfM (fBM (fOpM gEq (fDraw c_L_dip k_L_dip 1 0 (mA (fCons (fC (.int 2)) fNil))) (mE (fC (.int 0))))) (fDraw c_L_drawn k_L_drawn 1 0 (mA (fCons (fVar 2) fNil))) (fDraw c_L_pick k_L_pick 1 0 (mA (fCons (fVar 1) fNil)))) (fConsM (mE (fVar 3)) fNilM))))
theorem sc_L_book : FnScope N_L_book P_L_book (defScope s_L_book) := C8.fnScope_by (by decide +kernel)
theorem dv_L_book {P : Program} {w : World} {K : PySem.W.Frag} {mg : Str → Option Value} {base : Heap} {k : Nat} {qual : Str} {f : Addr} {c_L_dip c_L_drawn c_L_pick c_L_read : GA} {k_L_dip k_L_drawn k_L_pick : Nat}
    (Cc_L_dip : CalT P w K mg base k "_law_dip" 1 c_L_dip k_L_dip)
    (Cc_L_drawn : CalT P w K mg base k "_law_drawn" 1 c_L_drawn k_L_drawn)
    (Cc_L_pick : CalT P w K mg base k "_law_pick" 1 c_L_pick k_L_pick)
    (Cc_L_read : CalD P w K mg base k "_law_read" 2 [] c_L_read)
    (cdv : Value) (A : Around) (outer : List Env) (s : Shared) (H : Hp) (E : XK) (hr : RoomG k (A.deeper (envOfC qual (defScope s_L_book) s.heap.objs.size f cdv))) :
    DSs K (cxOf CX0 P w K mg base N_L_book qual (defScope s_L_book) f cdv A outer s H E).nox (defBody s_L_book) (G_L_book c_L_dip c_L_drawn c_L_pick c_L_read k_L_dip k_L_drawn k_L_pick) :=
  have nd := (sc_L_book).nd
  (dss_one (ds_retM (dm_call Cc_L_read hr (by rfl) (dam_cons (dm_if (dtm_cmp (dop_eq hr.hu) (dm_draw 0 Cc_L_dip hr (by rfl) (dam_of (da_cons de_int da_nil))) (dm_of de_int)) (dm_draw 0 Cc_L_drawn hr (by rfl) (dam_of (da_cons (de_var 2) da_nil))) (dm_draw 0 Cc_L_pick hr (by rfl) (dam_of (da_cons (de_var 1) da_nil)))) (dam_cons (dm_of (de_var 3)) dam_nil)))))
/-! ### L_word -/
abbrev N_L_word : List Str := ["_law_spring_here", "_law_plan", "_law_most", "_law_signs", "_law_many", "_law_entry", "_law_lap"]
abbrev P_L_word : List Str := ["_law_spring_here", "_law_plan", "_law_most"]
def G_L_word (c_L_dip c_L_pick : GA) (k_L_dip k_L_pick : Nat) : FS :=
  (gSeq (gAsg (fun ρ P => fLc (fSeq (fOp gIx (fVar 1) (fC (.int 0)))) (fgN 5) fYes (fOp gIx (fVar 5) (fC (.int 0))) [5] ρ fun es => P (.lst es)) (fgN 3))
  (gSeq (fun E ρ => (fDraw c_L_dip k_L_dip 1 0 (mA (fCons (fOp gAdd (fVar 2) (fC (.int 1))) fNil))) ρ fun d ρ' => E.nx (ρ'.set 4 (.sh d)))
  (gRetM (fJoinM (mE (fC (.str (T "")))) (fun ρ P => fLcM (mA (fRng1 (fCons (fIf (fB (fOp gNe (fVar 3) (fLst fNil))) (fVar 4) (fC (.int 0))) fNil))) (fgN 6) fYes (fDraw c_L_pick k_L_pick 1 0 (mA (fCons (fVar 3) fNil))) [6] ρ fun es ρ' => P (.lst es) ρ')))))
theorem sc_L_word : FnScope N_L_word P_L_word (defScope s_L_word) := C8.fnScope_by (by decide +kernel)
theorem dv_L_word {P : Program} {w : World} {K : PySem.W.Frag} {mg : Str → Option Value} {base : Heap} {k : Nat} {qual : Str} {f : Addr} {c_L_dip c_L_pick : GA} {k_L_dip k_L_pick : Nat} (g_range : mg "range" = none)
    (Cc_L_dip : CalT P w K mg base k "_law_dip" 1 c_L_dip k_L_dip)
    (Cc_L_pick : CalT P w K mg base k "_law_pick" 1 c_L_pick k_L_pick)
    (cdv : Value) (A : Around) (outer : List Env) (s : Shared) (H : Hp) (E : XK) (hr : RoomG k (A.deeper (envOfC qual (defScope s_L_word) s.heap.objs.size f cdv))) :
    DSs K (cxOf CX0 P w K mg base N_L_word qual (defScope s_L_word) f cdv A outer s H E).nox (defBody s_L_word) (G_L_word c_L_dip c_L_pick k_L_dip k_L_pick) :=
  have nd := (sc_L_word).nd
  (dss_cons (ds_set 3 nd (de_lc (own' := []) rfl nd (di_seq (de_ix hr.hu (de_var 1) de_int)) [("_law_entry", 5)] (by rfl) (by decide) (fun _ _ _ _ _ => (dg_name 5 nd)) (fun _ _ _ _ _ => dts_nil) (fun _ _ _ _ _ => (de_ix hr.hu (de_var 5) de_int))))
      (dss_cons (ds_setM 4 nd (dm_draw 0 Cc_L_dip hr (by rfl) (dam_of (da_cons (de_op dop_add (de_var 2) de_int) da_nil))))
      (dss_one (ds_retM (dm_join (dm_of (de_str "")) (dm_lc rfl nd (dim_of (di_range1 (by rfl) g_range (da_cons (de_if (dt_cmp (dop_ne hr.hu) (de_var 3) (de_lst da_nil)) (de_var 4) de_int) da_nil))) [("_law_lap", 6)] (by rfl) (by decide) (fun _ _ _ _ _ => (dg_name 6 nd)) (fun _ _ _ _ _ => dts_nil) (fun _ _ _ _ _ => (dm_draw 0 Cc_L_pick hr (by rfl) (dam_of (da_cons (de_var 3) da_nil))))))))))
/-! ### L_results -/
abbrev N_L_results : List Str := ["_law_plan", "_law_rule_here", "_law_word_here", "_law_many", "_law_found", "_law_lessers", "_law_spots", "_law_i", "_law_one"]
abbrev P_L_results : List Str := ["_law_plan", "_law_rule_here", "_law_word_here"]
def G_L_results : FS :=
  (gSeq (fun E ρ => (fCallB gLenS (fCons (fVar 2) fNil)) ρ fun d => (fun ρ P => fNil ρ fun ds => ds.length ≤ sizeLine ∧ P (.ol ds)) ρ fun s => E.nx ((ρ.set 4 s).set 3 (.sh d)))
  (gSeq (gIf (fB (fOp gEq (fOp gIx (fVar 1) (fC (.int 0))) (fC (.str (T "empty")))))
  (gRet (fLst (fCons (fC (.str (T ""))) fNil)))
  gNext)
  (gSeq (gIf (fB (fOp gEq (fOp gIx (fVar 1) (fC (.int 0))) (fC (.str (T "half")))))
  (gRet (fLst (fCons (fIf (fB (fOp gEq (fOp gIx (fVar 1) (fC (.int 1))) (fC (.str (T "left"))))) (fSl (fVar 2) foN (foS (fOp gFdiv (fVar 3) (fC (.int 2))))) (fSl (fVar 2) (foS (fOp gSub (fVar 3) (fOp gFdiv (fVar 3) (fC (.int 2))))) foN)) fNil)))
  gNext)
  (gSeq (gIf (fB (fOp gEq (fOp gIx (fVar 1) (fC (.int 0))) (fC (.str (T "drop")))))
  (gSeq (fun E ρ => (fun ρ P => fLc (fRng1 (fCons (fOp gAdd (fOp gSub (fVar 3) (fOp gIx (fVar 1) (fC (.int 1)))) (fC (.int 1))) fNil)) (fgN 7) fYes (fOp gAdd (fSl (fVar 2) foN (foS (fVar 7))) (fSl (fVar 2) (foS (fOp gAdd (fVar 7) (fOp gIx (fVar 1) (fC (.int 1))))) foN)) [7] ρ fun es => P (.ol es)) ρ fun s => E.nx (ρ.set 4 s))
  (fun E ρ => (gRet (fIf (fB (fOp gEq (fOp gIx (fVar 1) (fC (.int 2))) (fC (.str (T "left"))))) (fVar 4) (fRev (fVar 4)))) E (frzR ρ 4)))
  gNext)
  (gSeq (gPar 5 6 (fCons (fCallB gDictP (fCons (fCallB gList (fCons (fOp gIx (fVar 0) (fC (.int 0))) fNil)) fNil)) (fCons (fLstRg1 (fVar 3)) fNil)))
  (gSeq (gFor (fSeq (fIf (fB (fOp gEq (fOp gIx (fVar 1) (fNeg (fC (.int 1)))) (fC (.str (T "left"))))) (fVar 6) (fRev (fVar 6)))) (fgN 7)
  (gIf (fB (fOp gEq (fOp gIx (fVar 1) (fC (.int 0))) (fC (.str (T "lower")))))
  (fun E ρ => (fun ρ P => olAt ρ[4]? fun ds => (fCons (fun ρ P => fLc (fSeq (fOp gIx (fVar 5) (fOp gIx (fVar 2) (fVar 7)))) (fgN 8) fYes (fOp gAdd (fOp gAdd (fSl (fVar 2) foN (foS (fVar 7))) (fVar 8)) (fSl (fVar 2) (foS (fOp gAdd (fVar 7) (fC (.int 1)))) foN)) [8] ρ fun es => P (.lst es)) fNil) ρ fun es => gmExt ds es fun d ds' => P d (ρ.set 4 (.ol ds'))) ρ fun _ ρ' => E.nx ρ')
  (gIf (fB (fOp gEq (fOp gIx (fVar 2) (fVar 7)) (fOp gIx (fVar 1) (fC (.int 1)))))
  (fun E ρ => (fun ρ P => olAt ρ[4]? fun ds => (fCons (fOp gAdd (fOp gAdd (fSl (fVar 2) foN (foS (fVar 7))) (fOp gIx (fVar 1) (fC (.int 2)))) (fSl (fVar 2) (foS (fOp gAdd (fVar 7) (fC (.int 1)))) foN)) fNil) ρ fun es => gmApp ds es fun d ds' => P d (ρ.set 4 (.ol ds'))) ρ fun _ ρ' => E.nx ρ')
  gNext)))
  (fun E ρ => (gRet (fVar 4)) E (frzR ρ 4))))))))
theorem sc_L_results : FnScope N_L_results P_L_results (defScope s_L_results) := C8.fnScope_by (by decide +kernel)
theorem dv_L_results {P : Program} {w : World} {K : PySem.W.Frag} {mg : Str → Option Value} {base : Heap} {k : Nat} {qual : Str} {f : Addr} (g_dict : mg "dict" = none) (g_len : mg "len" = none) (g_list : mg "list" = none) (g_range : mg "range" = none)
    (cdv : Value) (A : Around) (outer : List Env) (s : Shared) (H : Hp) (E : XK) (hr : RoomG k (A.deeper (envOfC qual (defScope s_L_results) s.heap.objs.size f cdv))) :
    DSs K (cxOf CX0 P w K mg base N_L_results qual (defScope s_L_results) f cdv A outer s H E).nox (defBody s_L_results) (G_L_results) :=
  have nd := (sc_L_results).nd
  (dss_cons (ds_parOwn 3 4 rfl nd (de_callB dc_lenS (by rfl) g_len B_len (da_cons (de_var 2) da_nil)) (df_lst da_nil))
      (dss_cons (ds_if (dt_cmp (dop_eq hr.hu) (de_ix hr.hu (de_var 1) de_int) (de_str "empty"))
      (dss_one (ds_ret (de_lst (da_cons (de_str "") da_nil))))
      dss_nil)
      (dss_cons (ds_if (dt_cmp (dop_eq hr.hu) (de_ix hr.hu (de_var 1) de_int) (de_str "half"))
      (dss_one (ds_ret (de_lst (da_cons (de_if (dt_cmp (dop_eq hr.hu) (de_ix hr.hu (de_var 1) de_int) (de_str "left")) (de_sl (de_var 2) do_none (do_some (de_op dop_fdiv (de_var 3) de_int))) (de_sl (de_var 2) (do_some (de_op dop_sub (de_var 3) (de_op dop_fdiv (de_var 3) de_int))) do_none)) da_nil))))
      dss_nil)
      (dss_cons (ds_if (dt_cmp (dop_eq hr.hu) (de_ix hr.hu (de_var 1) de_int) (de_str "drop"))
      (dss_cons (ds_setC 4 (dfc_lc rfl nd (di_range1 (by rfl) g_range (da_cons (de_op dop_add (de_op dop_sub (de_var 3) (de_ix hr.hu (de_var 1) de_int)) de_int) da_nil)) [("_law_i", 7)] (by rfl) (by decide) (fun _ _ _ _ _ => (dg_name 7 nd)) (fun _ _ _ _ _ => dts_nil) (fun _ _ _ _ _ => (de_op dop_add (de_sl (de_var 2) do_none (do_some (de_var 7))) (de_sl (de_var 2) (do_some (de_op dop_add (de_var 7) (de_ix hr.hu (de_var 1) de_int))) do_none)))) (sw_true rfl rfl (by decide +kernel) (by decide +kernel)))
      (dss_frz 4 (dss_one (ds_ret (de_if (dt_cmp (dop_eq hr.hu) (de_ix hr.hu (de_var 1) de_int) (de_str "left")) (de_var 4) (de_rev (de_var 4)))))))
      dss_nil)
      (dss_cons (ds_par 5 6 rfl nd (da_cons (de_callTy (dc_dictP rfl) (by rfl) g_dict B_dict (da_cons (de_callTy (dc_list rfl) (by rfl) g_list B_list (da_cons (de_ix hr.hu (de_var 0) de_int) da_nil)) da_nil)) (da_cons (de_lstRg1 rfl (by rfl) g_list (by rfl) g_range (de_var 3)) da_nil)))
      (dss_cons (ds_for (fun _ => PassesOwn.never) rfl (di_seq (de_if (dt_cmp (dop_eq hr.hu) (de_ix hr.hu (de_var 1) (de_neg de_int)) (de_str "left")) (de_var 6) (de_rev (de_var 6)))) (dg_name 7 nd)
      (dss_one (ds_if (dt_cmp (dop_eq hr.hu) (de_ix hr.hu (de_var 1) de_int) (de_str "lower"))
      (dss_one (ds_exprM (dm_bm 4 PySem.F.slot_list_extend PySem.F.type_list_extend mt_extend mok_ext (da_cons (de_lc (own' := []) rfl nd (di_seq (de_ix hr.hu (de_var 5) (de_ix hr.hu (de_var 2) (de_var 7)))) [("_law_one", 8)] (by rfl) (by decide) (fun _ _ _ _ _ => (dg_name 8 nd)) (fun _ _ _ _ _ => dts_nil) (fun _ _ _ _ _ => (de_op dop_add (de_op dop_add (de_sl (de_var 2) do_none (do_some (de_var 7))) (de_var 8)) (de_sl (de_var 2) (do_some (de_op dop_add (de_var 7) de_int)) do_none)))) da_nil))))
      (dss_one (ds_if (dt_cmp (dop_eq hr.hu) (de_ix hr.hu (de_var 2) (de_var 7)) (de_ix hr.hu (de_var 1) de_int))
      (dss_one (ds_exprM (dm_bm 4 PySem.F.slot_list_append PySem.F.type_list_append mt_append mok_app (da_cons (de_op dop_add (de_op dop_add (de_sl (de_var 2) do_none (do_some (de_var 7))) (de_ix hr.hu (de_var 1) de_int)) (de_sl (de_var 2) (do_some (de_op dop_add (de_var 7) de_int)) do_none)) da_nil))))
      dss_nil)))))
      (dss_frz 4 (dss_one (ds_ret (de_var 4))))))))))
/-! ### L_once -/
abbrev N_L_once : List Str := ["_law_word_here", "_law_things", "_law_found", "_law_one"]
abbrev P_L_once : List Str := ["_law_word_here", "_law_things"]
def G_L_once : FS :=
  (gSeq (fun E ρ => (fun ρ P => fNil ρ fun ds => ds.length ≤ sizeLine ∧ P (.ol ds)) ρ fun s => E.nx (ρ.set 2 s))
  (gSeq (gFor (fSeq (fVar 1)) (fgN 3)
  (gIf (fAnd (fB (fOp gNe (fVar 3) (fVar 0))) (ftThaw (fB (fOp gNotIn (fVar 3) (fVar 2)))))
  (fun E ρ => (fun ρ P => olAt ρ[2]? fun ds => (fCons (fVar 3) fNil) ρ fun es => gmApp ds es fun d ds' => P d (ρ.set 2 (.ol ds'))) ρ fun _ ρ' => E.nx ρ')
  gNext))
  (fun E ρ => (gRet (fVar 2)) E (frzR ρ 2))))
theorem sc_L_once : FnScope N_L_once P_L_once (defScope s_L_once) := C8.fnScope_by (by decide +kernel)
theorem dv_L_once {P : Program} {w : World} {K : PySem.W.Frag} {mg : Str → Option Value} {base : Heap} {k : Nat} {qual : Str} {f : Addr}
    (cdv : Value) (A : Around) (outer : List Env) (s : Shared) (H : Hp) (E : XK) (hr : RoomG k (A.deeper (envOfC qual (defScope s_L_once) s.heap.objs.size f cdv))) :
    DSs K (cxOf CX0 P w K mg base N_L_once qual (defScope s_L_once) f cdv A outer s H E).nox (defBody s_L_once) (G_L_once) :=
  have nd := (sc_L_once).nd
  (dss_cons (ds_setOwn 2 nd (df_lst da_nil))
      (dss_cons (ds_for (fun _ => PassesOwn.never) rfl (di_seq (de_var 1)) (dg_name 3 nd)
      (dss_one (ds_if (dw_and (dt_cmp (dop_ne hr.hu) (de_var 3) (de_var 0)) (dw_and1 (dt_thaw (dt_cmp (dop_notIn hr.hu) (de_var 3) (de_var 2))))).dt
      (dss_one (ds_exprM (dm_bm 2 PySem.F.slot_list_append PySem.F.type_list_append mt_append mok_app (da_cons (de_var 3) da_nil))))
      dss_nil)))
      (dss_frz 2 (dss_one (ds_ret (de_var 2))))))
/-! ### L_steps -/
abbrev N_L_steps : List Str := ["_law_plan", "_law_word_here", "_law_every", "_law_rule_here"]
abbrev P_L_steps : List Str := ["_law_plan", "_law_word_here"]
def G_L_steps (c_L_once c_L_results : GA) : FS :=
  (gSeq (fun E ρ => (fun ρ P => fNil ρ fun ds => ds.length ≤ sizeLine ∧ P (.ol ds)) ρ fun s => E.nx (ρ.set 2 s))
  (gSeq (gFor (fSeq (fOp gIx (fVar 0) (fC (.int 1)))) (fgN 3)
  (fun E ρ => (fun ρ P => olAt ρ[2]? fun ds => (fCons (fCall c_L_results 3 (fCons (fVar 0) (fCons (fVar 3) (fCons (fVar 1) fNil)))) fNil) ρ fun es => gmExt ds es fun d ds' => P d (ρ.set 2 (.ol ds'))) ρ fun _ ρ' => E.nx ρ'))
  (fun E ρ => (gRet (fCall c_L_once 2 (fCons (fVar 1) (fCons (fVar 2) fNil)))) E (frzR ρ 2))))
theorem sc_L_steps : FnScope N_L_steps P_L_steps (defScope s_L_steps) := C8.fnScope_by (by decide +kernel)
theorem dv_L_steps {P : Program} {w : World} {K : PySem.W.Frag} {mg : Str → Option Value} {base : Heap} {k : Nat} {qual : Str} {f : Addr} {c_L_once c_L_results : GA}
    (Cc_L_once : CalD P w K mg base k "_law_once" 2 [] c_L_once)
    (Cc_L_results : CalD P w K mg base k "_law_results" 3 [] c_L_results)
    (cdv : Value) (A : Around) (outer : List Env) (s : Shared) (H : Hp) (E : XK) (hr : RoomG k (A.deeper (envOfC qual (defScope s_L_steps) s.heap.objs.size f cdv))) :
    DSs K (cxOf CX0 P w K mg base N_L_steps qual (defScope s_L_steps) f cdv A outer s H E).nox (defBody s_L_steps) (G_L_steps c_L_once c_L_results) :=
  have nd := (sc_L_steps).nd
  (dss_cons (ds_setOwn 2 nd (df_lst da_nil))
      (dss_cons (ds_for (fun _ => PassesOwn.never) rfl (di_seq (de_ix hr.hu (de_var 0) de_int)) (dg_name 3 nd)
      (dss_one (ds_exprM (dm_bm 2 PySem.F.slot_list_extend PySem.F.type_list_extend mt_extend mok_ext (da_cons (de_call Cc_L_results hr (by rfl) (da_cons (de_var 0) (da_cons (de_var 3) (da_cons (de_var 1) da_nil)))) da_nil)))))
      (dss_frz 2 (dss_one (ds_ret (de_call Cc_L_once hr (by rfl) (da_cons (de_var 1) (da_cons (de_var 2) da_nil))))))))
/-! ### L_scenes -/
abbrev N_L_scenes : List Str := []
abbrev P_L_scenes : List Str := []
def G_L_scenes : FS :=
  (gRet (fLst (fCons (fC (.str (T "a b>a c;d1l ll"))) (fCons (fC (.str (T "a b>a c;d1r ll"))) (fCons (fC (.str (T "a b c;hl d1l"))) (fCons (fC (.str (T "a b>a c;hl pb:a.l"))) (fCons (fC (.str (T "a b c;d1l"))) (fCons (fC (.str (T "a b;e d1l"))) (fCons (fC (.str (T "a b;d2l d1r"))) (fCons (fC (.str (T "a b c;pa:.l pb:.l pc:.r"))) (fCons (fC (.str (T "a b;pa:bb.l d1l"))) (fCons (fC (.str (T "a b>a;lr d1r hl"))) (fCons (fC (.str (T "a b>a c>ab;lr d1l"))) (fCons (fC (.str (T "a b>a c;pc:.l lr d2l"))) (fCons (fC (.str (T "a b c d;hl hr d1l"))) (fCons (fC (.str (T "a b>a;pb:aa.l ll e"))) (fCons (fC (.str (T "a;d3r hl d1l"))) (fCons (fC (.str (T ";"))) (fCons (fC (.str (T "a b>a c;"))) (fCons (fC (.str (T "a b;pa:b.l pa:.r"))) (fCons (fC (.str (T "a b>a c>b;hr lr d1r e"))) fNil)))))))))))))))))))))
theorem sc_L_scenes : FnScope N_L_scenes P_L_scenes (defScope s_L_scenes) := C8.fnScope_by (by decide +kernel)
theorem dv_L_scenes {P : Program} {w : World} {K : PySem.W.Frag} {mg : Str → Option Value} {base : Heap} {k : Nat} {qual : Str} {f : Addr}
    (cdv : Value) (A : Around) (outer : List Env) (s : Shared) (H : Hp) (E : XK) (hr : RoomG k (A.deeper (envOfC qual (defScope s_L_scenes) s.heap.objs.size f cdv))) :
    DSs K (cxOf CX0 P w K mg base N_L_scenes qual (defScope s_L_scenes) f cdv A outer s H E).nox (defBody s_L_scenes) (G_L_scenes) :=
  have nd := (sc_L_scenes).nd
  (dss_one (ds_ret (de_lst (da_cons (de_str "a b>a c;d1l ll") (da_cons (de_str "a b>a c;d1r ll") (da_cons (de_str "a b c;hl d1l") (da_cons (de_str "a b>a c;hl pb:a.l") (da_cons (de_str "a b c;d1l") (da_cons (de_str "a b;e d1l") (da_cons (de_str "a b;d2l d1r") (da_cons (de_str "a b c;pa:.l pb:.l pc:.r") (da_cons (de_str "a b;pa:bb.l d1l") (da_cons (de_str "a b>a;lr d1r hl") (da_cons (de_str "a b>a c>ab;lr d1l") (da_cons (de_str "a b>a c;pc:.l lr d2l") (da_cons (de_str "a b c d;hl hr d1l") (da_cons (de_str "a b>a;pb:aa.l ll e") (da_cons (de_str "a;d3r hl d1l") (da_cons (de_str ";") (da_cons (de_str "a b>a c;") (da_cons (de_str "a b;pa:b.l pa:.r") (da_cons (de_str "a b>a c>b;hr lr d1r e") da_nil))))))))))))))))))))))
/-! ### L_menu -/
abbrev N_L_menu : List Str := []
abbrev P_L_menu : List Str := []
def G_L_menu : FS :=
  (gRet (fLst (fCons (fC (.str (T "d1l"))) (fCons (fC (.str (T "d1r"))) (fCons (fC (.str (T "d2l"))) (fCons (fC (.str (T "d2r"))) (fCons (fC (.str (T "d3l"))) (fCons (fC (.str (T "d4r"))) (fCons (fC (.str (T "hl"))) (fCons (fC (.str (T "hr"))) (fCons (fC (.str (T "e"))) (fCons (fC (.str (T "ll"))) (fCons (fC (.str (T "lr"))) (fCons (fC (.str (T "pa:.l"))) (fCons (fC (.str (T "pb:.r"))) (fCons (fC (.str (T "pb:a.l"))) (fCons (fC (.str (T "pc:a.r"))) (fCons (fC (.str (T "pc:ab.l"))) (fCons (fC (.str (T "pb:aa.l"))) (fCons (fC (.str (T "pa:b.l"))) (fCons (fC (.str (T "pc:.l"))) (fCons (fC (.str (T "pa:bb.r"))) (fCons (fC (.str (T "pc:abb.l"))) (fCons (fC (.str (T "pb:aaa.r"))) fNil))))))))))))))))))))))))
theorem sc_L_menu : FnScope N_L_menu P_L_menu (defScope s_L_menu) := C8.fnScope_by (by decide +kernel)
theorem dv_L_menu {P : Program} {w : World} {K : PySem.W.Frag} {mg : Str → Option Value} {base : Heap} {k : Nat} {qual : Str} {f : Addr}
    (cdv : Value) (A : Around) (outer : List Env) (s : Shared) (H : Hp) (E : XK) (hr : RoomG k (A.deeper (envOfC qual (defScope s_L_menu) s.heap.objs.size f cdv))) :
    DSs K (cxOf CX0 P w K mg base N_L_menu qual (defScope s_L_menu) f cdv A outer s H E).nox (defBody s_L_menu) (G_L_menu) :=
  have nd := (sc_L_menu).nd
  (dss_one (ds_ret (de_lst (da_cons (de_str "d1l") (da_cons (de_str "d1r") (da_cons (de_str "d2l") (da_cons (de_str "d2r") (da_cons (de_str "d3l") (da_cons (de_str "d4r") (da_cons (de_str "hl") (da_cons (de_str "hr") (da_cons (de_str "e") (da_cons (de_str "ll") (da_cons (de_str "lr") (da_cons (de_str "pa:.l") (da_cons (de_str "pb:.r") (da_cons (de_str "pb:a.l") (da_cons (de_str "pc:a.r") (da_cons (de_str "pc:ab.l") (da_cons (de_str "pb:aa.l") (da_cons (de_str "pa:b.l") (da_cons (de_str "pc:.l") (da_cons (de_str "pa:bb.r") (da_cons (de_str "pc:abb.l") (da_cons (de_str "pb:aaa.r") da_nil)))))))))))))))))))))))))
/-! ### law -/
abbrev N_law : List Str := ["_law_script", "_law_spring_here", "_law_plan", "_law_ahead", "_law_lap", "_law_word_here", "_law_due", "_law_j"]
abbrev P_law : List Str := ["_law_script"]
def G_law (c_L_book c_L_menu c_L_names c_L_once c_L_results c_L_scenes c_L_steps c_L_word c_rule_steps c_rule_steps_0_x_k_book c_steps_of c_steps_of_0_x_book : GA) (k_L_book k_L_names k_L_word : Nat) : FS :=
  (gSeq (fun E ρ => (fVar 0) ρ fun d => ∃ ns : List Int, d = .scr ns ∧ ∀ a, E.nx (ρ.set 1 (.tk a 0)))
  (gSeq (fun E ρ => (fDraw c_L_book k_L_book 3 1 (fConsM (mE (fun _ P => c_L_scenes [] P)) (fConsM (mE (fun _ P => c_L_menu [] P)) (fConsM (fDraw c_L_names k_L_names 0 1 (mA fNil)) fNilM)))) ρ fun d ρ' => E.nx (ρ'.set 2 (.sh d)))
  (gSeq (gAsg (fCallB gRepr (fCons (fVar 2) fNil)) (fgN 3))
  (gSeq (gFor (fRng1 (fCons (fC (.int 5)) fNil)) (fgN 4)
  (gSeq (fun E ρ => (fDraw c_L_word k_L_word 2 1 (mA (fCons (fVar 2) (fCons (fC (.int 6)) fNil)))) ρ fun d ρ' => E.nx (ρ'.set 5 (.sh d)))
  (gSeq (gAsg (fCallB gTuple (fCons (fCall c_L_steps 2 (fCons (fVar 2) (fCons (fVar 5) fNil))) fNil)) (fgN 6))
  (gSeq (gIf (fB (fOp gNe (fCallB gRepr (fCons (fLst (fCons (fCall c_steps_of 2 (fCons (fVar 2) (fCons (fVar 5) fNil))) (fCons (fun ρ P => (fCons (fVar 5) (fCons (fVar 2) fNil)) ρ fun es => es.length = 2 ∧ c_steps_of_0_x_book es P) fNil))) fNil)) (fCallB gRepr (fCons (fLst (fCons (fVar 6) (fCons (fVar 6) fNil))) fNil))))
  (gRet (fC (.bl false)))
  gNext)
  (gFor (fRng1 (fCons (fCallB gLenS (fCons (fOp gIx (fVar 2) (fC (.int 1))) fNil)) fNil)) (fgN 7)
  (gSeq (gAsg (fCallB gTuple (fCons (fCall c_L_once 2 (fCons (fVar 5) (fCons (fCall c_L_results 3 (fCons (fVar 2) (fCons (fOp gIx (fOp gIx (fVar 2) (fC (.int 1))) (fVar 7)) (fCons (fVar 5) fNil)))) fNil))) fNil)) (fgN 6))
  (gIf (fB (fOp gNe (fCallB gRepr (fCons (fLst (fCons (fCall c_rule_steps 3 (fCons (fVar 2) (fCons (fVar 7) (fCons (fVar 5) fNil)))) (fCons (fun ρ P => (fCons (fVar 5) (fCons (fVar 7) (fCons (fVar 2) fNil))) ρ fun es => es.length = 3 ∧ c_rule_steps_0_x_k_book es P) fNil))) fNil)) (fCallB gRepr (fCons (fLst (fCons (fVar 6) (fCons (fVar 6) fNil))) fNil))))
  (gRet (fC (.bl false)))
  gNext)))))))
  (gRet (fOp gEq (fCallB gRepr (fCons (fVar 2) fNil)) (fVar 3)))))))
theorem sc_law : FnScope N_law P_law (defScope s_law) := C8.fnScope_by (by decide +kernel)
theorem dv_law {P : Program} {w : World} {K : PySem.W.Frag} {mg : Str → Option Value} {base : Heap} {k : Nat} {qual : Str} {f : Addr} {c_L_book c_L_menu c_L_names c_L_once c_L_results c_L_scenes c_L_steps c_L_word c_rule_steps c_rule_steps_0_x_k_book c_steps_of c_steps_of_0_x_book : GA} {k_L_book k_L_names k_L_word : Nat} (g_len : mg "len" = none) (g_range : mg "range" = none) (g_repr : mg "repr" = none) (g_tuple : mg "tuple" = none)
    (Cc_L_book : CalT P w K mg base k "_law_book" 3 c_L_book k_L_book)
    (Cc_L_menu : CalD P w K mg base k "_law_menu" 0 [] c_L_menu)
    (Cc_L_names : CalT P w K mg base k "_law_names" 0 c_L_names k_L_names)
    (Cc_L_once : CalD P w K mg base k "_law_once" 2 [] c_L_once)
    (Cc_L_results : CalD P w K mg base k "_law_results" 3 [] c_L_results)
    (Cc_L_scenes : CalD P w K mg base k "_law_scenes" 0 [] c_L_scenes)
    (Cc_L_steps : CalD P w K mg base k "_law_steps" 2 [] c_L_steps)
    (Cc_L_word : CalT P w K mg base k "_law_word" 2 c_L_word k_L_word)
    (Cc_rule_steps : CalD P w K mg base k "rule_steps" 3 [] c_rule_steps)
    (Cc_rule_steps_0_x_k_book : CalD P w K mg base k "rule_steps" 0 ["x", "k", "book"] c_rule_steps_0_x_k_book)
    (Cc_steps_of : CalD P w K mg base k "steps_of" 2 [] c_steps_of)
    (Cc_steps_of_0_x_book : CalD P w K mg base k "steps_of" 0 ["x", "book"] c_steps_of_0_x_book)
    (CN : CalN P w K mg base k "_law_spring")
    (cdv : Value) (A : Around) (outer : List Env) (s : Shared) (H : Hp) (E : XK) (hr : RoomG k (A.deeper (envOfC qual (defScope s_law) s.heap.objs.size f cdv))) :
    DSs K (cxOf CX0 P w K mg base N_law qual (defScope s_law) f cdv A outer s H E).nox (defBody s_law) (G_law c_L_book c_L_menu c_L_names c_L_once c_L_results c_L_scenes c_L_steps c_L_word c_rule_steps c_rule_steps_0_x_k_book c_steps_of c_steps_of_0_x_book k_L_book k_L_names k_L_word) :=
  have nd := (sc_law).nd
  (dss_cons (ds_mkTape 1 CN hr nd (by rfl) (de_var 0))
      (dss_cons (ds_setM 2 nd (dm_draw 1 Cc_L_book hr (by rfl) (dam_cons (dm_of (de_call0 Cc_L_scenes hr (by rfl))) (dam_cons (dm_of (de_call0 Cc_L_menu hr (by rfl))) (dam_cons (dm_draw 1 Cc_L_names hr (by rfl) (dam_of da_nil)) dam_nil)))))
      (dss_cons (ds_set 3 nd (de_callB (dc_repr (by exact fun _ => hr.hu) (by exact fun _ => hr.g) (by rfl)) (by rfl) g_repr B_repr (da_cons (de_var 2) da_nil)))
      (dss_cons (ds_for (fun _ => PassesOwn.never) rfl (di_range1 (by rfl) g_range (da_cons de_int da_nil)) (dg_name 4 nd)
      (dss_cons (ds_setM 5 nd (dm_draw 1 Cc_L_word hr (by rfl) (dam_of (da_cons (de_var 2) (da_cons de_int da_nil)))))
      (dss_cons (ds_set 6 nd (de_callTy dc_tuple (by rfl) g_tuple B_tuple (da_cons (de_call Cc_L_steps hr (by rfl) (da_cons (de_var 2) (da_cons (de_var 5) da_nil))) da_nil)))
      (dss_cons (ds_if (dt_cmp (dop_ne hr.hu) (de_callB (dc_repr (by exact fun _ => hr.hu) (by exact fun _ => hr.g) (by rfl)) (by rfl) g_repr B_repr (da_cons (de_lst (da_cons (de_call Cc_steps_of hr (by rfl) (da_cons (de_var 2) (da_cons (de_var 5) da_nil))) (da_cons (de_callK0 (ks := ["x", "book"]) Cc_steps_of_0_x_book hr (by rfl) (dk_cons (de_var 5) (dk_cons (de_var 2) dk_nil))) da_nil))) da_nil)) (de_callB (dc_repr (by exact fun _ => hr.hu) (by exact fun _ => hr.g) (by rfl)) (by rfl) g_repr B_repr (da_cons (de_lst (da_cons (de_var 6) (da_cons (de_var 6) da_nil))) da_nil)))
      (dss_one (ds_ret de_bl))
      dss_nil)
      (dss_one (ds_for (fun _ => PassesOwn.never) rfl (di_range1 (by rfl) g_range (da_cons (de_callB dc_lenS (by rfl) g_len B_len (da_cons (de_ix hr.hu (de_var 2) de_int) da_nil)) da_nil)) (dg_name 7 nd)
      (dss_cons (ds_set 6 nd (de_callTy dc_tuple (by rfl) g_tuple B_tuple (da_cons (de_call Cc_L_once hr (by rfl) (da_cons (de_var 5) (da_cons (de_call Cc_L_results hr (by rfl) (da_cons (de_var 2) (da_cons (de_ix hr.hu (de_ix hr.hu (de_var 2) de_int) (de_var 7)) (da_cons (de_var 5) da_nil)))) da_nil))) da_nil)))
      (dss_one (ds_if (dt_cmp (dop_ne hr.hu) (de_callB (dc_repr (by exact fun _ => hr.hu) (by exact fun _ => hr.g) (by rfl)) (by rfl) g_repr B_repr (da_cons (de_lst (da_cons (de_call Cc_rule_steps hr (by rfl) (da_cons (de_var 2) (da_cons (de_var 7) (da_cons (de_var 5) da_nil)))) (da_cons (de_callK0 (ks := ["x", "k", "book"]) Cc_rule_steps_0_x_k_book hr (by rfl) (dk_cons (de_var 5) (dk_cons (de_var 7) (dk_cons (de_var 2) dk_nil)))) da_nil))) da_nil)) (de_callB (dc_repr (by exact fun _ => hr.hu) (by exact fun _ => hr.g) (by rfl)) (by rfl) g_repr B_repr (da_cons (de_lst (da_cons (de_var 6) (da_cons (de_var 6) da_nil))) da_nil)))
      (dss_one (ds_ret de_bl))
      dss_nil)))))))))
      (dss_one (ds_ret (de_cmp (dop_eq hr.hu) (de_callB (dc_repr (by exact fun _ => hr.hu) (by exact fun _ => hr.g) (by rfl)) (by rfl) g_repr B_repr (da_cons (de_var 2) da_nil)) (de_var 3))))))))
end
end K16
namespace K16
open PySem PySem.Spec PyProof.Rows L2 DL
/-! ### the draws' object -/
instance spring : TapeD where
  TD := fun n d => ∃ (cells : List Int) (place rest count : Int), d = .dic [.inr (T "cells"), .inr (T "place"), .inr (T "rest"), .inr (T "count")] [.lst (cells.map .int), .int place, .int rest, .int count] ∧ 0 ≤ place ∧ 0 ≤ rest ∧ 0 ≤ count ∧ count ≤ n
  le := fun h ⟨cells, place, rest, count, h1, h2, h3, h4, h5⟩ => ⟨cells, place, rest, count, h1, h2, h3, h4, by omega⟩
/-! ### books -/
abbrev Ent := Tx × List Tx
inductive Rl where
  | drop (n : Nat) (l : Bool) | put (a b : Tx) (l : Bool) | empty | half (l : Bool) | lower (l : Bool)
def side (l : Bool) : D := .str (if l then T "left" else T "right")
def entD (e : Ent) : D := .tup [.str e.1, .tup (e.2.map .str)]
def ruleD : Rl → D
  | .drop n l => .tup [.str (T "drop"), .int n, side l]
  | .put a b l => .tup [.str (T "put"), .str a, .str b, side l]
  | .empty => .tup [.str (T "empty")]
  | .half l => .tup [.str (T "half"), side l]
  | .lower l => .tup [.str (T "lower"), side l]
def bookD (E : List Ent) (R : List Rl) : D := .tup [.tup (E.map entD), .tup (R.map ruleD)]
def low (c : Nat) : Prop := 97 ≤ c ∧ c ≤ 122
def isL (s : Tx) : Prop := ∃ c, s = [c] ∧ low c
def RlOk : Rl → Prop
  | .drop n _ => 1 ≤ n ∧ n ≤ 9
  | .put a b _ => isL a ∧ b.length ≤ 9 ∧ ∀ c ∈ b, low c
  | _ => True
structure Wf (E : List Ent) (R : List Rl) : Prop where
  ents : ∀ e ∈ E, isL e.1 ∧ e.2.length ≤ 9 ∧ ∀ s ∈ e.2, isL s
  rules : ∀ r ∈ R, RlOk r
  nE : E.length ≤ 9
  nR : R.length ≤ 9
structure Wd (E : List Ent) (x : Tx) : Prop where
  lt : ∀ c ∈ x, [c] ∈ E.map (·.1)
  len : x.length ≤ 9
theorem sz : sizeLine = 16777216 := sizeLine_eq
/-! ### the program's small defs -/
def spIsInteger : GA := fun ds P => ∃ i : Int, ds = [.int i] ∧ P (.bl true)
theorem pl_is_integer (ds : List D) (Q : D → Prop) (h : spIsInteger ds Q) : G_is_integer (En Q) (initR N_is_integer.length ds) := by
  obtain ⟨i, rfl, q⟩ := h
  exact ⟨true, rfl, false, rfl, q⟩
def spIsNumber : GA := fun ds P => ∃ i : Int, ds = [.int i] ∧ P (.bl (decide (0 ≤ i)))
theorem pl_is_number (ds : List D) (Q : D → Prop) (h : spIsNumber ds Q) : G_is_number spIsInteger (En Q) (initR N_is_number.length ds) := by
  obtain ⟨i, rfl, q⟩ := h
  exact ⟨rfl, i, rfl, q⟩
def spIsThing : GA := fun ds P => ∃ x : Tx, ds = [.str x] ∧ x.length ≤ 1000 ∧ (∀ c ∈ x, low c) ∧ P (.bl true)
theorem low_mem {c : Nat} (h : low c) : c ∈ T "abcdefghijklmnopqrstuvwxyz" := by
  have e : T "abcdefghijklmnopqrstuvwxyz" = (List.range 26).map (· + 97) := by decide +kernel
  rw [e, List.mem_map]
  exact ⟨c - 97, List.mem_range.mpr (by have := h.2; omega), by have := h.1; omega⟩
theorem pl_is_thing (ds : List D) (Q : D → Prop) (h : spIsThing ds Q) : G_is_thing (En Q) (initR N_is_thing.length ds) := by
  obtain ⟨x, rfl, hl, hx, q⟩ := h
  refine ⟨true, rfl, rfl, ?_⟩
  refine blkMap (fun _ => .bl true) (fun d hd R r => ?_) (by rw [List.length_map, sz]; omega) ?_
  · obtain ⟨c, hc, rfl⟩ := List.mem_map.mp hd
    refine ⟨rfl, rfl, ?_⟩
    show R (.bl (decide (c ∈ T "abcdefghijklmnopqrstuvwxyz")))
    rw [decide_eq_true (low_mem (hx c hc))]
    exact r
  · refine ⟨(x.map chD).map fun _ => true, ?_, ?_⟩
    · have := bsOf_bl ((x.map chD).map fun _ => true)
      rwa [List.map_map] at this
    · have e : ((x.map chD).map fun _ => true).all id = true := by simp
      show Q (.bl (((x.map chD).map fun _ => true).all id))
      rw [e]
      exact q
def spWant : GA := fun ds P => ∃ a b : D, ds = [.bl true, a, b] ∧ P .non
theorem pl_want (ds : List D) (Q : D → Prop) (h : spWant ds Q) : G_want (En Q) (initR N_want.length ds) := by
  obtain ⟨a, b, rfl, q⟩ := h
  exact q
def spKnown : GA := fun ds P => ∃ E R, ds = [bookD E R] ∧ E.length ≤ 9 ∧ P (.tup (E.map fun e => .str e.1))
theorem pl_known (ds : List D) (Q : D → Prop) (h : spKnown ds Q) : G_known_letters (En Q) (initR N_known_letters.length ds) := by
  obtain ⟨E, R, rfl, hl, q⟩ := h
  refine ⟨rfl, .tup (E.map entD), rfl, ?_⟩
  refine blkMap (fun d => match d with | .tup [.str l, _] => .str l | _ => .non) (fun d hd R r => ?_) (by rw [List.length_map, sz]; omega) ?_
  · obtain ⟨e, he, rfl⟩ := List.mem_map.mp hd
    exact ⟨rfl, rfl, rfl, rfl, r⟩
  · show Q (.tup ((E.map entD).map _))
    rw [List.map_map]
    exact q
def spIsThingOf : GA := fun ds P => ∃ E R x, ds = [bookD E R, .str x] ∧ Wf E R ∧ Wd E x ∧ P (.bl true)
theorem low_of {E : List Ent} {R : List Rl} {x : Tx} (w : Wf E R) (h : Wd E x) : ∀ c ∈ x, low c := fun c hc => by
  obtain ⟨e, he, e1⟩ := List.mem_map.mp (h.lt c hc)
  obtain ⟨k, h1, h2⟩ := (w.ents e he).1
  rw [h1] at e1
  cases e1
  exact h2
theorem all_true (n : Nat) : ((List.replicate n true).all id) = true := by simp
theorem inD_strs (c : Nat) (ls : List Tx) (h : [c] ∈ ls) : inD (.str [c]) (ls.map .str) = true := by
  unfold inD
  rw [List.any_map, List.any_eq_true]
  exact ⟨[c], h, by simp [eqF]⟩
theorem strs_flat (ls : List Tx) : (ls.map D.str).all flatD = true := by
  rw [List.all_map, List.all_eq_true]
  intro _ _; rfl
theorem pl_isThingOf (ds : List D) (Q : D → Prop) (h : spIsThingOf ds Q) : G_is_thing_of spIsThing spKnown (En Q) (initR N_is_thing_of.length ds) := by
  obtain ⟨E, R, x, rfl, w, h, q⟩ := h
  refine ⟨rfl, E, R, rfl, w.nE, ?_⟩
  refine ⟨rfl, x, rfl, by have := h.len; omega, low_of w h, rfl, ?_⟩
  refine blkMap (fun _ => .bl true) (fun d hd R' r => ?_) (by rw [List.length_map, sz]; have := h.len; omega) ?_
  · obtain ⟨c, hc, rfl⟩ := List.mem_map.mp hd
    refine ⟨rfl, rfl, rfl, ?_, ?_⟩
    · have := strs_flat (E.map (·.1))
      rwa [List.map_map] at this
    · have := inD_strs c _ (h.lt c hc)
      rw [List.map_map] at this
      show R' (.bl (inD (.str [c]) (E.map fun e => .str e.1)))
      rw [show (E.map fun e => D.str e.1) = E.map (D.str ∘ fun e => e.1) from rfl, this]
      exact r
  · refine ⟨(x.map chD).map fun _ => true, ?_, ?_⟩
    · have := bsOf_bl ((x.map chD).map fun _ => true)
      rwa [List.map_map] at this
    · have e : ((x.map chD).map fun _ => true).all id = true := by simp
      show Q (.bl (((x.map chD).map fun _ => true).all id))
      rw [e]
      exact q
def spWantThing : GA := fun ds P => ∃ E R n x, ds = [bookD E R, .str n, .str x] ∧ Wf E R ∧ Wd E x ∧ P .non
/-- want(.., ..): the default fills up -/
def spWant2 : GA := fun ds P => spWant (ds ++ [.int (-1)]) P
theorem pl_wantThing (ds : List D) (Q : D → Prop) (h : spWantThing ds Q) : G_want_thing spIsThingOf spWant2 (En Q) (initR N_want_thing.length ds) := by
  obtain ⟨E, R, n, x, rfl, w, h, q⟩ := h
  exact ⟨rfl, E, R, x, rfl, w, h, rfl, .str n, .int (-1), rfl, q⟩
/-! ### the steps -/
def places (m : Nat) (l : Bool) : List Nat := if l then List.range m else (List.range m).reverse
def natsD (l : List Nat) : List D := l.map fun k : Nat => D.int (k : Int)
theorem iteT {b : Bool} {p q : Prop} (h : b = true) (hp : p) : if b = true then p else q := by rw [if_pos h]; exact hp
theorem iteF {b : Bool} {p q : Prop} (h : b = false) (hq : q) : if b = true then p else q := by rw [if_neg (by rw [h]; exact Bool.false_ne_true)]; exact hq
def spPlaces : GA := fun ds P => ∃ (m : Nat) (l : Bool), ds = [.int m, side l] ∧ m ≤ 1000 ∧ P (.lst (natsD (places m l)))
theorem rngD_up (m : Nat) : rngD 0 1 ((m : Int).toNat) = natsD (List.range m) := by
  unfold rngD natsD
  simp
theorem rngD_down (m : Nat) : rngD ((m : Int) - 1) (-1) m = natsD (List.range m).reverse := by
  unfold rngD natsD
  apply List.ext_getElem
  · simp
  · intro i h1 h2
    simp only [List.length_map, List.length_range] at h1
    simp only [List.getElem_map, List.getElem_range, List.getElem_reverse, List.length_range]
    congr 1
    omega
theorem pl_places (ds : List D) (Q : D → Prop) (h : spPlaces ds Q) : G_places_of (En Q) (initR N_places_of.length ds) := by
  obtain ⟨m, l, rfl, hm, q⟩ := h
  cases l with
  | true =>
    refine ⟨RgOk.of_le (by omega) (by omega) (by omega) (by omega), ?_⟩
    rw [rngD_up]
    exact q
  | false =>
    refine ⟨trivial, m, ?_, by omega, ?_⟩
    · have := RgC.neg (i := (m : Int) - 1) (j := -1) (by omega) (by omega) (by omega) (by omega)
      have e : ((m : Int) - 1 - -1).toNat = m := by omega
      rwa [e] at this
    · show Q (.lst (rngD ((m : Int) - 1) (-1) m))
      rw [rngD_down]
      exact q
theorem cut_take {α : Type} (l : List α) (k : Nat) : cutL l none (some (k : Int)) = l.take k := by
  unfold cutL
  rw [HT.sIx_none, HT.sIx_nat, Nat.sub_zero, List.drop_zero]
  rcases Nat.le_total k l.length with h | h
  · rw [Nat.min_eq_left h]
  · rw [Nat.min_eq_right h, List.take_of_length_le h, List.take_of_length_le (Nat.le_refl _)]
theorem cut_drop {α : Type} (l : List α) (k : Nat) : cutL l (some (k : Int)) none = l.drop k := by
  unfold cutL
  rw [HT.sIx_none, HT.sIx_nat]
  rcases Nat.le_total k l.length with h | h
  · rw [Nat.min_eq_left h, List.take_of_length_le (by rw [List.length_drop]; exact Nat.le_refl _)]
  · rw [Nat.min_eq_right h, List.drop_of_length_le h, List.drop_of_length_le (Nat.le_refl _), List.take_nil]
theorem gMax0 {j : Int} {P : D → Prop} (m : Nat) (h : j.toNat = m) (p : P (.int (m : Int))) : gMax [.int 0, .int j] P := by
  show P (.int (if j > 0 then j else 0))
  have e : (if j > 0 then j else 0) = (m : Int) := by split <;> omega
  rw [e]
  exact p
def lessOf (E : List Ent) (c : Tx) : List Tx := match getK (mrgD [] [] (E.map fun e => ((.inr e.1 : DK), D.tup (e.2.map .str)))).1 (mrgD [] [] (E.map fun e => ((.inr e.1 : DK), D.tup (e.2.map .str)))).2 (.inr c) with
  | some (.tup ds) => (ssOf ds).getD []
  | _ => []
def res (E : List Ent) (r : Rl) (x : Tx) : List Tx := match r with
  | .drop n l => (places (x.length + 1 - n) l).map fun k => x.take k ++ x.drop (k + n)
  | .put a b l => (places x.length l).filterMap fun k => if (x.drop k).take 1 = a then some (x.take k ++ b ++ x.drop (k + 1)) else none
  | .empty => [[]]
  | .half l => [if l then x.take (x.length / 2) else x.drop (x.length - x.length / 2)]
  | .lower l => (places x.length l).flatMap fun k => (lessOf E ((x.drop k).take 1)).map fun s => x.take k ++ s ++ x.drop (k + 1)
def txs (l : List Tx) : D := .lst (l.map .str)
def spDropped : GA := fun ds P => ∃ E n l x, ds = [ruleD (.drop n l), .str x] ∧ x.length ≤ 9 ∧ P (txs (res E (.drop n l) x))
theorem places_len (m : Nat) (l : Bool) : (places m l).length = m := by cases l <;> simp [places]
theorem places_lt {m k : Nat} {l : Bool} (h : k ∈ places m l) : k < m := by cases l <;> simpa [places] using h
theorem pl_dropped (ds : List D) (Q : D → Prop) (h : spDropped ds Q) : G_dropped spPlaces (En Q) (initR N_dropped.length ds) := by
  obtain ⟨E, n, l, x, rfl, hl, q⟩ := h
  refine ⟨x.length, rfl, (fun _ _ z => by cases z), .int n, rfl, trivial, ?_⟩
  dsimp only [fC, gAdd, fNil]
  refine gMax0 (j := (x.length : Int) - (n : Int) + 1) (x.length + 1 - n) (by omega) ?_
  refine ⟨rfl, side l, rfl, rfl, x.length + 1 - n, l, rfl, by omega, ?_⟩
  refine blkMap (fun d => match d with | .int k => .str (x.take k.toNat ++ x.drop (k.toNat + n)) | _ => .non) (fun d hd R r => ?_) (by unfold natsD; rw [List.length_map, places_len, sz]; omega) ?_
  · obtain ⟨k, hk, rfl⟩ := List.mem_map.mp hd
    have e1 := cut_take x k
    have e2 := cut_drop x (k + n)
    refine ⟨rfl, rfl, .int n, rfl, ?_⟩
    show (cutL x none (some (k : Int))).length + (cutL x (some ((k : Int) + (n : Int))) none).length ≤ sizeLine ∧ R (.str (cutL x none (some (k : Int)) ++ cutL x (some ((k : Int) + (n : Int))) none))
    rw [show (k : Int) + (n : Int) = ((k + n : Nat) : Int) by omega, e1, e2]
    refine ⟨by simp only [List.length_take, List.length_drop]; rw [sz]; omega, ?_⟩
    exact r
  · show Q (.lst ((natsD (places (x.length + 1 - n) l)).map _))
    unfold natsD
    rw [List.map_map]
    have := q
    unfold txs res at this
    rw [List.map_map] at this
    exact this
theorem if_side {α : Type} {p q : α} (l : Bool) : (if decide ((if l then T "left" else T "right") = T "left") = true then p else q) = if l then p else q := by
  cases l with
  | true => rfl
  | false => rw [if_neg (by decide +kernel)]; rfl
def spHalved : GA := fun ds P => ∃ E l x, ds = [ruleD (.half l), .str x] ∧ x.length ≤ 9 ∧ P (txs (res E (.half l) x))
theorem pl_halved (ds : List D) (Q : D → Prop) (h : spHalved ds Q) : G_halved (En Q) (initR N_halved.length ds) := by
  obtain ⟨E, l, x, rfl, hl, q⟩ := h
  refine ⟨x.length, rfl, (fun _ _ z => by cases z), ⟨by decide, by decide⟩, ?_⟩
  refine ⟨side l, rfl, ?_⟩
  have e0 : ((x.length : Nat) : Int) / 2 = ((x.length / 2 : Nat) : Int) := by omega
  cases l with
  | true =>
    refine ⟨one_le, ?_⟩
    show Q (.lst [.str (cutL x none (some (((x.length : Nat) : Int) / 2)))])
    rw [e0, cut_take]
    exact q
  | false =>
    refine ⟨x.length, rfl, (fun _ _ z => by cases z), trivial, one_le, ?_⟩
    show Q (.lst [.str (cutL x (some (((x.length : Nat) : Int) - ((x.length : Nat) : Int) / 2)) none)])
    rw [e0, show ((x.length : Nat) : Int) - ((x.length / 2 : Nat) : Int) = ((x.length - x.length / 2 : Nat) : Int) by omega, cut_drop]
    exact q
def dKs (E : List Ent) : List DK := (mrgD [] [] (E.map fun e => ((.inr e.1 : DK), D.tup (e.2.map .str)))).1
def dDs (E : List Ent) : List D := (mrgD [] [] (E.map fun e => ((.inr e.1 : DK), D.tup (e.2.map .str)))).2
def dicD (E : List Ent) : D := .dic (dKs E) (dDs E)
/-- the dict's values are entries' lessers -/
theorem mrg_get (p : D → Prop) : ∀ (ps : List (DK × D)) (ks : List DK) (ds : List D), ks.length = ds.length → (∀ d ∈ ds, p d) → (∀ q ∈ ps, p q.2) → (mrgD ks ds ps).1.length = (mrgD ks ds ps).2.length ∧ (∀ d ∈ (mrgD ks ds ps).2, p d) ∧ (∀ k, k ∈ ks ∨ k ∈ ps.map (·.1) → k ∈ (mrgD ks ds ps).1)
  | [], ks, ds, hl, h1, _ => ⟨hl, h1, fun k hk => hk.elim id fun z => by cases z⟩
  | (k, d) :: ps, ks, ds, hl, h1, h2 => by
    have hd := h2 (k, d) List.mem_cons_self
    have hl' : (putKs ks k).length = (putDs ks ds k d).length := by
      unfold putKs putDs
      split
      · simp [hl]
      · simp [hl]
    have h1' : ∀ e ∈ putDs ks ds k d, p e := fun e he => by
      unfold putDs at he
      split at he
      · obtain ⟨q, hq, rfl⟩ := List.mem_map.mp he
        split
        · exact hd
        · exact h1 _ (List.of_mem_zip hq).2
      · rcases List.mem_append.mp he with he | he
        · exact h1 e he
        · rw [List.mem_singleton.mp he]; exact hd
    obtain ⟨r1, r2, r3⟩ := mrg_get p ps (putKs ks k) (putDs ks ds k d) hl' h1' fun q hq => h2 q (List.mem_cons_of_mem _ hq)
    refine ⟨r1, r2, fun j hj => r3 j ?_⟩
    have mem : ∀ j, j ∈ ks ∨ j = k → j ∈ putKs ks k := fun j hj => by
      unfold putKs
      split
      · rename_i hm
        rcases hj with hj | rfl
        · exact hj
        · obtain ⟨y, hy, e⟩ := List.any_eq_true.mp hm
          rwa [of_decide_eq_true e] at hy
      · exact List.mem_append.mpr (hj.imp id fun z => by rw [z]; exact List.mem_singleton.mpr rfl)
    rcases hj with hj | hj
    · exact .inl (mem j (.inl hj))
    · rcases List.mem_cons.mp hj with rfl | hj
      · exact .inl (mem _ (.inr rfl))
      · exact .inr hj
theorem getK_of {k : DK} : ∀ {ks : List DK} {ds : List D}, ks.length = ds.length → k ∈ ks → ∃ d, getK ks ds k = some d ∧ d ∈ ds
  | [], _, _, h => by cases h
  | j :: ks, [], h, _ => by simp at h
  | j :: ks, d :: ds, hl, h => by
    unfold getK
    by_cases e : j = k
    · rw [if_pos e]; exact ⟨d, rfl, List.mem_cons_self⟩
    · rw [if_neg e]
      obtain ⟨d', h1, h2⟩ := getK_of (by simpa using hl) ((List.mem_cons.mp h).resolve_left fun z => e z.symm)
      exact ⟨d', h1, List.mem_cons_of_mem _ h2⟩
theorem less_get {E : List Ent} {R : List Rl} (w : Wf E R) {c : Tx} (h : c ∈ E.map (·.1)) : getK (dKs E) (dDs E) (.inr c) = some (.tup ((lessOf E c).map .str)) ∧ (lessOf E c).length ≤ 9 ∧ ∀ s ∈ lessOf E c, isL s := by
  obtain ⟨r1, r2, r3⟩ := mrg_get (fun d => ∃ ls : List Tx, d = .tup (ls.map .str) ∧ ls.length ≤ 9 ∧ ∀ s ∈ ls, isL s) (E.map fun e => ((.inr e.1 : DK), D.tup (e.2.map .str))) [] [] rfl (fun d hd => by cases hd) fun q hq => by
    obtain ⟨e, he, rfl⟩ := List.mem_map.mp hq
    exact ⟨e.2, rfl, (w.ents e he).2⟩
  have hk : (.inr c : DK) ∈ dKs E := r3 _ (.inr (by
    rw [List.map_map]
    obtain ⟨e, he, rfl⟩ := List.mem_map.mp h
    exact List.mem_map.mpr ⟨e, he, rfl⟩))
  obtain ⟨d, h1, h2⟩ := getK_of r1 hk
  obtain ⟨ls, rfl, h3, h4⟩ := r2 d h2
  have e : lessOf E c = ls := by
    unfold lessOf
    have h1' : getK (mrgD [] [] (E.map fun e => ((.inr e.1 : DK), D.tup (e.2.map .str)))).1 (mrgD [] [] (E.map fun e => ((.inr e.1 : DK), D.tup (e.2.map .str)))).2 (.inr c) = some (.tup (ls.map .str)) := h1
    rw [h1']
    show (ssOf (ls.map .str)).getD [] = ls
    rw [ssOf_str]; rfl
  rw [e]
  exact ⟨h1, h3, h4⟩
theorem atI_nat {α : Type} (l : List α) (k : Nat) (h : k < l.length) : atI l (k : Int) = l[k]? := by
  unfold atI
  have : ixN l.length (k : Int) = some k := by
    unfold ixN
    rw [if_pos (by omega), if_pos (by omega), Int.toNat_natCast]
  rw [this]; rfl
theorem blkMapA {fg : FG} {te : FE} {vs : List Nat} (g : D → D) {ρ : Rho} {P : List D → Prop} {ds acc : List D} (h : ∀ d ∈ ds, ∀ R : D → Prop, R (g d) → turnR fg vs d ρ fun ρ2 => te ρ2 R) (hl : acc.length + ds.length ≤ sizeLine) (p : P (acc ++ ds.map g)) : blkD fg fYes (bodyL te) vs ds ρ acc P :=
  blkL (fun d => some (g d)) (fun d hd R r => h d hd (fun e => R (some e)) r) hl (by simpa using p)
theorem natsD_mem {l : List Nat} {d : D} (h : d ∈ natsD l) : ∃ k ∈ l, d = .int (k : Int) := by
  obtain ⟨k, hk, rfl⟩ := List.mem_map.mp h
  exact ⟨k, hk, rfl⟩
theorem drop_take1 {x : Tx} {k c : Nat} (h : x[k]? = some c) : (x.drop k).take 1 = [c] := by
  have hk := (List.getElem?_eq_some_iff.mp h).1
  have he := (List.getElem?_eq_some_iff.mp h).2
  rw [List.drop_eq_getElem_cons hk, he]; rfl
def spLowered : GA := fun ds P => ∃ E R l x, ds = [dicD E, ruleD (.lower l), .str x] ∧ Wf E R ∧ Wd E x ∧ P (txs (res E (.lower l) x))
theorem pl_lowered (ds : List D) (Q : D → Prop) (h : spLowered ds Q) : G_lowered spPlaces (En Q) (initR N_lowered.length ds) := by
  obtain ⟨E, R, l, x, rfl, w, hx, q⟩ := h
  have hl := hx.len
  refine ⟨rfl, x.length, rfl, (fun _ _ z => by cases z), side l, rfl, rfl, x.length, l, rfl, by omega, ?_⟩
  have get : ∀ k, k ∈ places x.length l → ∃ c, x[k]? = some c ∧ [c] ∈ E.map (·.1) := fun k hk => by
    have := places_lt hk
    exact ⟨x[k], List.getElem?_eq_getElem this, hx.lt _ (List.getElem_mem this)⟩
  refine blkL2 (fun d => match d with | .int k => (lessOf E ((x.drop k.toNat).take 1)).map fun s => .str (x.take k.toNat ++ s ++ x.drop (k.toNat + 1)) | _ => []) 9 (fun d hd => ?_) (by unfold natsD; rw [List.length_map, places_len, sz]; simp only [List.length_nil]; omega) ?_
  · obtain ⟨k, hk, rfl⟩ := natsD_mem hd
    obtain ⟨c, hc, hcE⟩ := get k hk
    obtain ⟨g1, g2, g3⟩ := less_get w hcE
    have ed := drop_take1 hc
    refine ⟨?_, fun acc R' ha r => ?_⟩
    · show ((lessOf E ((x.drop k).take 1)).map _).length ≤ 9
      rw [ed, List.length_map]; exact g2
    · refine ⟨rfl, rfl, rfl, c, (atI_nat x k (places_lt hk)).trans hc, .inr [c], .tup ((lessOf E [c]).map .str), rfl, g1, ?_⟩
      refine blkMapA (fun d => match d with | .str s => .str (x.take k ++ s ++ x.drop (k + 1)) | _ => .non) (fun d hd R2 r2 => ?_) (by rw [List.length_map]; omega) ?_
      · obtain ⟨s, hs, rfl⟩ := List.mem_map.mp hd
        obtain ⟨y, hy, _⟩ := g3 s hs
        subst hy
        refine ⟨rfl, rfl, ?_⟩
        show (cutL x none (some (k : Int))).length + [y].length ≤ sizeLine ∧ (cutL x none (some (k : Int)) ++ [y]).length + (cutL x (some ((k : Int) + 1)) none).length ≤ sizeLine ∧ R2 (.str (cutL x none (some (k : Int)) ++ [y] ++ cutL x (some ((k : Int) + 1)) none))
        rw [show (k : Int) + 1 = ((k + 1 : Nat) : Int) by omega, cut_take, cut_drop]
        refine ⟨by simp only [List.length_take, List.length_cons, List.length_nil]; rw [sz]; omega, by simp only [List.length_append, List.length_take, List.length_drop, List.length_cons, List.length_nil]; rw [sz]; omega, r2⟩
      · have r' : R' (acc ++ (lessOf E ((x.drop k).take 1)).map fun s => .str (x.take k ++ s ++ x.drop (k + 1))) := r
        rw [ed] at r'
        rw [List.map_map]
        exact r'
  · show Q (.lst ([] ++ (natsD (places x.length l)).flatMap _))
    unfold natsD
    rw [List.nil_append, List.flatMap_map]
    have := q
    unfold txs res at this
    rw [List.map_flatMap] at this
    simp only [List.map_map] at this
    exact this
def spPut : GA := fun ds P => ∃ E a b l x, ds = [ruleD (.put a b l), .str x] ∧ RlOk (.put a b l) ∧ x.length ≤ 9 ∧ P (txs (res E (.put a b l) x))
theorem pl_put (ds : List D) (Q : D → Prop) (h : spPut ds Q) : G_put_results spPlaces (En Q) (initR N_put_results.length ds) := by
  obtain ⟨E, a, b, l, x, rfl, w, hl, q⟩ := h
  refine ⟨rfl, x.length, rfl, (fun _ _ z => by cases z), side l, rfl, rfl, x.length, l, rfl, by omega, ?_⟩
  refine blkL (fun d => match d with | .int k => if (x.drop k.toNat).take 1 = a then some (.str (x.take k.toNat ++ b ++ x.drop (k.toNat + 1))) else none | _ => none) (fun d hd R' r => ?_) (by unfold natsD; rw [List.length_map, places_len, sz]; simp only [List.length_nil]; omega) ?_
  · obtain ⟨k, hk, rfl⟩ := natsD_mem hd
    have hk' := places_lt hk
    have hc : x[k]? = some x[k] := List.getElem?_eq_getElem hk'
    have ed := drop_take1 hc
    refine ⟨rfl, rfl, x[k], (atI_nat x k hk').trans hc, .str a, rfl, ?_⟩
    have r' : R' (if (x.drop k).take 1 = a then some (.str (x.take k ++ b ++ x.drop (k + 1))) else none) := r
    rw [ed] at r'
    by_cases e : [x[k]] = a
    · rw [if_pos e] at r'
      refine iteT (b := decide ([x[k]] = a)) (q := R' none) (decide_eq_true e) ?_
      refine ⟨.str b, rfl, ?_⟩
      show (cutL x none (some (k : Int))).length + b.length ≤ sizeLine ∧ (cutL x none (some (k : Int)) ++ b).length + (cutL x (some ((k : Int) + 1)) none).length ≤ sizeLine ∧ R' (some (.str (cutL x none (some (k : Int)) ++ b ++ cutL x (some ((k : Int) + 1)) none)))
      rw [show (k : Int) + 1 = ((k + 1 : Nat) : Int) by omega, cut_take, cut_drop]
      have hb := w.2.1
      refine ⟨by simp only [List.length_take]; rw [sz]; omega, by simp only [List.length_append, List.length_take, List.length_drop]; rw [sz]; omega, r'⟩
    · rw [if_neg e] at r'
      exact iteF (b := decide ([x[k]] = a)) (decide_eq_false e) r'
  · show Q (.lst ([] ++ (natsD (places x.length l)).filterMap _))
    unfold natsD
    rw [List.nil_append, List.filterMap_map]
    have := q
    unfold txs res at this
    rw [List.map_filterMap] at this
    refine cast (congrArg (fun f => Q (.lst ((places x.length l).filterMap f))) (funext fun k => ?_)) this
    show Option.map D.str _ = (if (x.drop k).take 1 = a then some (.str (x.take k ++ b ++ x.drop (k + 1))) else none)
    split <;> rfl
def spResults : GA := fun ds P => ∃ E R k x, ds = [bookD E R, .int (k : Nat), .str x] ∧ Wf E R ∧ Wd E x ∧ ∃ r, R[k]? = some r ∧ P (txs (res E r x))
theorem atI_map (R : List Rl) (k : Nat) (r : Rl) (h : R[k]? = some r) : atI (R.map ruleD) (k : Int) = some (ruleD r) := by
  have hk := (List.getElem?_eq_some_iff.mp h).1
  rw [atI_nat _ _ (by rw [List.length_map]; exact hk), List.getElem?_map, h]; rfl
theorem dict_of (E : List Ent) : ((E.map entD).filterMap fun d => match d with | .tup [.str l, t] => some ((.inr l : DK), t) | _ => none) = E.map fun e => ((.inr e.1 : DK), D.tup (e.2.map .str)) := by
  rw [List.filterMap_map]
  exact congrFun (List.filterMap_eq_map (f := fun e : Ent => ((.inr e.1 : DK), D.tup (e.2.map .str)))) E
theorem pl_results (ds : List D) (Q : D → Prop) (h : spResults ds Q) : G_results_of spDropped spHalved spLowered spPut (En Q) (initR N_results_of.length ds) := by
  obtain ⟨E, R, k, x, rfl, w, hx, r, hr, q⟩ := h
  have hk := atI_map R k r hr
  have ok := w.rules r (List.mem_of_getElem? hr)
  refine ⟨.tup (R.map ruleD), rfl, ruleD r, hk, ?_⟩
  cases r with
  | drop n l => exact ⟨.str (T "drop"), rfl, rfl, E, n, l, x, rfl, hx.len, q⟩
  | half l => exact ⟨.str (T "half"), rfl, .str (T "half"), rfl, rfl, E, l, x, rfl, hx.len, q⟩
  | lower l =>
    refine ⟨.str (T "lower"), rfl, .str (T "lower"), rfl, .str (T "lower"), rfl, rfl, .tup (E.map entD), rfl, ?_⟩
    refine blkDic (fun d => match d with | .tup [.str l, t] => some ((.inr l : DK), t) | _ => none) (fun d hd R' r' => ?_) (by rw [List.length_map, sz]; have := w.nE; simp only [List.length_nil]; omega) ?_
    · obtain ⟨e, he, rfl⟩ := List.mem_map.mp hd
      exact ⟨rfl, rfl, rfl, rfl, .inr e.1, rfl, r'⟩
    · rw [dict_of]
      exact ⟨rfl, E, R, l, x, rfl, w, hx, q⟩
  | put a b l => exact ⟨.str (T "put"), rfl, .str (T "put"), rfl, .str (T "put"), rfl, .str (T "put"), rfl, rfl, E, a, b, l, x, rfl, ok, hx.len, q⟩
  | empty => exact ⟨.str (T "empty"), rfl, .str (T "empty"), rfl, .str (T "empty"), rfl, .str (T "empty"), rfl, one_le, q⟩
/-! ### each step once -/
def add1 (x : Tx) (L : List Tx) (s : Tx) : List Tx := if s ∈ x :: L then L else L ++ [s]
def once (x : Tx) (ls : List Tx) : List Tx := ls.foldl (add1 x) []
theorem add1_len (x : Tx) (L : List Tx) (s : Tx) : (add1 x L s).length ≤ L.length + 1 := by unfold add1; split <;> simp
theorem fold_len (x : Tx) : ∀ (ls L : List Tx), (ls.foldl (add1 x) L).length ≤ L.length + ls.length
  | [], L => Nat.le_refl _
  | s :: ls, L => by
    have h1 := fold_len x ls (add1 x L s)
    have h2 := add1_len x L s
    rw [List.foldl_cons, List.length_cons]
    omega
theorem memK_str (s : Tx) (L : List Tx) : memK (.inr s) (L.map Sum.inr) = decide (s ∈ L) := by
  unfold memK
  rw [List.any_map]
  by_cases h : s ∈ L
  · rw [decide_eq_true h, List.any_eq_true]
    exact ⟨s, h, by simp⟩
  · rw [decide_eq_false h, List.any_eq_false]
    intro y hy
    simp only [Function.comp, decide_eq_true_eq]
    intro e
    cases e
    exact h hy
theorem gNotInDic {s : Tx} {ks : List DK} {ds : List D} {P : D → Prop} (h : P (.bl (!memK (.inr s) ks))) : gNotIn (.str s) (.dic ks ds) P := by
  show gIn (.str s) (.dic ks ds) _
  match s with
  | [] => exact ⟨.inr [], rfl, h⟩
  | [c] => exact ⟨.inr [c], rfl, h⟩
  | c :: d :: r => exact ⟨.inr (c :: d :: r), rfl, h⟩
/-- the state of the search -/
def stR (b : D) (x : Tx) (L : List Tx) (is : List Int) (s4 s5 : Sl) : Rho := [.sh b, .sh (.str x), .sh (.int 0), .od ((x :: L).map Sum.inr) (.int (-1) :: is.map .int), s4, s5]
theorem inner (b : D) (x : Tx) (k : Int) (E : Dn) : ∀ (ls L : List Tx) (is : List Int) (s5 : Sl), L.length = is.length → L.length + ls.length + 1 < sizeLine →
    s5.own = false → (∀ is' s5, s5.own = false → (ls.foldl (add1 x) L).length = is'.length → E.nx (stR b x (ls.foldl (add1 x) L) is' (.sh (.int k)) s5)) →
    forD (fgN 5) (gIf (ftThaw (fB (fOp gNotIn (fVar 5) (fVar 3)))) (gDput 3 (fVar 5) (fVar 4)) gNext) (ls.map .str) E (stR b x L is (.sh (.int k)) s5)
  | [], L, is, s5, hl, hz, h5, h => h is s5 h5 hl
  | s :: ls, L, is, s5, hl, hz, h5, h => by
    simp only [List.length_cons] at hz
    have IH := inner b x k E ls
    show (gNotIn (.str s) (.dic ((x :: L).map Sum.inr) (.int (-1) :: is.map .int)) fun d => asB d fun b' => if b' = true then _ else _)
    refine gNotInDic ?_
    rw [memK_str]
    by_cases hs : s ∈ x :: L
    · refine iteF (by simp [hs]) ?_
      have e : add1 x L s = L := by unfold add1; rw [if_pos hs]
      rw [List.foldl_cons, e] at h
      exact IH L is (.sh (.str s)) hl (by omega) rfl h
    · refine iteT (by simp [hs]) ?_
      have e : add1 x L s = L ++ [s] := by unfold add1; rw [if_neg hs]
      rw [List.foldl_cons, e] at h
      refine ⟨.inr s, rfl, by simp only [List.length_map, List.length_cons]; omega, ?_⟩
      have hm : memK (.inr s) ((x :: L).map Sum.inr) = false := by rw [memK_str]; exact decide_eq_false hs
      have e1 : putKs ((x :: L).map Sum.inr) (.inr s) = (x :: (L ++ [s])).map Sum.inr := by
        unfold putKs
        rw [hm]
        simp
      have e2 : putDs ((x :: L).map Sum.inr) (.int (-1) :: is.map .int) (.inr s) (.int k) = .int (-1) :: (is ++ [k]).map .int := by
        unfold putDs
        rw [hm]
        simp
      have := IH (L ++ [s]) (is ++ [k]) (.sh (.str s)) (by simp [hl]) (by simp only [List.length_append, List.length_cons, List.length_nil]; omega) rfl h
      unfold stR at this
      rw [← e1, ← e2] at this
      exact this
theorem getK_mem {k : DK} {d : D} : ∀ {ks : List DK} {ds : List D}, getK ks ds k = some d → k ∈ ks
  | [], _, h => by simp [getK] at h
  | j :: ks, [], h => by simp [getK] at h
  | j :: ks, e :: ds, h => by
    unfold getK at h
    by_cases z : j = k
    · rw [z]; exact List.mem_cons_self
    · rw [if_neg z] at h
      exact List.mem_cons_of_mem _ (getK_mem h)
theorem mrg_keys : ∀ (ps : List (DK × D)) (ks : List DK) (ds : List D) (k : DK), k ∈ (mrgD ks ds ps).1 → k ∈ ks ∨ k ∈ ps.map (·.1)
  | [], ks, ds, k, h => .inl h
  | (j, d) :: ps, ks, ds, k, h => by
    rcases mrg_keys ps _ _ k h with h | h
    · unfold putKs at h
      split at h
      · exact .inl h
      · rcases List.mem_append.mp h with h | h
        · exact .inl h
        · exact .inr (by rw [List.mem_singleton.mp h]; exact List.mem_cons_self)
    · exact .inr (List.mem_cons_of_mem _ h)
theorem less_len {E : List Ent} {R : List Rl} (w : Wf E R) (c : Tx) : (lessOf E c).length ≤ 9 := by
  by_cases h : c ∈ E.map (·.1)
  · exact (less_get w h).2.1
  · have : getK (dKs E) (dDs E) (.inr c) = none := by
      cases e : getK (dKs E) (dDs E) (.inr c) with
      | none => rfl
      | some d =>
        exfalso
        refine h ?_
        have hm : (.inr c : DK) ∈ dKs E := getK_mem e
        have := mrg_keys (E.map fun e => ((.inr e.1 : DK), D.tup (e.2.map .str))) [] [] _ hm
        rcases this with z | z
        · cases z
        · rw [List.map_map] at z
          obtain ⟨e', he', e2⟩ := List.mem_map.mp z
          cases e2
          exact List.mem_map_of_mem he'
    unfold lessOf
    have this' : getK (mrgD [] [] (E.map fun e => ((.inr e.1 : DK), D.tup (e.2.map .str)))).1 (mrgD [] [] (E.map fun e => ((.inr e.1 : DK), D.tup (e.2.map .str)))).2 (.inr c) = none := this
    rw [this']
    exact Nat.zero_le _
theorem flat_len {α β : Type} (f : α → List β) (B : Nat) : ∀ l : List α, (∀ a ∈ l, (f a).length ≤ B) → (l.flatMap f).length ≤ l.length * B
  | [], _ => Nat.zero_le _
  | a :: l, h => by
    have h1 := flat_len f B l fun x hx => h x (List.mem_cons_of_mem _ hx)
    have h2 := h a List.mem_cons_self
    rw [List.flatMap_cons, List.length_append, List.length_cons, Nat.add_mul, Nat.one_mul]
    omega
theorem res_len {E : List Ent} {R : List Rl} {x : Tx} (w : Wf E R) (hx : Wd E x) (r : Rl) : (res E r x).length ≤ 100 := by
  have hl := hx.len
  cases r with
  | drop n l => unfold res; rw [List.length_map, places_len]; omega
  | put a b l => unfold res; exact Nat.le_trans (List.length_filterMap_le _ _) (by rw [places_len]; omega)
  | empty => exact Nat.le_trans (Nat.le_refl 1) (by omega)
  | half l => exact Nat.le_trans (Nat.le_refl 1) (by omega)
  | lower l =>
    unfold res
    refine Nat.le_trans (flat_len _ 9 _ fun k hk => ?_) (by rw [places_len]; omega)
    rw [List.length_map]
    exact less_len w _
/-- all results of the rules at these places -/
def allRes (E : List Ent) (R : List Rl) (x : Tx) (ks : List Nat) : List Tx := ks.flatMap fun k => match R[k]? with
  | some r => res E r x
  | none => []
theorem outer {E : List Ent} {R : List Rl} {x : Tx} (w : Wf E R) (hx : Wd E x) (En' : Dn) : ∀ (ks : List Nat) (L : List Tx) (is : List Int) (s4 s5 : Sl), (∀ k ∈ ks, k < R.length) → L.length = is.length → L.length + ks.length * 100 + 1 < sizeLine → s4.own = false → s5.own = false →
    (∀ is' s4 s5, s4.own = false → s5.own = false → ((allRes E R x ks).foldl (add1 x) L).length = is'.length → En'.nx (stR (bookD E R) x ((allRes E R x ks).foldl (add1 x) L) is' s4 s5)) →
    forD (fgN 4) (gFor (fSeq (fCall spResults 3 (fCons (fVar 0) (fCons (fVar 4) (fCons (fVar 1) fNil))))) (fgN 5) (gIf (ftThaw (fB (fOp gNotIn (fVar 5) (fVar 3)))) (gDput 3 (fVar 5) (fVar 4)) gNext)) (natsD ks) En' (stR (bookD E R) x L is s4 s5)
  | [], L, is, s4, s5, _, hl, _, h4, h5, h => h is s4 s5 h4 h5 hl
  | k :: ks, L, is, s4, s5, hk, hl, hz, h4, h5, h => by
    simp only [List.length_cons, Nat.add_mul, Nat.one_mul] at hz
    have hkl := hk k List.mem_cons_self
    have hr : R[k]? = some R[k] := List.getElem?_eq_getElem hkl
    have IH := outer w hx En' ks
    have rl := res_len w hx R[k]
    have ea : allRes E R x (k :: ks) = res E R[k] x ++ allRes E R x ks := by
      unfold allRes
      rw [List.flatMap_cons, hr]
    rw [ea, List.foldl_append] at h
    refine ⟨rfl, E, R, k, x, rfl, w, hx, R[k], hr, ?_⟩
    refine inner (bookD E R) x k { En' with nx := forD (fgN 4) (gFor (fSeq (fCall spResults 3 (fCons (fVar 0) (fCons (fVar 4) (fCons (fVar 1) fNil))))) (fgN 5) (gIf (ftThaw (fB (fOp gNotIn (fVar 5) (fVar 3)))) (gDput 3 (fVar 5) (fVar 4)) gNext)) (natsD ks) En', ct := forD (fgN 4) (gFor (fSeq (fCall spResults 3 (fCons (fVar 0) (fCons (fVar 4) (fCons (fVar 1) fNil))))) (fgN 5) (gIf (ftThaw (fB (fOp gNotIn (fVar 5) (fVar 3)))) (gDput 3 (fVar 5) (fVar 4)) gNext)) (natsD ks) En', bk := En'.nx } (res E R[k] x) L is s5 hl (by omega) h5 fun is' s5' h5' hl' => ?_
    have fl := fold_len x (res E R[k] x) L
    exact IH _ is' (.sh (.int k)) s5' (fun j hj => hk j (List.mem_cons_of_mem _ hj)) hl' (by omega) rfl h5' h
theorem add1_ne {x : Tx} : ∀ (ls L : List Tx), (∀ s ∈ L, s ≠ x) → ∀ s ∈ ls.foldl (add1 x) L, s ≠ x
  | [], L, h => h
  | t :: ls, L, h => add1_ne ls (add1 x L t) fun s hs => by
    unfold add1 at hs
    split at hs
    · exact h s hs
    · rename_i ht
      rcases List.mem_append.mp hs with hs | hs
      · exact h s hs
      · rw [List.mem_singleton.mp hs]
        intro e
        exact ht (by rw [e]; exact List.mem_cons_self)
theorem all_len {E : List Ent} {R : List Rl} {x : Tx} (w : Wf E R) (hx : Wd E x) (ks : List Nat) : (allRes E R x ks).length ≤ ks.length * 100 := flat_len _ 100 ks fun k _ => by
  show (match R[k]? with | some r => res E r x | none => []).length ≤ 100
  cases R[k]? with
  | some r => exact res_len w hx r
  | none => exact Nat.zero_le _
theorem once_len {E : List Ent} {R : List Rl} {x : Tx} (w : Wf E R) (hx : Wd E x) : (once x (allRes E R x (List.range R.length))).length ≤ 900 := by
  have h1 := fold_len x (allRes E R x (List.range R.length)) []
  have h2 := all_len w hx (List.range R.length)
  have h3 := w.nR
  rw [List.length_range] at h2
  unfold once
  simp only [List.length_nil] at h1
  omega
def pairsD (is : List Int) (L : List Tx) : List D := (is.zip L).map fun p => .tup [.int p.1, .str p.2]
def spStepsFrom : GA := fun ds P => ∃ E R x, ds = [bookD E R, .str x, .int 0] ∧ Wf E R ∧ Wd E x ∧ ∀ is : List Int, is.length = (once x (allRes E R x (List.range R.length))).length → P (.lst (pairsD is (once x (allRes E R x (List.range R.length)))))
theorem items_of (x : Tx) (L : List Tx) (is : List Int) : itemsD ((x :: L).map Sum.inr) (.int (-1) :: is.map .int) = .tup [.str x, .int (-1)] :: (L.zip is).map fun p => .tup [.str p.1, .int p.2] := by
  unfold itemsD
  rw [List.map_cons, List.zip_cons_cons, List.map_cons]
  congr 1
  rw [List.zip_map, List.map_map]
  rfl
theorem filt (x : Tx) : ∀ (L : List Tx) (is : List Int), (∀ s ∈ L, s ≠ x) → ((L.zip is).map fun p => D.tup [.str p.1, .int p.2]).filterMap (fun d => match d with | .tup [.str s, .int i] => if s = x then none else some (.tup [.int i, .str s]) | _ => none) = pairsD is L
  | [], is, _ => by simp [pairsD]
  | s :: L, [], _ => by simp [pairsD]
  | s :: L, i :: is, h => by
    have ih := filt x L is fun t ht => h t (List.mem_cons_of_mem _ ht)
    rw [List.zip_cons_cons, List.map_cons]
    rw [List.filterMap_cons_some (b := .tup [.int i, .str s]) (by show (if s = x then none else some _) = _; rw [if_neg (h s List.mem_cons_self)]), ih]
    rfl
theorem pl_stepsFrom (ds : List D) (Q : D → Prop) (h : spStepsFrom ds Q) : G_steps_from spResults (En Q) (initR N_steps_from.length ds) := by
  obtain ⟨E, R, x, rfl, w, hx, q⟩ := h
  have nR := w.nR
  refine ⟨[(.inr x, .int (-1))], rfl, (show 1 ≤ 15 by decide), ?_⟩
  refine ⟨.tup (R.map ruleD), rfl, (R.map ruleD).length, rfl, (fun _ _ z => by cases z), RgOk.of_le (by omega) (by rw [List.length_map]; omega) (by omega) (by omega), RgOk.of_le (by omega) (by omega) (by omega) (by omega), ?_, ?_⟩
  · simp only [rngD_len, List.length_map]
    rw [sz]
    omega
  · have e : rngD 0 1 (((R.map ruleD).length : Int) - 0).toNat ++ rngD 0 1 (0 : Int).toNat = natsD (List.range R.length) := by
      have e1 : (((R.map ruleD).length : Int) - 0).toNat = R.length := by rw [List.length_map]; omega
      have e2 := rngD_up R.length
      rw [Int.toNat_natCast] at e2
      rw [e1, e2]
      exact List.append_nil _
    have key := outer w hx { En Q with nx := gRet (fun ρ P => (fun ρ P => odAt ρ[3]? fun ks ds => noOwn (ρ.set 3 .no) [5, 4] = true ∧ blkD (fgTup 2 (fgCons (fgN 5) (fgCons (fgN 4) fgNil))) (fB (fOp gNe (fVar 5) (fVar 1))) (bodyL (fTup (fCons (fVar 4) (fCons (fVar 5) fNil)))) [5, 4] (itemsD ks ds) (ρ.set 3 .no) [] fun es => P (.ol es)) ρ fun s => shP s P) (En Q) }
      (List.range R.length) [] [] .no .no (fun k hk => List.mem_range.mp hk) rfl (by rw [sz, List.length_range]; simp only [List.length_nil]; omega) rfl rfl fun is s4 s5 h4 h5 hl => ?_
    · rw [← e] at key
      exact key
    · have no : noOwn (([.sh (bookD E R), .sh (.str x), .sh (.int 0), .no, s4, s5] : Rho)) [5, 4] = true := by
        show ((!s5.own) && ((!s4.own) && true)) = true
        rw [h4, h5]; rfl
      refine ⟨no, ?_⟩
      rw [items_of]
      refine blkL (fun d => match d with | .tup [.str s, .int i] => if s = x then none else some (.tup [.int i, .str s]) | _ => none) (fun d hd R' r => ?_) ?_ ?_
      · have main : ∀ s i, R' (if s = x then none else some (.tup [.int i, .str s])) → turnR (fgTup 2 (fgCons (fgN 5) (fgCons (fgN 4) fgNil))) [5, 4] (.tup [.str s, .int i]) [.sh (bookD E R), .sh (.str x), .sh (.int 0), .no, s4, s5] fun ρ2 => fB (fOp gNe (fVar 5) (fVar 1)) ρ2 fun b => if b = true then fTup (fCons (fVar 4) (fCons (fVar 5) fNil)) ρ2 fun e => R' (some e) else R' none := fun s i r' => by
          refine ⟨rfl, rfl, rfl, rfl, ?_⟩
          by_cases e : s = x
          · rw [if_pos e] at r'
            exact iteF (b := !decide (s = x)) (by simp [e]) r'
          · rw [if_neg e] at r'
            exact iteT (b := !decide (s = x)) (q := R' none) (by simp [e]) ⟨(show 2 ≤ sizeLine by rw [sz]; decide), r'⟩
        rcases List.mem_cons.mp hd with rfl | hd
        · exact main x (-1) r
        · obtain ⟨p, hp, rfl⟩ := List.mem_map.mp hd
          exact main p.1 p.2 r
      · have := once_len w hx
        rw [List.length_cons, List.length_map, List.length_zip, sz]
        unfold once at this
        simp only [List.length_nil]
        omega
      · have ne : ∀ s ∈ once x (allRes E R x (List.range R.length)), s ≠ x := add1_ne _ [] fun s hs => by cases hs
        have e2 := filt x (once x (allRes E R x (List.range R.length))) is ne
        show Q (.lst ([] ++ _))
        rw [List.nil_append, List.filterMap_cons_none (by show (if x = x then none else some _) = _; rw [if_pos rfl])]
        have := q is hl.symm
        rw [← e2] at this
        exact this
def spPlainSteps : GA := fun ds P => ∃ E R x, ds = [bookD E R, .str x] ∧ Wf E R ∧ Wd E x ∧ P (.tup ((once x (allRes E R x (List.range R.length))).map .str))
theorem pl_plainSteps (ds : List D) (Q : D → Prop) (h : spPlainSteps ds Q) : G_plain_steps spStepsFrom (En Q) (initR N_plain_steps.length ds) := by
  obtain ⟨E, R, x, rfl, w, hx, q⟩ := h
  refine ⟨rfl, rfl, E, R, x, rfl, w, hx, fun is hl => ?_⟩
  have fl := fold_len x (allRes E R x (List.range R.length)) []
  refine blkMap (fun d => match d with | .tup [_, s] => s | _ => .non) (fun d hd R' r => ?_) ?_ ?_
  · obtain ⟨p, hp, rfl⟩ := List.mem_map.mp hd
    exact ⟨rfl, rfl, rfl, rfl, r⟩
  · have := once_len w hx
    unfold pairsD
    rw [List.length_map, List.length_zip, sz]
    omega
  · show Q (.tup ((pairsD is _).map _))
    unfold pairsD
    rw [List.map_map]
    have e : ∀ (L : List Tx) (is : List Int), is.length = L.length → (is.zip L).map ((fun d => match d with | .tup [_, s] => s | _ => .non) ∘ fun p : Int × Tx => D.tup [.int p.1, .str p.2]) = L.map .str := by
      intro L
      induction L with
      | nil => intro is _; simp
      | cons s L ih =>
        intro is h
        cases is with
        | nil => simp at h
        | cons i is => rw [List.zip_cons_cons, List.map_cons, List.map_cons, ih is (by simpa using h)]; rfl
    rw [e _ is hl]
    exact q
def spStepsOf : GA := spPlainSteps
theorem pl_stepsOf (ds : List D) (Q : D → Prop) (h : spStepsOf ds Q) : G_steps_of spPlainSteps spWantThing (En Q) (initR N_steps_of.length ds) := by
  obtain ⟨E, R, x, rfl, w, hx, q⟩ := h
  exact ⟨rfl, E, R, T "x", x, rfl, w, hx, rfl, E, R, x, rfl, w, hx, q⟩
def spRuleSteps : GA := fun ds P => ∃ E R k x r, ds = [bookD E R, .int (k : Nat), .str x] ∧ Wf E R ∧ Wd E x ∧ R[k]? = some r ∧ P (.tup ((once x (res E r x)).map .str))
theorem put_add (s : Tx) (L : List Tx) : putKs (L.map Sum.inr) (.inr s) = (if s ∈ L then L else L ++ [s]).map Sum.inr := by
  unfold putKs
  rw [memK_str]
  by_cases h : s ∈ L
  · rw [if_pos (decide_eq_true h), if_pos h]
  · rw [if_neg (by simp [h]), if_neg h]; simp
theorem mrg_once (x : Tx) : ∀ (ls L : List Tx) (ds : List D), (mrgD (L.map Sum.inr) ds ((ls.map D.str).filterMap fun d => match d with | .str s => if s = x then none else some ((.inr s : DK), D.bl true) | _ => none)).1 = (ls.foldl (add1 x) L).map Sum.inr
  | [], L, ds => rfl
  | s :: ls, L, ds => by
    rw [List.map_cons, List.foldl_cons]
    by_cases e : s = x
    · rw [List.filterMap_cons_none (by show (if s = x then none else some _) = _; rw [if_pos e])]
      have : add1 x L s = L := by unfold add1; rw [if_pos (by rw [e]; exact List.mem_cons_self)]
      rw [this]
      exact mrg_once x ls L ds
    · rw [List.filterMap_cons_some (b := (.inr s, .bl true)) (by show (if s = x then none else some _) = _; rw [if_neg e])]
      have e2 : add1 x L s = if s ∈ L then L else L ++ [s] := by
        unfold add1
        by_cases h : s ∈ L
        · rw [if_pos h, if_pos (List.mem_cons_of_mem _ h)]
        · rw [if_neg h, if_neg (by rw [List.mem_cons]; exact fun z => z.elim e h)]
      have := mrg_once x ls (add1 x L s) (putDs (L.map Sum.inr) ds (.inr s) (.bl true))
      rw [e2, ← put_add, ← e2] at this
      exact this
theorem pl_ruleSteps (ds : List D) (Q : D → Prop) (h : spRuleSteps ds Q) : G_rule_steps spIsNumber spResults spWant2 spWantThing (En Q) (initR N_rule_steps.length ds) := by
  obtain ⟨E, R, k, x, r, rfl, w, hx, hr, q⟩ := h
  have hk := (List.getElem?_eq_some_iff.mp hr).1
  refine ⟨rfl, (k : Int), rfl, ?_⟩
  dsimp only [asB]
  refine iteT (b := decide (0 ≤ (k : Int))) (decide_eq_true (by omega)) ?_
  refine ⟨.tup (R.map ruleD), rfl, (R.map ruleD).length, rfl, (fun _ _ z => by cases z), rfl, .str (T "k"), .int (-1), ?_, ?_⟩
  · show [D.bl (decide ((k : Int) < ((R.map ruleD).length : Nat))), .str (T "k"), .int (-1)] = _
    rw [decide_eq_true (by rw [List.length_map]; omega)]
  · refine ⟨rfl, E, R, T "x", x, rfl, w, hx, ?_⟩
    refine ⟨rfl, rfl, E, R, k, x, rfl, w, hx, r, hr, ?_⟩
    have rl := res_len w hx r
    refine blkDic (fun d => match d with | .str s => if s = x then none else some ((.inr s : DK), D.bl true) | _ => none) (fun d hd R' r' => ?_) (by rw [List.length_map, sz]; simp only [List.length_nil]; omega) ?_
    · obtain ⟨s, hs, rfl⟩ := List.mem_map.mp hd
      refine ⟨rfl, rfl, ?_⟩
      have r2 : R' (if s = x then none else some ((.inr s : DK), D.bl true)) := r'
      by_cases e : s = x
      · rw [if_pos e] at r2
        exact iteF (b := !decide (s = x)) (by simp [e]) r2
      · rw [if_neg e] at r2
        exact iteT (b := !decide (s = x)) (q := R' none) (by simp [e]) ⟨.inr s, rfl, r2⟩
    · show Q (.tup ((mrgD [] [] _).1.map kD))
      have e := mrg_once x (res E r x) [] []
      rw [List.map_nil] at e
      rw [e, List.map_map]
      exact q
/-! ### the law's own steps -/
def spOnce : GA := fun ds P => ∃ (x : Tx) (ls : List Tx), ds = [.str x, txs ls] ∧ ls.length ≤ 1000 ∧ P (txs (once x ls))
theorem gNotInLst {s : Tx} {ls : List Tx} {P : D → Prop} (h : P (.bl (!decide (s ∈ ls)))) : gNotIn (.str s) (.lst (ls.map .str)) P := by
  have e : inD (.str s) (ls.map .str) = decide (s ∈ ls) := by
    unfold inD
    rw [List.any_map]
    by_cases hs : s ∈ ls
    · rw [decide_eq_true hs, List.any_eq_true]
      exact ⟨s, hs, by simp [eqF]⟩
    · rw [decide_eq_false hs, List.any_eq_false]
      intro y hy
      simp only [Function.comp, eqF, decide_eq_true_eq]
      intro e
      exact hs (e ▸ hy)
  rw [← e] at h
  show gIn (.str s) (.lst (ls.map .str)) _
  match s with
  | [] => exact ⟨rfl, strs_flat ls, h⟩
  | [c] => exact ⟨rfl, strs_flat ls, h⟩
  | c :: d :: r => exact ⟨rfl, strs_flat ls, h⟩
theorem onceLoop (x : Tx) (t : D) (E : Dn) : ∀ (ls L : List Tx) (s3 : Sl), L.length + ls.length < sizeLine → (∀ s3, E.nx [.sh (.str x), .sh t, .ol ((ls.foldl (add1 x) L).map .str), s3]) →
    forD (fgN 3) (gIf (fAnd (fB (fOp gNe (fVar 3) (fVar 0))) (ftThaw (fB (fOp gNotIn (fVar 3) (fVar 2)))))
  (fun E ρ => (fun ρ P => olAt ρ[2]? fun ds => (fCons (fVar 3) fNil) ρ fun es => gmApp ds es fun d ds' => P d (ρ.set 2 (.ol ds'))) ρ fun _ ρ' => E.nx ρ')
  gNext) (ls.map .str) E [.sh (.str x), .sh t, .ol (L.map .str), s3]
  | [], L, s3, hz, h => h s3
  | s :: ls, L, s3, hz, h => by
    simp only [List.length_cons] at hz
    have IH := onceLoop x t E ls
    rw [List.foldl_cons] at h
    by_cases e : s = x
    · have e1 : add1 x L s = L := by unfold add1; rw [if_pos (by rw [e]; exact List.mem_cons_self)]
      rw [e1] at h
      refine iteF (b := !decide (s = x)) (by simp [e]) ?_
      exact IH L (.sh (.str s)) (by omega) h
    · refine iteT (b := !decide (s = x)) (by simp [e]) ?_
      show (gNotIn (.str s) (.lst (L.map .str)) fun d => asB d fun b' => if b' = true then _ else _)
      refine gNotInLst ?_
      by_cases hs : s ∈ L
      · have e1 : add1 x L s = L := by unfold add1; rw [if_pos (List.mem_cons_of_mem _ hs)]
        rw [e1] at h
        refine iteF (b := !decide (s ∈ L)) (by simp [hs]) ?_
        exact IH L (.sh (.str s)) (by omega) h
      · have e1 : add1 x L s = L ++ [s] := by unfold add1; rw [if_neg (by rw [List.mem_cons]; exact fun z => z.elim e hs)]
        rw [e1] at h
        refine iteT (b := !decide (s ∈ L)) (by simp [hs]) ?_
        refine ⟨by rw [List.length_map]; omega, ?_⟩
        have := IH (L ++ [s]) (.sh (.str s)) (by simp only [List.length_append, List.length_cons, List.length_nil]; omega) h
        rw [List.map_append] at this
        exact this
theorem pl_once (ds : List D) (Q : D → Prop) (h : spOnce ds Q) : G_L_once (En Q) (initR N_L_once.length ds) := by
  obtain ⟨x, ls, rfl, hl, q⟩ := h
  refine ⟨Nat.zero_le _, ?_⟩
  exact onceLoop x (txs ls) _ ls [] .no (by rw [sz]; simp only [List.length_nil]; omega) fun s3 => q
def spResultsL : GA := fun ds P => ∃ E R r x, ds = [bookD E R, ruleD r, .str x] ∧ Wf E R ∧ Wd E x ∧ RlOk r ∧ P (txs (res E r x))
def spStepsL : GA := fun ds P => ∃ E R x, ds = [bookD E R, .str x] ∧ Wf E R ∧ Wd E x ∧ P (txs (once x (R.flatMap fun r => res E r x)))
theorem stepsLoop {E : List Ent} {R : List Rl} {x : Tx} (w : Wf E R) (hx : Wd E x) (En' : Dn) : ∀ (rs : List Rl) (L : List Tx) (s3 : Sl), (∀ r ∈ rs, RlOk r) → L.length + rs.length * 100 ≤ sizeLine → (∀ s3, En'.nx [.sh (bookD E R), .sh (.str x), .ol ((L ++ rs.flatMap fun r => res E r x).map .str), s3]) →
    forD (fgN 3) (fun E ρ => (fun ρ P => olAt ρ[2]? fun ds => (fCons (fCall spResultsL 3 (fCons (fVar 0) (fCons (fVar 3) (fCons (fVar 1) fNil)))) fNil) ρ fun es => gmExt ds es fun d ds' => P d (ρ.set 2 (.ol ds'))) ρ fun _ ρ' => E.nx ρ') (rs.map ruleD) En' [.sh (bookD E R), .sh (.str x), .ol (L.map .str), s3]
  | [], L, s3, _, hz, h => by
    have := h s3
    rw [List.flatMap_nil, List.append_nil] at this
    exact this
  | r :: rs, L, s3, ok, hz, h => by
    simp only [List.length_cons, Nat.add_mul, Nat.one_mul] at hz
    have rl := res_len w hx r
    refine ⟨rfl, E, R, r, x, rfl, w, hx, ok r List.mem_cons_self, ?_⟩
    refine ⟨by rw [List.length_map, List.length_map]; omega, ?_⟩
    have := stepsLoop w hx En' rs (L ++ res E r x) (.sh (ruleD r)) (fun q hq => ok q (List.mem_cons_of_mem _ hq)) (by rw [List.length_append]; omega) (by
      intro s3
      have := h s3
      rwa [List.flatMap_cons, ← List.append_assoc] at this)
    rw [List.map_append] at this
    exact this
theorem pl_stepsL (ds : List D) (Q : D → Prop) (h : spStepsL ds Q) : G_L_steps spOnce spResultsL (En Q) (initR N_L_steps.length ds) := by
  obtain ⟨E, R, x, rfl, w, hx, q⟩ := h
  have nR := w.nR
  refine ⟨Nat.zero_le _, ?_⟩
  refine ⟨.tup (R.map ruleD), rfl, ?_⟩
  refine stepsLoop w hx _ R [] .no w.rules (by rw [sz]; simp only [List.length_nil]; omega) fun s3 => ?_
  have hf := flat_len (fun r => res E r x) 100 R fun r _ => res_len w hx r
  exact ⟨rfl, x, _, rfl, by simp only [List.nil_append]; omega, q⟩
end K16
namespace K16
open PySem PySem.Spec PyProof.Rows L2 DL
theorem pairs_of : ∀ E : List Ent, pairsOf (E.map entD) = some (E.map fun e => ((.inr e.1 : DK), D.tup (e.2.map .str)))
  | [] => rfl
  | e :: E => by
    rw [List.map_cons, List.map_cons]
    show ((keyD (.str e.1)).bind fun k => (pairsOf (E.map entD)).map ((k, D.tup (e.2.map .str)) :: ·)) = _
    rw [pairs_of E]
    rfl
theorem lowerLoop {E : List Ent} {R : List Rl} {x : Tx} (w : Wf E R) (hx : Wd E x) (l : Bool) (s3 s6 : Sl) (En' : Dn) : ∀ (ks : List Nat) (L : List Tx) (s7 : Sl), (∀ k ∈ ks, k < x.length) → L.length + ks.length * 9 ≤ sizeLine →
    (∀ s7, En'.nx [.sh (bookD E R), .sh (ruleD (.lower l)), .sh (.str x), s3, .ol ((L ++ ks.flatMap fun k => (lessOf E ((x.drop k).take 1)).map fun s => x.take k ++ s ++ x.drop (k + 1)).map .str), .sh (dicD E), s6, s7, .no]) →
    forD (fgN 7) (gIf (fB (fOp gEq (fOp gIx (fVar 1) (fC (.int 0))) (fC (.str (T "lower")))))
  (fun E ρ => (fun ρ P => olAt ρ[4]? fun ds => (fCons (fun ρ P => fLc (fSeq (fOp gIx (fVar 5) (fOp gIx (fVar 2) (fVar 7)))) (fgN 8) fYes (fOp gAdd (fOp gAdd (fSl (fVar 2) foN (foS (fVar 7))) (fVar 8)) (fSl (fVar 2) (foS (fOp gAdd (fVar 7) (fC (.int 1)))) foN)) [8] ρ fun es => P (.lst es)) fNil) ρ fun es => gmExt ds es fun d ds' => P d (ρ.set 4 (.ol ds'))) ρ fun _ ρ' => E.nx ρ')
  (gIf (fB (fOp gEq (fOp gIx (fVar 2) (fVar 7)) (fOp gIx (fVar 1) (fC (.int 1)))))
  (fun E ρ => (fun ρ P => olAt ρ[4]? fun ds => (fCons (fOp gAdd (fOp gAdd (fSl (fVar 2) foN (foS (fVar 7))) (fOp gIx (fVar 1) (fC (.int 2)))) (fSl (fVar 2) (foS (fOp gAdd (fVar 7) (fC (.int 1)))) foN)) fNil) ρ fun es => gmApp ds es fun d ds' => P d (ρ.set 4 (.ol ds'))) ρ fun _ ρ' => E.nx ρ')
  gNext)) (natsD ks) En' [.sh (bookD E R), .sh (ruleD (.lower l)), .sh (.str x), s3, .ol (L.map .str), .sh (dicD E), s6, s7, .no]
  | [], L, s7, _, hz, h => by
    have := h s7
    rw [List.flatMap_nil, List.append_nil] at this
    exact this
  | k :: ks, L, s7, hk, hz, h => by
    simp only [List.length_cons, Nat.add_mul, Nat.one_mul] at hz
    have hl := hx.len
    have hkl := hk k List.mem_cons_self
    have hc : x[k]? = some x[k] := List.getElem?_eq_getElem hkl
    have hcE := hx.lt _ (List.getElem_mem hkl)
    obtain ⟨g1, g2, g3⟩ := less_get w hcE
    have ed := drop_take1 hc
    refine ⟨.str (T "lower"), rfl, rfl, x[k], (atI_nat x k hkl).trans hc, .inr [x[k]], .tup ((lessOf E [x[k]]).map .str), rfl, g1, ?_⟩
    refine blkMap (fun d => match d with | .str s => .str (x.take k ++ s ++ x.drop (k + 1)) | _ => .non) (fun d hd R2 r2 => ?_) (by rw [List.length_map]; omega) ?_
    · obtain ⟨s, hs, rfl⟩ := List.mem_map.mp hd
      obtain ⟨y, hy, _⟩ := g3 s hs
      subst hy
      refine ⟨rfl, rfl, ?_⟩
      show (cutL x none (some (k : Int))).length + [y].length ≤ sizeLine ∧ (cutL x none (some (k : Int)) ++ [y]).length + (cutL x (some ((k : Int) + 1)) none).length ≤ sizeLine ∧ R2 (.str (cutL x none (some (k : Int)) ++ [y] ++ cutL x (some ((k : Int) + 1)) none))
      rw [show (k : Int) + 1 = ((k + 1 : Nat) : Int) by omega, cut_take, cut_drop]
      exact ⟨by simp only [List.length_take, List.length_cons, List.length_nil]; rw [sz]; omega, by simp only [List.length_append, List.length_take, List.length_drop, List.length_cons, List.length_nil]; rw [sz]; omega, r2⟩
    · refine ⟨by simp only [List.length_map]; omega, ?_⟩
      have := lowerLoop w hx l s3 s6 En' ks (L ++ (lessOf E [x[k]]).map fun s => x.take k ++ s ++ x.drop (k + 1)) (.sh (.int k)) (fun j hj => hk j (List.mem_cons_of_mem _ hj)) (by rw [List.length_append, List.length_map]; omega) (by
        intro s7
        have := h s7
        rwa [List.flatMap_cons, ed, ← List.append_assoc] at this)
      rw [List.map_append, List.map_map] at this
      have e3 : ((lessOf E [x[k]]).map D.str).map (fun d => match d with | .str s => .str (x.take k ++ s ++ x.drop (k + 1)) | _ => .non) = (lessOf E [x[k]]).map (D.str ∘ fun s => x.take k ++ s ++ x.drop (k + 1)) := by rw [List.map_map]; rfl
      rw [← e3] at this
      exact this
theorem putLoop {E : List Ent} {R : List Rl} {x a b : Tx} (hl : x.length ≤ 9) (hb : b.length ≤ 9) (l : Bool) (s3 s5 s6 : Sl) (En' : Dn) : ∀ (ks : List Nat) (L : List Tx) (s7 : Sl), (∀ k ∈ ks, k < x.length) → L.length + ks.length ≤ sizeLine →
    (∀ s7, En'.nx [.sh (bookD E R), .sh (ruleD (.put a b l)), .sh (.str x), s3, .ol ((L ++ ks.filterMap fun k => if (x.drop k).take 1 = a then some (x.take k ++ b ++ x.drop (k + 1)) else none).map .str), s5, s6, s7, .no]) →
    forD (fgN 7) (gIf (fB (fOp gEq (fOp gIx (fVar 1) (fC (.int 0))) (fC (.str (T "lower")))))
  (fun E ρ => (fun ρ P => olAt ρ[4]? fun ds => (fCons (fun ρ P => fLc (fSeq (fOp gIx (fVar 5) (fOp gIx (fVar 2) (fVar 7)))) (fgN 8) fYes (fOp gAdd (fOp gAdd (fSl (fVar 2) foN (foS (fVar 7))) (fVar 8)) (fSl (fVar 2) (foS (fOp gAdd (fVar 7) (fC (.int 1)))) foN)) [8] ρ fun es => P (.lst es)) fNil) ρ fun es => gmExt ds es fun d ds' => P d (ρ.set 4 (.ol ds'))) ρ fun _ ρ' => E.nx ρ')
  (gIf (fB (fOp gEq (fOp gIx (fVar 2) (fVar 7)) (fOp gIx (fVar 1) (fC (.int 1)))))
  (fun E ρ => (fun ρ P => olAt ρ[4]? fun ds => (fCons (fOp gAdd (fOp gAdd (fSl (fVar 2) foN (foS (fVar 7))) (fOp gIx (fVar 1) (fC (.int 2)))) (fSl (fVar 2) (foS (fOp gAdd (fVar 7) (fC (.int 1)))) foN)) fNil) ρ fun es => gmApp ds es fun d ds' => P d (ρ.set 4 (.ol ds'))) ρ fun _ ρ' => E.nx ρ')
  gNext)) (natsD ks) En' [.sh (bookD E R), .sh (ruleD (.put a b l)), .sh (.str x), s3, .ol (L.map .str), s5, s6, s7, .no]
  | [], L, s7, _, hz, h => by
    have := h s7
    rw [List.filterMap_nil, List.append_nil] at this
    exact this
  | k :: ks, L, s7, hk, hz, h => by
    simp only [List.length_cons] at hz
    have hkl := hk k List.mem_cons_self
    have hc : x[k]? = some x[k] := List.getElem?_eq_getElem hkl
    have ed := drop_take1 hc
    have IH := putLoop (E := E) (R := R) (a := a) hl hb l s3 s5 s6 En' ks
    refine ⟨.str (T "put"), rfl, x[k], (atI_nat x k hkl).trans hc, .str a, rfl, ?_⟩
    by_cases e : [x[k]] = a
    · refine iteT (b := decide ([x[k]] = a)) (decide_eq_true e) ?_
      refine ⟨.str b, rfl, ?_⟩
      have IH2 := IH (L ++ [x.take k ++ b ++ x.drop (k + 1)]) (.sh (.int k)) (fun j hj => hk j (List.mem_cons_of_mem _ hj)) (by simp only [List.length_append, List.length_cons, List.length_nil]; omega) (by
        intro s7
        have := h s7
        rwa [List.filterMap_cons_some (b := x.take k ++ b ++ x.drop (k + 1)) (by rw [ed, if_pos e]), List.append_cons] at this)
      rw [List.map_append] at IH2
      have e1 : cutL x none (some (k : Int)) = x.take k := cut_take x k
      have e2 : cutL x (some ((k : Int) + 1)) none = x.drop (k + 1) := cut_drop x (k + 1)
      have fin : (cutL x none (some (k : Int))).length + b.length ≤ sizeLine ∧ (cutL x none (some (k : Int)) ++ b).length + (cutL x (some ((k : Int) + 1)) none).length ≤ sizeLine ∧ (L.map D.str).length < sizeLine := by
        rw [e1, e2]
        exact ⟨by simp only [List.length_take]; rw [sz]; omega, by simp only [List.length_append, List.length_take, List.length_drop]; rw [sz]; omega, by rw [List.length_map]; omega⟩
      refine ⟨fin.1, fin.2.1, fin.2.2, ?_⟩
      rw [← e1, ← e2] at IH2
      exact IH2
    · refine iteF (b := decide ([x[k]] = a)) (decide_eq_false e) ?_
      exact IH L (.sh (.int k)) (fun j hj => hk j (List.mem_cons_of_mem _ hj)) (by omega) (by
        intro s7
        have := h s7
        rwa [List.filterMap_cons_none (by rw [ed, if_neg e])] at this)
end K16
namespace K16
open PySem PySem.Spec PyProof.Rows L2 DL
theorem natsD_rev (m : Nat) : (rngD 0 1 ((m : Int).toNat)).reverse = natsD (places m false) := by
  rw [rngD_up]
  unfold natsD
  rw [← List.map_reverse]; rfl
theorem pl_resultsL (ds : List D) (Q : D → Prop) (h : spResultsL ds Q) : G_L_results (En Q) (initR N_L_results.length ds) := by
  obtain ⟨E, R, r, x, rfl, w, hx, ok, q⟩ := h
  have hl := hx.len
  refine ⟨x.length, rfl, (fun _ _ z => by cases z), Nat.zero_le _, ?_⟩
  cases r with
  | empty => exact ⟨.str (T "empty"), rfl, one_le, q⟩
  | half l =>
    refine ⟨.str (T "half"), rfl, .str (T "half"), rfl, side l, rfl, ?_⟩
    have e0 : ((x.length : Nat) : Int) / 2 = ((x.length / 2 : Nat) : Int) := by omega
    cases l with
    | true =>
      refine ⟨⟨by decide, by decide⟩, one_le, ?_⟩
      show Q (.lst [.str (cutL x none (some (((x.length : Nat) : Int) / 2)))])
      rw [e0, cut_take]
      exact q
    | false =>
      refine ⟨⟨by decide, by decide⟩, trivial, one_le, ?_⟩
      show Q (.lst [.str (cutL x (some (((x.length : Nat) : Int) - ((x.length : Nat) : Int) / 2)) none)])
      rw [e0, show ((x.length : Nat) : Int) - ((x.length / 2 : Nat) : Int) = ((x.length - x.length / 2 : Nat) : Int) by omega, cut_drop]
      exact q
  | drop n l =>
    refine ⟨.str (T "drop"), rfl, .str (T "drop"), rfl, .str (T "drop"), rfl, ?_⟩
    refine ⟨rfl, .int n, rfl, trivial, ?_⟩
    have e1 : ((x.length : Int) - (n : Int) + 1).toNat = x.length + 1 - n := by omega
    have on := ok.2
    refine ⟨by omega, by omega, ?_⟩
    have eR : rngD 0 1 ((x.length : Int) - (n : Int) + 1).toNat = natsD (List.range (x.length + 1 - n)) := by
      rw [e1]
      have := rngD_up (x.length + 1 - n)
      rwa [Int.toNat_natCast] at this
    rw [eR]
    refine blkMap (fun d => match d with | .int k => .str (x.take k.toNat ++ x.drop (k.toNat + n)) | _ => .non) (fun d hd R r => ?_) (by unfold natsD; rw [List.length_map, List.length_range, sz]; omega) ?_
    · obtain ⟨k, hk, rfl⟩ := natsD_mem hd
      have e1 := cut_take x k
      have e2 := cut_drop x (k + n)
      refine ⟨rfl, rfl, .int n, rfl, ?_⟩
      show (cutL x none (some (k : Int))).length + (cutL x (some ((k : Int) + (n : Int))) none).length ≤ sizeLine ∧ R (.str (cutL x none (some (k : Int)) ++ cutL x (some ((k : Int) + (n : Int))) none))
      rw [show (k : Int) + (n : Int) = ((k + n : Nat) : Int) by omega, e1, e2]
      exact ⟨by simp only [List.length_take, List.length_drop]; rw [sz]; omega, r⟩
    · have e2 : (natsD (List.range (x.length + 1 - n))).map (fun d => match d with | .int k => D.str (x.take k.toNat ++ x.drop (k.toNat + n)) | _ => .non) = ((List.range (x.length + 1 - n)).map fun k => x.take k ++ x.drop (k + n)).map D.str := by
        unfold natsD
        rw [List.map_map, List.map_map]; rfl
      rw [e2]
      refine ⟨side l, rfl, ?_⟩
      cases l with
      | true => exact q
      | false =>
        show Q (.lst (((List.range (x.length + 1 - n)).map fun k => x.take k ++ x.drop (k + n)).map D.str).reverse)
        rw [← List.map_reverse, ← List.map_reverse]
        exact q
  | lower l =>
    refine ⟨.str (T "lower"), rfl, .str (T "lower"), rfl, .str (T "lower"), rfl, ?_⟩
    refine ⟨.tup (E.map entD), rfl, _, pairs_of E, RgOk.of_le (by omega) (by omega) (by omega) (by omega), ?_⟩
    refine ⟨side l, rfl, ?_⟩
    cases l with
    | true =>
      show forD _ _ (rngD 0 1 ((x.length : Int).toNat)) _ _
      rw [rngD_up]
      refine lowerLoop w hx true _ _ _ (List.range x.length) [] .no (fun k hk => List.mem_range.mp hk) (by rw [sz, List.length_range]; simp only [List.length_nil]; omega) fun s7 => ?_
      exact q
    | false =>
      show forD _ _ (rngD 0 1 ((x.length : Int).toNat)).reverse _ _
      rw [natsD_rev]
      refine lowerLoop w hx false _ _ _ (places x.length false) [] .no (fun k hk => places_lt hk) (by rw [sz, places_len]; simp only [List.length_nil]; omega) fun s7 => ?_
      exact q
  | put a b l =>
    refine ⟨.str (T "put"), rfl, .str (T "put"), rfl, .str (T "put"), rfl, ?_⟩
    refine ⟨.tup (E.map entD), rfl, _, pairs_of E, RgOk.of_le (by omega) (by omega) (by omega) (by omega), ?_⟩
    refine ⟨side l, rfl, ?_⟩
    cases l with
    | true =>
      show forD _ _ (rngD 0 1 ((x.length : Int).toNat)) _ _
      rw [rngD_up]
      refine putLoop hl ok.2.1 true _ _ _ _ (List.range x.length) [] .no (fun k hk => List.mem_range.mp hk) (by rw [sz, List.length_range]; simp only [List.length_nil]; omega) fun s7 => ?_
      exact q
    | false =>
      show forD _ _ (rngD 0 1 ((x.length : Int).toNat)).reverse _ _
      rw [natsD_rev]
      refine putLoop hl ok.2.1 false _ _ _ _ (places x.length false) [] .no (fun k hk => places_lt hk) (by rw [sz, places_len]; simp only [List.length_nil]; omega) fun s7 => ?_
      exact q
end K16
namespace K16
open PySem PySem.Spec PyProof.Rows L2 DL
/-! ### the draws -/
def spDip : GA := fun ds P => ∃ n : Int, ds = [.int n] ∧ 0 < n ∧ n < 1073741824 ∧ ∀ r : Int, 0 ≤ r → r < n → P (.int r)
theorem okE_ints (ns : List Int) : okE (.lst (ns.map .int)) = true := by
  show PyData.canLayAll0 (toPyAll (ns.map .int)) = true
  induction ns with
  | nil => rfl
  | cons n ns ih => exact ih
theorem gNe_nil {ns : List Int} {P : D → Prop} (p : P (.bl (!ns.isEmpty))) : gNe (.lst (ns.map .int)) (.lst []) P := by
  refine ⟨okE_ints ns, rfl, Nat.le_trans (Nat.min_le_right _ _) (by show 1 ≤ 64; decide), ?_⟩
  have e : eqD (.lst (ns.map .int)) (.lst []) = ns.isEmpty := by
    cases ns with
    | nil => show PyData.eqv (.list []) (.list []) = true; simp [PyData.eqv, PyData.eqvAll]
    | cons n ns => show PyData.eqv (.list (.int n :: toPyAll (ns.map .int))) (.list []) = false; simp [PyData.eqv, PyData.eqvAll]
  show P (.bl (!eqD (.lst (ns.map .int)) (.lst [])))
  rw [e]
  exact p
abbrev dk4 : List DK := [.inr (T "cells"), .inr (T "place"), .inr (T "rest"), .inr (T "count")]
def td (cells : List Int) (place rest count : Int) : D := .dic dk4 [.lst (cells.map .int), .int place, .int rest, .int count]
theorem mod_ok {r n : Int} (h : 0 < n) : 0 ≤ r % n ∧ r % n < n := ⟨Int.emod_nonneg _ (by omega), Int.emod_lt_of_pos _ h⟩
def dipTail : FS := (gSeq (gIf (fAnd (fB (fOp gGe (fVar 5) (fOp gPow (fC (.int 10)) (fC (.int 18))))) (fB (fOp gLt (fVar 4) (fCallB gLenS (fCons (fOwnIx 0 (fC (.str (T "cells")))) fNil)))))
  (gSeq (gOtD 0 (fC (.str (T "rest"))) (fOp gFdiv (fVar 5) (fVar 1)))
  (gRet (fOp gMod (fCallB gInt (fCons (fVar 5) fNil)) (fVar 1))))
  gNext)
  (gSeq (gAsg (fOp gMod (fCallB gInt (fCons (fOp gPow (fOp gAdd (fOp gAdd (fOp gMod (fCallB gInt (fCons (fVar 5) fNil)) (fC (.int 2147483353))) (fOp gMul (fC (.int 6007)) (fVar 2))) (fC (.int 211))) (fC (.int 3))) fNil)) (fC (.int 2147483647))) (fgN 6))
  (gSeq (gAsg (fOp gMod (fCallB gInt (fCons (fOp gPow (fOp gAdd (fVar 6) (fOp gMul (fC (.int 40009)) (fVar 2))) (fC (.int 5))) fNil)) (fC (.int 2147483587))) (fgN 6))
  (gRet (fOp gMod (fCallB gInt (fCons (fOp gFdiv (fVar 6) (fC (.int 128))) fNil)) (fVar 1))))))
theorem dip_tail {t : Addr} {m : Nat} {Q : D → Prop} {n : Int} (cells : List Int) (place rest count cell turn : Int) (s3 s6 : Sl) (hm : m ≤ LIM) (h1 : 0 < n) (h2 : n < 1073741824) (hp : 0 ≤ place) (hr : 0 ≤ rest) (hc : 0 ≤ count) (hcm : count ≤ m) (q : ∀ r : Int, 0 ≤ r → r < n → Q (.int r)) :
    dipTail (EnO t m Q) [.ot t (td cells place rest count), .sh (.int n), .sh (.int count), s3, .sh (.int turn), .sh (.int cell), s6] := by
  unfold LIM at hm
  refine ⟨⟨by decide, by decide, by decide⟩, ?_⟩
  have cont : gSeq (gAsg (fOp gMod (fCallB gInt (fCons (fOp gPow (fOp gAdd (fOp gAdd (fOp gMod (fCallB gInt (fCons (fVar 5) fNil)) (fC (.int 2147483353))) (fOp gMul (fC (.int 6007)) (fVar 2))) (fC (.int 211))) (fC (.int 3))) fNil)) (fC (.int 2147483647))) (fgN 6))
      (gSeq (gAsg (fOp gMod (fCallB gInt (fCons (fOp gPow (fOp gAdd (fVar 6) (fOp gMul (fC (.int 40009)) (fVar 2))) (fC (.int 5))) fNil)) (fC (.int 2147483587))) (fgN 6))
      (gRet (fOp gMod (fCallB gInt (fCons (fOp gFdiv (fVar 6) (fC (.int 128))) fNil)) (fVar 1)))) (EnO t m Q) [.ot t (td cells place rest count), .sh (.int n), .sh (.int count), s3, .sh (.int turn), .sh (.int cell), s6] := by
    have c1 := mod_ok (r := cell) (n := 2147483353) (by decide)
    refine ⟨(show (0 : Int) < 2147483353 by decide), .inl ⟨by decide, by decide⟩, ⟨by decide, by decide, ?_⟩, (show (0 : Int) < 2147483647 by decide), ?_⟩
    · show (cell % 2147483353 + 6007 * count + 211).natAbs < 2 ^ 64
      omega
    · have c2 := mod_ok (r := (cell % 2147483353 + 6007 * count + 211) ^ 3) (n := 2147483647) (by decide)
      refine ⟨.inl ⟨by decide, by decide⟩, ⟨by decide, by decide, ?_⟩, (show (0 : Int) < 2147483587 by decide), ?_⟩
      · show ((cell % 2147483353 + 6007 * count + 211) ^ 3 % 2147483647 + 40009 * count).natAbs < 2 ^ 64
        omega
      · refine ⟨⟨by decide, by decide⟩, h1, ?_⟩
        have c3 := mod_ok (r := ((((cell % 2147483353 + 6007 * count + 211) ^ 3 % 2147483647 + 40009 * count) ^ 5 % 2147483587) / 128)) (n := n) h1
        exact ⟨rfl, ⟨_, rfl, cells, place, rest, count, rfl, hp, hr, hc, hcm⟩, q _ c3.1 c3.2⟩
  by_cases b1 : (10 : Int) ^ 18 ≤ cell
  · refine iteT (b := decide ((10 : Int) ^ 18 ≤ cell)) (decide_eq_true b1) ?_
    refine ⟨.inr (T "cells"), .lst (cells.map .int), rfl, rfl, (cells.map D.int).length, rfl, (fun _ _ z => by cases z), ?_⟩
    by_cases b2 : turn < ((cells.map D.int).length : Nat)
    · refine iteT (b := decide (turn < ((cells.map D.int).length : Nat))) (decide_eq_true b2) ?_
      refine ⟨⟨h1, h2⟩, .inr (T "rest"), rfl, by rw [sz]; decide, h1, ?_⟩
      have c3 := mod_ok (r := cell) (n := n) h1
      have c4 : 0 ≤ cell / n := Int.ediv_nonneg (by omega) (by omega)
      exact ⟨rfl, ⟨_, rfl, cells, place, cell / n, count, rfl, hp, c4, hc, hcm⟩, q _ c3.1 c3.2⟩
    · exact iteF (b := decide (turn < ((cells.map D.int).length : Nat))) (decide_eq_false b2) cont
  · exact iteF (b := decide ((10 : Int) ^ 18 ≤ cell)) (decide_eq_false b1) cont
theorem pl_dip (t : Addr) (m : Nat) (d : D) (ds : List D) (Q : D → Prop) (hl : ds.length + 1 = 2) (hm : m + 1 ≤ LIM) (hd : TapeD.TD m d) (h : spDip ds Q) : G_L_dip (EnO t (m + 1) Q) (initO N_L_dip.length t d ds) := by
  obtain ⟨n, rfl, h1, h2, q⟩ := h
  obtain ⟨cells, place, rest, count, rfl, hp, hr, hc, hcm⟩ := hd
  refine ⟨.inr (T "count"), .int count, rfl, rfl, .inr (T "count"), rfl, by rw [sz]; decide, ?_⟩
  refine ⟨.inr (T "rest"), .int rest, rfl, rfl, ?_⟩
  by_cases b1 : 0 < rest
  · refine iteT (b := decide (0 < rest)) (decide_eq_true b1) ?_
    have c3 := mod_ok (r := rest) (n := n) h1
    have c4 : 0 ≤ rest / n := Int.ediv_nonneg (by omega) (by omega)
    refine ⟨.inr (T "rest"), .int rest, rfl, rfl, h1, .inr (T "rest"), .int rest, rfl, rfl, ⟨h1, h2⟩, .inr (T "rest"), rfl, by rw [sz]; decide, ?_⟩
    exact ⟨rfl, ⟨_, rfl, cells, place, rest / n, count + 1, rfl, hp, c4, by omega, by omega⟩, q _ c3.1 c3.2⟩
  · refine iteF (b := decide (0 < rest)) (decide_eq_false b1) ?_
    refine ⟨.inr (T "place"), .int place, rfl, rfl, .inr (T "place"), rfl, by rw [sz]; decide, ?_⟩
    refine ⟨.inr (T "cells"), .lst (cells.map .int), rfl, rfl, Nat.zero_le _, ?_⟩
    refine gNe_nil ?_
    by_cases b2 : cells.isEmpty = true
    · refine iteF (b := !cells.isEmpty) (by rw [b2]; rfl) ?_
      exact dip_tail cells (place + 1) rest (count + 1) 77317 place _ _ hm h1 h2 (by omega) hr (by omega) (by omega) q
    · refine iteT (b := !cells.isEmpty) (by simpa using b2) ?_
      have hne : 0 < cells.length := List.length_pos_iff.mpr (by simpa using b2)
      have hz : (cells.map D.int).length = cells.length := List.length_map _
      have c5 := mod_ok (r := place) (n := (((cells.map D.int).length : Nat) : Int)) (by omega)
      obtain ⟨j, hj⟩ : ∃ j : Nat, place % (((cells.map D.int).length : Nat) : Int) = (j : Int) := ⟨(place % (((cells.map D.int).length : Nat) : Int)).toNat, by omega⟩
      have hjl : j < cells.length := by omega
      have hg : atI (cells.map D.int) (place % (((cells.map D.int).length : Nat) : Int)) = some (.int cells[j]) := by
        rw [hj, atI_nat _ _ (by omega), List.getElem?_map, List.getElem?_eq_getElem hjl]; rfl
      refine ⟨.inr (T "cells"), .lst (cells.map .int), rfl, rfl, .inr (T "cells"), .lst (cells.map .int), rfl, rfl, (cells.map D.int).length, rfl, (fun _ _ z => by cases z), by omega, .int cells[j], hg, ?_⟩
      exact dip_tail cells (place + 1) rest (count + 1) cells[j] place _ _ hm h1 h2 (by omega) hr (by omega) (by omega) q
/-- the object is made -/
theorem pl_spring (ns : List Int) : F_L_spring (initR N_L_spring.length [.scr ns]) fun s => ∃ d, slD s = some d ∧ TapeD.TD 0 d := by
  have e : cutL (ns.map D.int) none (some 60) = (ns.take 60).map D.int := by
    have := cut_take (ns.map D.int) 60
    rw [List.map_take]
    exact this
  refine ⟨_, rfl, by show 4 ≤ 15; decide, _, rfl, ns.take 60, 0, 0, 0, ?_, by decide, by decide, by decide, by decide⟩
  rw [← e]
  rfl
end K16
namespace K16
open PySem PySem.Spec PyProof.Rows L2 DL
instance (c : Nat) : Decidable (low c) := by unfold low; infer_instance
/-! ### what is drawn -/
def spPick : GA := fun ds P => ∃ l : List D, ds = [.lst l] ∧ 0 < l.length ∧ l.length ≤ 1000 ∧ ∀ d ∈ l, P d
theorem pl_pick (t : Addr) (m : Nat) (ds : List D) (Q : D → Prop) (hl : ds.length + 1 = 2) (hm : m + 1 ≤ LIM) (h : spPick ds Q) : G_L_pick spDip 1 (EnT t (m + 1) Q) (initT N_L_pick.length t m ds) := by
  obtain ⟨l, rfl, h0, h1, q⟩ := h
  refine ⟨l.length, rfl, (fun _ _ z => by cases z), rfl, hm, (l.length : Nat), rfl, by omega, by omega, fun r r0 r1 => ?_⟩
  obtain ⟨j, rfl⟩ : ∃ j : Nat, r = (j : Int) := ⟨r.toNat, by omega⟩
  have hj : j < l.length := by omega
  refine ⟨l[j], (atI_nat l j hj).trans (List.getElem?_eq_getElem hj), ⟨m + 1, rfl, Nat.le_refl _⟩, q _ (List.getElem_mem hj)⟩
def nmD (c0 c1 c2 c3 : Nat) : D := .dic [.inr (T "a"), .inr (T "b"), .inr (T "c"), .inr (T "d")] [.str [c0], .str [c1], .str [c2], .str [c3]]
structure Lows (c0 c1 c2 c3 : Nat) : Prop where
  l0 : low c0
  l1 : low c1
  l2 : low c2
  l3 : low c3
def spNames : GA := fun ds P => ds = [] ∧ ∀ c0 c1 c2 c3, Lows c0 c1 c2 c3 → P (nmD c0 c1 c2 c3)
theorem pl_names (t : Addr) (m : Nat) (ds : List D) (Q : D → Prop) (hl : ds.length + 1 = 1) (hm : m + 1 ≤ LIM) (h : spNames ds Q) : G_L_names spPick 1 (EnT t (m + 1) Q) (initT N_L_names.length t m ds) := by
  obtain ⟨rfl, q⟩ := h
  refine ⟨(show 5 ≤ sizeLine by rw [sz]; decide), rfl, hm, _, rfl, (show 0 < 5 by decide), (show 5 ≤ 1000 by decide), fun d hd => ?_⟩
  have main : ∀ c0 c1 c2 c3 : Nat, Lows c0 c1 c2 c3 → d = .str [c0, c1, c2, c3] → (gRet (fun ρ P => (fDisp [((fC (.str (T "a"))), (fOp gIx (fVar 2) (fC (.int 0)))), ((fC (.str (T "b"))), (fOp gIx (fVar 2) (fC (.int 1)))), ((fC (.str (T "c"))), (fOp gIx (fVar 2) (fC (.int 2)))), ((fC (.str (T "d"))), (fOp gIx (fVar 2) (fC (.int 3))))]) ρ fun s => shP s P)) (EnT t (m + 1) Q) [.tk t (m + 1), .sh (.lst [.str (T "abcd"), .str (T "bxyz"), .str (T "pqrs"), .str (T "dacb"), .str (T "zyxw")]), .sh d] := by
    intro c0 c1 c2 c3 lw e
    subst e
    exact ⟨c0, rfl, c1, rfl, c2, rfl, c3, rfl, _, rfl, (show 4 ≤ 15 by decide), ⟨m + 1, rfl, Nat.le_refl _⟩, q c0 c1 c2 c3 lw⟩
  simp only [List.mem_cons, List.not_mem_nil, or_false] at hd
  rcases hd with rfl | rfl | rfl | rfl | rfl
  · exact main 97 98 99 100 ⟨by decide, by decide, by decide, by decide⟩ (by rw [show T "abcd" = [97, 98, 99, 100] by decide +kernel])
  · exact main 98 120 121 122 ⟨by decide, by decide, by decide, by decide⟩ (by rw [show T "bxyz" = [98, 120, 121, 122] by decide +kernel])
  · exact main 112 113 114 115 ⟨by decide, by decide, by decide, by decide⟩ (by rw [show T "pqrs" = [112, 113, 114, 115] by decide +kernel])
  · exact main 100 97 99 98 ⟨by decide, by decide, by decide, by decide⟩ (by rw [show T "dacb" = [100, 97, 99, 98] by decide +kernel])
  · exact main 122 121 120 119 ⟨by decide, by decide, by decide, by decide⟩ (by rw [show T "zyxw" = [122, 121, 120, 119] by decide +kernel])
/-! ### signs, words, texts -/
def ab (c : Nat) : Bool := decide (97 ≤ c) && decide (c ≤ 100)
def nmOf (c0 c1 c2 c3 : Nat) (a : Nat) : Nat := if a = 97 then c0 else if a = 98 then c1 else if a = 99 then c2 else c3
theorem nm_low {c0 c1 c2 c3 a : Nat} (l : Lows c0 c1 c2 c3) : low (nmOf c0 c1 c2 c3 a) := by
  unfold nmOf
  split
  · exact l.l0
  · split
    · exact l.l1
    · split
      · exact l.l2
      · exact l.l3
theorem nm_get (c0 c1 c2 c3 : Nat) {a : Nat} (h : ab a = true) : getK [.inr (T "a"), .inr (T "b"), .inr (T "c"), .inr (T "d")] [.str [c0], .str [c1], .str [c2], .str [c3]] (.inr [a]) = some (.str [nmOf c0 c1 c2 c3 a]) := by
  rw [show T "a" = [97] by decide +kernel, show T "b" = [98] by decide +kernel, show T "c" = [99] by decide +kernel, show T "d" = [100] by decide +kernel]
  unfold ab at h
  rw [Bool.and_eq_true, decide_eq_true_eq, decide_eq_true_eq] at h
  have : a = 97 ∨ a = 98 ∨ a = 99 ∨ a = 100 := by omega
  rcases this with rfl | rfl | rfl | rfl <;> rfl
/-- a rule's sign -/
def sgOk : Tx → Bool
  | [100, c, _] => decide (49 ≤ c) && decide (c ≤ 52)
  | [101] => true
  | [104, _] => true
  | [108, _] => true
  | 112 :: a :: 58 :: r => ab a && decide (2 ≤ r.length) && decide (r.length ≤ 9) && (r.take (r.length - 2)).all ab
  | _ => false
def plainT (s : Tx) : Bool := s.all fun c => decide (c ≠ 32) && decide (c ≠ 59) && decide (c < 1000)
def wdOk : Tx → Bool
  | [a] => ab a
  | a :: 62 :: r => ab a && r.all ab && decide (r.length ≤ 9)
  | _ => false
def TextOk (z : Tx) : Prop := ∃ ws sgs : List Tx, z = TL.joinL [32] ws ++ 59 :: TL.joinL [32] sgs ∧ (ws.all fun w => wdOk w && plainT w) = true ∧ (sgs.all fun s => sgOk s && plainT s) = true ∧ ws.length ≤ 9 ∧ sgs.length ≤ 9
def scenes : List Tx := [T "a b>a c;d1l ll", T "a b>a c;d1r ll", T "a b c;hl d1l", T "a b>a c;hl pb:a.l", T "a b c;d1l", T "a b;e d1l", T "a b;d2l d1r", T "a b c;pa:.l pb:.l pc:.r", T "a b;pa:bb.l d1l", T "a b>a;lr d1r hl", T "a b>a c>ab;lr d1l", T "a b>a c;pc:.l lr d2l", T "a b c d;hl hr d1l", T "a b>a;pb:aa.l ll e", T "a;d3r hl d1l", T ";", T "a b>a c;", T "a b;pa:b.l pa:.r", T "a b>a c>b;hr lr d1r e"]
theorem scenes_ok : ∀ z ∈ scenes, TextOk z := by
  intro z hz
  simp only [scenes, List.mem_cons, List.not_mem_nil, or_false] at hz
  rcases hz with rfl | rfl | rfl | rfl | rfl | rfl | rfl | rfl | rfl | rfl | rfl | rfl | rfl | rfl | rfl | rfl | rfl | rfl | rfl
  · exact ⟨[T "a", T "b>a", T "c"], [T "d1l", T "ll"], by decide +kernel, by decide +kernel, by decide +kernel, by decide, by decide⟩
  · exact ⟨[T "a", T "b>a", T "c"], [T "d1r", T "ll"], by decide +kernel, by decide +kernel, by decide +kernel, by decide, by decide⟩
  · exact ⟨[T "a", T "b", T "c"], [T "hl", T "d1l"], by decide +kernel, by decide +kernel, by decide +kernel, by decide, by decide⟩
  · exact ⟨[T "a", T "b>a", T "c"], [T "hl", T "pb:a.l"], by decide +kernel, by decide +kernel, by decide +kernel, by decide, by decide⟩
  · exact ⟨[T "a", T "b", T "c"], [T "d1l"], by decide +kernel, by decide +kernel, by decide +kernel, by decide, by decide⟩
  · exact ⟨[T "a", T "b"], [T "e", T "d1l"], by decide +kernel, by decide +kernel, by decide +kernel, by decide, by decide⟩
  · exact ⟨[T "a", T "b"], [T "d2l", T "d1r"], by decide +kernel, by decide +kernel, by decide +kernel, by decide, by decide⟩
  · exact ⟨[T "a", T "b", T "c"], [T "pa:.l", T "pb:.l", T "pc:.r"], by decide +kernel, by decide +kernel, by decide +kernel, by decide, by decide⟩
  · exact ⟨[T "a", T "b"], [T "pa:bb.l", T "d1l"], by decide +kernel, by decide +kernel, by decide +kernel, by decide, by decide⟩
  · exact ⟨[T "a", T "b>a"], [T "lr", T "d1r", T "hl"], by decide +kernel, by decide +kernel, by decide +kernel, by decide, by decide⟩
  · exact ⟨[T "a", T "b>a", T "c>ab"], [T "lr", T "d1l"], by decide +kernel, by decide +kernel, by decide +kernel, by decide, by decide⟩
  · exact ⟨[T "a", T "b>a", T "c"], [T "pc:.l", T "lr", T "d2l"], by decide +kernel, by decide +kernel, by decide +kernel, by decide, by decide⟩
  · exact ⟨[T "a", T "b", T "c", T "d"], [T "hl", T "hr", T "d1l"], by decide +kernel, by decide +kernel, by decide +kernel, by decide, by decide⟩
  · exact ⟨[T "a", T "b>a"], [T "pb:aa.l", T "ll", T "e"], by decide +kernel, by decide +kernel, by decide +kernel, by decide, by decide⟩
  · exact ⟨[T "a"], [T "d3r", T "hl", T "d1l"], by decide +kernel, by decide +kernel, by decide +kernel, by decide, by decide⟩
  · exact ⟨[], [], by decide +kernel, by decide +kernel, by decide +kernel, by decide, by decide⟩
  · exact ⟨[T "a", T "b>a", T "c"], [], by decide +kernel, by decide +kernel, by decide +kernel, by decide, by decide⟩
  · exact ⟨[T "a", T "b"], [T "pa:b.l", T "pa:.r"], by decide +kernel, by decide +kernel, by decide +kernel, by decide, by decide⟩
  · exact ⟨[T "a", T "b>a", T "c>b"], [T "hr", T "lr", T "d1r", T "e"], by decide +kernel, by decide +kernel, by decide +kernel, by decide, by decide⟩
def menu : List Tx := [T "d1l", T "d1r", T "d2l", T "d2r", T "d3l", T "d4r", T "hl", T "hr", T "e", T "ll", T "lr", T "pa:.l", T "pb:.r", T "pb:a.l", T "pc:a.r", T "pc:ab.l", T "pb:aa.l", T "pa:b.l", T "pc:.l", T "pa:bb.r", T "pc:abb.l", T "pb:aaa.r"]
theorem menu_ok : ∀ s ∈ menu, (sgOk s && plainT s) = true := by
  have : menu.all (fun s => sgOk s && plainT s) = true := by decide +kernel
  exact fun s hs => List.all_eq_true.mp this s hs
end K16
namespace K16
open PySem PySem.Spec PyProof.Rows L2 DL
/-! ### the rule of a sign -/
def spRule : GA := fun ds P => ∃ sg c0 c1 c2 c3, ds = [.str sg, nmD c0 c1 c2 c3] ∧ sgOk sg = true ∧ Lows c0 c1 c2 c3 ∧ ∀ r, RlOk r → P (ruleD r)
theorem atI_last {α : Type} (l : List α) (x : α) : atI (l ++ [x]) (-1) = some x := by
  unfold atI ixN
  rw [if_neg (by decide), if_pos (by simp only [List.length_append, List.length_cons, List.length_nil]; omega)]
  show (l ++ [x])[(-1 + ((l ++ [x]).length : Int)).toNat]? = some x
  rw [show (-1 + ((l ++ [x]).length : Int)).toNat = l.length by simp only [List.length_append, List.length_cons, List.length_nil]; omega]
  simp
theorem digit_int {c : Nat} (h1 : 49 ≤ c) (h2 : c ≤ 52) : PySem.intText? (S [c]) = some ((c - 48 : Nat) : Int) := by
  have : c = 49 ∨ c = 50 ∨ c = 51 ∨ c = 52 := by omega
  rcases this with rfl | rfl | rfl | rfl <;> decide +kernel
theorem sideOf (e : Nat) : ∃ l : Bool, ∀ p : D → Prop, p (side l) → (if decide ([e] = T "l") = true then p (.str (T "left")) else p (.str (T "right"))) := by
  by_cases h : [e] = T "l"
  · exact ⟨true, fun p hp => iteT (decide_eq_true h) hp⟩
  · exact ⟨false, fun p hp => iteF (decide_eq_false h) hp⟩
theorem pl_rule (ds : List D) (Q : D → Prop) (h : spRule ds Q) : G_L_rule (En Q) (initR N_L_rule.length ds) := by
  obtain ⟨sg, c0, c1, c2, c3, rfl, ok, lw, q⟩ := h
  -- the last sign
  have last : ∃ l e, sg = l ++ [e] := by
    refine ⟨sg.dropLast, sg.getLast (by rintro rfl; cases ok), ?_⟩
    exact (List.dropLast_concat_getLast _).symm
  obtain ⟨ini, e, hle⟩ := last
  obtain ⟨l, hside⟩ := sideOf e
  refine ⟨e, by rw [hle]; exact atI_last ini e, ?_⟩
  refine hside (fun d => gSeq (gIf (fB (fOp gEq (fOp gIx (fVar 0) (fC (.int 0))) (fC (.str (T "d")))))
  (gRet (fTup (fCons (fC (.str (T "drop"))) (fCons (fCallB gInt (fCons (fOp gIx (fVar 0) (fC (.int 1))) fNil)) (fCons (fVar 2) fNil)))))
  gNext)
  (gSeq (gIf (fB (fOp gEq (fOp gIx (fVar 0) (fC (.int 0))) (fC (.str (T "p")))))
  (gRet (fTup (fCons (fC (.str (T "put"))) (fCons (fOp gIx (fVar 1) (fOp gIx (fVar 0) (fC (.int 1)))) (fCons (fJoin (fC (.str (T ""))) (fun ρ P => fLc (fSeq (fSl (fVar 0) (foS (fC (.int 3))) (foS (fNeg (fC (.int 2)))))) (fgN 3) fYes (fOp gIx (fVar 1) (fVar 3)) [3] ρ fun es => P (.lst es))) (fCons (fVar 2) fNil))))))
  gNext)
  (gSeq (gIf (fB (fOp gEq (fVar 0) (fC (.str (T "e")))))
  (gRet (fTup (fCons (fC (.str (T "empty"))) fNil)))
  gNext)
  (gRet (fTup (fCons (fIf (fB (fOp gEq (fOp gIx (fVar 0) (fC (.int 0))) (fC (.str (T "h"))))) (fC (.str (T "half"))) (fC (.str (T "lower")))) (fCons (fVar 2) fNil)))))) (En Q) [.sh (.str sg), .sh (nmD c0 c1 c2 c3), .sh d, .no]) ?_
  have tup : ∀ n : Nat, n ≤ 4 → n ≤ sizeLine := fun n h => by rw [sz]; omega
  have eD : T "d" = [100] := by decide +kernel
  have eP : T "p" = [112] := by decide +kernel
  have eE : T "e" = [101] := by decide +kernel
  have eH : T "h" = [104] := by decide +kernel
  clear hside hle
  unfold sgOk at ok
  split at ok
  · rename_i c y
    rw [Bool.and_eq_true, decide_eq_true_eq, decide_eq_true_eq] at ok
    exact ⟨100, rfl, c, rfl, (show 1 ≤ 640 by decide), _, digit_int ok.1 ok.2, tup 3 (by decide), q (.drop (c - 48) l) ⟨by omega, by omega⟩⟩
  · exact ⟨101, rfl, 101, rfl, tup 1 (by decide), q .empty trivial⟩
  · rename_i y
    exact ⟨104, rfl, 104, rfl, 104, rfl, tup 2 (by decide), q (.half l) trivial⟩
  · rename_i y
    exact ⟨108, rfl, 108, rfl, 108, rfl, tup 2 (by decide), q (.lower l) trivial⟩
  · rename_i a r
    rw [Bool.and_eq_true, Bool.and_eq_true, Bool.and_eq_true, decide_eq_true_eq, decide_eq_true_eq] at ok
    obtain ⟨⟨⟨o1, o2⟩, o3⟩, o4⟩ := ok
    refine ⟨112, (atI_nat (112 :: a :: 58 :: r) 0 (by simp)).trans rfl, 112, (atI_nat (112 :: a :: 58 :: r) 0 (by simp)).trans rfl, a, (atI_nat (112 :: a :: 58 :: r) 1 (by simp)).trans rfl, .inr [a], .str [nmOf c0 c1 c2 c3 a], rfl, nm_get c0 c1 c2 c3 o1, ?_⟩
    -- the signs of the text that is put
    have cut : cutL (112 :: a :: 58 :: r) (some 3) (some (-2)) = r.take (r.length - 2) := by
      unfold cutL HT.sIx
      simp only [List.length_cons]
      rw [if_neg (show ¬ (3 : Int) < 0 by decide), if_pos (show (-2 : Int) < 0 by decide)]
      rw [show min (Int.toNat 3) (r.length + 1 + 1 + 1) = 3 by show min 3 _ = 3; omega, show (-2 + ((r.length + 1 + 1 + 1 : Nat) : Int)).toNat = r.length + 1 by omega]
      show (r.take (r.length + 1 - 3)) = _
      rw [show r.length + 1 - 3 = r.length - 2 by omega]
    refine ⟨rfl, ?_⟩
    dsimp only [fSeq, fSl, fVar, rd, List.getElem?_cons_zero, foS, fNeg, fC, gSl]
    rw [cut]
    refine blkMap (fun d => match d with | .str [b] => .str [nmOf c0 c1 c2 c3 b] | _ => .non) (fun d hd R' r' => ?_) (by rw [List.length_map, List.length_take, sz]; omega) ?_
    · obtain ⟨b, hb, rfl⟩ := List.mem_map.mp hd
      exact ⟨rfl, rfl, .inr [b], _, rfl, nm_get c0 c1 c2 c3 (List.all_eq_true.mp o4 b hb), r'⟩
    · have e3 : ((r.take (r.length - 2)).map chD).map (fun d => match d with | .str [b] => D.str [nmOf c0 c1 c2 c3 b] | _ => .non) = ((r.take (r.length - 2)).map fun b => [nmOf c0 c1 c2 c3 b]).map D.str := by
        rw [List.map_map, List.map_map]; rfl
      rw [e3]
      have hlen : (r.take (r.length - 2)).length ≤ 9 := by rw [List.length_take]; omega
      have hsum : ∀ l : List Nat, ((l.map fun b => [nmOf c0 c1 c2 c3 b]).map (·.length)).sum = l.length := by
        intro l
        induction l with
        | nil => rfl
        | cons b l ih => simp only [List.map_cons, List.sum_cons, List.length_cons, List.length_nil] at *; omega
      have hj : ∀ l : List Nat, TL.joinL (T "") (l.map fun b => [nmOf c0 c1 c2 c3 b]) = l.map (nmOf c0 c1 c2 c3) := by
        have eN : T "" = [] := by decide +kernel
        rw [eN]
        intro l
        induction l with
        | nil => rfl
        | cons b l ih =>
          cases l with
          | nil => rfl
          | cons b2 l => 
            show [nmOf c0 c1 c2 c3 b] ++ ([] ++ TL.joinL [] ((b2 :: l).map fun b => [nmOf c0 c1 c2 c3 b])) = _
            rw [ih]; rfl
      refine ⟨_, ssOf_str _, ?_, ?_⟩
      · rw [hsum, List.length_map, show (T "").length = 0 by decide +kernel]
        omega
      · rw [hj]
        refine ⟨tup 4 (by decide), q (.put [nmOf c0 c1 c2 c3 a] ((r.take (r.length - 2)).map (nmOf c0 c1 c2 c3)) l) ⟨⟨_, rfl, nm_low lw⟩, by rw [List.length_map]; exact hlen, fun c hc => ?_⟩⟩
        obtain ⟨b, hb, rfl⟩ := List.mem_map.mp hc
        exact nm_low lw
  · cases ok
end K16
namespace K16
open PySem PySem.Spec PyProof.Rows L2 DL
theorem unmap {α : Type} (f : α → D) (p : α → Prop) : ∀ l : List D, (∀ d ∈ l, ∃ s, d = f s ∧ p s) → ∃ ls : List α, l = ls.map f ∧ ∀ s ∈ ls, p s
  | [], _ => ⟨[], rfl, fun s hs => by cases hs⟩
  | d :: l, h => by
    obtain ⟨s, rfl, hs⟩ := h d List.mem_cons_self
    obtain ⟨ls, rfl, hl⟩ := unmap f p l fun x hx => h x (List.mem_cons_of_mem _ hx)
    exact ⟨s :: ls, rfl, fun t ht => (List.mem_cons.mp ht).elim (fun e => e ▸ hs) (hl t)⟩
theorem blkAll {fg : FG} {te : FE} {vs : List Nat} (p : D → Prop) {ρ : Rho} {P : List D → Prop} : ∀ {ds acc : List D}, (∀ d ∈ ds, ∀ R : D → Prop, (∀ e, p e → R e) → turnR fg vs d ρ fun ρ2 => te ρ2 R) → acc.length + ds.length ≤ sizeLine →
    (∀ es : List D, es.length = ds.length → (∀ e ∈ es, p e) → P (acc ++ es)) → blkD fg fYes (bodyL te) vs ds ρ acc P
  | [], acc, _, _, q => by
    have := q [] rfl fun e he => by cases he
    rwa [List.append_nil] at this
  | d :: ds, acc, h, hl, q => by
    simp only [List.length_cons] at hl
    refine h d List.mem_cons_self (fun e => acc.length < sizeLine ∧ blkD fg fYes (bodyL te) vs ds ρ (acc ++ [e]) P) fun e he => ⟨by omega, ?_⟩
    refine blkAll p (fun x hx => h x (List.mem_cons_of_mem _ hx)) (by simp only [List.length_append, List.length_cons, List.length_nil]; omega) fun es h1 h2 => ?_
    have := q (e :: es) (by simp [h1]) fun x hx => (List.mem_cons.mp hx).elim (fun z => z ▸ he) (h2 x)
    rwa [List.append_cons] at this
/-! ### sorted -/
theorem alike_strs : ∀ xs ys : List Tx, PySem.W.alikeAll (toPyAll (xs.map .str)) (toPyAll (ys.map .str)) = true
  | [], _ => by simp [toPyAll, PySem.W.alikeAll]
  | _ :: _, [] => by simp [toPyAll, PySem.W.alikeAll]
  | x :: xs, y :: ys => by
    have := alike_strs xs ys
    simp only [List.map_cons, toPyAll, toPy, PySem.W.alikeAll, PySem.W.alike, this, Bool.and_self]
theorem low_rep {s : Tx} (h : isL s) : ∀ n, repOk n (.str s) = true := fun n => by
  obtain ⟨c, rfl, h1, h2⟩ := h
  have : decide (c < 1114112) = true := decide_eq_true (by omega)
  have e1 : decide ([c].length ≤ sizeLine) = true := decide_eq_true one_le
  cases n <;> simp [repOk, one_le] <;> omega
theorem sortStrs {ls : List Tx} {P : D → Prop} (h : ∀ s ∈ ls, isL s) (q : ∀ ls' : List Tx, ls'.length = ls.length → (∀ s ∈ ls', isL s) → P (.lst (ls'.map .str))) : gSorted [.lst (ls.map .str)] P := by
  refine ⟨?_, ?_, .inr ?_, ?_, ?_⟩
  · rw [List.all_map, List.all_eq_true]
    exact fun s hs => (repOk_py (low_rep (h s hs) 0)).1
  · rw [List.map_map]
    exact PySem.W.AllAlike.of (enc := toPy ∘ D.str) fun b b' => by simp [Function.comp, toPy, PySem.W.alike]
  · intro d hd
    rw [List.map_map] at hd
    obtain ⟨s, _, rfl⟩ := List.mem_map.mp hd
    exact ⟨fun z => by simp [toPy] at z, fun xs z => by simp [toPy] at z⟩
  · intro d hd
    obtain ⟨s, hs, rfl⟩ := List.mem_map.mp hd
    exact Nat.le_trans (repOk_py (low_rep (h s hs) 0)).2.2.2.1 (by decide)
  · have pm := List.mergeSort_perm (ls.map D.str) leD
    obtain ⟨ls', e, h'⟩ := unmap D.str isL ((ls.map D.str).mergeSort leD) fun d hd => by
      obtain ⟨s, hs, rfl⟩ := List.mem_map.mp (pm.mem_iff.mp hd)
      exact ⟨s, rfl, h s hs⟩
    have hl := pm.length_eq
    rw [e, List.length_map, List.length_map] at hl
    rw [e]
    exact q ls' hl h'
def EntOk (e : Ent) : Prop := isL e.1 ∧ e.2.length ≤ 9 ∧ ∀ s ∈ e.2, isL s
theorem ent_rep {e : Ent} (h : EntOk e) : repOk 2 (entD e) = true := by
  have h1 := low_rep h.1 1
  have h2 : repAll 0 (e.2.map D.str) = true := repAll_of fun d hd => by
    obtain ⟨s, hs, rfl⟩ := List.mem_map.mp hd
    exact low_rep (h.2.2 s hs) 0
  show repAll 1 [.str e.1, .tup (e.2.map .str)] = true
  have h3 : repOk 1 (.tup (e.2.map D.str)) = true := by simpa [repOk] using h2
  exact repAll_of fun d hd => by
    simp only [List.mem_cons, List.not_mem_nil, or_false] at hd
    rcases hd with rfl | rfl
    · exact h1
    · exact h3
theorem sortEnts {L : List Ent} {P : D → Prop} (h : ∀ e ∈ L, EntOk e) (q : ∀ L' : List Ent, L'.length = L.length → (∀ e ∈ L', EntOk e) → P (.lst (L'.map entD))) : gSorted [.lst (L.map entD)] P := by
  refine ⟨?_, ?_, .inl ?_, ?_, ?_⟩
  · rw [List.all_map, List.all_eq_true]
    exact fun e he => (repOk_py (ent_rep (h e he))).1
  · rw [List.map_map]
    exact PySem.W.AllAlike.of (enc := toPy ∘ entD) fun b b' => by
      have := alike_strs b.2 b'.2
      simp only [Function.comp, entD, toPy, toPyAll, PySem.W.alike, PySem.W.alikeAll, this, Bool.and_self]
  · intro d hd
    rw [List.map_map] at hd
    obtain ⟨e, _, rfl⟩ := List.mem_map.mp hd
    exact ⟨_, _, rfl⟩
  · intro d hd
    obtain ⟨e, he, rfl⟩ := List.mem_map.mp hd
    exact Nat.le_trans (repOk_py (ent_rep (h e he))).2.2.2.1 (by decide)
  · have pm := List.mergeSort_perm (L.map entD) leD
    obtain ⟨L', e, h'⟩ := unmap entD EntOk ((L.map entD).mergeSort leD) fun d hd => by
      obtain ⟨s, hs, rfl⟩ := List.mem_map.mp (pm.mem_iff.mp hd)
      exact ⟨s, rfl, h s hs⟩
    have hl := pm.length_eq
    rw [e, List.length_map, List.length_map] at hl
    rw [e]
    exact q L' hl h'
end K16
namespace K16
open PySem PySem.Spec PyProof.Rows L2 DL
/-! ### a text is read -/
def readBody : FS := (fun E ρ => (fun ρ P => olAt ρ[4]? fun ds => (fCons (fTup (fCons (fOp gIx (fVar 1) (fOp gIx (fVar 5) (fC (.int 0)))) (fCons (fCallB gTuple (fCons (fCallB gSorted (fCons (fun ρ P => fLc (fSeq (fSl (fVar 5) (foS (fC (.int 2))) foN)) (fgN 6) fYes (fOp gIx (fVar 1) (fVar 6)) [6] ρ fun es => P (.lst es)) fNil)) fNil)) fNil))) fNil) ρ fun es => gmApp ds es fun d ds' => P d (ρ.set 4 (.ol ds'))) ρ fun _ ρ' => E.nx ρ')
theorem word_parts {w : Tx} (h : wdOk w = true) : ∃ a, w[0]? = some a ∧ ab a = true ∧ (w.drop 2).all ab = true ∧ (w.drop 2).length ≤ 9 := by
  unfold wdOk at h
  split at h
  · exact ⟨_, rfl, h, rfl, Nat.zero_le _⟩
  · rename_i a r
    rw [Bool.and_eq_true, Bool.and_eq_true, decide_eq_true_eq] at h
    exact ⟨a, rfl, h.1.1, h.1.2, h.2⟩
  · cases h
theorem two_le : 2 ≤ sizeLine := by rw [sz]; decide
theorem readLoop {c0 c1 c2 c3 : Nat} (lw : Lows c0 c1 c2 c3) (z a b : D) (En' : Dn) : ∀ (ws : List Tx) (L : List Ent) (s5 : Sl), (∀ w ∈ ws, wdOk w = true) → (∀ e ∈ L, EntOk e) → L.length + ws.length ≤ sizeLine →
    (∀ (L' : List Ent) s5, L'.length = L.length + ws.length → (∀ e ∈ L', EntOk e) → En'.nx [.sh z, .sh (nmD c0 c1 c2 c3), .sh a, .sh b, .ol (L'.map entD), s5, .no, .no]) →
    forD (fgN 5) readBody (ws.map .str) En' [.sh z, .sh (nmD c0 c1 c2 c3), .sh a, .sh b, .ol (L.map entD), s5, .no, .no]
  | [], L, s5, _, hL, hz, h => h L s5 rfl hL
  | w :: ws, L, s5, hw, hL, hz, h => by
    simp only [List.length_cons] at hz h
    obtain ⟨x, h0, hx, h1, h2⟩ := word_parts (hw w List.mem_cons_self)
    have hwl : 0 < w.length := (List.getElem?_eq_some_iff.mp h0).1
    refine ⟨x, (atI_nat w 0 hwl).trans h0, .inr [x], _, rfl, nm_get c0 c1 c2 c3 hx, rfl, ?_⟩
    show blkD _ _ _ _ ((cutL w (some ((2 : Nat) : Int)) none).map chD) _ _ _
    rw [cut_drop]
    refine blkMap (fun d => match d with | .str [b] => .str [nmOf c0 c1 c2 c3 b] | _ => .non) (fun d hd R' r' => ?_) (by rw [List.length_map, sz]; omega) ?_
    · obtain ⟨b, hb, rfl⟩ := List.mem_map.mp hd
      exact ⟨rfl, rfl, .inr [b], _, rfl, nm_get c0 c1 c2 c3 (List.all_eq_true.mp h1 b hb), r'⟩
    · have e3 : ((w.drop 2).map chD).map (fun d => match d with | .str [b] => D.str [nmOf c0 c1 c2 c3 b] | _ => .non) = ((w.drop 2).map fun b => [nmOf c0 c1 c2 c3 b]).map D.str := by
        rw [List.map_map, List.map_map]; rfl
      rw [e3]
      dsimp only [fNil]
      refine sortStrs (fun s hs => ?_) fun ls' hl' hs' => ?_
      · obtain ⟨b, _, rfl⟩ := List.mem_map.mp hs
        exact ⟨_, rfl, nm_low lw⟩
      · rw [List.length_map] at hl'
        have eok : EntOk ([nmOf c0 c1 c2 c3 x], ls') := ⟨⟨_, rfl, nm_low lw⟩, by rw [hl']; exact h2, hs'⟩
        refine ⟨two_le, by rw [List.length_map]; omega, ?_⟩
        have := readLoop lw z a b En' ws (L ++ [([nmOf c0 c1 c2 c3 x], ls')]) (.sh (.str w)) (fun v hv => hw v (List.mem_cons_of_mem _ hv)) (fun e he => (List.mem_append.mp he).elim (hL e) fun z => by rw [List.mem_singleton.mp z]; exact eok)
          (by simp only [List.length_append, List.length_cons, List.length_nil]; omega) fun L' s5 h1 h2 => h L' s5 (by simp only [List.length_append, List.length_cons, List.length_nil] at h1; omega) h2
        rw [List.map_append] at this
        exact this
def spRead : GA := fun ds P => ∃ z c0 c1 c2 c3, ds = [.str z, nmD c0 c1 c2 c3] ∧ TextOk z ∧ Lows c0 c1 c2 c3 ∧ ∀ E R, Wf E R → P (bookD E R)
theorem plain_len {ls : List Tx} (h : ∀ s ∈ ls, s.length ≤ 13) : (TL.joinL [32] ls).length ≤ ls.length * 14 := by
  have h1 := joinL_len [32] ls
  have h2 : (ls.map (·.length)).sum ≤ ls.length * 13 := by
    clear h1
    induction ls with
    | nil => exact Nat.zero_le _
    | cons s ls ih =>
      have := ih fun t ht => h t (List.mem_cons_of_mem _ ht)
      have := h s List.mem_cons_self
      simp only [List.map_cons, List.sum_cons, List.length_cons, Nat.add_mul, Nat.one_mul]
      omega
  simp only [List.length_cons, List.length_nil] at h1
  omega
theorem wd_len {w : Tx} (h : wdOk w = true) : w.length ≤ 13 ∧ w ≠ [] := by
  unfold wdOk at h
  split at h
  · exact ⟨by simp, by simp⟩
  · rw [Bool.and_eq_true, decide_eq_true_eq] at h
    exact ⟨by simp only [List.length_cons]; omega, by simp⟩
  · cases h
theorem sg_len {s : Tx} (h : sgOk s = true) : s.length ≤ 13 ∧ s ≠ [] := by
  unfold sgOk at h
  split at h
  · exact ⟨by simp, by simp⟩
  · exact ⟨by simp, by simp⟩
  · exact ⟨by simp, by simp⟩
  · exact ⟨by simp, by simp⟩
  · rw [Bool.and_eq_true, Bool.and_eq_true, decide_eq_true_eq] at h
    exact ⟨by simp only [List.length_cons]; have := h.1.2; omega, by simp⟩
  · cases h
theorem join_nil {ls : List Tx} (h : ∀ s ∈ ls, s ≠ []) : TL.joinL [32] ls = [] ↔ ls = [] := by
  constructor
  · intro e
    match ls, h, e with
    | [], _, _ => rfl
    | [s], h, e => exact (h s List.mem_cons_self e).elim
    | s :: t :: r, h, e => simp [TL.joinL] at e
  · rintro rfl; rfl
theorem join_free {c : Nat} (hc : c ≠ 32) {ls : List Tx} (h : ∀ s ∈ ls, c ∉ s) : c ∉ TL.joinL [32] ls := by
  match ls, h with
  | [], _ => exact fun z => by cases z
  | [s], h => exact h s List.mem_cons_self
  | s :: t :: r, h =>
    have := join_free hc (ls := t :: r) fun x hx => h x (List.mem_cons_of_mem _ hx)
    simp only [TL.joinL, List.mem_append, List.mem_singleton, not_or]
    exact ⟨h s List.mem_cons_self, hc, this⟩
theorem plain_free {s : Tx} (h : plainT s = true) : 32 ∉ s ∧ 59 ∉ s := by
  unfold plainT at h
  rw [List.all_eq_true] at h
  constructor
  · intro z
    have := h _ z
    simp at this
  · intro z
    have := h _ z
    simp at this
theorem pl_read (ds : List D) (Q : D → Prop) (h : spRead ds Q) : G_L_read spRule (En Q) (initR N_L_read.length ds) := by
  obtain ⟨z, c0, c1, c2, c3, rfl, ⟨ws, sgs, hz, hw, hs, nw, ns⟩, lw, q⟩ := h
  rw [List.all_eq_true] at hw hs
  have hw1 : ∀ w ∈ ws, wdOk w = true := fun w h => (Bool.and_eq_true_iff.mp (hw w h)).1
  have hw2 : ∀ w ∈ ws, plainT w = true := fun w h => (Bool.and_eq_true_iff.mp (hw w h)).2
  have hs1 : ∀ w ∈ sgs, sgOk w = true := fun w h => (Bool.and_eq_true_iff.mp (hs w h)).1
  have hs2 : ∀ w ∈ sgs, plainT w = true := fun w h => (Bool.and_eq_true_iff.mp (hs w h)).2
  have la := plain_len (fun w h => (wd_len (hw1 w h)).1)
  have lb := plain_len (fun w h => (sg_len (hs1 w h)).1)
  have na := join_nil (fun w h => (wd_len (hw1 w h)).2)
  have nb := join_nil (fun w h => (sg_len (hs1 w h)).2)
  have fa := join_free (c := 59) (by decide) (fun w h => (plain_free (hw2 w h)).2)
  have fb := join_free (c := 59) (by decide) (fun w h => (plain_free (hs2 w h)).2)
  have eS : T ";" = [59] := by decide +kernel
  have eB : T " " = [32] := by decide +kernel
  have eN : T "" = [] := by decide +kernel
  have sp : TL.spl [59] 0 [] z = [TL.joinL [32] ws, TL.joinL [32] sgs] := by
    have := TL.spl_join (s := 59) (S := []) (parts := [TL.joinL [32] ws, TL.joinL [32] sgs]) (by simp) (by
      intro p hp
      simp only [List.mem_cons, List.not_mem_nil, or_false] at hp
      rcases hp with rfl | rfl
      · exact fa
      · exact fb)
    rw [hz]
    exact this
  have spA : ws ≠ [] → TL.spl [32] 0 [] (TL.joinL [32] ws) = ws := fun h => TL.spl_join (s := 32) (S := []) h fun p hp => (plain_free (hw2 p hp)).1
  have spB : sgs ≠ [] → TL.spl [32] 0 [] (TL.joinL [32] sgs) = sgs := fun h => TL.spl_join (s := 32) (S := []) h fun p hp => (plain_free (hs2 p hp)).1
  have zl : z.length ≤ 300 := by rw [hz]; simp only [List.length_append, List.length_cons]; omega
  generalize TL.joinL [32] ws = A at *
  generalize TL.joinL [32] sgs = B at *
  have tail : ∀ (L : List Ent) (s5 : Sl), L.length ≤ 9 → (∀ e ∈ L, EntOk e) → (fun E ρ => (gRet (fTup (fCons (fCallB gTuple (fCons (fCallB gSorted (fCons (fVar 4) fNil)) fNil)) (fCons (fCallB gTuple (fCons (fIf (fB (fOp gNe (fVar 3) (fC (.str (T ""))))) (fun ρ P => fLc (fSeq (fSplit (fVar 3) (fC (.str (T " "))))) (fgN 7) fYes (fCall spRule 2 (fCons (fVar 7) (fCons (fVar 1) fNil))) [7] ρ fun es => P (.lst es)) (fLst fNil)) fNil)) fNil)))) E (frzR ρ 4)) (En Q) [.sh (.str z), .sh (nmD c0 c1 c2 c3), .sh (.str A), .sh (.str B), .ol (L.map entD), s5, .no, .no] := by
    intro L s5 hl hL
    dsimp only [gRet, fTup, fCons, fCallB, fVar, frzR, rd, fNil, List.getElem?_cons_succ, List.getElem?_cons_zero, List.set_cons_succ, List.set_cons_zero]
    refine sortEnts hL fun L' hl' hL' => ?_
    have fin : ∀ R : List Rl, R.length ≤ 9 → (∀ r ∈ R, RlOk r) → Q (bookD L' R) := fun R h1 h2 => q L' R ⟨hL', h2, by omega, h1⟩
    by_cases e : sgs = []
    · have eb : B = [] := nb.2 e
      refine iteF (b := !decide (B = T "")) (by rw [eb, eN]; rfl) ?_
      exact ⟨Nat.zero_le _, two_le, fin [] (Nat.zero_le _) fun r hr => by cases hr⟩
    · have eb : B ≠ [] := fun z => e (nb.1 z)
      refine iteT (b := !decide (B = T "")) (by rw [eN]; simp [eb]) ?_
      refine ⟨rfl, by rw [eB]; simp, by rw [eB]; decide, by rw [sz]; omega, ?_⟩
      rw [eB, spB e]
      refine blkAll (fun d => ∃ r, d = ruleD r ∧ RlOk r) (fun d hd R' r' => ?_) (by rw [List.length_map, sz]; simp only [List.length_nil]; omega) fun es h1 h2 => ?_
      · obtain ⟨sg, hsg, rfl⟩ := List.mem_map.mp hd
        exact ⟨rfl, rfl, rfl, sg, c0, c1, c2, c3, rfl, hs1 sg hsg, lw, fun r hr => r' _ ⟨r, rfl, hr⟩⟩
      · obtain ⟨R, rfl, hR⟩ := unmap ruleD RlOk es h2
        rw [List.length_map, List.length_map] at h1
        exact ⟨two_le, fin R (by omega) hR⟩
  refine ⟨by rw [eS]; simp, by rw [eS]; decide, by rw [sz]; omega, ?_⟩
  rw [eS, sp]
  refine ⟨rfl, rfl, Nat.zero_le _, ?_⟩
  by_cases e : ws = []
  · have ea : A = [] := na.2 e
    refine iteF (b := !decide (A = T "")) (by rw [ea, eN]; rfl) ?_
    exact ⟨Nat.zero_le _, tail [] .no (Nat.zero_le _) fun r hr => by cases hr⟩
  · have ea : A ≠ [] := fun z => e (na.1 z)
    refine iteT (b := !decide (A = T "")) (by rw [eN]; simp [ea]) ?_
    refine ⟨by rw [eB]; simp, by rw [eB]; decide, by rw [sz]; omega, ?_⟩
    rw [eB, spA e]
    refine readLoop lw (.str z) (.str A) (.str B) _ ws [] .no hw1 (fun r hr => by cases hr) (by rw [sz]; simp only [List.length_nil]; omega) fun L' s5 h1 h2 => ?_
    exact tail L' s5 (by simp only [List.length_nil] at h1; omega) h2
end K16
namespace K16
open PySem PySem.Spec PyProof.Rows L2 DL
/-! ### a text is drawn -/
def firsts : List Tx := [T "a b>a c", T "a b", T "a b>a", T "a b>a c>ab", T "a b c", T "a", T "a b>a c>b d>a"]
theorem firsts_ok : ∀ f ∈ firsts, ∃ ws : List Tx, f = TL.joinL [32] ws ∧ (ws.all fun w => wdOk w && plainT w) = true ∧ ws.length ≤ 9 := by
  intro f hf
  simp only [firsts, List.mem_cons, List.not_mem_nil, or_false] at hf
  rcases hf with rfl | rfl | rfl | rfl | rfl | rfl | rfl
  · exact ⟨[T "a", T "b>a", T "c"], by decide +kernel, by decide +kernel, by decide⟩
  · exact ⟨[T "a", T "b"], by decide +kernel, by decide +kernel, by decide⟩
  · exact ⟨[T "a", T "b>a"], by decide +kernel, by decide +kernel, by decide⟩
  · exact ⟨[T "a", T "b>a", T "c>ab"], by decide +kernel, by decide +kernel, by decide⟩
  · exact ⟨[T "a", T "b", T "c"], by decide +kernel, by decide +kernel, by decide⟩
  · exact ⟨[T "a"], by decide +kernel, by decide +kernel, by decide⟩
  · exact ⟨[T "a", T "b>a", T "c>b", T "d>a"], by decide +kernel, by decide +kernel, by decide⟩
theorem okE_strs {ls : List Tx} (h : ∀ s ∈ ls, ∀ c ∈ s, c < 1114112) : okE (.lst (ls.map .str)) = true := by
  show PyData.canLayAll0 (toPyAll (ls.map .str)) = true
  induction ls with
  | nil => rfl
  | cons s ls ih =>
    show ((toPy (.str s)).canLay0 && PyData.canLayAll0 (toPyAll (ls.map .str))) = true
    rw [ih fun t ht => h t (List.mem_cons_of_mem _ ht), Bool.and_true]
    show (S s).cps.all _ = true
    rw [S_all]
    exact List.all_eq_true.mpr fun c hc => decide_eq_true (h s List.mem_cons_self c hc)
theorem gEq_nilS {ls : List Tx} {P : D → Prop} (h : ∀ s ∈ ls, ∀ c ∈ s, c < 1114112) (p : P (.bl (ls.isEmpty))) : gEq (.lst (ls.map .str)) (.lst []) P := by
  refine ⟨okE_strs h, rfl, Nat.le_trans (Nat.min_le_right _ _) (by show 1 ≤ 64; decide), ?_⟩
  have e : eqD (.lst (ls.map .str)) (.lst []) = ls.isEmpty := by
    cases ls with
    | nil => show PyData.eqv (.list []) (.list []) = true; simp [PyData.eqv, PyData.eqvAll]
    | cons n ns => show PyData.eqv (.list (toPy (.str n) :: toPyAll (ns.map .str))) (.list []) = false; simp [PyData.eqv, PyData.eqvAll]
  rw [e]
  exact p
theorem plain_lt {s : Tx} (h : plainT s = true) : ∀ c ∈ s, c < 1000 := fun c hc => by
  have := List.all_eq_true.mp h c hc
  simp at this
  omega
theorem condOk {s first : Tx} (hs : (sgOk s && plainT s) = true) (s0 s1 s3 s4 : Sl) (R : Bool → Prop) (h1 : R true) (h0 : R false) :
    (fOr (fB (fOp gNe (fOp gIx (fVar 5) (fC (.int 0))) (fC (.str (T "p"))))) (fB (fOp gEq (fun ρ P => fLc (fSeq (fOp gAdd (fOp gIx (fVar 5) (fC (.int 1))) (fSl (fVar 5) (foS (fC (.int 3))) (foS (fNeg (fC (.int 2))))))) (fgN 6) (fB (fOp gNotIn (fVar 6) (fVar 2))) (fVar 6) [6] ρ fun es => P (.lst es)) (fLst fNil)))) [s0, s1, .sh (.str first), s3, s4, .sh (.str s), .no] R := by
  rw [Bool.and_eq_true] at hs
  have hl := (sg_len hs.1)
  obtain ⟨c, r, rfl⟩ : ∃ c r, s = c :: r := by
    cases s with
    | nil => exact (hl.2 rfl).elim
    | cons c r => exact ⟨c, r, rfl⟩
  refine ⟨c, (atI_nat (c :: r) 0 (by simp)).trans rfl, ?_⟩
  have eP : T "p" = [112] := by decide +kernel
  show (if (!decide ([c] = T "p")) = true then _ else _)
  rw [eP]
  by_cases e : c = 112
  · refine iteF (by rw [e]; rfl) ?_
    subst e
    have sh : ∃ a r', r = a :: r' := by
      have := hs.1
      unfold sgOk at this
      split at this <;> first | (rename_i h; cases h; done) | skip
      all_goals first | (cases ‹_ = _›; done) | skip
      all_goals simp_all
    obtain ⟨a, r', rfl⟩ := sh
    have pl := plain_lt hs.2
    refine ⟨rfl, a, (atI_nat (112 :: a :: r') 1 (by simp)).trans rfl, ?_⟩
    dsimp only [fSl, fVar, rd, List.getElem?_cons_zero, List.getElem?_cons_succ, foS, fNeg, fC, gSl]
    have hcl := cutL_len (112 :: a :: r') (some 3) (some (-2))
    refine ⟨by simp only [List.length_cons, List.length_nil] at *; rw [sz]; omega, ?_⟩
    have hcm : ∀ x ∈ [a] ++ cutL (112 :: a :: r') (some 3) (some (-2)), x < 1000 := fun x hx => by
      rcases List.mem_append.mp hx with hx | hx
      · rw [List.mem_singleton.mp hx]; exact pl a (by simp)
      · unfold cutL at hx
        exact pl x (List.mem_of_mem_drop (List.mem_of_mem_take hx))
    have hlen : ([a] ++ cutL (112 :: a :: r') (some 3) (some (-2))).length ≤ 20 := by simp only [List.length_append, List.length_cons, List.length_nil] at *; omega
    generalize [a] ++ cutL (112 :: a :: r') (some 3) (some (-2)) = body at *
    refine blkL (fun d => match d with | .str [x] => if x ∈ first then none else some (.str [x]) | _ => none) (fun d hd R' r' => ?_) (by rw [List.length_map, sz]; simp only [List.length_nil]; omega) ?_
    · obtain ⟨x, hx, rfl⟩ := List.mem_map.mp hd
      refine ⟨rfl, rfl, ?_⟩
      show (if (!decide (x ∈ first)) = true then R' (some (.str [x])) else R' none)
      have r2 : R' (if x ∈ first then none else some (.str [x])) := r'
      by_cases hx : x ∈ first
      · rw [if_pos hx] at r2
        exact iteF (by simp [hx]) r2
      · rw [if_neg hx] at r2
        exact iteT (by simp [hx]) r2
    · obtain ⟨ls, e1, e2⟩ := unmap D.str (fun s => ∀ c ∈ s, c < 1114112) ([] ++ (body.map chD).filterMap fun d => match d with | .str [x] => if x ∈ first then none else some (.str [x]) | _ => none) fun d hd => by
        rw [List.nil_append] at hd
        obtain ⟨y, hy, e⟩ := List.mem_filterMap.mp hd
        obtain ⟨x, hx, rfl⟩ := List.mem_map.mp hy
        have e' : (if x ∈ first then none else some (D.str [x])) = some d := e
        split at e'
        · cases e'
        · cases e'
          exact ⟨[x], rfl, fun c hc => by rw [List.mem_singleton.mp hc]; have := hcm x hx; omega⟩
      rw [e1]
      refine ⟨Nat.zero_le _, gEq_nilS e2 ?_⟩
      show R ls.isEmpty
      cases ls.isEmpty
      · exact h0
      · exact h1
  · refine iteT (by simp [e]) h1
end K16
namespace K16
open PySem PySem.Spec PyProof.Rows L2 DL
abbrev menuD : D := .lst (menu.map .str)
def drBody : FS := (gSeq (fun E ρ => (fDraw spPick 1 1 0 (mA (fCons (fVar 1) fNil))) ρ fun d ρ' => E.nx (ρ'.set 5 (.sh d)))
  (gIf (fOr (fB (fOp gNe (fOp gIx (fVar 5) (fC (.int 0))) (fC (.str (T "p"))))) (fB (fOp gEq (fun ρ P => fLc (fSeq (fOp gAdd (fOp gIx (fVar 5) (fC (.int 1))) (fSl (fVar 5) (foS (fC (.int 3))) (foS (fNeg (fC (.int 2))))))) (fgN 6) (fB (fOp gNotIn (fVar 6) (fVar 2))) (fVar 6) [6] ρ fun es => P (.lst es)) (fLst fNil))))
  (fun E ρ => (fun ρ P => olAt ρ[3]? fun ds => (fCons (fVar 5) fNil) ρ fun es => gmApp ds es fun d ds' => P d (ρ.set 3 (.ol ds'))) ρ fun _ ρ' => E.nx ρ')
  gNext))
theorem drLoop {t : Addr} (first : Tx) (En' : Dn) : ∀ (ks : List D) (m : Nat) (last : List Tx) (s4 s5 : Sl), m + ks.length ≤ LIM → last.length + ks.length ≤ sizeLine → (∀ s ∈ last, (sgOk s && plainT s) = true) →
    (∀ m' (last' : List Tx) s4 s5, m' ≤ m + ks.length → last'.length ≤ last.length + ks.length → (∀ s ∈ last', (sgOk s && plainT s) = true) → En'.nx [.tk t m', .sh menuD, .sh (.str first), .ol (last'.map .str), s4, s5, .no]) →
    forD (fgN 4) drBody ks En' [.tk t m, .sh menuD, .sh (.str first), .ol (last.map .str), s4, s5, .no]
  | [], m, last, s4, s5, hm, hz, hs, h => h m last s4 s5 (Nat.le_refl _) (Nat.le_refl _) hs
  | k :: ks, m, last, s4, s5, hm, hz, hs, h => by
    simp only [List.length_cons] at hm hz h
    refine ⟨rfl, by omega, _, rfl, (show 0 < (menu.map D.str).length by decide), (show (menu.map D.str).length ≤ 1000 by decide), fun d hd => ?_⟩
    obtain ⟨s, hmem, rfl⟩ := List.mem_map.mp hd
    have sok := menu_ok s hmem
    refine condOk (s := s) (first := first) sok (.tk t (m + 1)) (.sh menuD) (.ol (last.map .str)) (.sh k) _ ?_ ?_
    · refine ⟨by rw [List.length_map]; omega, ?_⟩
      have := drLoop first En' ks (m + 1) (last ++ [s]) (.sh k) (.sh (.str s)) (by omega) (by simp only [List.length_append, List.length_cons, List.length_nil]; omega)
        (fun x hx => (List.mem_append.mp hx).elim (hs x) fun z => by rw [List.mem_singleton.mp z]; exact sok) fun m' last' a b h1 h2 h3 => h m' last' a b (by omega) (by simp only [List.length_append, List.length_cons, List.length_nil] at h2; omega) h3
      rw [List.map_append] at this
      exact this
    · exact drLoop first En' ks (m + 1) last (.sh k) (.sh (.str s)) (by omega) (by omega) hs fun m' last' a b h1 h2 h3 => h m' last' a b (by omega) (by omega) h3
def spDrawn : GA := fun ds P => ds = [menuD] ∧ ∀ z, TextOk z → P (.str z)
theorem pl_drawn (t : Addr) (m : Nat) (ds : List D) (Q : D → Prop) (hl : ds.length + 1 = 2) (hm : m + 9 ≤ LIM) (h : spDrawn ds Q) : G_L_drawn spDip spPick 1 1 (EnT t (m + 9) Q) (initT N_L_drawn.length t m ds) := by
  obtain ⟨rfl, q⟩ := h
  refine ⟨(show 7 ≤ sizeLine by rw [sz]; decide), rfl, by omega, _, rfl, (show 0 < 7 by decide), (show 7 ≤ 1000 by decide), fun d hd => ?_⟩
  obtain ⟨first, hf, rfl⟩ : ∃ first ∈ firsts, d = .str first := by
    have : d ∈ firsts.map D.str := hd
    obtain ⟨f, hf, e⟩ := List.mem_map.mp this
    exact ⟨f, hf, e.symm⟩
  refine ⟨Nat.zero_le _, ?_⟩
  refine ⟨(show 3 ≤ sizeLine by rw [sz]; decide), rfl, by omega, _, rfl, (show 0 < 3 by decide), (show 3 ≤ 1000 by decide), fun d hd => ?_⟩
  have fin : ∀ r : Int, 0 ≤ r → r < 6 → forD (fgN 4) drBody (rngD 0 1 (1 + r).toNat)
      { (EnT t (m + 9) Q) with nx := fun ρ => (fun E ρ => (gRet (fOp gAdd (fOp gAdd (fVar 2) (fC (.str (T ";")))) (fJoin (fC (.str (T " "))) (fVar 3)))) E (frzR ρ 3)) (EnT t (m + 9) Q) ρ } [.tk t (m + 3), .sh menuD, .sh (.str first), .ol [], .no, .no, .no] := by
    intro r r1 r2
    have hk : (rngD 0 1 (1 + r).toNat).length ≤ 6 := by rw [rngD_len]; omega
    have h0 : ([] : List D) = ([] : List Tx).map .str := rfl
    refine drLoop (t := t) first _ (rngD 0 1 (1 + r).toNat) (m + 3) [] .no .no (by omega) (by rw [sz]; simp only [List.length_nil]; omega) (fun s hs => by cases hs) fun m' last' s4 s5 h1 h2 h3 => ?_
    simp only [List.length_nil, Nat.zero_add] at h2
    obtain ⟨ws, e1, e2, e3⟩ := firsts_ok first hf
    have hs1 : ∀ s ∈ last', sgOk s = true := fun w h => (Bool.and_eq_true_iff.mp (h3 w h)).1
    have e2' := List.all_eq_true.mp e2
    have hw1 : ∀ w ∈ ws, wdOk w = true := fun w h => (Bool.and_eq_true_iff.mp (e2' w h)).1
    have la := plain_len (fun w h => (wd_len (hw1 w h)).1)
    have lb := plain_len (fun w h => (sg_len (hs1 w h)).1)
    have eB : T " " = [32] := by decide +kernel
    have eS : T ";" = [59] := by decide +kernel
    have ok : TextOk (first ++ T ";" ++ TL.joinL (T " ") last') := ⟨ws, last', by rw [eB, eS, e1, List.append_assoc]; rfl, e2, List.all_eq_true.mpr h3, e3, by omega⟩
    have hfl : first.length ≤ 200 := by rw [e1]; omega
    have hsum : (last'.map (·.length)).sum + last'.length * (T " ").length ≤ 200 := by
      have h2 : ∀ ls : List Tx, (∀ s ∈ ls, s.length ≤ 13) → (ls.map (·.length)).sum ≤ ls.length * 13 := by
        intro ls
        induction ls with
        | nil => intro _; exact Nat.zero_le _
        | cons s ls ih =>
          intro h
          have h1 := ih fun t ht => h t (List.mem_cons_of_mem _ ht)
          have := h s List.mem_cons_self
          simp only [List.map_cons, List.sum_cons, List.length_cons]
          omega
      have := h2 last' fun s hs => (sg_len (hs1 s hs)).1
      have : (T " ").length = 1 := by decide +kernel
      rw [this]
      omega
    show _ ∧ _
    dsimp only [gRet, fOp, fVar, fC, fJoin, frzR, rd, List.getElem?_cons_succ, List.getElem?_cons_zero, List.set_cons_succ, List.set_cons_zero]
    have l1 : (T ";").length = 1 := by decide +kernel
    have l2 := joinL_len (T " ") last'
    refine ⟨by rw [sz, l1]; omega, last', ssOf_str _, by omega, ?_⟩
    refine ⟨by rw [sz, List.length_append, l1]; have : (T " ").length = 1 := by decide +kernel
               rw [this] at hsum l2; omega, ⟨m', rfl, by omega⟩, q _ ok⟩
  have go : ∃ n : Int, d = .int n ∧ 0 < n ∧ n ≤ 6 := by
    simp only [List.mem_cons, List.not_mem_nil, or_false] at hd
    rcases hd with rfl | rfl | rfl
    · exact ⟨3, rfl, by decide, by decide⟩
    · exact ⟨4, rfl, by decide, by decide⟩
    · exact ⟨6, rfl, by decide, by decide⟩
  obtain ⟨n, rfl, n0, n1⟩ := go
  exact ⟨rfl, by omega, n, rfl, n0, by omega, fun r r1 r2 => ⟨by omega, by omega, fin r r1 (by omega)⟩⟩
def spBook : GA := fun ds P => ∃ c0 c1 c2 c3, ds = [.lst (scenes.map .str), menuD, nmD c0 c1 c2 c3] ∧ Lows c0 c1 c2 c3 ∧ ∀ E R, Wf E R → P (bookD E R)
theorem pl_book (t : Addr) (m : Nat) (ds : List D) (Q : D → Prop) (hl : ds.length + 1 = 4) (hm : m + 10 ≤ LIM) (h : spBook ds Q) : G_L_book spDip spDrawn spPick spRead 1 9 1 (EnT t (m + 10) Q) (initT N_L_book.length t m ds) := by
  obtain ⟨c0, c1, c2, c3, rfl, lw, q⟩ := h
  refine ⟨rfl, by omega, 2, rfl, by decide, by decide, fun r r1 r2 => ?_⟩
  by_cases e : r = 0
  · subst e
    refine ⟨rfl, by omega, rfl, fun z hz => ⟨rfl, z, c0, c1, c2, c3, rfl, hz, lw, fun E R wf => ⟨⟨_, rfl, by omega⟩, q E R wf⟩⟩⟩
  · obtain rfl : r = 1 := by omega
    refine ⟨rfl, by omega, _, rfl, (show 0 < 19 by decide), (show 19 ≤ 1000 by decide), fun d hd => ?_⟩
    obtain ⟨z, hz, rfl⟩ := List.mem_map.mp (show d ∈ scenes.map D.str from hd)
    exact ⟨rfl, z, c0, c1, c2, c3, rfl, scenes_ok z hz, lw, fun E R wf => ⟨⟨_, rfl, by omega⟩, q E R wf⟩⟩
/-! ### scenes, menu, book -/
theorem pl_scenes (ds : List D) (Q : D → Prop) (h : ds = [] ∧ Q (.lst (scenes.map .str))) : G_L_scenes (En Q) (initR N_L_scenes.length ds) := by
  obtain ⟨rfl, q⟩ := h
  exact ⟨(show 19 ≤ sizeLine by rw [sz]; decide), q⟩
theorem pl_menu (ds : List D) (Q : D → Prop) (h : ds = [] ∧ Q menuD) : G_L_menu (En Q) (initR N_L_menu.length ds) := by
  obtain ⟨rfl, q⟩ := h
  exact ⟨(show 22 ≤ sizeLine by rw [sz]; decide), q⟩
end K16
namespace K16
open PySem PySem.Spec PyProof.Rows L2 DL
/-! ### a word is drawn -/
theorem join_nil_low {E : List Ent} {R : List Rl} (w : Wf E R) : ∀ ls : List Tx, (∀ s ∈ ls, s ∈ E.map (·.1)) → (TL.joinL [] ls).length = ls.length ∧ ∀ c ∈ TL.joinL [] ls, [c] ∈ E.map (·.1)
  | [], _ => ⟨rfl, fun c hc => by cases hc⟩
  | [s], h => by
    have hs := h s List.mem_cons_self
    obtain ⟨e, he, rfl⟩ := List.mem_map.mp hs
    obtain ⟨c, hc, _⟩ := (w.ents e he).1
    rw [hc] at hs ⊢
    exact ⟨rfl, fun x hx => by rw [List.mem_singleton.mp hx]; exact hs⟩
  | s :: s2 :: ls, h => by
    have hs := h s List.mem_cons_self
    obtain ⟨e, he, rfl⟩ := List.mem_map.mp hs
    obtain ⟨c, hc, _⟩ := (w.ents e he).1
    obtain ⟨i1, i2⟩ := join_nil_low w (s2 :: ls) fun x hx => h x (List.mem_cons_of_mem _ hx)
    rw [hc] at hs ⊢
    show (([c] ++ [] : Tx) ++ TL.joinL [] (s2 :: ls)).length = _ ∧ ∀ x ∈ ([c] ++ [] : Tx) ++ TL.joinL [] (s2 :: ls), _
    refine ⟨by simp only [List.length_append, List.length_cons, List.length_nil] at *; omega, fun x hx => ?_⟩
    rcases List.mem_append.mp hx with hx | hx
    · rw [List.append_nil] at hx
      rw [List.mem_singleton.mp hx]; exact hs
    · exact i2 x hx
def wdBody : FM := (fDraw spPick 1 1 0 (mA (fCons (fVar 3) fNil)))
theorem wordLoop {t : Addr} {sgs : List Tx} (b : D) (s2 s4 : Sl) (P : List D → Rho → Prop) (hsg : sgs.length ≤ 9) : ∀ (ks : List D) (m : Nat) (acc : List Tx), m + ks.length ≤ LIM → acc.length + ks.length ≤ sizeLine → (ks = [] ∨ 0 < sgs.length) → (∀ s ∈ acc, s ∈ sgs) →
    (∀ m' (acc' : List Tx), m' ≤ m + ks.length → acc'.length = acc.length + ks.length → (∀ s ∈ acc', s ∈ sgs) → P (acc'.map .str) [.tk t m', .sh b, s2, .sh (.lst (sgs.map .str)), s4, .no, .no]) →
    blkM (fgN 6) fYes wdBody [6] ks [.tk t m, .sh b, s2, .sh (.lst (sgs.map .str)), s4, .no, .no] (acc.map .str) P
  | [], m, acc, hm, hz, hne, hs, h => h m acc (Nat.le_refl _) rfl hs
  | k :: ks, m, acc, hm, hz, hne, hs, h => by
    simp only [List.length_cons] at hm hz h
    have h0 : 0 < sgs.length := hne.elim (fun z => by cases z) id
    refine ⟨rfl, rfl, ?_⟩
    refine ⟨rfl, by omega, _, rfl, by rw [List.length_map]; exact h0, by rw [List.length_map]; omega, fun d hd => ?_⟩
    obtain ⟨s, hmem, rfl⟩ := List.mem_map.mp hd
    refine ⟨by rw [List.length_map]; omega, rfl, ?_⟩
    have := wordLoop b s2 s4 P hsg ks (m + 1) (acc ++ [s]) (by omega) (by simp only [List.length_append, List.length_cons, List.length_nil]; omega) (.inr h0)
      (fun x hx => (List.mem_append.mp hx).elim (hs x) fun z => by rw [List.mem_singleton.mp z]; exact hmem) fun m' acc' h1 h2 h3 => h m' acc' (by omega) (by simp only [List.length_append, List.length_cons, List.length_nil] at h2; omega) h3
    rw [List.map_append] at this
    exact this
def spWord : GA := fun ds P => ∃ E R, ds = [bookD E R, .int 6] ∧ Wf E R ∧ ∀ x, Wd E x → P (.str x)
theorem pl_word (t : Addr) (m : Nat) (ds : List D) (Q : D → Prop) (hl : ds.length + 1 = 3) (hm : m + 7 ≤ LIM) (h : spWord ds Q) : G_L_word spDip spPick 1 1 (EnT t (m + 7) Q) (initT N_L_word.length t m ds) := by
  obtain ⟨E, R, rfl, w, q⟩ := h
  have nE := w.nE
  refine ⟨rfl, .tup (E.map entD), rfl, ?_⟩
  refine blkMap (fun d => match d with | .tup [.str l, _] => .str l | _ => .non) (fun d hd R' r' => ?_) (by rw [List.length_map, sz]; omega) ?_
  · obtain ⟨e, he, rfl⟩ := List.mem_map.mp hd
    exact ⟨rfl, rfl, _, rfl, r'⟩
  · have e3 : (E.map entD).map (fun d => match d with | .tup [.str l, _] => D.str l | _ => .non) = (E.map (·.1)).map D.str := by rw [List.map_map, List.map_map]; rfl
    rw [e3]
    refine ⟨rfl, by omega, 7, rfl, by decide, by decide, fun r r1 r2 => ?_⟩
    have okS : ∀ s ∈ E.map (·.1), ∀ c ∈ s, c < 1114112 := fun s hs c hc => by
      obtain ⟨e, he, rfl⟩ := List.mem_map.mp hs
      obtain ⟨y, hy, h1, h2⟩ := (w.ents e he).1
      rw [hy] at hc
      rw [List.mem_singleton.mp hc]; omega
    have hsl : (E.map (·.1)).length ≤ 9 := by rw [List.length_map]; exact nE
    refine ⟨Nat.zero_le _, gEq_nilS okS ?_⟩
    have fin : ∀ j : Int, 0 ≤ j → j < 7 → (j = 0 ∨ 0 < (E.map (·.1)).length) → int1 [.int j] fun j => -(2 ^ 62) ≤ j ∧ j < 2 ^ 62 ∧ (noOwn [.tk t (m + 1), .sh (bookD E R), .sh (.int 6), .sh (.lst ((E.map (·.1)).map .str)), .sh (.int r), .no, .no] [6] = true ∧ blkM (fgN 6) fYes wdBody [6] (rngD 0 1 j.toNat) [.tk t (m + 1), .sh (bookD E R), .sh (.int 6), .sh (.lst ((E.map (·.1)).map .str)), .sh (.int r), .no, .no] [] fun es ρ' => asStrs (.lst es) fun ls => (ls.map (·.length)).sum + ls.length * (T "").length ≤ 16777216 ∧ (EnT t (m + 7) Q).rt (.str (TL.joinL (T "") ls)) ρ') := by
      intro j j1 j2 hj
      refine ⟨by omega, by omega, rfl, ?_⟩
      have hn : (rngD 0 1 j.toNat).length ≤ 6 := by rw [rngD_len]; omega
      refine wordLoop (sgs := E.map (·.1)) (bookD E R) _ _ _ hsl (rngD 0 1 j.toNat) (m + 1) [] (by omega) (by rw [sz]; simp only [List.length_nil]; omega) (hj.elim (fun z => .inl (by rw [z]; rfl)) .inr) (fun s hs => by cases hs) fun m' acc h1 h2 h3 => ?_
      have eN : T "" = [] := by decide +kernel
      obtain ⟨i1, i2⟩ := join_nil_low w acc h3
      simp only [List.length_nil, Nat.zero_add] at h2
      have hsum : (acc.map (·.length)).sum = acc.length := by
        clear h1 h2 i1 i2
        induction acc with
        | nil => rfl
        | cons s acc ih =>
          have := ih fun x hx => h3 x (List.mem_cons_of_mem _ hx)
          obtain ⟨e, he, e2⟩ := List.mem_map.mp (h3 s List.mem_cons_self)
          obtain ⟨y, hy, _⟩ := (w.ents e he).1
          have : s.length = 1 := by rw [← e2, hy]; rfl
          simp only [List.map_cons, List.sum_cons, List.length_cons]
          omega
      rw [eN]
      refine ⟨acc, ssOf_str _, by simp only [List.length_nil]; omega, ⟨m', rfl, by omega⟩, q _ ⟨i2, by omega⟩⟩
    by_cases e : (E.map (·.1)).isEmpty = true
    · refine iteF (b := !(E.map (·.1)).isEmpty) (by rw [e]; rfl) ?_
      exact fin 0 (by decide) (by decide) (.inl rfl)
    · refine iteT (b := !(E.map (·.1)).isEmpty) (by simpa using e) ?_
      exact fin r r1 (by omega) (.inr (List.length_pos_iff.mpr (by simpa using e)))
end K16
namespace K16
open PySem PySem.Spec PyProof.Rows L2 DL
/-! ### what is shown -/
theorem once_sub (x : Tx) : ∀ (ls L : List Tx) (s : Tx), s ∈ ls.foldl (add1 x) L → s ∈ L ∨ s ∈ ls
  | [], L, s, h => .inl h
  | y :: ls, L, s, h => by
    rcases once_sub x ls (add1 x L y) s h with h | h
    · unfold add1 at h
      split at h
      · exact .inl h
      · rcases List.mem_append.mp h with h | h
        · exact .inl h
        · exact .inr (by rw [List.mem_singleton.mp h]; exact List.mem_cons_self)
    · exact .inr (List.mem_cons_of_mem _ h)
def Shw (s : Tx) : Prop := s.length ≤ 30 ∧ ∀ c ∈ s, low c
theorem res_shw {E : List Ent} {R : List Rl} {x : Tx} (w : Wf E R) (hx : Wd E x) (r : Rl) (hr : RlOk r) : ∀ s ∈ res E r x, Shw s := by
  have hl := hx.len
  have lw := low_of w hx
  have tk : ∀ k, ∀ c ∈ x.take k, low c := fun k c hc => lw c (List.mem_of_mem_take hc)
  have dp : ∀ k, ∀ c ∈ x.drop k, low c := fun k c hc => lw c (List.mem_of_mem_drop hc)
  intro s hs
  cases r with
  | drop n l =>
    obtain ⟨k, _, rfl⟩ := List.mem_map.mp hs
    exact ⟨by simp only [List.length_append, List.length_take, List.length_drop]; omega, fun c hc => (List.mem_append.mp hc).elim (tk _ c) (dp _ c)⟩
  | put a b l =>
    obtain ⟨k, _, e⟩ := List.mem_filterMap.mp hs
    split at e
    · cases e
      exact ⟨by have := hr.2.1; simp only [List.length_append, List.length_take, List.length_drop]; omega, fun c hc => (List.mem_append.mp hc).elim (fun hc => (List.mem_append.mp hc).elim (tk _ c) (hr.2.2 c)) (dp _ c)⟩
    · cases e
  | empty =>
    rw [List.mem_singleton.mp hs]
    exact ⟨Nat.zero_le _, fun c hc => by cases hc⟩
  | half l =>
    have := List.mem_singleton.mp hs
    subst this
    cases l
    · exact ⟨by show (x.drop _).length ≤ 30; rw [List.length_drop]; omega, fun c hc => dp _ c hc⟩
    · exact ⟨by show (x.take _).length ≤ 30; rw [List.length_take]; omega, fun c hc => tk _ c hc⟩
  | lower l =>
    obtain ⟨k, hk, h2⟩ := List.mem_flatMap.mp hs
    obtain ⟨y, hy, rfl⟩ := List.mem_map.mp h2
    have hkl := places_lt hk
    have hc : x[k]? = some x[k] := List.getElem?_eq_getElem hkl
    have ed := drop_take1 hc
    obtain ⟨_, _, g3⟩ := less_get w (hx.lt _ (List.getElem_mem hkl))
    rw [ed] at hy
    obtain ⟨z, rfl, lz⟩ := g3 y hy
    exact ⟨by simp only [List.length_append, List.length_take, List.length_drop, List.length_cons, List.length_nil]; omega, fun c hc => (List.mem_append.mp hc).elim (fun hc => (List.mem_append.mp hc).elim (tk _ c) fun hc => by rw [List.mem_singleton.mp hc]; exact lz) (dp _ c)⟩
theorem shw_rep {s : Tx} (h : Shw s) (n : Nat) : repOk n (.str s) = true := by
  have e : (decide (s.length ≤ sizeLine) && s.all fun c => decide (c < 1114112)) = true := by
    rw [Bool.and_eq_true, decide_eq_true_eq, List.all_eq_true]
    exact ⟨by rw [sz]; have := h.1; omega, fun c hc => decide_eq_true (by have := h.2 c hc; unfold low at this; omega)⟩
  cases n <;> exact e
theorem reprTwo {ls : List Tx} {P : D → Prop} (h : ∀ s ∈ ls, Shw s) (hl : ls.length ≤ 1000) (p : P (.str (shT (.lst [.tup (ls.map .str), .tup (ls.map .str)])))) : gRepr [.lst [.tup (ls.map .str), .tup (ls.map .str)]] P := by
  have h1 : repOk 1 (.tup (ls.map .str)) = true := by
    show repAll 0 (ls.map .str) = true
    exact repAll_of fun d hd => by
      obtain ⟨s, hs, rfl⟩ := List.mem_map.mp hd
      exact shw_rep (h s hs) 0
  refine gRepr_lst (n := 2) ?_ (by decide) ?_ p
  · show repAll 1 [.tup (ls.map .str), .tup (ls.map .str)] = true
    exact repAll_of fun d hd => by
      simp only [List.mem_cons, List.not_mem_nil, or_false] at hd
      rcases hd with rfl | rfl <;> exact h1
  · have h3 : szAll (ls.map .str) ≤ (ls.map D.str).length * (302 + 2) := szAll_le fun d hd => by
      obtain ⟨s, hs, rfl⟩ := List.mem_map.mp hd
      have := (h s hs).1
      show 10 * s.length + 2 ≤ 302
      omega
    rw [List.length_map] at h3
    rw [sz]
    simp only [szD, szAll]
    omega
theorem rule_rep {r : Rl} (h : RlOk r) (n : Nat) : repOk (n + 1) (ruleD r) = true ∧ szD (ruleD r) ≤ 1000 := by
  have sd : ∀ l n, repOk n (side l) = true := fun l n => shw_rep (s := if l then T "left" else T "right") (by cases l <;> exact ⟨by decide +kernel, by decide +kernel⟩) n
  have z : ∀ l, szD (side l) ≤ 52 := fun l => by cases l <;> decide +kernel
  have st : ∀ (s : Tx) n, (decide (s.length ≤ sizeLine) && s.all fun c => decide (c < 1114112)) = true → repOk n (.str s) = true := fun s n h => by cases n <;> exact h
  cases r with
  | drop m l =>
    have hi : repOk n (.int (m : Int)) = true := by
      have e : decide ((m : Int).natAbs.log2 < 1920) = true := by
        have h1 := h.1
        have h2 := h.2
        have : m = 1 ∨ m = 2 ∨ m = 3 ∨ m = 4 ∨ m = 5 ∨ m = 6 ∨ m = 7 ∨ m = 8 ∨ m = 9 := by omega
        rcases this with rfl | rfl | rfl | rfl | rfl | rfl | rfl | rfl | rfl <;> decide +kernel
      cases n <;> exact e
    refine ⟨?_, ?_⟩
    · show repAll n [.str (T "drop"), .int m, side l] = true
      exact repAll_of fun d hd => by
        simp only [List.mem_cons, List.not_mem_nil, or_false] at hd
        rcases hd with rfl | rfl | rfl
        · exact st _ _ (by decide +kernel)
        · exact hi
        · exact sd l n
    · have := z l
      have e : szD (.str (T "drop")) = 42 := by decide +kernel
      have h2 := h.2
      show szD (.tup [.str (T "drop"), .int m, side l]) ≤ 1000
      simp only [szD, szAll] at *
      omega
  | put a b l =>
    obtain ⟨⟨c, rfl, hc⟩, hb, hb2⟩ := h
    refine ⟨?_, ?_⟩
    · show repAll n [.str (T "put"), .str [c], .str b, side l] = true
      exact repAll_of fun d hd => by
        simp only [List.mem_cons, List.not_mem_nil, or_false] at hd
        rcases hd with rfl | rfl | rfl | rfl
        · exact st _ _ (by decide +kernel)
        · exact low_rep ⟨c, rfl, hc⟩ n
        · exact shw_rep ⟨by omega, hb2⟩ n
        · exact sd l n
    · have := z l
      have e : szD (.str (T "put")) = 32 := by decide +kernel
      show szD (.tup [.str (T "put"), .str [c], .str b, side l]) ≤ 1000
      simp only [szD, szAll, List.length_cons, List.length_nil] at *
      omega
  | empty => exact ⟨by
      show repAll n [.str (T "empty")] = true
      exact repAll_of fun d hd => by rw [List.mem_singleton.mp hd]; exact st _ _ (by decide +kernel), by decide +kernel⟩
  | half l =>
    refine ⟨?_, by cases l <;> decide +kernel⟩
    show repAll n [.str (T "half"), side l] = true
    exact repAll_of fun d hd => by
      simp only [List.mem_cons, List.not_mem_nil, or_false] at hd
      rcases hd with rfl | rfl
      · exact st _ _ (by decide +kernel)
      · exact sd l n
  | lower l =>
    refine ⟨?_, by cases l <;> decide +kernel⟩
    show repAll n [.str (T "lower"), side l] = true
    exact repAll_of fun d hd => by
      simp only [List.mem_cons, List.not_mem_nil, or_false] at hd
      rcases hd with rfl | rfl
      · exact st _ _ (by decide +kernel)
      · exact sd l n
theorem ent_sz {e : Ent} (h : EntOk e) : szD (entD e) ≤ 1000 := by
  obtain ⟨c, hc, _⟩ := h.1
  have h3 : szAll (e.2.map .str) ≤ (e.2.map D.str).length * (12 + 2) := szAll_le fun d hd => by
    obtain ⟨s, hs, rfl⟩ := List.mem_map.mp hd
    obtain ⟨y, rfl, _⟩ := h.2.2 s hs
    show 10 * 1 + 2 ≤ 12
    omega
  rw [List.length_map] at h3
  have := h.2.1
  show szD (.tup [.str e.1, .tup (e.2.map .str)]) ≤ 1000
  rw [hc]
  simp only [szD, szAll, List.length_cons, List.length_nil]
  omega
theorem reprBook {E : List Ent} {R : List Rl} {P : D → Prop} (w : Wf E R) (p : P (.str (shT (bookD E R)))) : gRepr [bookD E R] P := by
  have nE := w.nE
  have nR := w.nR
  have h1 : repOk 3 (.tup (E.map entD)) = true := by
    show repAll 2 (E.map entD) = true
    exact repAll_of fun d hd => by
      obtain ⟨e, he, rfl⟩ := List.mem_map.mp hd
      exact ent_rep (w.ents e he)
  have h2 : repOk 3 (.tup (R.map ruleD)) = true := by
    show repAll 2 (R.map ruleD) = true
    exact repAll_of fun d hd => by
      obtain ⟨e, he, rfl⟩ := List.mem_map.mp hd
      exact (rule_rep (w.rules e he) 1).1
  refine gRepr_tup (n := 4) ?_ (by decide) ?_ p
  · show repAll 3 [.tup (E.map entD), .tup (R.map ruleD)] = true
    exact repAll_of fun d hd => by
      simp only [List.mem_cons, List.not_mem_nil, or_false] at hd
      rcases hd with rfl | rfl
      · exact h1
      · exact h2
  · have h3 : szAll (E.map entD) ≤ (E.map entD).length * (1000 + 2) := szAll_le fun d hd => by
      obtain ⟨e, he, rfl⟩ := List.mem_map.mp hd
      exact ent_sz (w.ents e he)
    have h4 : szAll (R.map ruleD) ≤ (R.map ruleD).length * (1000 + 2) := szAll_le fun d hd => by
      obtain ⟨e, he, rfl⟩ := List.mem_map.mp hd
      exact (rule_rep (w.rules e he) 1).2
    rw [List.length_map] at h3 h4
    rw [sz]
    simp only [szD, szAll]
    omega
theorem all_flat (E : List Ent) (R : List Rl) (x : Tx) : allRes E R x (List.range R.length) = R.flatMap fun r => res E r x := by
  unfold allRes
  rw [List.flatMap_def, List.flatMap_def]
  congr 1
  apply List.ext_getElem
  · simp
  · intro i h1 h2
    simp only [List.length_map] at h2
    simp [List.getElem?_eq_getElem h2]
end K16
namespace K16
open PySem PySem.Spec PyProof.Rows L2 DL
/-! ### the law -/
def spScenes : GA := fun ds P => ds = [] ∧ P (.lst (scenes.map .str))
def spMenu : GA := fun ds P => ds = [] ∧ P menuD
def kwSrc2 : List Src := [.kw 1, .kw 0]
def kwSrc3 : List Src := [.kw 2, .kw 1, .kw 0]
def kwSteps : GA := fun all Q => ∃ ds es, all = ds ++ es ∧ ds.length = 0 ∧ spStepsOf (kwSrc2.map (Src.get ds es [] .non)) Q
def kwRule : GA := fun all Q => ∃ ds es, all = ds ++ es ∧ ds.length = 0 ∧ spRuleSteps (kwSrc3.map (Src.get ds es [] .non)) Q
def lawIn : FS := (gSeq (gAsg (fCallB gTuple (fCons (fCall spOnce 2 (fCons (fVar 5) (fCons (fCall spResultsL 3 (fCons (fVar 2) (fCons (fOp gIx (fOp gIx (fVar 2) (fC (.int 1))) (fVar 7)) (fCons (fVar 5) fNil)))) fNil))) fNil)) (fgN 6))
  (gIf (fB (fOp gNe (fCallB gRepr (fCons (fLst (fCons (fCall spRuleSteps 3 (fCons (fVar 2) (fCons (fVar 7) (fCons (fVar 5) fNil)))) (fCons (fun ρ P => (fCons (fVar 5) (fCons (fVar 7) (fCons (fVar 2) fNil))) ρ fun es => es.length = 3 ∧ kwRule es P) fNil))) fNil)) (fCallB gRepr (fCons (fLst (fCons (fVar 6) (fCons (fVar 6) fNil))) fNil))))
  (gRet (fC (.bl false)))
  gNext))
def lawBody : FS := (gSeq (fun E ρ => (fDraw spWord 7 2 1 (mA (fCons (fVar 2) (fCons (fC (.int 6)) fNil)))) ρ fun d ρ' => E.nx (ρ'.set 5 (.sh d)))
  (gSeq (gAsg (fCallB gTuple (fCons (fCall spStepsL 2 (fCons (fVar 2) (fCons (fVar 5) fNil))) fNil)) (fgN 6))
  (gSeq (gIf (fB (fOp gNe (fCallB gRepr (fCons (fLst (fCons (fCall spStepsOf 2 (fCons (fVar 2) (fCons (fVar 5) fNil))) (fCons (fun ρ P => (fCons (fVar 5) (fCons (fVar 2) fNil)) ρ fun es => es.length = 2 ∧ kwSteps es P) fNil))) fNil)) (fCallB gRepr (fCons (fLst (fCons (fVar 6) (fCons (fVar 6) fNil))) fNil))))
  (gRet (fC (.bl false)))
  gNext)
  (gFor (fRng1 (fCons (fCallB gLenS (fCons (fOp gIx (fVar 2) (fC (.int 1))) fNil)) fNil)) (fgN 7) lawIn))))
theorem eqReprs {a : Tx} {S0 S1 : Prop} (h : S0) : if (!decide (a = a)) = true then S1 else S0 := iteF (by rw [decide_eq_true rfl]; rfl) h
theorem flat900 {E : List Ent} {R : List Rl} {x : Tx} (w : Wf E R) (hx : Wd E x) : (R.flatMap fun r => res E r x).length ≤ 900 := by
  have hf := flat_len (fun r => res E r x) 100 R fun r _ => res_len w hx r
  have := w.nR
  omega
theorem inLoop {E : List Ent} {R : List Rl} {x : Tx} (w : Wf E R) (hx : Wd E x) (s0 s1 s3 s4 : Sl) (En' : Dn) : ∀ (ks : List D) (s6 s7 : Sl), (∀ d ∈ ks, ∃ k : Nat, d = .int k ∧ k < R.length) →
    (∀ s6 s7, En'.nx [s0, s1, .sh (bookD E R), s3, s4, .sh (.str x), s6, s7]) →
    forD (fgN 7) lawIn ks En' [s0, s1, .sh (bookD E R), s3, s4, .sh (.str x), s6, s7]
  | [], s6, s7, hk, h => h s6 s7
  | d :: ks, s6, s7, hk, h => by
    obtain ⟨k, rfl, hkl⟩ := hk d List.mem_cons_self
    have hr : R[k]? = some R[k] := List.getElem?_eq_getElem hkl
    have ok := w.rules _ (List.getElem_mem hkl)
    have rl := res_len w hx R[k]
    have shw : ∀ s ∈ once x (res E R[k] x), Shw s := fun s hs => (once_sub x _ [] s hs).elim (fun z => by cases z) (res_shw w hx _ ok s)
    have ol : (once x (res E R[k] x)).length ≤ 1000 := by have := fold_len x (res E R[k] x) []; unfold once; simp only [List.length_nil] at this; omega
    refine ⟨.tup (R.map ruleD), rfl, ruleD R[k], atI_map R k _ hr, rfl, E, R, R[k], x, rfl, w, hx, ok, ?_⟩
    refine ⟨rfl, x, _, rfl, by omega, ?_⟩
    refine ⟨rfl, E, R, k, x, R[k], rfl, w, hx, hr, ?_⟩
    refine ⟨rfl, [], _, rfl, rfl, E, R, k, x, R[k], rfl, w, hx, hr, ?_⟩
    refine ⟨two_le, ?_⟩
    dsimp only [fNil]
    refine reprTwo shw ol ⟨two_le, ?_⟩
    dsimp only [fNil]
    refine reprTwo shw ol (eqReprs ?_)
    exact inLoop w hx s0 s1 s3 s4 En' ks _ _ (fun d hd => hk d (List.mem_cons_of_mem _ hd)) h
theorem lawLoop {t : Addr} {E : List Ent} {R : List Rl} (w : Wf E R) (s0 s3 : Sl) (En' : Dn) : ∀ (ks : List D) (m : Nat) (s4 s5 s6 s7 : Sl), m + 7 * ks.length ≤ LIM →
    (∀ m' s4 s5 s6 s7, En'.nx [s0, .tk t m', .sh (bookD E R), s3, s4, s5, s6, s7]) →
    forD (fgN 4) lawBody ks En' [s0, .tk t m, .sh (bookD E R), s3, s4, s5, s6, s7]
  | [], m, s4, s5, s6, s7, hm, h => h m s4 s5 s6 s7
  | d :: ks, m, s4, s5, s6, s7, hm, h => by
    simp only [List.length_cons] at hm
    refine ⟨rfl, by omega, E, R, rfl, w, fun x hx => ?_⟩
    have shw : ∀ s ∈ once x (R.flatMap fun r => res E r x), Shw s := fun s hs => (once_sub x _ [] s hs).elim (fun z => by cases z) fun z => by
      obtain ⟨r, hr, h2⟩ := List.mem_flatMap.mp z
      exact res_shw w hx _ (w.rules r hr) s h2
    have ol : (once x (R.flatMap fun r => res E r x)).length ≤ 1000 := by have h1 := fold_len x (R.flatMap fun r => res E r x) []; have h2 := flat900 w hx; unfold once; simp only [List.length_nil] at h1; omega
    have e := all_flat E R x
    refine ⟨rfl, E, R, x, rfl, w, hx, ?_⟩
    refine ⟨rfl, E, R, x, rfl, w, hx, ?_⟩
    rw [e]
    refine ⟨rfl, [], _, rfl, rfl, E, R, x, rfl, w, hx, ?_⟩
    rw [e]
    refine ⟨two_le, ?_⟩
    dsimp only [fNil]
    refine reprTwo shw ol ⟨two_le, ?_⟩
    dsimp only [fNil]
    refine reprTwo shw ol (eqReprs ?_)
    have nR := w.nR
    refine ⟨.tup (R.map ruleD), rfl, (R.map ruleD).length, rfl, (fun _ _ z => by cases z), by omega, by rw [List.length_map]; omega, ?_⟩
    refine inLoop w hx s0 _ s3 _ _ _ _ s7 (fun d hd => ?_) fun s6 s7 => ?_
    · unfold rngD at hd
      obtain ⟨k, hk, rfl⟩ := List.mem_map.mp hd
      have := List.mem_range.mp hk
      rw [List.length_map] at this
      exact ⟨k, by rw [Int.zero_add, Int.mul_one], by omega⟩
    · exact lawLoop w s0 s3 En' ks (m + 7) _ _ _ _ (by omega) h
def spLaw : GA := fun ds P => ∃ ns : List Int, ds = [.scr ns] ∧ P (.bl true)
theorem pl_law (ds : List D) (Q : D → Prop) (h : spLaw ds Q) : G_law spBook spMenu spNames spOnce spResultsL spScenes spStepsL spWord spRuleSteps kwRule spStepsOf kwSteps 10 1 7 (En Q) (initR N_law.length ds) := by
  obtain ⟨ns, rfl, q⟩ := h
  refine ⟨ns, rfl, fun a => ?_⟩
  refine ⟨rfl, rfl, rfl, (show 1 ≤ LIM by unfold LIM; decide), rfl, fun c0 c1 c2 c3 lw => ?_⟩
  refine ⟨rfl, (show 11 ≤ LIM by unfold LIM; decide), c0, c1, c2, c3, rfl, lw, fun E R w => ?_⟩
  obtain ⟨_, h1, h2, h3, h4, h5, _⟩ := reprBook (P := fun _ => True) w trivial
  refine ⟨trivial, h1, h2, h3, h4, h5, ?_⟩
  refine ⟨by decide, by decide, ?_⟩
  refine lawLoop w _ _ _ _ 11 _ _ _ _ (by decide) fun m' s4 s5 s6 s7 => ?_
  refine ⟨trivial, h1, h2, h3, h4, h5, ?_⟩
  show Q (.bl (decide (_ = _)))
  rw [decide_eq_true rfl]
  exact q
end K16
namespace K16
open PySem PySem.Spec PyProof.Rows L2 DL
/-! ### the head: facts by names, the run -/
def d_is_integer : He.DefD := ⟨("is_integer", none), "is_integer", "is_integer", defArgs s_is_integer, defBody s_is_integer, defScope s_is_integer, [], []⟩
def d_is_number : He.DefD := ⟨("is_number", none), "is_number", "is_number", defArgs s_is_number, defBody s_is_number, defScope s_is_number, [], []⟩
def d_is_thing : He.DefD := ⟨("is_thing", none), "is_thing", "is_thing", defArgs s_is_thing, defBody s_is_thing, defScope s_is_thing, [], []⟩
def d_want : He.DefD := ⟨("want", none), "want", "want", defArgs s_want, defBody s_want, defScope s_want, [.int (-1)], []⟩
def d_known_letters : He.DefD := ⟨("known_letters", none), "known_letters", "known_letters", defArgs s_known_letters, defBody s_known_letters, defScope s_known_letters, [], []⟩
def d_is_thing_of : He.DefD := ⟨("is_thing_of", none), "is_thing_of", "is_thing_of", defArgs s_is_thing_of, defBody s_is_thing_of, defScope s_is_thing_of, [], []⟩
def d_want_thing : He.DefD := ⟨("want_thing", none), "want_thing", "want_thing", defArgs s_want_thing, defBody s_want_thing, defScope s_want_thing, [], []⟩
def d_places_of : He.DefD := ⟨("places_of", none), "places_of", "places_of", defArgs s_places_of, defBody s_places_of, defScope s_places_of, [], []⟩
def d_dropped : He.DefD := ⟨("dropped", none), "dropped", "dropped", defArgs s_dropped, defBody s_dropped, defScope s_dropped, [], []⟩
def d_halved : He.DefD := ⟨("halved", none), "halved", "halved", defArgs s_halved, defBody s_halved, defScope s_halved, [], []⟩
def d_lowered : He.DefD := ⟨("lowered", none), "lowered", "lowered", defArgs s_lowered, defBody s_lowered, defScope s_lowered, [], []⟩
def d_put_results : He.DefD := ⟨("put_results", none), "put_results", "put_results", defArgs s_put_results, defBody s_put_results, defScope s_put_results, [], []⟩
def d_results_of : He.DefD := ⟨("results_of", none), "results_of", "results_of", defArgs s_results_of, defBody s_results_of, defScope s_results_of, [], []⟩
def d_steps_from : He.DefD := ⟨("steps_from", none), "steps_from", "steps_from", defArgs s_steps_from, defBody s_steps_from, defScope s_steps_from, [], []⟩
def d_plain_steps : He.DefD := ⟨("plain_steps", none), "plain_steps", "plain_steps", defArgs s_plain_steps, defBody s_plain_steps, defScope s_plain_steps, [], []⟩
def d_steps_of : He.DefD := ⟨("steps_of", none), "steps_of", "steps_of", defArgs s_steps_of, defBody s_steps_of, defScope s_steps_of, [], []⟩
def d_rule_steps : He.DefD := ⟨("rule_steps", none), "rule_steps", "rule_steps", defArgs s_rule_steps, defBody s_rule_steps, defScope s_rule_steps, [], []⟩
def d_L_spring : He.DefD := ⟨("_law_spring", none), "_law_spring", "_law_spring", defArgs s_L_spring, defBody s_L_spring, defScope s_L_spring, [], []⟩
def d_L_dip : He.DefD := ⟨("_law_dip", none), "_law_dip", "_law_dip", defArgs s_L_dip, defBody s_L_dip, defScope s_L_dip, [], []⟩
def d_L_pick : He.DefD := ⟨("_law_pick", none), "_law_pick", "_law_pick", defArgs s_L_pick, defBody s_L_pick, defScope s_L_pick, [], []⟩
def d_L_rule : He.DefD := ⟨("_law_rule", none), "_law_rule", "_law_rule", defArgs s_L_rule, defBody s_L_rule, defScope s_L_rule, [], []⟩
def d_L_read : He.DefD := ⟨("_law_read", none), "_law_read", "_law_read", defArgs s_L_read, defBody s_L_read, defScope s_L_read, [], []⟩
def d_L_names : He.DefD := ⟨("_law_names", none), "_law_names", "_law_names", defArgs s_L_names, defBody s_L_names, defScope s_L_names, [], []⟩
def d_L_drawn : He.DefD := ⟨("_law_drawn", none), "_law_drawn", "_law_drawn", defArgs s_L_drawn, defBody s_L_drawn, defScope s_L_drawn, [], []⟩
def d_L_book : He.DefD := ⟨("_law_book", none), "_law_book", "_law_book", defArgs s_L_book, defBody s_L_book, defScope s_L_book, [], []⟩
def d_L_word : He.DefD := ⟨("_law_word", none), "_law_word", "_law_word", defArgs s_L_word, defBody s_L_word, defScope s_L_word, [], []⟩
def d_L_results : He.DefD := ⟨("_law_results", none), "_law_results", "_law_results", defArgs s_L_results, defBody s_L_results, defScope s_L_results, [], []⟩
def d_L_once : He.DefD := ⟨("_law_once", none), "_law_once", "_law_once", defArgs s_L_once, defBody s_L_once, defScope s_L_once, [], []⟩
def d_L_steps : He.DefD := ⟨("_law_steps", none), "_law_steps", "_law_steps", defArgs s_L_steps, defBody s_L_steps, defScope s_L_steps, [], []⟩
def d_L_scenes : He.DefD := ⟨("_law_scenes", none), "_law_scenes", "_law_scenes", defArgs s_L_scenes, defBody s_L_scenes, defScope s_L_scenes, [], []⟩
def d_L_menu : He.DefD := ⟨("_law_menu", none), "_law_menu", "_law_menu", defArgs s_L_menu, defBody s_L_menu, defScope s_L_menu, [], []⟩
def d_law : He.DefD := ⟨("law", none), "law", "law", defArgs s_law, defBody s_law, defScope s_law, [], []⟩
def fn : List He.DefD := [d_is_integer, d_is_number, d_is_thing, d_want, d_known_letters, d_is_thing_of, d_want_thing, d_places_of, d_dropped, d_halved, d_lowered, d_put_results, d_results_of, d_steps_from, d_plain_steps, d_steps_of, d_rule_steps, d_L_spring, d_L_dip, d_L_pick, d_L_rule, d_L_read, d_L_names, d_L_drawn, d_L_book, d_L_word, d_L_results, d_L_once, d_L_steps, d_L_scenes, d_L_menu, d_law]
def fa : List He.Fa := [.glo "is_integer", .glo "is_number", .glo "is_thing", .glo "want", .glo "known_letters", .glo "is_thing_of", .glo "want_thing", .glo "places_of", .glo "dropped", .glo "halved", .glo "lowered", .glo "put_results", .glo "results_of", .glo "steps_from", .glo "plain_steps", .glo "steps_of", .glo "rule_steps", .glo "_law_spring", .glo "_law_dip", .glo "_law_pick", .glo "_law_rule", .glo "_law_read", .glo "_law_names", .glo "_law_drawn", .glo "_law_book", .glo "_law_word", .glo "_law_results", .glo "_law_once", .glo "_law_steps", .glo "_law_scenes", .glo "_law_menu", .glo "law", .free "isinstance", .free "len", .free "all", .free "max", .free "sorted", .free "tuple", .free "list", .free "dict", .free "int", .free "str", .free "bool", .free "range", .free "repr", .free "super", .free "ValueError", .str "LOWERCASE" "abcdefghijklmnopqrstuvwxyz"]
abbrev Rw : PySem.W.OpenRow := PySem.W.OpenLaw.row PySem.Challenge.rw_firstfailing_k16_steps_told
abbrev hk : PySem.W.Hook := He.hookD 4 fa fn
def ob (s : PySem.W.SharedT) : He.AlD := He.obsDG 4 fa fn (HandSHeadRun.getT s)
theorem ob_eq (s : PySem.W.SharedT) : ob s = hk.obs s.abs := He.obsDG_eq (HandSHeadRun.getT_eq s)
def loose : List Str := (["__name__", "FailError", "BookError", "NotUsable", "LOWERCASE", "is_integer", "is_number", "is_thing", "want", "known_letters", "is_thing_of", "want_thing", "places_of", "dropped", "halved", "lowered", "put_results", "results_of", "steps_from", "plain_steps"] : List Str) ++ (["steps_of", "rule_steps", "_law_spring", "_law_dip", "_law_pick", "_law_rule", "_law_read", "_law_names", "_law_drawn", "_law_book", "_law_word", "_law_results", "_law_once", "_law_steps", "_law_scenes", "_law_menu"] : List Str)
theorem run (w : World) : HandSHeadRun.RunEq Rw (PySem.W.view Rw.prog [40]) hk ob 20000 loose w := by
  intro os
  kernel_rfl
theorem facts {P : Program} {w : World} {K : PySem.W.Frag} {h : Heap} {mg : Str → Option Value} {f : Addr} (X : K.In h) (G : h.Ns mainGlobals mg) (hfa : mg ("law" : Str) = some (.ref f)) (c : He.SaysD fa fn K) :
    ∃ fd : FuncData, (∀ (s : Shared) (v : Value), BindsTo s fd ⟨[v], []⟩ [("_law_script", v)]) ∧ ∀ base : Heap, K.In base → base.Ns mainGlobals mg → FnG P w K mg base CX0 7 f fd ["_law_script"] (spD K 1 spLaw) := by
  obtain ⟨fd_is_integer, F_is_integer⟩ := c.def_ 0 (d := d_is_integer) rfl
  have m_is_integer : mg "is_integer" = some (.ref (He.fAd K d_is_integer.at_)) := He.glo_ok X G (c.fact 0 (f := .glo "is_integer") rfl)
  obtain ⟨fd_is_number, F_is_number⟩ := c.def_ 1 (d := d_is_number) rfl
  have m_is_number : mg "is_number" = some (.ref (He.fAd K d_is_number.at_)) := He.glo_ok X G (c.fact 1 (f := .glo "is_number") rfl)
  obtain ⟨fd_is_thing, F_is_thing⟩ := c.def_ 2 (d := d_is_thing) rfl
  have m_is_thing : mg "is_thing" = some (.ref (He.fAd K d_is_thing.at_)) := He.glo_ok X G (c.fact 2 (f := .glo "is_thing") rfl)
  obtain ⟨fd_want, F_want⟩ := c.def_ 3 (d := d_want) rfl
  have m_want : mg "want" = some (.ref (He.fAd K d_want.at_)) := He.glo_ok X G (c.fact 3 (f := .glo "want") rfl)
  obtain ⟨fd_known_letters, F_known_letters⟩ := c.def_ 4 (d := d_known_letters) rfl
  have m_known_letters : mg "known_letters" = some (.ref (He.fAd K d_known_letters.at_)) := He.glo_ok X G (c.fact 4 (f := .glo "known_letters") rfl)
  obtain ⟨fd_is_thing_of, F_is_thing_of⟩ := c.def_ 5 (d := d_is_thing_of) rfl
  have m_is_thing_of : mg "is_thing_of" = some (.ref (He.fAd K d_is_thing_of.at_)) := He.glo_ok X G (c.fact 5 (f := .glo "is_thing_of") rfl)
  obtain ⟨fd_want_thing, F_want_thing⟩ := c.def_ 6 (d := d_want_thing) rfl
  have m_want_thing : mg "want_thing" = some (.ref (He.fAd K d_want_thing.at_)) := He.glo_ok X G (c.fact 6 (f := .glo "want_thing") rfl)
  obtain ⟨fd_places_of, F_places_of⟩ := c.def_ 7 (d := d_places_of) rfl
  have m_places_of : mg "places_of" = some (.ref (He.fAd K d_places_of.at_)) := He.glo_ok X G (c.fact 7 (f := .glo "places_of") rfl)
  obtain ⟨fd_dropped, F_dropped⟩ := c.def_ 8 (d := d_dropped) rfl
  have m_dropped : mg "dropped" = some (.ref (He.fAd K d_dropped.at_)) := He.glo_ok X G (c.fact 8 (f := .glo "dropped") rfl)
  obtain ⟨fd_halved, F_halved⟩ := c.def_ 9 (d := d_halved) rfl
  have m_halved : mg "halved" = some (.ref (He.fAd K d_halved.at_)) := He.glo_ok X G (c.fact 9 (f := .glo "halved") rfl)
  obtain ⟨fd_lowered, F_lowered⟩ := c.def_ 10 (d := d_lowered) rfl
  have m_lowered : mg "lowered" = some (.ref (He.fAd K d_lowered.at_)) := He.glo_ok X G (c.fact 10 (f := .glo "lowered") rfl)
  obtain ⟨fd_put_results, F_put_results⟩ := c.def_ 11 (d := d_put_results) rfl
  have m_put_results : mg "put_results" = some (.ref (He.fAd K d_put_results.at_)) := He.glo_ok X G (c.fact 11 (f := .glo "put_results") rfl)
  obtain ⟨fd_results_of, F_results_of⟩ := c.def_ 12 (d := d_results_of) rfl
  have m_results_of : mg "results_of" = some (.ref (He.fAd K d_results_of.at_)) := He.glo_ok X G (c.fact 12 (f := .glo "results_of") rfl)
  obtain ⟨fd_steps_from, F_steps_from⟩ := c.def_ 13 (d := d_steps_from) rfl
  have m_steps_from : mg "steps_from" = some (.ref (He.fAd K d_steps_from.at_)) := He.glo_ok X G (c.fact 13 (f := .glo "steps_from") rfl)
  obtain ⟨fd_plain_steps, F_plain_steps⟩ := c.def_ 14 (d := d_plain_steps) rfl
  have m_plain_steps : mg "plain_steps" = some (.ref (He.fAd K d_plain_steps.at_)) := He.glo_ok X G (c.fact 14 (f := .glo "plain_steps") rfl)
  obtain ⟨fd_steps_of, F_steps_of⟩ := c.def_ 15 (d := d_steps_of) rfl
  have m_steps_of : mg "steps_of" = some (.ref (He.fAd K d_steps_of.at_)) := He.glo_ok X G (c.fact 15 (f := .glo "steps_of") rfl)
  obtain ⟨fd_rule_steps, F_rule_steps⟩ := c.def_ 16 (d := d_rule_steps) rfl
  have m_rule_steps : mg "rule_steps" = some (.ref (He.fAd K d_rule_steps.at_)) := He.glo_ok X G (c.fact 16 (f := .glo "rule_steps") rfl)
  obtain ⟨fd_L_spring, F_L_spring⟩ := c.def_ 17 (d := d_L_spring) rfl
  have m_L_spring : mg "_law_spring" = some (.ref (He.fAd K d_L_spring.at_)) := He.glo_ok X G (c.fact 17 (f := .glo "_law_spring") rfl)
  obtain ⟨fd_L_dip, F_L_dip⟩ := c.def_ 18 (d := d_L_dip) rfl
  have m_L_dip : mg "_law_dip" = some (.ref (He.fAd K d_L_dip.at_)) := He.glo_ok X G (c.fact 18 (f := .glo "_law_dip") rfl)
  obtain ⟨fd_L_pick, F_L_pick⟩ := c.def_ 19 (d := d_L_pick) rfl
  have m_L_pick : mg "_law_pick" = some (.ref (He.fAd K d_L_pick.at_)) := He.glo_ok X G (c.fact 19 (f := .glo "_law_pick") rfl)
  obtain ⟨fd_L_rule, F_L_rule⟩ := c.def_ 20 (d := d_L_rule) rfl
  have m_L_rule : mg "_law_rule" = some (.ref (He.fAd K d_L_rule.at_)) := He.glo_ok X G (c.fact 20 (f := .glo "_law_rule") rfl)
  obtain ⟨fd_L_read, F_L_read⟩ := c.def_ 21 (d := d_L_read) rfl
  have m_L_read : mg "_law_read" = some (.ref (He.fAd K d_L_read.at_)) := He.glo_ok X G (c.fact 21 (f := .glo "_law_read") rfl)
  obtain ⟨fd_L_names, F_L_names⟩ := c.def_ 22 (d := d_L_names) rfl
  have m_L_names : mg "_law_names" = some (.ref (He.fAd K d_L_names.at_)) := He.glo_ok X G (c.fact 22 (f := .glo "_law_names") rfl)
  obtain ⟨fd_L_drawn, F_L_drawn⟩ := c.def_ 23 (d := d_L_drawn) rfl
  have m_L_drawn : mg "_law_drawn" = some (.ref (He.fAd K d_L_drawn.at_)) := He.glo_ok X G (c.fact 23 (f := .glo "_law_drawn") rfl)
  obtain ⟨fd_L_book, F_L_book⟩ := c.def_ 24 (d := d_L_book) rfl
  have m_L_book : mg "_law_book" = some (.ref (He.fAd K d_L_book.at_)) := He.glo_ok X G (c.fact 24 (f := .glo "_law_book") rfl)
  obtain ⟨fd_L_word, F_L_word⟩ := c.def_ 25 (d := d_L_word) rfl
  have m_L_word : mg "_law_word" = some (.ref (He.fAd K d_L_word.at_)) := He.glo_ok X G (c.fact 25 (f := .glo "_law_word") rfl)
  obtain ⟨fd_L_results, F_L_results⟩ := c.def_ 26 (d := d_L_results) rfl
  have m_L_results : mg "_law_results" = some (.ref (He.fAd K d_L_results.at_)) := He.glo_ok X G (c.fact 26 (f := .glo "_law_results") rfl)
  obtain ⟨fd_L_once, F_L_once⟩ := c.def_ 27 (d := d_L_once) rfl
  have m_L_once : mg "_law_once" = some (.ref (He.fAd K d_L_once.at_)) := He.glo_ok X G (c.fact 27 (f := .glo "_law_once") rfl)
  obtain ⟨fd_L_steps, F_L_steps⟩ := c.def_ 28 (d := d_L_steps) rfl
  have m_L_steps : mg "_law_steps" = some (.ref (He.fAd K d_L_steps.at_)) := He.glo_ok X G (c.fact 28 (f := .glo "_law_steps") rfl)
  obtain ⟨fd_L_scenes, F_L_scenes⟩ := c.def_ 29 (d := d_L_scenes) rfl
  have m_L_scenes : mg "_law_scenes" = some (.ref (He.fAd K d_L_scenes.at_)) := He.glo_ok X G (c.fact 29 (f := .glo "_law_scenes") rfl)
  obtain ⟨fd_L_menu, F_L_menu⟩ := c.def_ 30 (d := d_L_menu) rfl
  have m_L_menu : mg "_law_menu" = some (.ref (He.fAd K d_L_menu.at_)) := He.glo_ok X G (c.fact 30 (f := .glo "_law_menu") rfl)
  obtain ⟨fd_law, F_law⟩ := c.def_ 31 (d := d_law) rfl
  have e := hfa.symm.trans (He.glo_ok X G (c.fact 31 (f := .glo "law") rfl))
  cases e
  have g_all : mg "all" = none := He.free_ok X G (c.fact 34 (f := .free "all") rfl)
  have g_bool : mg "bool" = none := He.free_ok X G (c.fact 42 (f := .free "bool") rfl)
  have g_dict : mg "dict" = none := He.free_ok X G (c.fact 39 (f := .free "dict") rfl)
  have g_int : mg "int" = none := He.free_ok X G (c.fact 40 (f := .free "int") rfl)
  have g_isinstance : mg "isinstance" = none := He.free_ok X G (c.fact 32 (f := .free "isinstance") rfl)
  have g_len : mg "len" = none := He.free_ok X G (c.fact 33 (f := .free "len") rfl)
  have g_list : mg "list" = none := He.free_ok X G (c.fact 38 (f := .free "list") rfl)
  have g_max : mg "max" = none := He.free_ok X G (c.fact 35 (f := .free "max") rfl)
  have g_range : mg "range" = none := He.free_ok X G (c.fact 43 (f := .free "range") rfl)
  have g_repr : mg "repr" = none := He.free_ok X G (c.fact 44 (f := .free "repr") rfl)
  have g_sorted : mg "sorted" = none := He.free_ok X G (c.fact 36 (f := .free "sorted") rfl)
  have g_str : mg "str" = none := He.free_ok X G (c.fact 41 (f := .free "str") rfl)
  have g_tuple : mg "tuple" = none := He.free_ok X G (c.fact 37 (f := .free "tuple") rfl)
  have k_LOWERCASE := He.str_ok X G (c.fact 47 (f := .str "LOWERCASE" "abcdefghijklmnopqrstuvwxyz") rfl)
  have b := FunD.bindsA (ps := P_law) F_law fun _ _ _ _ _ _ us hl => match us, hl with | [_], _ => rfl
  refine ⟨fd_law, fun s v => b s [v] rfl, fun base _ _ => ?_⟩
  -- L_dip
  have Z_L_dip : FnG P w K mg base CX0 1 _ fd_L_dip P_L_dip (spT K 1 spDip 1) := fnO (k := 0) F_L_dip sc_L_dip (by decide) (G_L_dip) spDip (fun cdv A outer s H E hr => dv_L_dip g_int g_len cdv A outer s H E hr) (fun t m d ds Q hl hm hd q => pl_dip t m d ds Q hl hm hd q) 1 rfl
  have C_c_L_dip : CalT P w K mg base 1 "_law_dip" 1 spDip 1 := CalT.pos F_L_dip m_L_dip 1 rfl Z_L_dip (fun _ _ _ _ _ _ us hl => match us, hl with | [_, _], _ => rfl)
  -- L_pick
  have Z_L_pick : FnG P w K mg base CX0 2 _ fd_L_pick P_L_pick (spT K 1 spPick 1) := fnT (k := 1) F_L_pick sc_L_pick (by decide) (G_L_pick spDip 1) spPick 1 (fun cdv A outer s H E hr => dv_L_pick g_len (C_c_L_dip.mono (by decide)) cdv A outer s H E hr) (fun t m ds Q hl hm q => pl_pick t m ds Q hl hm q) 1 rfl
  have C_c_L_pick : CalT P w K mg base 2 "_law_pick" 1 spPick 1 := CalT.pos F_L_pick m_L_pick 1 rfl Z_L_pick (fun _ _ _ _ _ _ us hl => match us, hl with | [_, _], _ => rfl)
  -- L_drawn
  have Z_L_drawn : FnG P w K mg base CX0 3 _ fd_L_drawn P_L_drawn (spT K 1 spDrawn 9) := fnT (k := 2) F_L_drawn sc_L_drawn (by decide) (G_L_drawn spDip spPick 1 1) spDrawn 9 (fun cdv A outer s H E hr => dv_L_drawn g_range (C_c_L_dip.mono (by decide)) (C_c_L_pick.mono (by decide)) cdv A outer s H E hr) (fun t m ds Q hl hm q => pl_drawn t m ds Q hl hm q) 1 rfl
  have C_c_L_drawn : CalT P w K mg base 3 "_law_drawn" 1 spDrawn 9 := CalT.pos F_L_drawn m_L_drawn 1 rfl Z_L_drawn (fun _ _ _ _ _ _ us hl => match us, hl with | [_, _], _ => rfl)
  -- L_rule
  have Z_L_rule : FnG P w K mg base CX0 1 _ fd_L_rule P_L_rule (spD K P_L_rule.length spRule) := fnD (k := 0) F_L_rule sc_L_rule (by decide) (G_L_rule) spRule (fun cdv A outer s H E hr => dv_L_rule g_int cdv A outer s H E hr) (fun ds Q hl q => pl_rule ds Q q)
  have C_c_L_rule : CalD P w K mg base 1 "_law_rule" 2 [] spRule := CalD.pos F_L_rule m_L_rule Z_L_rule 2 rfl (fun _ _ _ _ _ _ us hl => match us, hl with | [_, _], _ => rfl)
  -- L_read
  have Z_L_read : FnG P w K mg base CX0 2 _ fd_L_read P_L_read (spD K P_L_read.length spRead) := fnD (k := 1) F_L_read sc_L_read (by decide) (G_L_read spRule) spRead (fun cdv A outer s H E hr => dv_L_read g_sorted g_tuple (C_c_L_rule.mono (by decide)) cdv A outer s H E hr) (fun ds Q hl q => pl_read ds Q q)
  have C_c_L_read : CalD P w K mg base 2 "_law_read" 2 [] spRead := CalD.pos F_L_read m_L_read Z_L_read 2 rfl (fun _ _ _ _ _ _ us hl => match us, hl with | [_, _], _ => rfl)
  -- L_book
  have Z_L_book : FnG P w K mg base CX0 4 _ fd_L_book P_L_book (spT K 3 spBook 10) := fnT (k := 3) F_L_book sc_L_book (by decide) (G_L_book spDip spDrawn spPick spRead 1 9 1) spBook 10 (fun cdv A outer s H E hr => dv_L_book (C_c_L_dip.mono (by decide)) (C_c_L_drawn.mono (by decide)) (C_c_L_pick.mono (by decide)) (C_c_L_read.mono (by decide)) cdv A outer s H E hr) (fun t m ds Q hl hm q => pl_book t m ds Q hl hm q) 3 rfl
  have C_c_L_book : CalT P w K mg base 4 "_law_book" 3 spBook 10 := CalT.pos F_L_book m_L_book 3 rfl Z_L_book (fun _ _ _ _ _ _ us hl => match us, hl with | [_, _, _, _], _ => rfl)
  -- L_menu
  have Z_L_menu : FnG P w K mg base CX0 1 _ fd_L_menu P_L_menu (spD K P_L_menu.length spMenu) := fnD (k := 0) F_L_menu sc_L_menu (by decide) (G_L_menu) spMenu (fun cdv A outer s H E hr => dv_L_menu  cdv A outer s H E hr) (fun ds Q hl q => pl_menu ds Q q)
  have C_c_L_menu : CalD P w K mg base 1 "_law_menu" 0 [] spMenu := CalD.pos F_L_menu m_L_menu Z_L_menu 0 rfl (fun _ _ _ _ _ _ us hl => match us, hl with | [], _ => rfl)
  -- L_names
  have Z_L_names : FnG P w K mg base CX0 3 _ fd_L_names P_L_names (spT K 0 spNames 1) := fnT (k := 2) F_L_names sc_L_names (by decide) (G_L_names spPick 1) spNames 1 (fun cdv A outer s H E hr => dv_L_names (C_c_L_pick.mono (by decide)) cdv A outer s H E hr) (fun t m ds Q hl hm q => pl_names t m ds Q hl hm q) 0 rfl
  have C_c_L_names : CalT P w K mg base 3 "_law_names" 0 spNames 1 := CalT.pos F_L_names m_L_names 0 rfl Z_L_names (fun _ _ _ _ _ _ us hl => match us, hl with | [_], _ => rfl)
  -- L_once
  have Z_L_once : FnG P w K mg base CX0 1 _ fd_L_once P_L_once (spD K P_L_once.length spOnce) := fnD (k := 0) F_L_once sc_L_once (by decide) (G_L_once) spOnce (fun cdv A outer s H E hr => dv_L_once  cdv A outer s H E hr) (fun ds Q hl q => pl_once ds Q q)
  have C_c_L_once : CalD P w K mg base 1 "_law_once" 2 [] spOnce := CalD.pos F_L_once m_L_once Z_L_once 2 rfl (fun _ _ _ _ _ _ us hl => match us, hl with | [_, _], _ => rfl)
  -- L_results
  have Z_L_results : FnG P w K mg base CX0 1 _ fd_L_results P_L_results (spD K P_L_results.length spResultsL) := fnD (k := 0) F_L_results sc_L_results (by decide) (G_L_results) spResultsL (fun cdv A outer s H E hr => dv_L_results g_dict g_len g_list g_range cdv A outer s H E hr) (fun ds Q hl q => pl_resultsL ds Q q)
  have C_c_L_results : CalD P w K mg base 1 "_law_results" 3 [] spResultsL := CalD.pos F_L_results m_L_results Z_L_results 3 rfl (fun _ _ _ _ _ _ us hl => match us, hl with | [_, _, _], _ => rfl)
  -- L_scenes
  have Z_L_scenes : FnG P w K mg base CX0 1 _ fd_L_scenes P_L_scenes (spD K P_L_scenes.length spScenes) := fnD (k := 0) F_L_scenes sc_L_scenes (by decide) (G_L_scenes) spScenes (fun cdv A outer s H E hr => dv_L_scenes  cdv A outer s H E hr) (fun ds Q hl q => pl_scenes ds Q q)
  have C_c_L_scenes : CalD P w K mg base 1 "_law_scenes" 0 [] spScenes := CalD.pos F_L_scenes m_L_scenes Z_L_scenes 0 rfl (fun _ _ _ _ _ _ us hl => match us, hl with | [], _ => rfl)
  -- L_steps
  have Z_L_steps : FnG P w K mg base CX0 2 _ fd_L_steps P_L_steps (spD K P_L_steps.length spStepsL) := fnD (k := 1) F_L_steps sc_L_steps (by decide) (G_L_steps spOnce spResultsL) spStepsL (fun cdv A outer s H E hr => dv_L_steps (C_c_L_once.mono (by decide)) (C_c_L_results.mono (by decide)) cdv A outer s H E hr) (fun ds Q hl q => pl_stepsL ds Q q)
  have C_c_L_steps : CalD P w K mg base 2 "_law_steps" 2 [] spStepsL := CalD.pos F_L_steps m_L_steps Z_L_steps 2 rfl (fun _ _ _ _ _ _ us hl => match us, hl with | [_, _], _ => rfl)
  -- L_word
  have Z_L_word : FnG P w K mg base CX0 3 _ fd_L_word P_L_word (spT K 2 spWord 7) := fnT (k := 2) F_L_word sc_L_word (by decide) (G_L_word spDip spPick 1 1) spWord 7 (fun cdv A outer s H E hr => dv_L_word g_range (C_c_L_dip.mono (by decide)) (C_c_L_pick.mono (by decide)) cdv A outer s H E hr) (fun t m ds Q hl hm q => pl_word t m ds Q hl hm q) 2 rfl
  have C_c_L_word : CalT P w K mg base 3 "_law_word" 2 spWord 7 := CalT.pos F_L_word m_L_word 2 rfl Z_L_word (fun _ _ _ _ _ _ us hl => match us, hl with | [_, _, _], _ => rfl)
  -- is_integer
  have Z_is_integer : FnG P w K mg base CX0 1 _ fd_is_integer P_is_integer (spD K P_is_integer.length spIsInteger) := fnD (k := 0) F_is_integer sc_is_integer (by decide) (G_is_integer) spIsInteger (fun cdv A outer s H E hr => dv_is_integer g_bool g_int g_isinstance cdv A outer s H E hr) (fun ds Q hl q => pl_is_integer ds Q q)
  have C_c_is_integer : CalD P w K mg base 1 "is_integer" 1 [] spIsInteger := CalD.pos F_is_integer m_is_integer Z_is_integer 1 rfl (fun _ _ _ _ _ _ us hl => match us, hl with | [_], _ => rfl)
  -- is_number
  have Z_is_number : FnG P w K mg base CX0 2 _ fd_is_number P_is_number (spD K P_is_number.length spIsNumber) := fnD (k := 1) F_is_number sc_is_number (by decide) (G_is_number spIsInteger) spIsNumber (fun cdv A outer s H E hr => dv_is_number (C_c_is_integer.mono (by decide)) cdv A outer s H E hr) (fun ds Q hl q => pl_is_number ds Q q)
  have C_c_is_number : CalD P w K mg base 2 "is_number" 1 [] spIsNumber := CalD.pos F_is_number m_is_number Z_is_number 1 rfl (fun _ _ _ _ _ _ us hl => match us, hl with | [_], _ => rfl)
  -- places_of
  have Z_places_of : FnG P w K mg base CX0 1 _ fd_places_of P_places_of (spD K P_places_of.length spPlaces) := fnD (k := 0) F_places_of sc_places_of (by decide) (G_places_of) spPlaces (fun cdv A outer s H E hr => dv_places_of g_list g_range cdv A outer s H E hr) (fun ds Q hl q => pl_places ds Q q)
  have C_c_places_of : CalD P w K mg base 1 "places_of" 2 [] spPlaces := CalD.pos F_places_of m_places_of Z_places_of 2 rfl (fun _ _ _ _ _ _ us hl => match us, hl with | [_, _], _ => rfl)
  -- dropped
  have Z_dropped : FnG P w K mg base CX0 2 _ fd_dropped P_dropped (spD K P_dropped.length spDropped) := fnD (k := 1) F_dropped sc_dropped (by decide) (G_dropped spPlaces) spDropped (fun cdv A outer s H E hr => dv_dropped g_len g_max (C_c_places_of.mono (by decide)) cdv A outer s H E hr) (fun ds Q hl q => pl_dropped ds Q q)
  have C_c_dropped : CalD P w K mg base 2 "dropped" 2 [] spDropped := CalD.pos F_dropped m_dropped Z_dropped 2 rfl (fun _ _ _ _ _ _ us hl => match us, hl with | [_, _], _ => rfl)
  -- halved
  have Z_halved : FnG P w K mg base CX0 1 _ fd_halved P_halved (spD K P_halved.length spHalved) := fnD (k := 0) F_halved sc_halved (by decide) (G_halved) spHalved (fun cdv A outer s H E hr => dv_halved g_len cdv A outer s H E hr) (fun ds Q hl q => pl_halved ds Q q)
  have C_c_halved : CalD P w K mg base 1 "halved" 2 [] spHalved := CalD.pos F_halved m_halved Z_halved 2 rfl (fun _ _ _ _ _ _ us hl => match us, hl with | [_, _], _ => rfl)
  -- lowered
  have Z_lowered : FnG P w K mg base CX0 2 _ fd_lowered P_lowered (spD K P_lowered.length spLowered) := fnD (k := 1) F_lowered sc_lowered (by decide) (G_lowered spPlaces) spLowered (fun cdv A outer s H E hr => dv_lowered g_len (C_c_places_of.mono (by decide)) cdv A outer s H E hr) (fun ds Q hl q => pl_lowered ds Q q)
  have C_c_lowered : CalD P w K mg base 2 "lowered" 3 [] spLowered := CalD.pos F_lowered m_lowered Z_lowered 3 rfl (fun _ _ _ _ _ _ us hl => match us, hl with | [_, _, _], _ => rfl)
  -- put_results
  have Z_put_results : FnG P w K mg base CX0 2 _ fd_put_results P_put_results (spD K P_put_results.length spPut) := fnD (k := 1) F_put_results sc_put_results (by decide) (G_put_results spPlaces) spPut (fun cdv A outer s H E hr => dv_put_results g_len (C_c_places_of.mono (by decide)) cdv A outer s H E hr) (fun ds Q hl q => pl_put ds Q q)
  have C_c_put_results : CalD P w K mg base 2 "put_results" 2 [] spPut := CalD.pos F_put_results m_put_results Z_put_results 2 rfl (fun _ _ _ _ _ _ us hl => match us, hl with | [_, _], _ => rfl)
  -- results_of
  have Z_results_of : FnG P w K mg base CX0 3 _ fd_results_of P_results_of (spD K P_results_of.length spResults) := fnD (k := 2) F_results_of sc_results_of (by decide) (G_results_of spDropped spHalved spLowered spPut) spResults (fun cdv A outer s H E hr => dv_results_of (C_c_dropped.mono (by decide)) (C_c_halved.mono (by decide)) (C_c_lowered.mono (by decide)) (C_c_put_results.mono (by decide)) cdv A outer s H E hr) (fun ds Q hl q => pl_results ds Q q)
  have C_c_results_of : CalD P w K mg base 3 "results_of" 3 [] spResults := CalD.pos F_results_of m_results_of Z_results_of 3 rfl (fun _ _ _ _ _ _ us hl => match us, hl with | [_, _, _], _ => rfl)
  -- want
  have Z_want : FnG P w K mg base CX0 1 _ fd_want P_want (spD K P_want.length spWant) := fnD (k := 0) F_want sc_want (by decide) (G_want) spWant (fun cdv A outer s H E hr => dv_want  cdv A outer s H E hr) (fun ds Q hl q => pl_want ds Q q)
  have C_c_want_2 : CalD P w K mg base 1 "want" 2 [] spWant2 := CalD.dfl (dd := [.int (-1)]) F_want (List.cons_ne_nil _ _) (fun _ => .cons (.int (-1)) (.nil)) m_want Z_want 2 0 rfl (fun _ _ _ _ _ _ _ us its hu hi => match us, hu, its, hi with | [_, _], _, [_], _ => ⟨_, rfl, rfl⟩)
  -- is_thing
  have Z_is_thing : FnG P w K mg base CX0 1 _ fd_is_thing P_is_thing (spD K P_is_thing.length spIsThing) := fnD (k := 0) F_is_thing sc_is_thing (by decide) (G_is_thing) spIsThing (fun cdv A outer s H E hr => dv_is_thing g_all g_isinstance g_str k_LOWERCASE cdv A outer s H E hr) (fun ds Q hl q => pl_is_thing ds Q q)
  have C_c_is_thing : CalD P w K mg base 1 "is_thing" 1 [] spIsThing := CalD.pos F_is_thing m_is_thing Z_is_thing 1 rfl (fun _ _ _ _ _ _ us hl => match us, hl with | [_], _ => rfl)
  -- known_letters
  have Z_known_letters : FnG P w K mg base CX0 1 _ fd_known_letters P_known_letters (spD K P_known_letters.length spKnown) := fnD (k := 0) F_known_letters sc_known_letters (by decide) (G_known_letters) spKnown (fun cdv A outer s H E hr => dv_known_letters g_tuple cdv A outer s H E hr) (fun ds Q hl q => pl_known ds Q q)
  have C_c_known_letters : CalD P w K mg base 1 "known_letters" 1 [] spKnown := CalD.pos F_known_letters m_known_letters Z_known_letters 1 rfl (fun _ _ _ _ _ _ us hl => match us, hl with | [_], _ => rfl)
  -- is_thing_of
  have Z_is_thing_of : FnG P w K mg base CX0 2 _ fd_is_thing_of P_is_thing_of (spD K P_is_thing_of.length spIsThingOf) := fnD (k := 1) F_is_thing_of sc_is_thing_of (by decide) (G_is_thing_of spIsThing spKnown) spIsThingOf (fun cdv A outer s H E hr => dv_is_thing_of g_all (C_c_is_thing.mono (by decide)) (C_c_known_letters.mono (by decide)) cdv A outer s H E hr) (fun ds Q hl q => pl_isThingOf ds Q q)
  have C_c_is_thing_of : CalD P w K mg base 2 "is_thing_of" 2 [] spIsThingOf := CalD.pos F_is_thing_of m_is_thing_of Z_is_thing_of 2 rfl (fun _ _ _ _ _ _ us hl => match us, hl with | [_, _], _ => rfl)
  -- want_thing
  have Z_want_thing : FnG P w K mg base CX0 3 _ fd_want_thing P_want_thing (spD K P_want_thing.length spWantThing) := fnD (k := 2) F_want_thing sc_want_thing (by decide) (G_want_thing spIsThingOf spWant2) spWantThing (fun cdv A outer s H E hr => dv_want_thing (C_c_is_thing_of.mono (by decide)) (C_c_want_2.mono (by decide)) cdv A outer s H E hr) (fun ds Q hl q => pl_wantThing ds Q q)
  have C_c_want_thing : CalD P w K mg base 3 "want_thing" 3 [] spWantThing := CalD.pos F_want_thing m_want_thing Z_want_thing 3 rfl (fun _ _ _ _ _ _ us hl => match us, hl with | [_, _, _], _ => rfl)
  -- rule_steps
  have Z_rule_steps : FnG P w K mg base CX0 4 _ fd_rule_steps P_rule_steps (spD K P_rule_steps.length spRuleSteps) := fnD (k := 3) F_rule_steps sc_rule_steps (by decide) (G_rule_steps spIsNumber spResults spWant2 spWantThing) spRuleSteps (fun cdv A outer s H E hr => dv_rule_steps g_len g_list g_tuple (C_c_is_number.mono (by decide)) (C_c_results_of.mono (by decide)) (C_c_want_2.mono (by decide)) (C_c_want_thing.mono (by decide)) cdv A outer s H E hr) (fun ds Q hl q => pl_ruleSteps ds Q q)
  have C_c_rule_steps : CalD P w K mg base 4 "rule_steps" 3 [] spRuleSteps := CalD.pos F_rule_steps m_rule_steps Z_rule_steps 3 rfl (fun _ _ _ _ _ _ us hl => match us, hl with | [_, _, _], _ => rfl)
  have C_c_rule_steps_0_x_k_book : CalD P w K mg base 4 "rule_steps" 0 ["x", "k", "book"] kwRule := CalD.kws F_rule_steps m_rule_steps Z_rule_steps 0 ["x", "k", "book"] kwSrc3 rfl (fun _ _ _ _ _ _ us ws hu hw => match us, hu, ws, hw with | [], _, [_, _, _], _ => rfl)
  -- steps_from
  have Z_steps_from : FnG P w K mg base CX0 4 _ fd_steps_from P_steps_from (spD K P_steps_from.length spStepsFrom) := fnD (k := 3) F_steps_from sc_steps_from (by decide) (G_steps_from spResults) spStepsFrom (fun cdv A outer s H E hr => dv_steps_from g_len g_list g_range (C_c_results_of.mono (by decide)) cdv A outer s H E hr) (fun ds Q hl q => pl_stepsFrom ds Q q)
  have C_c_steps_from : CalD P w K mg base 4 "steps_from" 3 [] spStepsFrom := CalD.pos F_steps_from m_steps_from Z_steps_from 3 rfl (fun _ _ _ _ _ _ us hl => match us, hl with | [_, _, _], _ => rfl)
  -- plain_steps
  have Z_plain_steps : FnG P w K mg base CX0 5 _ fd_plain_steps P_plain_steps (spD K P_plain_steps.length spPlainSteps) := fnD (k := 4) F_plain_steps sc_plain_steps (by decide) (G_plain_steps spStepsFrom) spPlainSteps (fun cdv A outer s H E hr => dv_plain_steps g_tuple (C_c_steps_from.mono (by decide)) cdv A outer s H E hr) (fun ds Q hl q => pl_plainSteps ds Q q)
  have C_c_plain_steps : CalD P w K mg base 5 "plain_steps" 2 [] spPlainSteps := CalD.pos F_plain_steps m_plain_steps Z_plain_steps 2 rfl (fun _ _ _ _ _ _ us hl => match us, hl with | [_, _], _ => rfl)
  -- steps_of
  have Z_steps_of : FnG P w K mg base CX0 6 _ fd_steps_of P_steps_of (spD K P_steps_of.length spStepsOf) := fnD (k := 5) F_steps_of sc_steps_of (by decide) (G_steps_of spPlainSteps spWantThing) spStepsOf (fun cdv A outer s H E hr => dv_steps_of (C_c_plain_steps.mono (by decide)) (C_c_want_thing.mono (by decide)) cdv A outer s H E hr) (fun ds Q hl q => pl_stepsOf ds Q q)
  have C_c_steps_of : CalD P w K mg base 6 "steps_of" 2 [] spStepsOf := CalD.pos F_steps_of m_steps_of Z_steps_of 2 rfl (fun _ _ _ _ _ _ us hl => match us, hl with | [_, _], _ => rfl)
  have C_c_steps_of_0_x_book : CalD P w K mg base 6 "steps_of" 0 ["x", "book"] kwSteps := CalD.kws F_steps_of m_steps_of Z_steps_of 0 ["x", "book"] kwSrc2 rfl (fun _ _ _ _ _ _ us ws hu hw => match us, hu, ws, hw with | [], _, [_, _], _ => rfl)
  -- L_spring
  have Z_L_spring : FnG P w K mg base CX0 1 _ fd_L_spring P_L_spring (spN K) := fnN (k := 0) (e := E_L_spring) F_L_spring sc_L_spring rfl (by decide) K16.F_L_spring (fun cdv A outer s H E hr => dv_L_spring g_list cdv A outer s H E hr) (fun ns => pl_spring ns)
  have C_N : CalN P w K mg base 1 "_law_spring" := CalN.pos F_L_spring m_L_spring rfl Z_L_spring (fun _ _ _ _ _ _ us hl => match us, hl with | [_], _ => rfl)
  -- law
  have Z_law : FnG P w K mg base CX0 7 _ fd_law P_law (spD K P_law.length spLaw) := fnD (k := 6) F_law sc_law (by decide) (G_law spBook spMenu spNames spOnce spResultsL spScenes spStepsL spWord spRuleSteps kwRule spStepsOf kwSteps 10 1 7) spLaw (fun cdv A outer s H E hr => dv_law g_len g_range g_repr g_tuple (C_c_L_book.mono (by decide)) (C_c_L_menu.mono (by decide)) (C_c_L_names.mono (by decide)) (C_c_L_once.mono (by decide)) (C_c_L_results.mono (by decide)) (C_c_L_scenes.mono (by decide)) (C_c_L_steps.mono (by decide)) (C_c_L_word.mono (by decide)) (C_c_rule_steps.mono (by decide)) (C_c_rule_steps_0_x_k_book.mono (by decide)) (C_c_steps_of.mono (by decide)) (C_c_steps_of_0_x_book.mono (by decide)) (C_N.mono (by decide)) cdv A outer s H E hr) (fun ds Q hl q => pl_law ds Q q)
  exact Z_law
end K16
open PySem PySem.W PySem.Calls PyProof.Rows
theorem PySem.Challenge.cw_firstfailing_k16_steps_told_holds : PySem.Challenge.rw_firstfailing_k16_steps_told.Holds := by
  w_on; o_law
  refine HandSHeadRun.head_any (r := OpenLaw.row PySem.Challenge.rw_firstfailing_k16_steps_told) (q := view (OpenLaw.row PySem.Challenge.rw_firstfailing_k16_steps_told).prog [40]) (H := K16.hk) (ob := K16.ob) (M := 20000) (loose := K16.loose) (d := HandSHeadRun.topDef (OpenLaw.row PySem.Challenge.rw_firstfailing_k16_steps_told).prog 40) (kwd := []) K16.ob_eq
    (by kernel_rfl) (fun s => by kernel_rfl) K16.run (by kernel_rfl) (by kernel_rfl) (by kernel_rfl) (by rfl) (by first | assumption | decide +kernel) (by decide +kernel) ⟨rfl, rfl, rfl, rfl, rfl, by decide +kernel⟩ ?hw ?hc
  case hw => w_witness2
  case hc =>
    refine DL.walkG (l := PySem.Challenge.rw_firstfailing_k16_steps_told) (k := 7) (x := "_law_script") (spec := K16.spLaw) rfl (by decide) (by kernel_rfl) ⟨rfl, by decide, by decide⟩ (fun ns => ⟨ns, rfl, rfl⟩) ?F
    intro w mg fa h Y G hmg0
    obtain ⟨K, KX, c⟩ := Y
    have hmg : mg ("law" : PySem.Str) = some (.ref fa) := by
      have e : (HandSHeadRun.topDef (OpenLaw.row PySem.Challenge.rw_firstfailing_k16_steps_told).prog 40).name = ("law" : PySem.Str) := by kernel_rfl
      rw [← e]
      exact hmg0
    obtain ⟨fd, hb, hF⟩ := K16.facts (P := (PySem.Challenge.rw_firstfailing_k16_steps_told).prog) (w := w) KX G hmg c
    exact ⟨K, fd, KX, hb, hF⟩
