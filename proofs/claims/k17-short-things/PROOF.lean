import PyProof.Rows.All
import Wide.All
import OpenK.AllK
import Wide.FinOn
import KE.KStateDown
import HandS.ForMost
import HandS.WordsExc
import HandS.Defaults
import HandS.Flow
import HandS.Conv
import HandS.TupAny
import HandS.IsInst
import HandS.DictComp
import HandS.Zip
import HandS.Style
import HandS.Deep
import HandS.ListItems
import HandS.FStr
import HandS.Head0
import HandS.Head1
import HandS.Head2
import HandS.HeadEnd
import HandS.HeadHook1
import HandS.HeadHook2
import HandS.TryOnly
import PyProof.AutoSeq1
import KE.SortData
import HandS.WordsDict
import HandS.Codes
import HandS.CallSlots
import HandS.MakeKw
import KE.KRevSl
import PySem.Challenge.RW_firstfailing_k17_whole_steps_of_short_th
set_option Elab.async false
set_option linter.all false
set_option maxRecDepth 100000
set_option maxHeartbeats 0
/-! The layer DL: values as plain data, the heap forgotten. -/
namespace DL
open PySem PySem.Spec PyProof.Rows L2

/-! ### texts as lists of codes -/
abbrev Tx := List Nat
abbrev St := L2.St
def S (l : Tx) : Str := ⟨l.toArray⟩
theorem S_cps (l : Tx) : (S l).cps.toList = l := by simp [S]
theorem S_of (x : Str) : S x.cps.toList = x := by cases x; simp [S]
theorem S_inj {l m : Tx} (h : S l = S m) : l = m := by
  have := congrArg (fun x : Str => x.cps.toList) h
  simpa [S] using this
theorem S_length (l : Tx) : (S l).length = l.length := by simp [S, Str.length]
theorem S_app (l m : Tx) : S l ++ S m = S (l ++ m) := by
  show Str.append (S l) (S m) = S (l ++ m)
  simp [S, Str.append]
theorem S_eq_iff {l m : Tx} : S l = S m ↔ l = m := ⟨S_inj, fun h => by rw [h]⟩
/-- a written text -/
def T (s : String) : Tx := (Str.ofString s).cps.toList
theorem S_T (s : String) : S (T s) = Str.ofString s := S_of _

/-! ### plain data -/
abbrev DK := Sum Int Tx
inductive D where
  | non | bl (b : Bool) | int (i : Int) | str (s : Tx) | tup (ds : List D) | lst (ds : List D) | dic (ks : List DK) (ds : List D) | obj (a : Addr) | ty (n : String) | scr (ns : List Int)
deriving Inhabited

def dkey : DK → Key
  | .inl i => .inl i
  | .inr s => .inr (S s)
theorem dkey_inj {a b : DK} (h : dkey a = dkey b) : a = b := by
  cases a <;> cases b <;> simp_all [dkey, S_eq_iff]

/-- the texts among the keys are of a size -/
def KeysOk (ks : List DK) : Prop := ∀ l : Tx, Sum.inr l ∈ ks → l.length ≤ sizeLine
section
variable (K : PySem.W.Frag)
mutual
inductive Rp (H : Hp) : V → D → Prop
  | non : Rp H .non .non
  | bl (b : Bool) : Rp H (.bl b) (.bl b)
  | int (i : Int) : Rp H (.int i) (.int i)
  | str (l : Tx) (h : l.length ≤ sizeLine) : Rp H (.str (S l)) (.str l)
  | tup {a : Addr} {xs : List V} {ds : List D} : SqT K H a xs → RpAll H xs ds → Rp H (.ref a) (.tup ds)
  | lst {a : Addr} {xs : List V} {ds : List D} : H a = some (.lst xs) → RpAll H xs ds → Rp H (.ref a) (.lst ds)
  | dic {a : Addr} {kvs : List (Key × V)} {ks : List DK} {ds : List D} : Rd H a (.dK kvs) → kvs.map (·.1) = ks.map dkey → KeysOk ks → RpAll H (kvs.map (·.2)) ds → Rp H (.ref a) (.dic ks ds)
  | obj (a : Addr) : Rp H (.ref a) (.obj a)
  | ty (n : String) : Rp H (.ty n) (.ty n)
  | scr {a : Addr} {ns : List Int} : SqL K H a (ns.map V.int) → Rp H (.ref a) (.scr ns)
inductive RpAll (H : Hp) : List V → List D → Prop
  | nil : RpAll H [] []
  | cons {v : V} {vs : List V} {d : D} {ds : List D} : Rp H v d → RpAll H vs ds → RpAll H (v :: vs) (d :: ds)
end
end

section
variable {K : PySem.W.Frag} {H H' : Hp}
theorem Same.rd {a : Addr} {u : HO} (e : Same H H') (h : Rd H a u) : Rd H' a u := h.elim (fun z => .inl (e _ _ z)) fun ⟨o, z⟩ => .inr ⟨o, e _ _ z⟩
theorem Same.sqT {a : Addr} {xs : List V} (e : Same H H') (h : SqT K H a xs) : SqT K H' a xs := h.elim (fun z => .inl (Same.rd e z)) .inr
theorem Same.sqL {a : Addr} {xs : List V} (e : Same H H') (h : SqL K H a xs) : SqL K H' a xs := h.elim (fun z => .inl (Same.rd e z)) .inr
mutual
theorem Rp.mono (e : Same H H') {v : V} {d : D} : Rp K H v d → Rp K H' v d
  | .non => .non
  | .bl b => .bl b
  | .int i => .int i
  | .str l h => .str l h
  | .tup h r => .tup (Same.sqT e h) (RpAll.mono e r)
  | .lst h r => .lst (e _ _ h) (RpAll.mono e r)
  | .dic h k z r => .dic (Same.rd e h) k z (RpAll.mono e r)
  | .obj a => .obj a
  | .ty n => .ty n
  | .scr h => .scr (Same.sqL e h)
theorem RpAll.mono (e : Same H H') {vs : List V} {ds : List D} : RpAll K H vs ds → RpAll K H' vs ds
  | .nil => .nil
  | .cons h r => .cons (Rp.mono e h) (RpAll.mono e r)
end
theorem RpAll.length : ∀ {vs : List V} {ds : List D}, RpAll K H vs ds → vs.length = ds.length
  | _, _, .nil => rfl
  | _, _, .cons _ t => by simp [RpAll.length t]
theorem RpAll.get : ∀ {vs : List V} {ds : List D}, RpAll K H vs ds → ∀ {i : Nat} {d : D}, ds[i]? = some d → ∃ v, vs[i]? = some v ∧ Rp K H v d
  | _, _, .nil, _, _, e => by simp at e
  | _, _, .cons h _, 0, d, e => by simp at e; subst e; exact ⟨_, rfl, h⟩
  | _, _, .cons _ t, i + 1, d, e => by
    obtain ⟨v, h1, h2⟩ := RpAll.get t (i := i) (d := d) (by simpa using e)
    exact ⟨v, by simpa using h1, h2⟩
theorem RpAll.getV : ∀ {vs : List V} {ds : List D}, RpAll K H vs ds → ∀ {i : Nat} {v : V}, vs[i]? = some v → ∃ d, ds[i]? = some d ∧ Rp K H v d
  | _, _, .nil, _, _, e => by simp at e
  | _, _, .cons h _, 0, d, e => by simp at e; subst e; exact ⟨_, rfl, h⟩
  | _, _, .cons _ t, i + 1, d, e => by
    obtain ⟨v, h1, h2⟩ := RpAll.getV t (i := i) (v := d) (by simpa using e)
    exact ⟨v, by simpa using h1, h2⟩
theorem RpAll.append : ∀ {vs ws : List V} {ds es : List D}, RpAll K H vs ds → RpAll K H ws es → RpAll K H (vs ++ ws) (ds ++ es)
  | _, _, _, _, .nil, s => s
  | _, _, _, _, .cons r t, s => .cons r (RpAll.append t s)
theorem RpAll.one {v : V} {d : D} (h : Rp K H v d) : RpAll K H [v] [d] := .cons h .nil
theorem RpAll.take : ∀ {vs : List V} {ds : List D} (n : Nat), RpAll K H vs ds → RpAll K H (vs.take n) (ds.take n)
  | _, _, 0, _ => .nil
  | _, _, _ + 1, .nil => .nil
  | _, _, n + 1, .cons r t => .cons r (RpAll.take n t)
theorem RpAll.drop : ∀ {vs : List V} {ds : List D} (n : Nat), RpAll K H vs ds → RpAll K H (vs.drop n) (ds.drop n)
  | _, _, 0, r => r
  | _, _, _ + 1, .nil => .nil
  | _, _, n + 1, .cons _ t => RpAll.drop n t
theorem RpAll.reverse : ∀ {vs : List V} {ds : List D}, RpAll K H vs ds → RpAll K H vs.reverse ds.reverse
  | _, _, .nil => .nil
  | _, _, .cons r t => by simpa using RpAll.append (RpAll.reverse t) (.one r)
theorem RpAll.set {v : V} {d : D} (r : Rp K H v d) : ∀ {vs : List V} {ds : List D} (i : Nat), RpAll K H vs ds → RpAll K H (vs.set i v) (ds.set i d)
  | _, _, _, .nil => .nil
  | _, _, 0, .cons _ t => .cons r t
  | _, _, i + 1, .cons q t => .cons q (RpAll.set r i t)
theorem RpAll.dropLast : ∀ {vs : List V} {ds : List D}, RpAll K H vs ds → RpAll K H vs.dropLast ds.dropLast := fun {vs ds} r => by
  rw [List.dropLast_eq_take, List.dropLast_eq_take, r.length]
  exact r.take _
theorem RpAll.strs : ∀ {vs : List V} {ls : List Tx}, RpAll K H vs (ls.map .str) → vs = ls.map fun l => V.str (S l)
  | _, [], .nil => rfl
  | _, l :: ls, .cons h t => by
    cases h
    rw [RpAll.strs (ls := ls) t]
    rfl
theorem RpAll.ofStrs : ∀ {ls : List Tx}, (∀ l ∈ ls, l.length ≤ sizeLine) → RpAll K H (ls.map fun l => V.str (S l)) (ls.map .str)
  | [], _ => .nil
  | l :: ls, h => .cons (.str l (h l (by simp))) (RpAll.ofStrs fun x hx => h x (by simp [hx]))
theorem RpAll.strLen : ∀ {vs : List V} {ls : List Tx}, RpAll K H vs (ls.map .str) → ∀ l ∈ ls, l.length ≤ sizeLine
  | _, [], _, _, h => by simp at h
  | _, l :: ls, .cons h t, m, hm => by
    rcases List.mem_cons.mp hm with rfl | hm
    · cases h with | str _ h => exact h
    · exact RpAll.strLen t m hm
theorem RpAll.ints : ∀ {vs : List V} {ls : List Int}, RpAll K H vs (ls.map .int) → vs = ls.map V.int
  | _, [], .nil => rfl
  | _, l :: ls, .cons h t => by
    cases h
    rw [RpAll.ints (ls := ls) t]
    rfl
theorem RpAll.bls : ∀ {vs : List V} {ls : List Bool}, RpAll K H vs (ls.map .bl) → vs = ls.map V.bl
  | _, [], .nil => rfl
  | _, l :: ls, .cons h t => by
    cases h
    rw [RpAll.bls (ls := ls) t]
    rfl
theorem RpAll.ofInts : ∀ (ls : List Int), RpAll K H (ls.map V.int) (ls.map .int)
  | [] => .nil
  | l :: ls => .cons (.int l) (RpAll.ofInts ls)
end

/-! ### slots, states -/
/-- a slot: nothing known; shared data; a list, a dict of one's own (no other value leans on it); the token of the draws -/
inductive Sl where
  | no | sh (d : D) | ol (ds : List D) | od (ks : List DK) (ds : List D) | tk (a : Addr) (n : Nat) | ot (a : Addr) (d : D)
def Sl.own : Sl → Bool
  | .ol _ => true
  | .od _ _ => true
  | .tk _ _ => true
  | .ot _ _ => true
  | _ => false
abbrev Rho := List Sl
def hasTk (ρ : Rho) (b : Addr) : Prop := ∃ n, Sl.tk b n ∈ ρ

/-- what is promised of the draws' object, by its content and the shared heap -/
class TapeI where
  TP : PySem.W.Frag → Nat → Hp → HO → Prop
  mono : ∀ {K : PySem.W.Frag} {n : Nat} {H H' : Hp} {o : HO}, Same H H' → TP K n H o → TP K n H' o
  le : ∀ {K : PySem.W.Frag} {n m : Nat} {H : Hp} {o : HO}, n ≤ m → TP K n H o → TP K m H o

open Classical in
/-- the heap without the objects of O -/
noncomputable def msk (O : Addr → Prop) (H : Hp) : Hp := fun b => if O b then none else H b
section
variable {O O' : Addr → Prop} {H H' : Hp}
theorem msk_of {b : Addr} (h : ¬ O b) : msk O H b = H b := by unfold msk; rw [if_neg h]
theorem msk_some {b : Addr} {o : HO} (h : msk O H b = some o) : ¬ O b ∧ H b = some o := by
  unfold msk at h
  split at h
  · cases h
  · exact ⟨by assumption, h⟩
theorem same_msk : Same (msk O H) H := fun b o h => (msk_some h).2
theorem msk_same (e : Same H H') : Same (msk O H) (msk O H') := fun b o h => by
  obtain ⟨h1, h2⟩ := msk_some h
  rw [msk_of h1]
  exact e b o h2
theorem msk_le (h : ∀ b, O' b → O b) : Same (msk O H) (msk O' H) := fun b o e => by
  obtain ⟨h1, h2⟩ := msk_some e
  rw [msk_of fun z => h1 (h b z)]
  exact h2
theorem msk_upd {a : Addr} {o : HO} (h : O a) : msk O (upd H a o) = msk O H := by
  funext b
  unfold msk
  split
  · rfl
  · rename_i hb
    rw [upd_ne]
    rintro rfl
    exact hb h
end

/-- the frame: the heap at the entry, whose objects are another's, the draws' object that was handed in -/
structure Fx where
  B : Hp
  O : Addr → Prop
  tp : Option Addr

/-- the addresses of the own slots -/
def own (σ : St) (ρ : Rho) (b : Addr) : Prop := ∃ (i : Nat) (s : Sl), ρ[i]? = some s ∧ s.own = true ∧ σ[i]? = some (some (.ref b))
def Ow (c : Fx) (σ : St) (ρ : Rho) (b : Addr) : Prop := c.O b ∨ own σ ρ b
noncomputable abbrev M (c : Fx) (σ : St) (ρ : Rho) (H : Hp) : Hp := msk (Ow c σ ρ) H

/-- an object that stands for a list, a dict -/
def OR (K : PySem.W.Frag) (m : Hp) (o : HO) : D → Prop
  | .lst ds => ∃ xs, o = .lst xs ∧ RpAll K m xs ds
  | .dic ks ds => ∃ kvs, o = .dK kvs ∧ kvs.map (·.1) = ks.map dkey ∧ KeysOk ks ∧ RpAll K m (kvs.map (·.2)) ds
  | _ => False
theorem OR.mono {K : PySem.W.Frag} {m m' : Hp} {o : HO} {d : D} (e : Same m m') (h : OR K m o d) : OR K m' o d := by
  cases d with
  | lst ds => obtain ⟨xs, h1, h2⟩ := h; exact ⟨xs, h1, h2.mono e⟩
  | dic ks ds => obtain ⟨xs, h1, h2, h3, h4⟩ := h; exact ⟨xs, h1, h2, h3, h4.mono e⟩
  | _ => exact h.elim
section
variable [TapeI] (K : PySem.W.Frag)
/-- one slot: m the shared heap -/
def SlR (c : Fx) (m H : Hp) (v : Option (Option V)) : Sl → Prop
  | .no => True
  | .sh d => ∃ x, v = some (some x) ∧ Rp K m x d
  | .ol ds => ∃ a xs, v = some (some (.ref a)) ∧ H a = some (.lst xs) ∧ RpAll K m xs ds ∧ c.B a = none
  | .od ks ds => ∃ a kvs, v = some (some (.ref a)) ∧ H a = some (.dK kvs) ∧ kvs.map (·.1) = ks.map dkey ∧ KeysOk ks ∧ RpAll K m (kvs.map (·.2)) ds ∧ c.B a = none
  | .tk a n => v = some (some (.ref a)) ∧ (∃ o, H a = some o ∧ TapeI.TP K n m o) ∧ (c.tp = some a ∨ c.B a = none)
  | .ot a d => v = some (some (.ref a)) ∧ (∃ o, H a = some o ∧ OR K m o d) ∧ c.B a = none
structure StR (c : Fx) (σ : St) (ρ : Rho) (H : Hp) : Prop where
  len : ρ.length = σ.length
  slot : ∀ (i : Nat) (s : Sl), ρ[i]? = some s → SlR K c (M c σ ρ H) H σ[i]? s
  inj : ∀ (i j : Nat) (s t : Sl) (a : Addr), ρ[i]? = some s → ρ[j]? = some t → s.own = true → t.own = true → σ[i]? = some (some (.ref a)) → σ[j]? = some (some (.ref a)) → i = j
  base : ∀ b o, c.tp ≠ some b → c.B b = some o → H b = some o
  dom : ∀ b, c.O b → H b ≠ none
  tape : ∀ t, c.tp = some t → c.O t ∧ ∃ n o, H t = some o ∧ TapeI.TP K n (M c σ ρ H) o
  tpB : ∀ t, c.tp = some t → c.B t ≠ none
end

section
variable [TapeI] {K : PySem.W.Frag} {c : Fx} {σ : St} {ρ : Rho} {H H' : Hp}
theorem SlR.mono {m m' : Hp} {v : Option (Option V)} {s : Sl} (em : Same m m') (e : ∀ b o, c.O b ∨ s.own = true ∧ v = some (some (.ref b)) → H b = some o → H' b = some o) (h : SlR K c m H v s) : SlR K c m' H' v s := by
  cases s with
  | no => trivial
  | sh d => obtain ⟨x, h1, h2⟩ := h; exact ⟨x, h1, h2.mono em⟩
  | ol ds => obtain ⟨a, xs, h1, h2, h3, h4⟩ := h; exact ⟨a, xs, h1, e _ _ (.inr ⟨rfl, h1⟩) h2, h3.mono em, h4⟩
  | od ks ds => obtain ⟨a, xs, h1, h2, h3, hz, h4, h5⟩ := h; exact ⟨a, xs, h1, e _ _ (.inr ⟨rfl, h1⟩) h2, h3, hz, h4.mono em, h5⟩
  | tk a n => obtain ⟨h1, ⟨o, h2, h3⟩, h4⟩ := h; exact ⟨h1, ⟨o, e _ _ (.inr ⟨rfl, h1⟩) h2, TapeI.mono em h3⟩, h4⟩
  | ot a n => obtain ⟨h1, ⟨o, h2, h3⟩, h4⟩ := h; exact ⟨h1, ⟨o, e _ _ (.inr ⟨rfl, h1⟩) h2, OR.mono em h3⟩, h4⟩
/-- the heap has grown -/
theorem StR.grow (h : StR K c σ ρ H) (e : Same H H') : StR K c σ ρ H' where
  len := h.len
  slot := fun i s q => (h.slot i s q).mono (msk_same e) fun b o _ z => e b o z
  inj := h.inj
  base := fun b o t q => e b o (h.base b o t q)
  dom := fun b q z => by
    cases w : H b with
    | none => exact h.dom b q w
    | some o => rw [e b o w] at z; cases z
  tape := fun t q => by
    obtain ⟨h1, n, o, h2, h3⟩ := h.tape t q
    exact ⟨h1, n, o, e _ _ h2, TapeI.mono (msk_same e) h3⟩
  tpB := h.tpB
theorem StR.own_some (h : StR K c σ ρ H) {b : Addr} (q : own σ ρ b) : H b ≠ none := by
  obtain ⟨i, s, h1, h2, h3⟩ := q
  have := h.slot i s h1
  cases s with
  | no => cases h2
  | sh d => cases h2
  | ol ds =>
    obtain ⟨a, xs, e1, e2, _⟩ := this
    rw [h3] at e1; cases e1; rw [e2]; exact fun z => nomatch z
  | od ks ds =>
    obtain ⟨a, xs, e1, e2, _⟩ := this
    rw [h3] at e1; cases e1; rw [e2]; exact fun z => nomatch z
  | tk a n =>
    obtain ⟨e1, ⟨o, e2, _⟩, _⟩ := this
    rw [h3] at e1; cases e1; rw [e2]; exact fun z => nomatch z
  | ot a n =>
    obtain ⟨e1, ⟨o, e2, _⟩, _⟩ := this
    rw [h3] at e1; cases e1; rw [e2]; exact fun z => nomatch z
theorem StR.ow_some (h : StR K c σ ρ H) {b : Addr} (q : Ow c σ ρ b) : H b ≠ none := q.elim (h.dom b) h.own_some
theorem StR.fresh (h : StR K c σ ρ H) {p : Addr} (q : H p = none) : ¬ Ow c σ ρ p := fun z => h.ow_some z q
theorem StR.newM (h : StR K c σ ρ H) {p : Addr} {o : HO} (q : H p = none) : M c σ ρ (upd H p o) p = some o := by
  show msk _ _ _ = _
  rw [msk_of (h.fresh q), upd_same]
theorem same_new {p : Addr} {o : HO} (q : H p = none) : Same H (upd H p o) := fun b x e => by
  rw [upd_ne (ne_of_none e q)]
  exact e
end

/-! ### readings over plain data -/
abbrev FE := Rho → (D → Prop) → Prop
abbrev FT := Rho → (Bool → Prop) → Prop
abbrev FA := Rho → (List D → Prop) → Prop
structure Dn where
  nx : Rho → Prop
  rt : D → Rho → Prop
  bk : Rho → Prop := fun _ => False
  ct : Rho → Prop := fun _ => False
abbrev FS := Dn → Rho → Prop
section
variable [TapeI] (K : PySem.W.Frag)
/-- behind an expression: the state stands, the shared heap has grown -/
structure Aft (c : Fx) (σ : St) (ρ : Rho) (H H' : Hp) : Prop where
  st : StR K c σ ρ H'
  sm : Same (M c σ ρ H) (M c σ ρ H')
  oo : ∀ b o, Ow c σ ρ b → c.tp ≠ some b → ¬ hasTk ρ b → H b = some o → H' b = some o
def eOf (f : FE) : TE := fun σ H Q => ∃ c ρ P, StR K c σ ρ H ∧ f ρ P ∧ ∀ v H' d, Aft K c σ ρ H H' → Rp K (M c σ ρ H') v d → P d → Q v H'
def bOf (f : FT) : TT := fun σ H Q => ∃ c ρ P, StR K c σ ρ H ∧ f ρ P ∧ ∀ b H', Aft K c σ ρ H H' → P b → Q b H'
def aOf (f : FA) : TA := fun σ H Q => ∃ c ρ P, StR K c σ ρ H ∧ f ρ P ∧ ∀ vs H' ds, Aft K c σ ρ H H' → RpAll K (M c σ ρ H') vs ds → P ds → Q vs H'
/-- what a def hands back -/
structure RtR (c : Fx) (ρ : Rho) (v : V) (H' : Hp) (d : D) : Prop where
  rp : Rp K (msk c.O H') v d
  base : ∀ b o, c.tp ≠ some b → c.B b = some o → H' b = some o
  tape : ∀ (t : Addr) (i n : Nat), c.tp = some t → ρ[i]? = some (Sl.tk t n) → ∃ o, H' t = some o ∧ TapeI.TP K n (msk c.O H') o
  ot : ∀ (t : Addr) (i : Nat) (d : D), ρ[i]? = some (Sl.ot t d) → ∃ o, H' t = some o ∧ OR K (msk (fun b => c.O b ∨ b = t) H') o d
/-- .. -/
def sOf (g : FS) : TS := fun D σ H => ∃ (c : Fx) (ρ : Rho) (E : Dn), (∀ b, c.O b → c.B b ≠ none) ∧ StR K c σ ρ H ∧ g E ρ ∧
  (∀ σ' ρ' H', StR K c σ' ρ' H' → Same (M c σ ρ H) (M c σ' ρ' H') → E.nx ρ' → D.nx σ' H') ∧
  (∀ v H' d ρ', RtR K c ρ' v H' d → E.rt d ρ' → D.rt v H') ∧
  (∀ σ' ρ' H', StR K c σ' ρ' H' → Same (M c σ ρ H) (M c σ' ρ' H') → E.bk ρ' → D.bk σ' H') ∧
  (∀ σ' ρ' H', StR K c σ' ρ' H' → Same (M c σ ρ H) (M c σ' ρ' H') → E.ct ρ' → D.ct σ' H')
structure DE (X : Cx) (e : Expr) (f : FE) : Prop where
  pe : X.K = K → PE X e (eOf K f)
structure DT (X : Cx) (e : Expr) (f : FT) : Prop where
  pt : X.K = K → PT X e (bOf K f)
structure DA (X : Cx) (es : List Expr) (f : FA) : Prop where
  pa : X.K = K → PA X es (aOf K f)
structure DS (X : Cx) (st : Stmt) (g : FS) : Prop where
  ps : X.K = K → PS X st (sOf K g)
structure DSs (X : Cx) (st : List Stmt) (g : FS) : Prop where
  ps : X.K = K → PSs X st (sOf K g)
end
end DL
/-! The layer DL: expressions. -/
namespace DL
open PySem PySem.Spec PyProof.Rows L2
section
variable [TapeI] {K : PySem.W.Frag} {X : Cx} {pos : Pos} {a b : Expr} {fa fb : FE}

theorem pe_imp {e : Expr} {t t' : TE} (h : PE X e t) (i : ∀ σ H Q, t' σ H Q → t σ H Q) : PE X e t' := ⟨fun pins s σ H Q I q => h.run pins s σ H Q I (i σ H Q q)⟩
theorem pt_imp {e : Expr} {t t' : TT} (h : PT X e t) (i : ∀ σ H Q, t' σ H Q → t σ H Q) : PT X e t' := ⟨fun pins s σ H Q I q => h.run pins s σ H Q I (i σ H Q q)⟩
theorem pa_imp {e : List Expr} {t t' : TA} (h : PA X e t) (i : ∀ σ H Q, t' σ H Q → t σ H Q) : PA X e t' := ⟨fun pos pins s σ H Q I q => h.run pos pins s σ H Q I (i σ H Q q)⟩
theorem ps_imp {e : Stmt} {t t' : TS} (h : PS X e t) (i : ∀ D σ H, t' D σ H → t D σ H) : PS X e t' := ⟨fun pins s σ H D I q => h.run pins s σ H D I (i D σ H q)⟩
theorem pss_imp {e : List Stmt} {t t' : TS} (h : PSs X e t) (i : ∀ D σ H, t' D σ H → t D σ H) : PSs X e t' := ⟨fun pins s σ H D I q => h.run pins s σ H D I (i D σ H q)⟩

theorem Aft.refl {c : Fx} {σ : St} {ρ : Rho} {H : Hp} (h : StR K c σ ρ H) : Aft K c σ ρ H H := ⟨h, Same.refl _, fun _ _ _ _ _ e => e⟩
theorem Aft.trans {c : Fx} {σ : St} {ρ : Rho} {H H1 H2 : Hp} (h : Aft K c σ ρ H H1) (g : Aft K c σ ρ H1 H2) : Aft K c σ ρ H H2 := ⟨g.st, h.sm.trans g.sm, fun b o h1 h2 h3 e => g.oo b o h1 h2 h3 (h.oo b o h1 h2 h3 e)⟩
theorem Aft.grow {c : Fx} {σ : St} {ρ : Rho} {H H1 : Hp} (h : StR K c σ ρ H) (e : Same H H1) : Aft K c σ ρ H H1 := ⟨h.grow e, msk_same e, fun b o _ _ _ q => e b o q⟩

/-! ### names, constants -/
def fC (d : D) : FE := fun _ P => P d
def rd : Option Sl → (D → Prop) → Prop
  | some (.sh d), P => P d
  | some (.tk a _), P => P (.obj a)
  | _, _ => False
def fVar (i : Nat) : FE := fun ρ P => rd ρ[i]? P
theorem de_c {e : Expr} {v : V} {d : D} (h : PE X e (tC v)) (r : ∀ H, Rp K H v d) : DE K X e (fC d) := ⟨fun _ => pe_imp h fun σ H Q q => by
  obtain ⟨c, ρ, P, st, f, k⟩ := q
  exact k v H d (.refl st) (r _) f⟩
theorem de_int {i j} : DE K X (.Constant (.int i) j pos) (fC (.int i)) := de_c pe_int fun _ => .int i
theorem de_bl {b j} : DE K X (.Constant (.bool b) j pos) (fC (.bl b)) := de_c pe_bl fun _ => .bl b
theorem de_non {j} : DE K X (.Constant .none j pos) (fC .non) := de_c pe_non fun _ => .non
theorem de_str (s : String) {j} (h : (T s).length ≤ 16777216 := by decide +kernel) : DE K X (.Constant (.str (Str.ofString s)) j pos) (fC (.str (T s))) :=
  de_c pe_str fun _ => by
    have := Rp.str (K := K) (H := ‹Hp›) (T s) (by rw [sizeLine_eq]; exact h)
    rwa [S_T] at this
theorem de_var (i : Nat) {x : Str} (hN : X.N[i]? = some x := by rfl) (hv : Vis X.env.scope x := by first | exact Or.inl rfl | exact Or.inr (Or.inl rfl) | exact Or.inr (Or.inr rfl)) (hd : (x == ("__debug__" : Str)) = false := by decide)
    (hcd : (x == ("__classdict__" : Str)) = false := by decide) : DE K X (.Name x pos) (fVar i) := ⟨fun _ => pe_imp (pe_var hN hv hd hcd) fun σ H Q q => by
  obtain ⟨c, ρ, P, st, f, k⟩ := q
  cases e : ρ[i]? with
  | none => unfold fVar at f; rw [e] at f; exact f.elim
  | some s =>
    have hs := st.slot i s e
    unfold fVar at f
    rw [e] at f
    cases s with
    | sh d =>
      obtain ⟨x, h1, h2⟩ := hs
      exact ⟨x, h1, k x H d (.refl st) h2 f⟩
    | tk a n =>
      obtain ⟨h1, h2⟩ := hs
      exact ⟨.ref a, h1, k _ H _ (.refl st) (.obj a) f⟩
    | no => exact f.elim
    | ol _ => exact f.elim
    | od _ _ => exact f.elim
    | ot _ _ => exact f.elim⟩
/-- a module's constant that is a text -/
theorem de_gstr {x z : Str} {t : Tok} (hg : Gl X x) (hm : X.mg x = some (.str z t)) (hz : z.length ≤ sizeLine) (hd : (x == ("__debug__" : Str)) = false := by decide) : DE K X (.Name x pos) (fC (.str z.cps.toList)) :=
  de_c (v := .str z) (pe_glob hg hm ⟨t, rfl⟩ hd) fun H => by
    have := Rp.str (K := K) (H := H) z.cps.toList (by simpa [Str.length] using hz)
    rwa [S_of] at this
/-- a built-in class as a value -/
theorem de_ty {x : Str} {n : String} (hg : Gl X x) (hm : X.mg x = none) (hv : bootBuiltins x = some (.type n)) (hn : x ≠ "__name__" := by decide) (hd : (x == ("__debug__" : Str)) = false := by decide) : DE K X (.Name x pos) (fC (.ty n)) :=
  de_c (v := .ty n) (pe_bltn hg hm hv rfl hn hd) fun _ => .ty n

/-! ### two values -/
abbrev G1 := D → (D → Prop) → Prop
abbrev G2 := D → D → (D → Prop) → Prop
/-- what a rule by values owes: the heap may grow -/
def Out (K : PySem.W.Frag) (O : Addr → Prop) (H : Hp) (P : D → Prop) (Q : VK) : Prop := ∀ v H' d, Same H H' → Rp K (msk O H') v d → P d → Q v H'
def DOp (K : PySem.W.Frag) (X : Cx) (f : Value → Value → Sem Value) (g : G2) : Prop := ∃ r, OpR X f r ∧ (X.K = K → ∀ (O : Addr → Prop) (H : Hp) (x y : V) (dx dy : D) (P : D → Prop) (Q : VK),
  (∀ b, O b → H b ≠ none) → Rp K (msk O H) x dx → Rp K (msk O H) y dy → g dx dy P → Out K O H P Q → r x y H Q)
def fOp (g : G2) (fa fb : FE) : FE := fun ρ P => fa ρ fun x => fb ρ fun y => g x y P
theorem e_bin {r : R2} {g : G2} (hr : ∀ (O : Addr → Prop) (H : Hp) (x y : V) (dx dy : D) (P : D → Prop) (Q : VK), (∀ b, O b → H b ≠ none) → Rp K (msk O H) x dx → Rp K (msk O H) y dy → g dx dy P → Out K O H P Q → r x y H Q)
    (σ : St) (H : Hp) (Q : VK) (q : eOf K (fOp g fa fb) σ H Q) : tOp r (eOf K fa) (eOf K fb) σ H Q := by
  obtain ⟨c, ρ, P, st, f, k⟩ := q
  refine ⟨c, ρ, _, st, f, fun x H1 dx A1 rx p1 => ?_⟩
  refine ⟨c, ρ, _, A1.st, p1, fun y H2 dy A2 ry p2 => ?_⟩
  exact hr (Ow c σ ρ) H2 x y dx dy P Q (fun b => A2.st.ow_some) (rx.mono A2.sm) ry p2 fun v H' d e rv p => k v H' d ((A1.trans A2).trans (.grow A2.st e)) rv p
theorem de_op {op : Operator} {g : G2} (ho : DOp K X (binaryOp op) g) (ha : DE K X a fa) (hb : DE K X b fb) : DE K X (.BinOp a op b pos) (fOp g fa fb) := ⟨fun hK => by
  obtain ⟨r, h1, h2⟩ := ho
  exact pe_imp (pe_op h1 (ha.pe hK) (hb.pe hK)) (e_bin (h2 hK))⟩
theorem de_cmp {op : CmpOp} {g : G2} (ho : DOp K X (compareOp op) g) (ha : DE K X a fa) (hb : DE K X b fb) (hm : behindInMarks op b = false := by first | exact nomark _ | rfl) : DE K X (.Compare a [op] [b] pos) (fOp g fa fb) := ⟨fun hK => by
  obtain ⟨r, h1, h2⟩ := ho
  exact pe_imp (pe_cmpR h1 (ha.pe hK) (hb.pe hK) hm) (e_bin (h2 hK))⟩
/-- a bool as a test's answer -/
def asB (d : D) (P : Bool → Prop) : Prop := match d with
  | .bl b => P b
  | _ => False
def fB (f : FE) : FT := fun ρ P => f ρ fun d => asB d P
theorem dt_cmp {op : CmpOp} {g : G2} (ho : DOp K X (compareOp op) g) (ha : DE K X a fa) (hb : DE K X b fb) (hm : behindInMarks op b = false := by first | exact nomark _ | rfl) : DT K X (.Compare a [op] [b] pos) (fB (fOp g fa fb)) := ⟨fun hK => by
  obtain ⟨r, h1, h2⟩ := ho
  refine pt_imp (pt_cmpR h1 (ha.pe hK) (hb.pe hK) hm) fun σ H Q q => ?_
  obtain ⟨c, ρ, P, st, f, k⟩ := q
  refine e_bin (h2 hK) σ H _ ⟨c, ρ, _, st, f, fun v H' d A rv p => ?_⟩
  cases d with
  | bl b => cases rv; exact ⟨b, rfl, k b H' A p⟩
  | _ => exact p.elim⟩
/-- an expression whose value is a bool, as a test (a call, a name, a subscript) -/
theorem dt_val (h : DE K X a fa) (he : ∀ whole, isTrue a X.env whole = (do let v ← whole; standAt a.pos; holding [v] (truthy v)) := by intro _; rfl) : DT K X a (fB fa) := ⟨fun hK => by
  refine pt_imp (pt_val (h.pe hK) he) fun σ H Q q => ?_
  obtain ⟨c, ρ, P, st, f, k⟩ := q
  refine ⟨c, ρ, _, st, f, fun v H' d A rv p => ?_⟩
  cases d with
  | bl b => cases rv; exact ⟨b, rfl, k b H' A p⟩
  | _ => exact p.elim⟩
/-! ### and, or, not, if -/
structure DW (K : PySem.W.Frag) (X : Cx) (e : Expr) (f : FT) : Prop where
  pw : X.K = K → PW X e (bOf K f)
def fAnd (f g : FT) : FT := fun ρ P => f ρ fun b => if b = true then g ρ P else P false
def fOr (f g : FT) : FT := fun ρ P => f ρ fun b => if b = true then P true else g ρ P
def fNot (f : FT) : FT := fun ρ P => f ρ fun b => P (!b)
theorem pw_imp {e : Expr} {t t' : TT} (h : PW X e t) (i : ∀ σ H Q, t' σ H Q → t σ H Q) : PW X e t' := ⟨fun wh pins s σ H Q I q => h.run wh pins s σ H Q I (i σ H Q q)⟩
theorem DW.dt {e : Expr} {f : FT} (h : DW K X e f) : DT K X e f := ⟨fun hK => (h.pw hK).pt⟩
variable {f g : FT} {rest : List Expr}
theorem dw_and1 (h : DT K X a f) : DW K X (.BoolOp .And [a] pos) f := ⟨fun hK => pw_and1 (h.pt hK)⟩
theorem dw_or1 (h : DT K X a f) : DW K X (.BoolOp .Or [a] pos) f := ⟨fun hK => pw_or1 (h.pt hK)⟩
theorem dw_and (h : DT K X a f) (h2 : DW K X (.BoolOp .And (b :: rest) pos) g) : DW K X (.BoolOp .And (a :: b :: rest) pos) (fAnd f g) := ⟨fun hK => pw_imp (pw_and (h.pt hK) (h2.pw hK)) fun σ H Q q => by
  obtain ⟨c, ρ, P, st, f, k⟩ := q
  refine ⟨c, ρ, _, st, f, fun b H1 A1 p => ?_⟩
  cases b with
  | true => exact ⟨c, ρ, P, A1.st, p, fun b H2 A2 p => k b H2 (A1.trans A2) p⟩
  | false => exact k false H1 A1 p⟩
theorem dw_or (h : DT K X a f) (h2 : DW K X (.BoolOp .Or (b :: rest) pos) g) : DW K X (.BoolOp .Or (a :: b :: rest) pos) (fOr f g) := ⟨fun hK => pw_imp (pw_or (h.pt hK) (h2.pw hK)) fun σ H Q q => by
  obtain ⟨c, ρ, P, st, f, k⟩ := q
  refine ⟨c, ρ, _, st, f, fun b H1 A1 p => ?_⟩
  cases b with
  | false => exact ⟨c, ρ, P, A1.st, p, fun b H2 A2 p => k b H2 (A1.trans A2) p⟩
  | true => exact k true H1 A1 p⟩
theorem dt_not (h : DT K X a f) : DT K X (.UnaryOp .Not a pos) (fNot f) := ⟨fun hK => pt_imp (pt_not (h.pt hK)) fun σ H Q q => by
  obtain ⟨c, ρ, P, st, f, k⟩ := q
  exact ⟨c, ρ, _, st, f, fun b H1 A1 p => k _ H1 A1 p⟩⟩
/-- as values -/
def fAndV (fa fb : FE) : FE := fun ρ P => fa ρ fun x => asB x fun b => if b = true then fb ρ P else P (.bl false)
def fOrV (fa fb : FE) : FE := fun ρ P => fa ρ fun x => asB x fun b => if b = true then P (.bl true) else fb ρ P
def fNotV (fa : FE) : FE := fun ρ P => fa ρ fun x => asB x fun b => P (.bl (!b))
theorem de_one {op} (h : DE K X a fa) : DE K X (.BoolOp op [a] pos) fa := ⟨fun hK => pe_one (h.pe hK)⟩
theorem de_and (ha : DE K X a fa) (hb : DE K X (.BoolOp .And (b :: rest) pos) fb) : DE K X (.BoolOp .And (a :: b :: rest) pos) (fAndV fa fb) := ⟨fun hK => pe_imp (L2.pe_and (ha.pe hK) (hb.pe hK)) fun σ H Q q => by
  obtain ⟨c, ρ, P, st, f, k⟩ := q
  refine ⟨c, ρ, _, st, f, fun v H1 d A1 rv p => ?_⟩
  cases d with
  | bl b =>
    cases rv
    refine ⟨b, rfl, ?_⟩
    cases b with
    | true => exact ⟨c, ρ, P, A1.st, p, fun v H2 d A2 r2 p => k v H2 d (A1.trans A2) r2 p⟩
    | false => exact k _ H1 _ A1 (.bl false) p
  | _ => exact p.elim⟩
theorem de_or (ha : DE K X a fa) (hb : DE K X (.BoolOp .Or (b :: rest) pos) fb) : DE K X (.BoolOp .Or (a :: b :: rest) pos) (fOrV fa fb) := ⟨fun hK => pe_imp (L2.pe_or (ha.pe hK) (hb.pe hK)) fun σ H Q q => by
  obtain ⟨c, ρ, P, st, f, k⟩ := q
  refine ⟨c, ρ, _, st, f, fun v H1 d A1 rv p => ?_⟩
  cases d with
  | bl b =>
    cases rv
    refine ⟨b, rfl, ?_⟩
    cases b with
    | false => exact ⟨c, ρ, P, A1.st, p, fun v H2 d A2 r2 p => k v H2 d (A1.trans A2) r2 p⟩
    | true => exact k _ H1 _ A1 (.bl true) p
  | _ => exact p.elim⟩
theorem de_not (ha : DE K X a fa) : DE K X (.UnaryOp .Not a pos) (fNotV fa) := ⟨fun hK => pe_imp (L2.pe_not (ha.pe hK)) fun σ H Q q => by
  obtain ⟨c, ρ, P, st, f, k⟩ := q
  refine ⟨c, ρ, _, st, f, fun v H1 d A1 rv p => ?_⟩
  cases d with
  | bl b => cases rv; exact ⟨b, rfl, k _ H1 _ A1 (.bl _) p⟩
  | _ => exact p.elim⟩
def fIf (f : FT) (fa fb : FE) : FE := fun ρ P => f ρ fun b => if b = true then fa ρ P else fb ρ P
theorem de_if {t : Expr} (ht : DT K X t f) (ha : DE K X a fa) (hb : DE K X b fb) : DE K X (.IfExp t a b pos) (fIf f fa fb) := ⟨fun hK => pe_imp (pe_ifExp (ht.pt hK) (ha.pe hK) (hb.pe hK)) fun σ H Q q => by
  obtain ⟨c, ρ, P, st, f, k⟩ := q
  refine ⟨c, ρ, _, st, f, fun b H1 A1 p => ?_⟩
  cases b with
  | true => exact ⟨c, ρ, P, A1.st, p, fun v H2 d A2 r2 p => k v H2 d (A1.trans A2) r2 p⟩
  | false => exact ⟨c, ρ, P, A1.st, p, fun v H2 d A2 r2 p => k v H2 d (A1.trans A2) r2 p⟩⟩
/-! ### argument lists, displays -/
variable {es : List Expr} {e : Expr} {fs : FA}
def fNil : FA := fun _ P => P []
def fCons (fe : FE) (fs : FA) : FA := fun ρ P => fe ρ fun d => fs ρ fun ds => P (d :: ds)
theorem da_nil : DA K X [] fNil := ⟨fun hK => pa_imp pa_nil fun σ H Q q => by
  obtain ⟨c, ρ, P, st, f, k⟩ := q
  exact k [] H [] (.refl st) .nil f⟩
theorem da_cons (he : DE K X e fa) (hr : DA K X es fs) (hs : starEach (e :: es) X.env = (false, eval e X.env) :: starEach es X.env := by rfl) : DA K X (e :: es) (fCons fa fs) := ⟨fun hK => pa_imp (pa_cons (he.pe hK) (hr.pa hK) hs) fun σ H Q q => by
  obtain ⟨c, ρ, P, st, f, k⟩ := q
  refine ⟨c, ρ, _, st, f, fun v H1 d A1 r1 p => ?_⟩
  exact ⟨c, ρ, _, A1.st, p, fun vs H2 ds A2 r2 p => k (v :: vs) H2 (d :: ds) (A1.trans A2) (.cons (r1.mono A2.sm) r2) p⟩⟩
def fTup (fs : FA) : FE := fun ρ P => fs ρ fun ds => ds.length ≤ sizeLine ∧ P (.tup ds)
def fLst (fs : FA) : FE := fun ρ P => fs ρ fun ds => ds.length ≤ sizeLine ∧ P (.lst ds)
theorem de_tup {x1} (h : DA K X es fs) : DE K X (.Tuple es x1 pos) (fTup fs) := ⟨fun hK => pe_imp (pe_tup (h.pa hK)) fun σ H Q q => by
  obtain ⟨c, ρ, P, st, f, k⟩ := q
  refine ⟨c, ρ, _, st, f, fun vs H1 ds A1 r p => ?_⟩
  refine ⟨by rw [r.length]; exact p.1, fun a ha => ?_⟩
  have e := same_new (o := .tup vs) ha
  exact k (.ref a) _ (.tup ds) (A1.trans (.grow A1.st e)) (.tup (.inl (.inl (A1.st.newM ha))) (r.mono (msk_same e))) p.2⟩
theorem de_lst {x1} (h : DA K X es fs) : DE K X (.List es x1) (fLst fs) := ⟨fun hK => pe_imp (pe_lst (h.pa hK)) fun σ H Q q => by
  obtain ⟨c, ρ, P, st, f, k⟩ := q
  refine ⟨c, ρ, _, st, f, fun vs H1 ds A1 r p => ?_⟩
  refine ⟨by rw [r.length]; exact p.1, fun a ha => ?_⟩
  have e := same_new (o := .lst vs) ha
  exact k (.ref a) _ (.lst ds) (A1.trans (.grow A1.st e)) (.lst (A1.st.newM ha) (r.mono (msk_same e))) p.2⟩
/-! ### calls of a value that is known -/
abbrev GA := List D → (D → Prop) → Prop
def DCall (K : PySem.W.Frag) (X : Cx) (f : Value) (g : GA) : Prop := ∃ r, CallR X f r ∧ (X.K = K → ∀ (O : Addr → Prop) (H : Hp) (xs : List V) (ds : List D) (P : D → Prop) (Q : VK),
  (∀ b, O b → H b ≠ none) → RpAll K (msk O H) xs ds → g ds P → Out K O H P Q → r xs H Q)
def fCallB (g : GA) (fs : FA) : FE := fun ρ P => fs ρ fun ds => g ds P
theorem e_callB {r : List V → Hp → VK → Prop} {g : GA} (hr : ∀ (O : Addr → Prop) (H : Hp) (xs : List V) (ds : List D) (P : D → Prop) (Q : VK), (∀ b, O b → H b ≠ none) → RpAll K (msk O H) xs ds → g ds P → Out K O H P Q → r xs H Q)
    (σ : St) (H : Hp) (Q : VK) (q : eOf K (fCallB g fs) σ H Q) : tCB r (aOf K fs) σ H Q := by
  obtain ⟨c, ρ, P, st, f, k⟩ := q
  refine ⟨c, ρ, _, st, f, fun xs H1 ds A1 rx p => ?_⟩
  exact hr (Ow c σ ρ) H1 xs ds P Q (fun b => A1.st.ow_some) rx p fun v H' d e rv p => k v H' d (A1.trans (.grow A1.st e)) rv p
theorem de_callB {id : String} {g : GA} {x : Str} {p : Pos} (hc : DCall K X (.builtin id) g) (hg : Gl X x) (hm : X.mg x = none) (hv : bootBuiltins x = some (.builtin id)) (ha : DA K X (e :: es) fs) (hn : x ≠ "__name__" := by decide) (hdb : (x == ("__debug__" : Str)) = false := by decide)
    (he : starEach (e :: es) X.env = (false, eval e X.env) :: starEach es X.env := by rfl) (hpl : (backTo pos (starEach es X.env)).any (·.1) = false := by rfl) : DE K X (.Call (.Name x p) (e :: es) [] pos) (fCallB g fs) := ⟨fun hK => by
  obtain ⟨r, h1, h2⟩ := hc
  exact pe_imp (pe_callB h1 hg hm hv (ha.pa hK) hn hdb he hpl) (e_callB (h2 hK))⟩
theorem de_callTy {n : String} {g : GA} {x : Str} {p : Pos} (hc : DCall K X (.type n) g) (hg : Gl X x) (hm : X.mg x = none) (hv : bootBuiltins x = some (.type n)) (ha : DA K X (e :: es) fs) (hn : x ≠ "__name__" := by decide) (hdb : (x == ("__debug__" : Str)) = false := by decide)
    (he : starEach (e :: es) X.env = (false, eval e X.env) :: starEach es X.env := by rfl) (hpl : (backTo pos (starEach es X.env)).any (·.1) = false := by rfl) : DE K X (.Call (.Name x p) (e :: es) [] pos) (fCallB g fs) := ⟨fun hK => by
  obtain ⟨r, h1, h2⟩ := hc
  exact pe_imp (pe_callTy h1 hg hm hv (ha.pa hK) hn hdb he hpl) (e_callB (h2 hK))⟩
end
end DL
/-! The layer DL: operators, subscripts, built-ins by plain data. -/
namespace DL
open PySem PySem.Spec PyProof.Rows L2

/-! ### data of the library -/
mutual
def toPy : D → PyData
  | .non => .none
  | .bl b => .bool b
  | .int i => .int i
  | .str l => .str (S l)
  | .tup ds => .tuple (toPyAll ds)
  | .lst ds => .list (toPyAll ds)
  | .dic _ _ => .dict []
  | .obj _ => .dict []
  | .ty _ => .dict []
  | .scr _ => .dict []
def toPyAll : List D → List PyData
  | [] => []
  | d :: ds => toPy d :: toPyAll ds
end
theorem toPyAll_map : ∀ ds : List D, toPyAll ds = ds.map toPy
  | [] => rfl
  | d :: ds => by rw [toPyAll, toPyAll_map ds]; rfl
section
variable {K : PySem.W.Frag} {H : Hp}
mutual
theorem Rp.dp : ∀ {v : V} {d : D}, Rp K H v d → (toPy d).canLay0 = true → Dp K H v (toPy d)
  | _, _, .non, _ => .non
  | _, _, .bl b, _ => .bl b
  | _, _, .int i, _ => .int i
  | _, _, .str l h, _ => .str (S l)
  | _, _, .tup h r, z => .tup h (RpAll.dp r z)
  | _, _, .lst h r, z => .lst (.inl (.inl h)) (RpAll.dp r z)
  | _, _, .dic _ _ _ _, z => by cases z
  | _, _, .obj _, z => by cases z
  | _, _, .ty _, z => by cases z
  | _, _, .scr _, z => by cases z
theorem RpAll.dp : ∀ {vs : List V} {ds : List D}, RpAll K H vs ds → PyData.canLayAll0 (toPyAll ds) = true → DpAll K H vs (toPyAll ds)
  | _, _, .nil, _ => .nil
  | _, _, .cons h r, z => by
    have z' := Bool.and_eq_true_iff.mp (show ((toPy _).canLay0 && PyData.canLayAll0 (toPyAll _)) = true from z)
    exact .cons (Rp.dp h z'.1) (RpAll.dp r z'.2)
end
end
/-- plain data that == and repr take -/
def okE (d : D) : Bool := (toPy d).canLay0
def eqD (d e : D) : Bool := PyData.eqv (toPy d) (toPy e)
def depE (d : D) : Nat := (toPy d).depth

def gEq : G2
  | .str a, .str b, P => P (.bl (decide (a = b)))
  | .int a, .int b, P => P (.bl (decide (a = b)))
  | .bl a, .bl b, P => P (.bl (decide (a = b)))
  | d, e, P => okE d = true ∧ okE e = true ∧ min (depE d) (depE e) ≤ 64 ∧ P (.bl (eqD d e))
def gNe : G2 := fun d e P => gEq d e fun x => match x with
  | .bl b => P (.bl (!b))
  | _ => False
def gAdd : G2
  | .int a, .int b, P => P (.int (a + b))
  | .str a, .str b, P => a.length + b.length ≤ sizeLine ∧ P (.str (a ++ b))
  | .tup a, .tup b, P => a.length + b.length ≤ sizeLine ∧ P (.tup (a ++ b))
  | .lst a, .lst b, P => a.length + b.length ≤ sizeLine ∧ P (.lst (a ++ b))
  | _, _, _ => False
def gInt2 (C : Int → Int → Prop) (g : Int → Int → D) : G2
  | .int a, .int b, P => C a b ∧ P (g a b)
  | _, _, _ => False
abbrev gSub : G2 := gInt2 (fun _ _ => True) fun a b => .int (a - b)
abbrev gMul : G2 := gInt2 CMul fun a b => .int (a * b)
abbrev gMod : G2 := gInt2 (fun _ b => 0 < b) fun a b => .int (a % b)
abbrev gFdiv : G2 := gInt2 CDiv fun a b => .int (a / b)
def gCmp (gi : Int → Int → Bool) (gs : Tx → Tx → Bool) : G2
  | .int a, .int b, P => P (.bl (gi a b))
  | .str a, .str b, P => P (.bl (gs a b))
  | _, _, _ => False
abbrev gLt : G2 := gCmp (fun a b => decide (a < b)) fun a b => decide (a < b)
abbrev gLe : G2 := gCmp (fun a b => decide (a ≤ b)) fun a b => !decide (b < a)
abbrev gGt : G2 := gCmp (fun a b => decide (b < a)) fun a b => decide (b < a)
abbrev gGe : G2 := gCmp (fun a b => decide (b ≤ a)) fun a b => !decide (a < b)
/-- is None -/
def gIsN : G2
  | d, .non, P => P (.bl (match d with | .non => true | _ => false))
  | _, _, _ => False
def gIsNot : G2
  | d, .non, P => P (.bl (match d with | .non => false | _ => true))
  | _, _, _ => False
def flatD : D → Bool
  | .non => true | .bl _ => true | .int _ => true | .str _ => true | _ => false
/-- == of flat data -/
def eqF : D → D → Bool
  | .non, .non => true
  | .bl a, .bl b => a == b
  | .bl a, .int b => (if a then 1 else 0) == b
  | .int a, .bl b => a == (if b then 1 else 0)
  | .int a, .int b => a == b
  | .str a, .str b => decide (a = b)
  | _, _ => false
def inD (d : D) (ds : List D) : Bool := ds.any fun e => eqF e d
def keyD : D → Option DK
  | .int i => some (.inl i)
  | .str l => some (.inr l)
  | _ => none
/-- the value at a key -/
def getK : List DK → List D → DK → Option D
  | k :: ks, d :: ds, x => if k = x then some d else getK ks ds x
  | _, _, _ => none
def memK (k : DK) (ks : List DK) : Bool := ks.any fun x => decide (x = k)
def gIn : G2
  | .str [c], .str z, P => P (.bl (decide (c ∈ z)))
  | d, .tup ds, P => flatD d = true ∧ ds.all flatD = true ∧ P (.bl (inD d ds))
  | d, .lst ds, P => flatD d = true ∧ ds.all flatD = true ∧ P (.bl (inD d ds))
  | d, .dic ks ds, P => ∃ k, keyD d = some k ∧ P (.bl (memK k ks))
  | _, _, _ => False
def gNotIn : G2 := fun d e P => gIn d e fun x => match x with
  | .bl b => P (.bl (!b))
  | _ => False
def gIx : G2
  | .tup ds, .int i, P => ∃ d, atI ds i = some d ∧ P d
  | .lst ds, .int i, P => ∃ d, atI ds i = some d ∧ P d
  | .str l, .int i, P => ∃ c, atI l i = some c ∧ P (.str [c])
  | .dic ks ds, d, P => ∃ k e, keyD d = some k ∧ getK ks ds k = some e ∧ P e
  | _, _, _ => False

section
variable [TapeI] {K : PySem.W.Frag} {X : Cx}
theorem Out.ret {O : Addr → Prop} {H : Hp} {P : D → Prop} {Q : VK} (o : Out K O H P Q) {v : V} {d : D} (r : Rp K (msk O H) v d) (p : P d) : Q v H := o v H d (Same.refl _) r p
theorem Out.bl {O : Addr → Prop} {H : Hp} {P : D → Prop} {Q : VK} (o : Out K O H P Q) {b : Bool} (p : P (.bl b)) : Q (.bl b) H := o.ret (.bl b) p
theorem Out.int {O : Addr → Prop} {H : Hp} {P : D → Prop} {Q : VK} (o : Out K O H P Q) {i : Int} (p : P (.int i)) : Q (.int i) H := o.ret (.int i) p
theorem Out.str {O : Addr → Prop} {H : Hp} {P : D → Prop} {Q : VK} (o : Out K O H P Q) {l : Tx} (h : l.length ≤ sizeLine) (p : P (.str l)) : Q (.str (S l)) H := o.ret (.str l h) p
/-- a new tuple, a new list -/
theorem Out.tup {O : Addr → Prop} {H : Hp} {P : D → Prop} {Q : VK} (o : Out K O H P Q) (hO : ∀ b, O b → H b ≠ none) {vs : List V} {ds : List D} (r : RpAll K (msk O H) vs ds) (p : P (.tup ds)) (a : Addr) (ha : H a = none) : Q (.ref a) (upd H a (.tup vs)) := by
  have e := same_new (o := .tup vs) ha
  refine o _ _ _ e (.tup (.inl (.inl ?_)) (r.mono (msk_same e))) p
  rw [msk_of (fun z => hO a z ha), upd_same]
theorem Out.lst {O : Addr → Prop} {H : Hp} {P : D → Prop} {Q : VK} (o : Out K O H P Q) (hO : ∀ b, O b → H b ≠ none) {vs : List V} {ds : List D} (r : RpAll K (msk O H) vs ds) (p : P (.lst ds)) (a : Addr) (ha : H a = none) : Q (.ref a) (upd H a (.lst vs)) := by
  have e := same_new (o := .lst vs) ha
  refine o _ _ _ e (.lst ?_ (r.mono (msk_same e))) p
  rw [msk_of (fun z => hO a z ha), upd_same]
theorem Rp.full {O : Addr → Prop} {H : Hp} {v : V} {d : D} (r : Rp K (msk O H) v d) : Rp K H v d := r.mono same_msk
theorem msk_sqT {O : Addr → Prop} {H : Hp} {a : Addr} {xs : List V} (r : SqT K (msk O H) a xs) : SqT K H a xs := Same.sqT same_msk r

theorem dop_int {f : Value → Value → Sem Value} {C : Int → Int → Prop} {g : Int → Int → D} {gv : Int → Int → V} (h : OpR X f (rI C gv)) (hg : ∀ i j H, Rp K H (gv i j) (g i j)) : DOp K X f (gInt2 C g) := ⟨_, h, fun _ O H x y dx dy P Q hO rx ry q o => by
  cases rx <;> first | (cases ry <;> first | exact ⟨_, _, rfl, rfl, q.1, o.ret (hg _ _ _) q.2⟩ | exact q.elim) | exact q.elim⟩
theorem OpR.imp {f : Value → Value → Sem Value} {r r' : R2} (h : OpR X f r) (i : ∀ x y H Q, r' x y H Q → r x y H Q) : OpR X f r' := fun pins s σ H x y v u Q I rx ry q => h pins s σ H x y v u Q I rx ry (i x y H Q q)
theorem dop_sub : DOp K X (binaryOp .Sub) gSub := dop_int (gv := fun i j => .int (i - j)) (OpR.imp op_sub fun x y H Q ⟨i, j, e1, e2, _, q⟩ => ⟨i, j, e1, e2, q⟩) fun i j H => .int _
theorem dop_mul : DOp K X (binaryOp .Mult) gMul := dop_int op_mul fun i j H => .int _
theorem dop_mod : DOp K X (binaryOp .Mod) gMod := dop_int op_mod fun i j H => .int _
theorem dop_fdiv : DOp K X (binaryOp .FloorDiv) gFdiv := dop_int op_fdiv fun i j H => .int _
theorem dop_add : DOp K X (binaryOp .Add) gAdd := ⟨_, OpR.or (OpR.or op_add op_add_str) (OpR.or op_catA op_cat), fun hK O H x y dx dy P Q hO rx ry q o => by
  subst hK
  cases rx with
  | int a => cases ry <;> first | exact .inl (.inl ⟨_, _, rfl, rfl, o.int q⟩) | exact q.elim
  | str a ha =>
    cases ry with
    | str b hb =>
      refine .inl (.inr ⟨_, _, rfl, rfl, by rw [S_length, S_length]; exact q.1, ?_⟩)
      rw [S_app]
      exact o.str (by rw [List.length_append]; exact q.1) q.2
    | _ => exact q.elim
  | @tup a xs ds h r =>
    cases ry with
    | @tup b ys es h' r' =>
      refine .inr (.inl ⟨a, b, xs, ys, rfl, rfl, msk_sqT h, msk_sqT h', by rw [r.length, r'.length]; exact q.1, fun e => ?_, fun _ e => ?_, fun _ _ p hp => ?_⟩)
      · subst e
        cases r
        exact o.ret (.tup h' r') q.2
      · subst e
        cases r'
        have := q.2
        rw [List.append_nil] at this
        exact o.ret (.tup h r) this
      · exact o.tup hO (r.append r') q.2 p hp
    | _ => exact q.elim
  | @lst a xs ds h r =>
    cases ry with
    | @lst b ys es h' r' =>
      exact .inr (.inr ⟨a, b, xs, ys, rfl, rfl, (msk_some h).2, (msk_some h').2, by rw [r.length, r'.length]; exact q.1, fun p hp => o.lst hO (r.append r') q.2 p hp⟩)
    | _ => exact q.elim
  | _ => exact q.elim⟩
theorem S_dec {a b : Tx} : decide (V.str (S a) = V.str (S b)) = decide (a = b) := by
  by_cases e : a = b
  · subst e; simp
  · rw [decide_eq_false e, decide_eq_false]
    intro z
    exact e (S_inj (V.str.inj z))
/-- == of plain data -/
def rEqM (K : PySem.W.Frag) (neg : Bool) : R2 := fun x y H Q => ∃ d e, Dp K H x d ∧ Dp K H y e ∧ d.canLay0 = true ∧ e.canLay0 = true ∧ min d.depth e.depth ≤ 64 ∧ Q (.bl (if neg then !PyData.eqv d e else PyData.eqv d e)) H
theorem op_eqM (hu : X.A.units + 64 < cLine) : OpR X (compareOp .Eq) (rEqM X.K false) := by
  intro pins s σ H x y v u Q I rx ry h
  obtain ⟨d, e, hd, he, sd, se, dm, q⟩ := h
  obtain ⟨as, r1⟩ := Dp.reads I d x v hd rx
  obtain ⟨bs, r2⟩ := Dp.reads I e y u he ry
  exact SeqAt.compareEq_reads r1 r2 sd se (by omega) ⟨.bl _, H, I, rfl, q⟩
theorem op_neM (hu : X.A.units + 64 < cLine) : OpR X (compareOp .NotEq) (rEqM X.K true) := by
  intro pins s σ H x y v u Q I rx ry h
  obtain ⟨d, e, hd, he, sd, se, dm, q⟩ := h
  obtain ⟨as, r1⟩ := Dp.reads I d x v hd rx
  obtain ⟨bs, r2⟩ := Dp.reads I e y u he ry
  exact SeqAt.compareNe_reads r1 r2 sd se (by omega) ⟨.bl _, H, I, rfl, q⟩
theorem eq_split {O : Addr → Prop} {H : Hp} {x y : V} {dx dy : D} {P : D → Prop} (rx : Rp K (msk O H) x dx) (ry : Rp K (msk O H) y dy) (q : gEq dx dy P) :
    (scal x y = true ∧ P (.bl (decide (x = y)))) ∨ (Dp K H x (toPy dx) ∧ Dp K H y (toPy dy) ∧ okE dx = true ∧ okE dy = true ∧ min (depE dx) (depE dy) ≤ 64 ∧ P (.bl (eqD dx dy))) := by
  have gen : (okE dx = true ∧ okE dy = true ∧ min (depE dx) (depE dy) ≤ 64 ∧ P (.bl (eqD dx dy))) → (Dp K H x (toPy dx) ∧ Dp K H y (toPy dy) ∧ okE dx = true ∧ okE dy = true ∧ min (depE dx) (depE dy) ≤ 64 ∧ P (.bl (eqD dx dy))) := fun z => ⟨rx.full.dp z.1, ry.full.dp z.2.1, z⟩
  cases rx with
  | str a ha =>
    cases ry with
    | str b hb =>
      refine .inl ⟨rfl, ?_⟩
      rw [S_dec]
      exact q
    | _ => exact .inr (gen q)
  | int a =>
    cases ry with
    | int b =>
      refine .inl ⟨rfl, ?_⟩
      rw [show decide (V.int a = V.int b) = decide (a = b) by simp]
      exact q
    | _ => exact .inr (gen q)
  | bl a =>
    cases ry with
    | bl b =>
      refine .inl ⟨rfl, ?_⟩
      rw [show decide (V.bl a = V.bl b) = decide (a = b) by simp]
      exact q
    | _ => exact .inr (gen q)
  | _ => exact .inr (gen q)
theorem dop_eq (hu : X.A.units + 64 < cLine) : DOp K X (compareOp .Eq) gEq := ⟨_, OpR.or op_eq (op_eqM hu), fun hK O H x y dx dy P Q hO rx ry q o => by
  subst hK
  rcases eq_split rx ry q with ⟨h1, h2⟩ | ⟨h1, h2, h3, h4, h5, h6⟩
  · exact .inl ⟨h1, o.bl h2⟩
  · exact .inr ⟨_, _, h1, h2, h3, h4, h5, o.bl h6⟩⟩
theorem dop_ne (hu : X.A.units + 64 < cLine) : DOp K X (compareOp .NotEq) gNe := ⟨_, OpR.or op_ne (op_neM hu), fun hK O H x y dx dy P Q hO rx ry q o => by
  subst hK
  rcases eq_split rx ry q with ⟨h1, h2⟩ | ⟨h1, h2, h3, h4, h5, h6⟩
  · exact .inl ⟨h1, o.bl h2⟩
  · exact .inr ⟨_, _, h1, h2, h3, h4, h5, o.bl h6⟩⟩
theorem dop_cmp {f : Value → Value → Sem Value} {gi : Int → Int → Bool} {gs : Tx → Tx → Bool} (h1 : OpR X f (rI0 fun i j => .bl (gi i j))) (h2 : OpR X f (fun x y H Q => ∃ i j, x = .str i ∧ y = .str j ∧ Q (.bl (gs i.cps.toList j.cps.toList)) H)) : DOp K X f (gCmp gi gs) :=
  ⟨_, OpR.or h1 h2, fun hK O H x y dx dy P Q hO rx ry q o => by
    cases rx with
    | int a => cases ry <;> first | exact .inl ⟨_, _, rfl, rfl, o.bl q⟩ | exact q.elim
    | str a ha =>
      cases ry with
      | str b hb =>
        refine .inr ⟨_, _, rfl, rfl, ?_⟩
        rw [S_cps, S_cps]
        exact o.bl q
      | _ => exact q.elim
    | _ => exact q.elim⟩
theorem dop_lt : DOp K X (compareOp .Lt) gLt := dop_cmp op_lt op_lt_str
theorem dop_le : DOp K X (compareOp .LtE) gLe := dop_cmp op_le op_le_str
theorem dop_gt : DOp K X (compareOp .Gt) gGt := dop_cmp op_gt op_gt_str
theorem dop_ge : DOp K X (compareOp .GtE) gGe := dop_cmp op_ge op_ge_str
theorem Rp.isNon {H : Hp} {v : V} {d : D} (r : Rp K H v d) : decide (v = V.non) = (match d with | .non => true | _ => false) := by
  cases r <;> simp
theorem dop_isN : DOp K X (compareOp .Is) gIsN := ⟨_, op_isN, fun hK O H x y dx dy P Q hO rx ry q o => by
  cases ry with
  | non =>
    refine ⟨rfl, ?_⟩
    rw [rx.isNon]
    exact o.bl (by cases dx <;> exact q)
  | _ => cases dx <;> exact q.elim⟩
theorem dop_isNot : DOp K X (compareOp .IsNot) gIsNot := ⟨_, op_notN, fun hK O H x y dx dy P Q hO rx ry q o => by
  cases ry with
  | non =>
    refine ⟨rfl, ?_⟩
    rw [rx.isNon]
    exact o.bl (by cases dx <;> exact q)
  | _ => cases dx <;> exact q.elim⟩
/-! membership -/
theorem Rp.flat {H : Hp} {v : V} {d : D} (r : Rp K H v d) (h : flatD d = true) : flatV v = true := by
  cases r <;> first | rfl | cases h
theorem RpAll.flat {H : Hp} : ∀ {vs : List V} {ds : List D}, RpAll K H vs ds → ds.all flatD = true → vs.all flatV = true
  | _, _, .nil, _ => rfl
  | _, _, .cons h t, z => by
    rw [List.all_cons, Bool.and_eq_true] at z ⊢
    exact ⟨h.flat z.1, RpAll.flat t z.2⟩
theorem Rp.eqF {H : Hp} {v w : V} {d e : D} (r : Rp K H v d) (r' : Rp K H w e) (h : flatD d = true) (h' : flatD e = true) : eqV v w = eqF d e := by
  cases r with
  | str a ha =>
    cases r' with
    | str b hb =>
      show (S a == S b) = decide (a = b)
      by_cases z : a = b
      · subst z; simp
      · rw [decide_eq_false z]
        exact beq_eq_false_iff_ne.mpr fun q => z (S_inj q)
    | _ => first | rfl | cases h'
  | _ => first | (cases r' <;> first | rfl | cases h') | cases h
theorem RpAll.inD {H : Hp} {v : V} {d : D} (r : Rp K H v d) (h : flatD d = true) : ∀ {vs : List V} {ds : List D}, RpAll K H vs ds → ds.all flatD = true → inV v vs = inD d ds
  | _, _, .nil, _ => rfl
  | _, _, .cons q t, z => by
    rw [List.all_cons, Bool.and_eq_true] at z
    have ih := RpAll.inD r h t z.2
    unfold inV DL.inD at *
    rw [List.any_cons, List.any_cons, Rp.eqF q r z.1 h, ih]
theorem keyD_rp {H : Hp} {v : V} {d : D} {k : DK} (r : Rp K H v d) (h : keyD d = some k) : v = kV (dkey k) := by
  cases r <;> cases h <;> rfl
theorem dkey_dec {a b : DK} : decide (dkey a = dkey b) = decide (a = b) := by
  by_cases e : a = b
  · subst e; simp
  · rw [decide_eq_false e, decide_eq_false fun z => e (dkey_inj z)]
theorem valV_none {k : DK} : ∀ {kvs : List (Key × V)} {ks : List DK}, kvs.map (·.1) = ks.map dkey → (valV kvs (dkey k)).isSome = memK k ks := by
  intro kvs ks h
  rw [← valV_any]
  have : (kvs.any fun kv => decide (kv.1 = dkey k)) = (kvs.map (·.1)).any fun x => decide (x = dkey k) := by rw [List.any_map]; rfl
  rw [this, h, List.any_map]
  unfold memK
  congr 1
  funext x
  exact dkey_dec
theorem valV_getK {H : Hp} : ∀ {kvs : List (Key × V)} {ks : List DK} {ds : List D} {k : DK} {e : D}, kvs.map (·.1) = ks.map dkey → RpAll K H (kvs.map (·.2)) ds → getK ks ds k = some e → ∃ v, valV kvs (dkey k) = some v ∧ Rp K H v e
  | [], [], _, _, _, _, _, h => by simp [getK] at h
  | [], _ :: _, _, _, _, h, _, _ => by simp at h
  | _ :: _, [], _, _, _, h, _, _ => by simp at h
  | p :: kvs, a :: ks, ds, k, e, h1, h2, h3 => by
    cases h2 with
    | @cons _ _ d ds' r t =>
      rw [List.map_cons, List.map_cons, List.cons.injEq] at h1
      unfold getK at h3
      by_cases q : a = k
      · rw [if_pos q] at h3
        cases h3
        exact ⟨p.2, valV_pos (by rw [h1.1, q]), r⟩
      · rw [if_neg q] at h3
        obtain ⟨v, e1, e2⟩ := valV_getK h1.2 t h3
        refine ⟨v, ?_, e2⟩
        rw [valV_neg (fun z => q (dkey_inj (h1.1.symm.trans z)))]
        exact e1
theorem op_inDict (hu : X.A.units + 1 < cLine) : OpR X (compareOp .In) (fun x y H Q => ∃ a o, y = .ref a ∧ DGet H a x o ∧ Q (.bl o.isSome) H) := by
  intro pins s σ H x y v u Q I rx ry h
  obtain ⟨a, ov, rfl, g, q⟩ := h
  obtain rfl : u = Value.ref a := ry
  exact d_in hu I g rx fun s3 I3 => ⟨.bl ov.isSome, H, I3, rfl, q⟩
theorem op_notInDict (hu : X.A.units + 1 < cLine) : OpR X (compareOp .NotIn) (fun x y H Q => ∃ a o, y = .ref a ∧ DGet H a x o ∧ Q (.bl (!o.isSome)) H) := by
  intro pins s σ H x y v u Q I rx ry h
  obtain ⟨a, ov, rfl, g, q⟩ := h
  obtain rfl : u = Value.ref a := ry
  exact d_notIn hu I g rx fun s3 I3 => ⟨.bl (!ov.isSome), H, I3, rfl, q⟩
theorem sign_S (c : Nat) : S [c] = ⟨#[c]⟩ := rfl
theorem in_split {O : Addr → Prop} {H : Hp} {x y : V} {dx dy : D} {P : D → Prop} (rx : Rp K (msk O H) x dx) (ry : Rp K (msk O H) y dy) (q : gIn dx dy P) :
    (∃ (c : Nat) (z : Str), x = .str ⟨#[c]⟩ ∧ y = .str z ∧ P (.bl (decide (c ∈ z.cps.toList)))) ∨
    (∃ p xs, y = .ref p ∧ (SqL K H p xs ∨ SqT K H p xs) ∧ flatV x = true ∧ xs.all flatV = true ∧ P (.bl (inV x xs))) ∨
    (∃ a o, y = .ref a ∧ DGet H a x o ∧ P (.bl o.isSome)) := by
  cases ry with
  | @tup p xs ds h r =>
    refine .inr (.inl ⟨p, xs, rfl, .inr (msk_sqT h), ?_⟩)
    have q' : flatD dx = true ∧ ds.all flatD = true ∧ P (.bl (inD dx ds)) := by
      cases rx with
      | str l _ => rcases l with _ | ⟨c, _ | ⟨c', l⟩⟩ <;> exact q
      | _ => exact q
    exact ⟨rx.flat q'.1, r.flat q'.2.1, by rw [RpAll.inD rx q'.1 r q'.2.1]; exact q'.2.2⟩
  | @lst p xs ds h r =>
    refine .inr (.inl ⟨p, xs, rfl, .inl (.inl (.inl (msk_some h).2)), ?_⟩)
    have q' : flatD dx = true ∧ ds.all flatD = true ∧ P (.bl (inD dx ds)) := by
      cases rx with
      | str l _ => rcases l with _ | ⟨c, _ | ⟨c', l⟩⟩ <;> exact q
      | _ => exact q
    exact ⟨rx.flat q'.1, r.flat q'.2.1, by rw [RpAll.inD rx q'.1 r q'.2.1]; exact q'.2.2⟩
  | @dic a kvs ks ds h h2 hz h3 =>
    have q' : ∃ k, keyD dx = some k ∧ P (.bl (memK k ks)) := by
      cases rx with
      | str l _ => rcases l with _ | ⟨c, _ | ⟨c', l⟩⟩ <;> exact q
      | _ => exact q
    obtain ⟨k, hk, q'⟩ := q'
    refine .inr (.inr ⟨a, valV kvs (dkey k), rfl, .inl ⟨kvs, dkey k, Same.rd same_msk h, keyD_rp rx hk, rfl⟩, ?_⟩)
    rw [valV_none h2]
    exact q'
  | str z hz =>
    cases rx with
    | str l _ =>
      rcases l with _ | ⟨c, _ | ⟨c', l⟩⟩
      · exact q.elim
      · exact .inl ⟨c, S z, rfl, rfl, by rw [S_cps]; exact q⟩
      · exact q.elim
    | _ => exact q.elim
  | _ => cases rx with
    | str l _ => rcases l with _ | ⟨c, _ | ⟨c', l⟩⟩ <;> exact q.elim
    | _ => exact q.elim
theorem dop_in (hu : X.A.units + 64 < cLine) : DOp K X (compareOp .In) gIn := ⟨_, OpR.or op_in_sign (OpR.or op_in_seq (op_inDict (by omega))), fun hK O H x y dx dy P Q hO rx ry q o => by
  subst hK
  rcases in_split rx ry q with ⟨c, z, e1, e2, p⟩ | ⟨p, xs, e, h1, h2, h3, p⟩ | ⟨a, ov, e, g, p⟩
  · exact .inl ⟨c, z, e1, e2, o.bl p⟩
  · exact .inr (.inl ⟨_, xs, e, h1, h2, h3, o.bl p⟩)
  · exact .inr (.inr ⟨a, ov, e, g, o.bl p⟩)⟩
theorem dop_notIn (hu : X.A.units + 64 < cLine) : DOp K X (compareOp .NotIn) gNotIn := ⟨_, OpR.or op_notIn_sign (OpR.or op_notIn_seq (op_notInDict (by omega))), fun hK O H x y dx dy P Q hO rx ry q o => by
  subst hK
  rcases in_split rx ry q with ⟨c, z, e1, e2, p⟩ | ⟨p, xs, e, h1, h2, h3, p⟩ | ⟨a, ov, e, g, p⟩
  · exact .inl ⟨c, z, e1, e2, o.bl p⟩
  · exact .inr (.inl ⟨_, xs, e, h1, h2, h3, o.bl p⟩)
  · exact .inr (.inr ⟨a, ov, e, g, o.bl p⟩)⟩
/-! subscripts -/
theorem ix_dict (hu : X.A.units + 1 < cLine) : IxR X (fun x y H Q => ∃ a v, x = .ref a ∧ DGet H a y (some v) ∧ Q v H) := by
  intro value slice pins s σ H x y v u Q I rx ry h hs
  obtain ⟨a, z, rfl, g, q⟩ := h
  obtain rfl : v = Value.ref a := rx
  exact tail_any (dict_typeIs I g) slot_dict_getitem.lookup (d_getItem hu I g ry fun w' s3 I3 rw' => ⟨z, H, I3, rw', q⟩) hs
theorem atI_rp {H : Hp} {vs : List V} {ds : List D} (r : RpAll K H vs ds) {i : Int} {d : D} (h : atI ds i = some d) : ∃ v, atI vs i = some v ∧ Rp K H v d := by
  unfold atI at h ⊢
  rw [r.length]
  cases e : ixN ds.length i with
  | none => rw [e] at h; cases h
  | some j =>
    rw [e] at h
    exact r.get h
theorem ix_ok (hu : X.A.units + 64 < cLine) : ∃ r, IxR X r ∧ ∀ (O : Addr → Prop) (H : Hp) (x y : V) (dx dy : D) (P : D → Prop) (Q : VK), (∀ b, O b → H b ≠ none) → Rp X.K (msk O H) x dx → Rp X.K (msk O H) y dy → gIx dx dy P → Out X.K O H P Q → r x y H Q := ⟨_, IxR.or ix_seq (ix_dict (by omega)), fun O H x y dx dy P Q hO rx ry q o => by
  cases rx with
  | @tup p xs ds h r =>
    cases ry with
    | int i =>
      obtain ⟨d, h1, h2⟩ := q
      obtain ⟨v, e1, e2⟩ := atI_rp r h1
      exact .inl (.inr (.inl ⟨p, xs, i, v, rfl, rfl, msk_sqT h, e1, o.ret e2 h2⟩))
    | _ => exact q.elim
  | @lst p xs ds h r =>
    cases ry with
    | int i =>
      obtain ⟨d, h1, h2⟩ := q
      obtain ⟨v, e1, e2⟩ := atI_rp r h1
      exact .inl (.inl ⟨p, xs, i, v, rfl, rfl, .inl (.inl (msk_some h).2), e1, o.ret e2 h2⟩)
    | _ => exact q.elim
  | str l hl =>
    cases ry with
    | int i =>
      obtain ⟨c, h1, h2⟩ := q
      exact .inl (.inr (.inr ⟨S l, i, c, rfl, rfl, by rw [S_length]; exact hl, by rw [S_cps]; exact h1, o.str (by rw [sizeLine_eq]; show 1 ≤ _; decide) h2⟩))
    | _ => exact q.elim
  | @dic a' kvs ks ds h h2 hz h3 =>
    obtain ⟨k, e, e1, e2, q⟩ := q
    obtain ⟨v, z1, z2⟩ := valV_getK h2 h3 e2
    exact .inr ⟨a', v, rfl, .inl ⟨kvs, dkey k, Same.rd same_msk h, keyD_rp ry e1, z1.symm⟩, o.ret z2 q⟩
  | _ => exact q.elim⟩
theorem de_ix {a b : Expr} {fa fb : FE} {pos : Pos} (hu : X.A.units + 64 < cLine) (ha : DE K X a fa) (hb : DE K X b fb) (hs : PlainIx b := by intro _ _; rfl) : DE K X (.Subscript a b pos) (fOp gIx fa fb) := ⟨fun hK => by
  subst hK
  obtain ⟨r, h1, h2⟩ := ix_ok hu
  exact pe_imp (pe_ix h1 (ha.pe rfl) (hb.pe rfl) hs) (e_bin h2)⟩
end
end DL
/-! The layer DL: defs and their calls. -/
namespace DL
open PySem PySem.Spec PyProof.Rows L2

/-! ### room, with no repr under way -/
structure RoomG (k : Nat) (A : Around) : Prop where
  r : Room k A
  g : A.guards = some []
theorem RoomG.mono {j k : Nat} {A : Around} (r : RoomG k A) (h : j ≤ k) : RoomG j A := ⟨r.r.mono h, r.g⟩
theorem RoomG.deeper {k : Nat} {A : Around} (r : RoomG (k + 1) A) (env : Env) : RoomG k (A.deeper env) := ⟨r.r.deeper env, r.g⟩
theorem RoomG.hu {k : Nat} {A : Around} (r : RoomG k A) : A.units + 64 < cLine := r.r.units
/-- a def at f keeps the promise sp, called with no repr under way -/
structure FnG (P : Program) (w : World) (K : PySem.W.Frag) (mg : Str → Option Value) (base : Heap) (CX : CXT) (k : Nat) (f : Addr) (fd : FuncData) (ps : List Str) (sp : Sp) : Prop where
  len : ∀ vs H Q E, sp vs H Q E → vs.length = ps.length
  run : ∀ (A : Around) (outer : List Env) (s : Shared) (H : Hp) (args : Args) (us : List Value) (vs : List V) (Q : VK) (E : XK), RoomG k A → Env0 P w K mg base A outer s H → BindsTo s fd args (ps.zip us) → Vals vs us → sp vs H Q E →
    codeAny (model P w) A (.call (.ref f) args) (CR CX outer P w H s Q E) s
section
variable {P : Program} {w : World} {K : PySem.W.Frag} {mg : Str → Option Value} {base : Heap} {CX : CXT} {k : Nat} {f : Addr} {fd : FuncData} {ps : List Str} {sp : Sp}
theorem FnG.of (F : FnOk P w K mg base CX k f fd ps sp) : FnG P w K mg base CX k f fd ps sp := ⟨F.len, fun A outer s H args us vs Q E hr => F.run A outer s H args us vs Q E hr.r⟩
theorem FnG.mono {j : Nat} (F : FnG P w K mg base CX j f fd ps sp) (h : j ≤ k) : FnG P w K mg base CX k f fd ps sp := ⟨F.len, fun A outer s H args us vs Q E hr => F.run A outer s H args us vs Q E (hr.mono h)⟩
theorem fnG_of {name qual : Str} {params : Arguments} {body : List Stmt} {scope : Scope} {dV kV doc pm cdv ct oc : Value} {an od : Option Addr}
    {osl : Array (Option Value)} {N : List Str} (lk : K.lookup f = some ⟨oc, od, .func (PySem.W.fnOf name qual params body scope dV kV doc pm an cdv ct), osl⟩) (hcd : PySem.W.codeIn K cdv qual = true) (S : FnScope N ps scope)
    (len : ∀ vs H Q E, sp vs H Q E → vs.length = ps.length)
    (hbody : ∀ (A : Around) (outer : List Env) (s : Shared) (H : Hp) (vs : List V) (Q : VK) (E : XK), RoomG k (A.deeper (envOfC qual scope s.heap.objs.size f cdv)) → sp vs H Q E →
      ∃ t, PSs (cxOf CX P w K mg base N qual scope f cdv A outer s H E) body t ∧ t { nx := fun _ H' => Q .non H', rt := Q } (start N vs) H) :
    FnG P w K mg base CX (k + 1) f (PySem.W.fnOf name qual params body scope dV kV doc pm an cdv ct) ps sp := by
  refine ⟨len, fun A outer s H args us vs Q E hrg e0 hb r hsp => ?_⟩
  have hr := hrg.r
  have hl := len _ _ _ _ hsp
  have KX : K.In s.heap := e0.mod.kin.keeps fun b o e => (e0.bs b o e).1
  have lim : s.heap.NoLimit := e0.mod.nolimit.keeps fun b o e => (e0.bs b o e).1
  have hkind : ∀ y ∈ ps.zip us, scope.names.lookup y.1 = some .local ∨ (scope.names.lookup y.1 = some .cell ∧ ((cellsFrom (s.heap.objs.size + 1) scope.names []).lookup y.1).isSome = true) := fun ⟨n, v⟩ hy => by
    rcases S.par n (List.of_mem_zip hy).1 with q | q
    · exact .inl q
    · exact .inr ⟨q, PySem.W.cellsFrom_some _ _ _ (.inl q)⟩
  refine codeAny_call_function hr.depth (KX _ _ lk) rfl S.co S.gen rfl (PySem.W.codeRec_of KX hcd) (hb _ _ _ _ ?_)
  refine wpAny_newFunctionEnv_cells S.kind hkind fun env he s1 x => ?_
  subst he
  refine ⟨lim.keeps x.toInCall.keep, codeAny_func ?_⟩
  obtain ⟨t, ht, hq⟩ := hbody A outer s H vs Q E (hrg.deeper _) hsp
  have I : Inv (cxOf CX P w K mg base N qual scope f cdv A outer s H E) [] (start N vs) H s1 := inv_start S hr.hd e0 hl r x
  refine wpAny_mono (ht.run [] s1 (start N vs) H _ I hq) (fun fl s' hs => ?_) fun e s' hs => hs
  have fin : ∀ {σ' : L2.St} {H' : Hp} {v : V} {u : Value}, Inv (cxOf CX P w K mg base N qual scope f cdv A outer s H E) [] σ' H' s' → RelV v u → Q v H' → CE outer P w H s Q u s' :=
    fun {σ' H' v u} J rv q => ⟨v, H', J.os, J.bare, J.base, J.hok, rv, q⟩
  cases fl with
  | ret u =>
    obtain ⟨v, σ', H', J, rv, q⟩ := hs
    exact fin J rv q
  | next =>
    obtain ⟨σ', H', J, q⟩ := hs
    exact fin (v := V.non) (u := Value.none) J rfl q
  | brk =>
    obtain ⟨_, _, _, q⟩ := hs
    exact False.elim q
  | cont =>
    obtain ⟨_, _, _, q⟩ := hs
    exact False.elim q
/-- what lets no exception out needs no wish -/
theorem CX0_noE {outer : List Env} {H : Hp} {s : Shared} {E : XK} {e : Value} {s' : Shared} : CX0 outer H s E e s' → False := fun h => h
end
section
variable {X : Cx} {CX : CXT} {k n : Nat} {f : Addr} {fd : FuncData} {ps ks : List Str} {sp : Sp} {E : XK} {x : Str} {p pos : Pos} {e : Expr} {es : List Expr} {kws : List Keyword} {t tk : TA} {g : List Value → List Value → List Value} {gV : List V → List V → List V}
theorem run_fnG {pins : List (Addr × Obj)} {σ : L2.St} {H : Hp} {s : Shared} {Q : VK} {us ws : List Value} {vs zs : List V} (F : FnG X.prog X.w X.K X.mg X.base CX k f fd ps sp) (hr : RoomG k X.A) (hb : KBn X.K fd ps n ks g gV) (hx : Passes CX X E)
    (I : Inv X pins σ H s) (r : Vals vs us) (rz : Vals zs ws) (l1 : vs.length = n) (l2 : zs.length = ks.length) (h : sp (gV vs zs) H Q E) : wpAny (model X.prog X.w) X.A (call (.ref f) us (ks.zip ws)) (EP X pins σ Q) X.xe s := by
  have r2 := hb.rel r rz
  refine wpAny_call (codeAny_mono (F.run X.A X.stack s H ⟨us, ks.zip ws⟩ (g us ws) (gV vs zs) Q E hr I.env0 (hb.to s us ws I.kIn (r.length.symm.trans l1) (rz.length.symm.trans l2)) r2 h) fun r s' hq => ?_)
  cases r with
  | error e => exact hx pins σ H s e s' I hq
  | ok fl =>
    cases fl with
    | ret u => exact I.after hq
    | next => exact False.elim hq
    | brk => exact False.elim hq
    | cont => exact False.elim hq
def tCallG (n m : Nat) (sp : Sp) (gV : List V → List V → List V) (E : XK) (t tk : TA) : TE := fun σ H Q => t σ H fun vs H1 => tk σ H1 fun zs H2 => vs.length = n ∧ zs.length = m ∧ sp (gV vs zs) H2 Q E
/-- f(e, ..) -/
theorem pe_callG (F : FnG X.prog X.w X.K X.mg X.base CX k f fd ps sp) (hr : RoomG k X.A) (hg : Gl X x) (hm : X.mg x = some (.ref f)) (hk : PySem.W.keepIn X.K (.ref f) = true) (hb : KBn X.K fd ps n [] g gV) (hx : Passes CX X E)
    (ha : PA X (e :: es) t) (hdb : (x == ("__debug__" : Str)) = false := by decide) (he : starEach (e :: es) X.env = (false, eval e X.env) :: starEach es X.env := by rfl) (hpl : (backTo pos (starEach es X.env)).any (·.1) = false := by rfl) :
    PE X (.Call (.Name x p) (e :: es) [] pos) (tCallG n 0 sp gV E t tNil) := by
  refine ⟨fun pins s σ H Q I h => ?_⟩
  refine wpAny_Call_Name_kw (ld_glob I hg hm ?_ hdb)
  refine PySem.W.callWith_K (h₀ := X.base) I.ok.mod.kin hk (thn (ha.run pos pins s σ H _ I h) fun us s1 ⟨vs, H1, I1, r, l1, _, q⟩ => ⟨I1.kIn, ?_⟩) he hpl
  have := run_fnG (ws := []) (zs := []) F hr hb hx I1 r .nil l1 rfl q
  exact this
/-- f() -/
theorem pe_callG0 (F : FnG X.prog X.w X.K X.mg X.base CX k f fd ps sp) (hr : RoomG k X.A) (hg : Gl X x) (hm : X.mg x = some (.ref f)) (hk : PySem.W.keepIn X.K (.ref f) = true) (hb : KBn X.K fd ps 0 [] g gV) (hx : Passes CX X E)
    (hdb : (x == ("__debug__" : Str)) = false := by decide) : PE X (.Call (.Name x p) [] [] pos) (tCallG 0 0 sp gV E tNil tNil) := by
  refine ⟨fun pins s σ H Q I h => ?_⟩
  refine wpAny_Call_Name_kw (ld_glob I hg hm ?_ hdb)
  refine PySem.W.callWith_K0 I.kIn hk ?_
  obtain ⟨l1, _, q⟩ := h
  have := run_fnG (us := []) (vs := []) (ws := []) (zs := []) F hr hb hx I .nil .nil rfl rfl q
  exact this
/-- f(e, .., k = v, ..) -/
theorem pe_callGK (F : FnG X.prog X.w X.K X.mg X.base CX k f fd ps sp) (hr : RoomG k X.A) (hg : Gl X x) (hm : X.mg x = some (.ref f)) (hk : PySem.W.keepIn X.K (.ref f) = true) (hb : KBn X.K fd ps n ks g gV) (hx : Passes CX X E)
    (ha : PA X (e :: es) t) (hkw : PK X kws tk) (hall : (backToKw pos (keywordEach kws X.env)).all (·.1.isSome) = true := by rfl) (hks : (backToKw pos (keywordEach kws X.env)).filterMap (·.1) = ks := by rfl)
    (hdb : (x == ("__debug__" : Str)) = false := by decide) (he : starEach (e :: es) X.env = (false, eval e X.env) :: starEach es X.env := by rfl)
    (hpl : ((backTo pos (starEach (e :: es) X.env)).any (·.1) || (backToKw pos (keywordEach kws X.env)).any (·.1.isNone)) = false := by rfl) :
    PE X (.Call (.Name x p) (e :: es) kws pos) (tCallG n ks.length sp gV E t tk) := by
  refine ⟨fun pins s σ H Q I h => ?_⟩
  refine wpAny_Call_Name_kw (ld_glob I hg hm ?_ hdb)
  refine PySem.W.callWith_KW (h₀ := X.base) I.ok.mod.kin hk hall (thn (ha.run pos pins s σ H _ I h) fun us s1 ⟨vs, H1, I1, r, q⟩ => ?_) hpl he
  refine thn (hkw.run pos pins s1 σ H1 _ I1 q) fun ws s2 ⟨zs, H2, I2, rz, l1, l2, q2⟩ => ⟨I2.kIn, ?_⟩
  rw [hks]
  exact run_fnG F hr hb hx I2 r rz l1 l2 q2
/-- f(k = v, ..) -/
theorem pe_callGK0 (F : FnG X.prog X.w X.K X.mg X.base CX k f fd ps sp) (hr : RoomG k X.A) (hg : Gl X x) (hm : X.mg x = some (.ref f)) (hk : PySem.W.keepIn X.K (.ref f) = true) (hb : KBn X.K fd ps 0 ks g gV) (hx : Passes CX X E)
    (hkw : PK X kws tk) (hall : (backToKw pos (keywordEach kws X.env)).all (·.1.isSome) = true := by rfl) (hks : (backToKw pos (keywordEach kws X.env)).filterMap (·.1) = ks := by rfl)
    (hdb : (x == ("__debug__" : Str)) = false := by decide)
    (hpl : ((backTo pos (starEach [] X.env)).any (·.1) || (backToKw pos (keywordEach kws X.env)).any (·.1.isNone)) = false := by rfl) :
    PE X (.Call (.Name x p) [] kws pos) (tCallG 0 ks.length sp gV E tNil tk) := by
  refine ⟨fun pins s σ H Q I h => ?_⟩
  refine wpAny_Call_Name_kw (ld_glob I hg hm ?_ hdb)
  refine PySem.W.callWith_KW0 (h₀ := X.base) I.ok.mod.kin hk hall (thn (hkw.run pos pins s σ H _ I h) fun ws s2 ⟨zs, H2, I2, rz, l1, l2, q2⟩ => ⟨I2.kIn, ?_⟩) hpl
  rw [hks]
  have := run_fnG (us := []) (vs := []) F hr hb hx I2 .nil rz l1 l2 q2
  exact this
end

/-! ### promises over plain data -/
section
variable [TapeI] (K : PySem.W.Frag)
def spD (n : Nat) (spec : GA) : Sp := fun vs H Q _ => ∃ (O : Addr → Prop) (ds : List D) (P : D → Prop), ds.length = n ∧ (∀ b, O b → H b ≠ none) ∧ RpAll K (msk O H) vs ds ∧ spec ds P ∧ ∀ v H' d, Rp K (msk O H') v d → Same H H' → P d → Q v H'
/-- more draws than a run can make -/
def LIM : Nat := 16777216
/-- .. of a def whose first parameter is the draws' object: it draws at most cost times -/
def spT (n : Nat) (spec : GA) (cost : Nat) : Sp := fun vs H Q _ => ∃ (O : Addr → Prop) (t : Addr) (m : Nat) (vs' : List V) (ds : List D) (P : D → Prop), vs = .ref t :: vs' ∧ ds.length = n ∧ m + cost ≤ LIM ∧ (∀ b, O b → H b ≠ none) ∧ O t ∧ (∃ o, H t = some o ∧ TapeI.TP K m (msk O H) o) ∧
  RpAll K (msk O H) vs' ds ∧ spec ds P ∧ ∀ v H' d, Rp K (msk O H') v d → (∀ b o, b ≠ t → H b = some o → H' b = some o) → (∃ o, H' t = some o ∧ TapeI.TP K (m + cost) (msk O H') o) → P d → Q v H'
end
/-- the slots at the entry -/
def initR (n : Nat) (ds : List D) : Rho := ds.map .sh ++ List.replicate (n - ds.length) .no
def initT (n : Nat) (t : Addr) (m : Nat) (ds : List D) : Rho := .tk t m :: (ds.map .sh ++ List.replicate (n - (ds.length + 1)) .no)
def En (P : D → Prop) : Dn := { nx := fun _ => P .non, rt := fun d _ => P d }
/-- the draws' object stands in the first slot, drawn from at most m times -/
def tkOk (t : Addr) (m : Nat) (ρ : Rho) : Prop := ∃ n, ρ[0]? = some (.tk t n) ∧ n ≤ m
def EnT (t : Addr) (m : Nat) (P : D → Prop) : Dn := { nx := fun ρ => tkOk t m ρ ∧ P .non, rt := fun d ρ => tkOk t m ρ ∧ P d }
section
variable [TapeI] {K : PySem.W.Frag}
theorem own_sh {σ : St} {ρ : Rho} (h : ∀ s ∈ ρ, s.own = false) (b : Addr) : ¬ own σ ρ b := fun ⟨i, s, h1, h2, _⟩ => by
  rw [h s (List.mem_of_getElem? h1)] at h2
  cases h2
theorem initR_own {n : Nat} {ds : List D} : ∀ s ∈ initR n ds, s.own = false := fun s hs => by
  rcases List.mem_append.mp hs with h | h
  · obtain ⟨d, _, rfl⟩ := List.mem_map.mp h; rfl
  · rw [(List.mem_replicate.mp h).2]; rfl
theorem M_of {c : Fx} {σ : St} {ρ : Rho} {H : Hp} (h : ∀ b, Ow c σ ρ b ↔ c.O b) : M c σ ρ H = msk c.O H := by
  show msk _ _ = _
  congr 1
  funext b
  exact propext (h b)
theorem start_get {N : List Str} {vs : List V} {i : Nat} {v : V} (h : vs[i]? = some v) : (start N vs)[i]? = some (some v) := by
  unfold L2.start
  rw [List.getElem?_append_left (by simpa using (List.getElem?_eq_some_iff.mp h).1), List.getElem?_map, h]
  rfl
theorem st_init {N : List Str} {O : Addr → Prop} {H : Hp} {vs : List V} {ds : List D} (hl : ds.length ≤ N.length) (hO : ∀ b, O b → H b ≠ none) (r : RpAll K (msk O H) vs ds) : StR K ⟨H, O, none⟩ (start N vs) (initR N.length ds) H := by
  have hM : M ⟨H, O, none⟩ (start N vs) (initR N.length ds) H = msk O H := M_of fun b => ⟨fun h => h.resolve_right (own_sh initR_own b), .inl⟩
  refine ⟨?_, fun i s hs => ?_, fun i j s t a h1 h2 h3 => ?_, fun b o _ h => h, hO, (fun t h => by cases h), (fun t h => by cases h)⟩
  · simp [initR, L2.start, r.length]
  · rw [hM]
    unfold initR at hs
    by_cases hi : i < ds.length
    · rw [List.getElem?_append_left (by simpa using hi), List.getElem?_map, List.getElem?_eq_getElem hi] at hs
      cases hs
      obtain ⟨v, e1, e2⟩ := r.get (List.getElem?_eq_getElem hi)
      exact ⟨v, start_get e1, e2⟩
    · rw [List.getElem?_append_right (by simpa using hi), List.getElem?_replicate] at hs
      split at hs
      · cases hs; trivial
      · cases hs
  · rw [initR_own s (List.mem_of_getElem? h1)] at h3
    cases h3
theorem st_initT {N : List Str} {O : Addr → Prop} {t : Addr} {m : Nat} {H : Hp} {vs : List V} {ds : List D} (hl : ds.length + 1 ≤ N.length) (hO : ∀ b, O b → H b ≠ none) (hT : O t) (tp : ∃ o, H t = some o ∧ TapeI.TP K m (msk O H) o) (r : RpAll K (msk O H) vs ds) :
    StR K ⟨H, O, some t⟩ (start N (.ref t :: vs)) (initT N.length t m ds) H := by
  have sh : ∀ i s, (initT N.length t m ds)[i + 1]? = some s → s.own = false := fun i s h => by
    have h' : (ds.map Sl.sh ++ List.replicate (N.length - (ds.length + 1)) .no)[i]? = some s := h
    rcases List.mem_append.mp (List.mem_of_getElem? h') with h | h
    · obtain ⟨d, _, rfl⟩ := List.mem_map.mp h; rfl
    · rw [(List.mem_replicate.mp h).2]; rfl
  have s0 : (start N (.ref t :: vs))[0]? = some (some (.ref t)) := start_get rfl
  have hM : M ⟨H, O, some t⟩ (start N (.ref t :: vs)) (initT N.length t m ds) H = msk O H := M_of fun b => ⟨fun h => h.elim id (fun ⟨i, s, h1, h2, h3⟩ => by
    cases i with
    | zero => rw [s0] at h3; cases h3; exact hT
    | succ i => rw [sh i s h1] at h2; cases h2), fun h => .inl h⟩
  refine ⟨?_, fun i s hs => ?_, fun i j s u a h1 h2 h3 h4 _ _ => ?_, fun b o _ h => h, hO, (fun u h => by cases h; exact ⟨hT, m, by rw [hM]; exact tp⟩), (fun u h => by cases h; exact hO _ hT)⟩
  · simp only [initT, L2.start, List.length_cons, List.length_append, List.length_map, List.length_replicate, r.length]
    omega
  · rw [hM]
    cases i with
    | zero => cases hs; exact ⟨s0, tp, .inl rfl⟩
    | succ i =>
      have hs' : (ds.map Sl.sh ++ List.replicate (N.length - (ds.length + 1)) .no)[i]? = some s := hs
      by_cases hi : i < ds.length
      · rw [List.getElem?_append_left (by simpa using hi), List.getElem?_map, List.getElem?_eq_getElem hi] at hs'
        cases hs'
        obtain ⟨v, e1, e2⟩ := r.get (List.getElem?_eq_getElem hi)
        exact ⟨v, start_get (i := i + 1) e1, e2⟩
      · rw [List.getElem?_append_right (by simpa using hi), List.getElem?_replicate] at hs'
        split at hs'
        · cases hs'; trivial
        · cases hs'
  · cases i with
    | succ i => rw [sh i s h1] at h3; cases h3
    | zero =>
      cases j with
      | zero => rfl
      | succ j => rw [sh j u h2] at h4; cases h4
section
variable {P : Program} {w : World} {mg : Str → Option Value} {base : Heap} {x qual : Str} {params : Arguments} {body : List Stmt} {scope : Scope} {dvs : List V} {kws : List (Str × V)} {f : Addr} {fd : FuncData} {N ps : List Str} {k : Nat}
theorem PSs.nox' {X : Cx} {st : List Stmt} {t : TS} (h : PSs X.nox st t) : PSs X st t := PSs.nox h
/-- a def by its body's reading -/
theorem fnD (F : FunD K x qual params body scope dvs kws f fd) (S : FnScope N ps scope) (hN : ps.length ≤ N.length) (G : FS) (spec : GA)
    (der : ∀ (cdv : Value) (A : Around) (outer : List Env) (s : Shared) (H : Hp) (E : XK), RoomG k (A.deeper (envOfC qual scope s.heap.objs.size f cdv)) → DSs K (cxOf CX0 P w K mg base N qual scope f cdv A outer s H E).nox body G)
    (h : ∀ (ds : List D) (Q : D → Prop), ds.length = ps.length → spec ds Q → G (En Q) (initR N.length ds)) : FnG P w K mg base CX0 (k + 1) f fd ps (spD K ps.length spec) := by
  obtain ⟨oc, od, dV, kV, doc, pm, an, cdv, ct, osl, rfl, lk, hcd, _, _⟩ := F.ex
  refine fnG_of lk hcd S (fun vs H Q E ⟨O, ds, Pd, h1, h2, h3, _⟩ => by rw [h3.length, h1]) fun A outer s H vs Q E hr hsp => ?_
  obtain ⟨O, ds, Pd, h1, h2, h3, h4, h5⟩ := hsp
  refine ⟨sOf K G, PSs.nox' ((der cdv A outer s H E hr).ps rfl), ⟨H, O, none⟩, initR N.length ds, En Pd, h2, st_init (by omega) h2 h3, h ds Pd h1 h4, fun σ' ρ' H' st _ q => ?_, fun v H' d ρ' r q => ?_, fun _ _ _ _ _ q => q.elim, fun _ _ _ _ _ q => q.elim⟩
  · exact h5 _ _ _ .non (fun b o e => st.base b o (fun z => by cases z) e) q
  · exact h5 _ _ _ r.rp (fun b o e => r.base b o (fun z => by cases z) e) q
theorem fnT (F : FunD K x qual params body scope dvs kws f fd) (S : FnScope N ps scope) (hN : ps.length ≤ N.length) (G : FS) (spec : GA) (cost : Nat)
    (der : ∀ (cdv : Value) (A : Around) (outer : List Env) (s : Shared) (H : Hp) (E : XK), RoomG k (A.deeper (envOfC qual scope s.heap.objs.size f cdv)) → DSs K (cxOf CX0 P w K mg base N qual scope f cdv A outer s H E).nox body G)
    (h : ∀ (t : Addr) (m : Nat) (ds : List D) (Q : D → Prop), ds.length + 1 = ps.length → m + cost ≤ LIM → spec ds Q → G (EnT t (m + cost) Q) (initT N.length t m ds)) (n : Nat) (hn : n + 1 = ps.length) : FnG P w K mg base CX0 (k + 1) f fd ps (spT K n spec cost) := by
  obtain ⟨oc, od, dV, kV, doc, pm, an, cdv, ct, osl, rfl, lk, hcd, _, _⟩ := F.ex
  refine fnG_of lk hcd S (fun vs H Q E ⟨O, t, m, vs', ds, Pd, h0, h1, _, _, _, _, h3, _⟩ => by rw [h0, List.length_cons, h3.length, h1, hn]) fun A outer s H vs Q E hr hsp => ?_
  obtain ⟨O, t, m, vs', ds, Pd, rfl, h1, hm, h2, hT, tp, h3, h4, h5⟩ := hsp
  refine ⟨sOf K G, PSs.nox' ((der cdv A outer s H E hr).ps rfl), ⟨H, O, some t⟩, initT N.length t m ds, EnT t (m + cost) Pd, h2, st_initT (by omega) h2 hT tp h3, h t m ds Pd (by omega) hm h4, fun σ' ρ' H' st _ q => ?_, fun v H' d ρ' r q => ?_, fun _ _ _ _ _ q => q.elim, fun _ _ _ _ _ q => q.elim⟩
  · obtain ⟨⟨n, q1, qn⟩, q2⟩ := q
    refine h5 _ _ _ .non (fun b o ne e => st.base b o (fun z => ne (Option.some.inj z).symm) e) ?_ q2
    obtain ⟨_, ⟨o, e1, e2⟩, _⟩ := st.slot 0 _ q1
    exact ⟨o, e1, TapeI.le qn (TapeI.mono (msk_le fun b z => .inl z) e2)⟩
  · obtain ⟨⟨n, q1, qn⟩, q2⟩ := q
    obtain ⟨o, e1, e2⟩ := r.tape t 0 _ rfl q1
    exact h5 _ _ _ r.rp (fun b o ne e => r.base b o (fun z => ne (Option.some.inj z).symm) e) ⟨o, e1, TapeI.le qn e2⟩ q2
end
end
end DL
/-! The layer DL: calls, statements, loops, comprehensions. -/
namespace DL
open PySem PySem.Spec PyProof.Rows L2

/-! ### what a call is worth -/
section
variable [TapeI]
/-- the def that the module's name x holds, called with n values and the keywords ks: spec over the values, then the keywords' values -/
def CalD (P : Program) (w : World) (K : PySem.W.Frag) (mg : Str → Option Value) (base : Heap) (k : Nat) (x : Str) (n : Nat) (ks : List Str) (spec : GA) : Prop :=
  ∃ (f : Addr) (fd : FuncData) (ps : List Str) (m : Nat) (spec0 : GA) (g : List Value → List Value → List Value) (gV : List V → List V → List V), mg x = some (.ref f) ∧ PySem.W.keepIn K (.ref f) = true ∧ FnG P w K mg base CX0 k f fd ps (spD K m spec0) ∧
    KBn K fd ps n ks g gV ∧ ∀ (m0 : Hp) (vs zs : List V) (ds es : List D), RpAll K m0 vs ds → RpAll K m0 zs es → ds.length = n → es.length = ks.length → ∃ all, RpAll K m0 (gV vs zs) all ∧ all.length = m ∧ ∀ Q, spec (ds ++ es) Q → spec0 all Q
/-- .. of a def that draws: the first value is the draws' object -/
def CalT (P : Program) (w : World) (K : PySem.W.Frag) (mg : Str → Option Value) (base : Heap) (k : Nat) (x : Str) (n : Nat) (spec : GA) (cost : Nat) : Prop :=
  ∃ (f : Addr) (fd : FuncData) (ps : List Str) (g : List Value → List Value → List Value), mg x = some (.ref f) ∧ PySem.W.keepIn K (.ref f) = true ∧ FnG P w K mg base CX0 k f fd ps (spT K n spec cost) ∧ KBn K fd ps (n + 1) [] g (fun vs _ => vs)
end
section
variable [TapeI] {P : Program} {w : World} {K : PySem.W.Frag} {mg : Str → Option Value} {base : Heap} {k : Nat} {x : Str} {n : Nat} {spec : GA}
theorem CalD.mono {j : Nat} {ks : List Str} (h : CalD P w K mg base j x n ks spec) (hj : j ≤ k) : CalD P w K mg base k x n ks spec := by
  obtain ⟨f, fd, ps, m, s0, g, gV, h1, h2, h3, h4, h5⟩ := h
  exact ⟨f, fd, ps, m, s0, g, gV, h1, h2, h3.mono hj, h4, h5⟩
theorem CalT.mono {j cost : Nat} (h : CalT P w K mg base j x n spec cost) (hj : j ≤ k) : CalT P w K mg base k x n spec cost := by
  obtain ⟨f, fd, ps, g, h1, h2, h3, h4⟩ := h
  exact ⟨f, fd, ps, g, h1, h2, h3.mono hj, h4⟩
/-- values and keywords put in the parameters' order -/
inductive Src where
  | ps (i : Nat) | kw (j : Nat) | df (j : Nat)
def Src.get {α : Type} (us ws its : List α) (d : α) : Src → α
  | .ps i => us.getD i d
  | .kw i => ws.getD i d
  | .df i => its.getD i d
theorem Vals.getD {vs : List V} {us : List Value} (r : Vals vs us) (i : Nat) : RelV (vs.getD i .non) (us.getD i .none) := by
  rw [List.getD_eq_getElem?_getD, List.getD_eq_getElem?_getD]
  cases e : vs[i]? with
  | none => rw [r.none_of e]; rfl
  | some v =>
    obtain ⟨u, h1, h2⟩ := r.get e
    rw [h1]
    exact h2
theorem RpAll.getD {H : Hp} {vs : List V} {ds : List D} (r : RpAll K H vs ds) (i : Nat) : Rp K H (vs.getD i .non) (ds.getD i .non) := by
  rw [List.getD_eq_getElem?_getD, List.getD_eq_getElem?_getD]
  cases e : vs[i]? with
  | none =>
    have : ds[i]? = none := by
      rw [List.getElem?_eq_none_iff] at e ⊢
      rw [← r.length]; exact e
    rw [this]; exact .non
  | some v =>
    obtain ⟨u, h1, h2⟩ := r.getV e
    rw [h1]
    exact h2
theorem vals_src {vs zs dv : List V} {us ws its : List Value} (r1 : Vals vs us) (r2 : Vals zs ws) (r3 : Vals dv its) : ∀ src : List Src, Vals (src.map (Src.get vs zs dv .non)) (src.map (Src.get us ws its .none))
  | [] => .nil
  | s :: src => .cons (by cases s <;> first | exact Vals.getD r1 _ | exact Vals.getD r2 _ | exact Vals.getD r3 _) (vals_src r1 r2 r3 src)
theorem rp_src {H : Hp} {vs zs dv : List V} {ds es fs : List D} (r1 : RpAll K H vs ds) (r2 : RpAll K H zs es) (r3 : RpAll K H dv fs) : ∀ src : List Src, RpAll K H (src.map (Src.get vs zs dv .non)) (src.map (Src.get ds es fs .non))
  | [] => .nil
  | s :: src => .cons (by cases s <;> first | exact RpAll.getD r1 _ | exact RpAll.getD r2 _ | exact RpAll.getD r3 _) (rp_src r1 r2 r3 src)
variable {qual : Str} {params : Arguments} {body : List Stmt} {scope : Scope} {f : Addr} {fd : FuncData} {ps : List Str}
/-- every parameter is written, in order -/
theorem CalD.pos {nm : Str} (F : FunD K nm qual params body scope [] [] f fd) (hm : mg x = some (.ref f)) (G : FnG P w K mg base CX0 k f fd ps (spD K ps.length spec)) (n : Nat) (hn : n = ps.length)
    (h : ∀ (kV doc pm : Value) (an : Option Addr) (cdv ct : Value) (us : List Value), us.length = n → bindArgs (PySem.W.fnOf nm qual params body scope .none kV doc pm an cdv ct) ⟨us, []⟩ = pure (ps.zip us)) : CalD P w K mg base k x n [] spec := by
  subst hn
  have hb := FunD.bindsA F h
  refine ⟨f, fd, ps, ps.length, spec, fun us _ => us, fun vs _ => vs, hm, F.kp, G, ⟨fun s us ws _ h1 h2 => ?_, fun r _ => r⟩, fun m0 vs zs ds es r1 r2 h1 h2 => ⟨ds, r1, h1, fun Q q => ?_⟩⟩
  · cases ws with
    | nil => exact hb s us h1
    | cons a b => cases h2
  · cases es with
    | nil => rw [List.append_nil] at q; exact q
    | cons a b => cases h2
/-- keywords, no defaults -/
theorem CalD.kws {nm : Str} (F : FunD K nm qual params body scope [] [] f fd) (hm : mg x = some (.ref f)) (G : FnG P w K mg base CX0 k f fd ps (spD K ps.length spec)) (n : Nat) (ks : List Str) (src : List Src) (hs : src.length = ps.length)
    (h : ∀ (kV doc pm : Value) (an : Option Addr) (cdv ct : Value) (us ws : List Value), us.length = n → ws.length = ks.length → bindArgs (PySem.W.fnOf nm qual params body scope .none kV doc pm an cdv ct) ⟨us, ks.zip ws⟩ = pure (ps.zip (src.map (Src.get us ws [] .none)))) :
    CalD P w K mg base k x n ks (fun all Q => ∃ ds es, all = ds ++ es ∧ ds.length = n ∧ spec (src.map (Src.get ds es [] .non)) Q) := by
  have hk := F.kp
  obtain ⟨oc, od, dV, kV, doc, pm, an, cdv, ct, osl, rfl, lk, hcd, hD, hK⟩ := F.ex
  have e : dV = .none := hD.elim (fun z => z.2) fun z => absurd rfl z.1
  subst e
  refine ⟨f, _, ps, ps.length, spec, fun us ws => src.map (Src.get us ws [] .none), fun vs zs => src.map (Src.get vs zs [] .non), hm, hk, G, ⟨fun s us ws _ h1 h2 => .of_eq (h kV doc pm an cdv ct us ws h1 h2), fun r1 r2 => vals_src r1 r2 .nil src⟩, fun m0 vs zs ds es r1 r2 h1 h2 => ⟨_, rp_src r1 r2 .nil src, by rw [List.length_map, hs], fun Q q => ?_⟩⟩
  obtain ⟨ds', es', e, hd, q⟩ := q
  obtain ⟨rfl, rfl⟩ := List.append_inj e (h1.trans hd.symm)
  exact q
/-- positional values, the last defaults fill up -/
theorem CalD.dfl {nm : Str} {dvs : List V} {dd : List D} (F : FunD K nm qual params body scope dvs [] f fd) (hd : dvs ≠ []) (hdd : ∀ H, RpAll K H dvs dd) (hm : mg x = some (.ref f)) (G : FnG P w K mg base CX0 k f fd ps (spD K ps.length spec)) (n j : Nat) (hn : n + (dvs.length - j) = ps.length)
    (h : ∀ (T : Addr) (kV doc pm : Value) (an : Option Addr) (cdv ct : Value) (us its : List Value), us.length = n → its.length = dvs.length →
      ∃ k, bindArgs (PySem.W.fnOf nm qual params body scope (.ref T) kV doc pm an cdv ct) ⟨us, []⟩ = seqItems? (.ref T) >>= k ∧ k (some its.toArray) = pure (ps.zip (us ++ its.drop j))) :
    CalD P w K mg base k x n [] (fun all Q => spec (all ++ dd.drop j) Q) := by
  obtain ⟨ds, r, hb⟩ := FunD.binds1 F n j hd hn h
  have hl : ds.length = dvs.length - j := by rw [← r.length, List.length_drop]
  refine ⟨f, fd, ps, ps.length, spec, fun us _ => us ++ ds, fun vs _ => vs ++ dvs.drop j, hm, F.kp, G, ⟨fun s us ws X h1 h2 => ?_, fun r1 _ => r1.append r⟩, fun m0 vs zs es es' r1 r2 h1 h2 => ⟨es ++ dd.drop j, r1.append ((hdd m0).drop j), ?_, fun Q q => ?_⟩⟩
  · cases ws with
    | nil => exact hb s us X (by rw [List.length_append, hl]; omega)
    | cons a b => cases h2
  · have := (hdd m0).length
    rw [List.length_append, List.length_drop, ← this]; omega
  · cases es' with
    | nil => rw [List.append_nil] at q; exact q
    | cons a b => cases h2
theorem CalT.pos {nm : Str} {cost : Nat} (F : FunD K nm qual params body scope [] [] f fd) (hm : mg x = some (.ref f)) (n : Nat) (hn : n + 1 = ps.length) (G : FnG P w K mg base CX0 k f fd ps (spT K n spec cost))
    (h : ∀ (kV doc pm : Value) (an : Option Addr) (cdv ct : Value) (us : List Value), us.length = ps.length → bindArgs (PySem.W.fnOf nm qual params body scope .none kV doc pm an cdv ct) ⟨us, []⟩ = pure (ps.zip us)) : CalT P w K mg base k x n spec cost := by
  have hb := FunD.bindsA F h
  refine ⟨f, fd, ps, fun us _ => us, hm, F.kp, G, ⟨fun s us ws _ h1 h2 => ?_, fun r _ => r⟩⟩
  cases ws with
  | nil => exact hb s us (h1.trans hn)
  | cons a b => cases h2
end

/-! ### a call as an expression -/
section
variable [TapeI] {K : PySem.W.Frag} {X : Cx} {pos p : Pos} {x : Str} {e : Expr} {es : List Expr} {fs : FA} {k n : Nat} {spec : GA}
theorem passG {X : Cx} : Passes CX0 X E0 := fun _ _ _ _ _ _ _ h => h.elim
theorem call_fin {c : Fx} {σ : St} {ρ : Rho} {H : Hp} {Pd : D → Prop} {Q : VK} (st : StR K c σ ρ H) (k : ∀ v H' d, Aft K c σ ρ H H' → Rp K (M c σ ρ H') v d → Pd d → Q v H') :
    ∀ v H' d, Rp K (msk (Ow c σ ρ) H') v d → Same H H' → Pd d → Q v H' := fun v H' d r s p => k v H' d (.grow st s) r p
def fCall (spec : GA) (n : Nat) (fs : FA) : FE := fun ρ P => fs ρ fun ds => ds.length = n ∧ spec ds P
theorem de_call (C : CalD X.prog X.w X.K X.mg X.base k x n [] spec) (hr : RoomG k X.A) (hg : Gl X x) (ha : DA K X (e :: es) fs) (hdb : (x == ("__debug__" : Str)) = false := by decide) (he : starEach (e :: es) X.env = (false, eval e X.env) :: starEach es X.env := by rfl) (hpl : (backTo pos (starEach es X.env)).any (·.1) = false := by rfl) :
    DE K X (.Call (.Name x p) (e :: es) [] pos) (fCall spec n fs) := ⟨fun hK => by
  subst hK
  obtain ⟨f, fd, ps, m, s0, g, gV, h1, h2, h3, h4, h5⟩ := C
  refine pe_imp (pe_callG h3 hr hg h1 h2 h4 passG (ha.pa rfl) hdb he hpl) fun σ H Q q => ?_
  obtain ⟨c, ρ, P, st, f, k⟩ := q
  refine ⟨c, ρ, _, st, f, fun vs H1 ds A1 r ⟨hl, q⟩ => ⟨r.length.trans hl, rfl, ?_⟩⟩
  obtain ⟨all, r', hm, hq⟩ := h5 _ vs [] ds [] r .nil hl rfl
  exact ⟨Ow c σ ρ, all, P, hm, fun b => A1.st.ow_some, r', hq P (by rw [List.append_nil]; exact q), call_fin A1.st fun v H' d A2 => k v H' d (A1.trans A2)⟩⟩
theorem de_call0 (C : CalD X.prog X.w X.K X.mg X.base k x 0 [] spec) (hr : RoomG k X.A) (hg : Gl X x) (hdb : (x == ("__debug__" : Str)) = false := by decide) : DE K X (.Call (.Name x p) [] [] pos) (fun _ P => spec [] P) := ⟨fun hK => by
  subst hK
  obtain ⟨f, fd, ps, m, s0, g, gV, h1, h2, h3, h4, h5⟩ := C
  refine pe_imp (pe_callG0 h3 hr hg h1 h2 h4 passG hdb) fun σ H Q q => ?_
  obtain ⟨c, ρ, P, st, f, k⟩ := q
  refine ⟨rfl, rfl, ?_⟩
  obtain ⟨all, r', hm, hq⟩ := h5 _ [] [] [] [] (RpAll.nil (K := X.K) (H := msk (Ow c σ ρ) H)) .nil rfl rfl
  exact ⟨Ow c σ ρ, all, P, hm, fun b => st.ow_some, r', hq P f, call_fin st fun v H' d A2 => k v H' d A2⟩⟩
/-- keywords -/
structure DK' (K : PySem.W.Frag) (X : Cx) (kws : List Keyword) (f : FA) : Prop where
  pk : X.K = K → PK X kws (aOf K f)
theorem pk_imp {kws : List Keyword} {t t' : TA} (h : PK X kws t) (i : ∀ σ H Q, t' σ H Q → t σ H Q) : PK X kws t' := ⟨fun pos pins s σ H Q I q => h.run pos pins s σ H Q I (i σ H Q q)⟩
theorem dk_nil : DK' K X [] fNil := ⟨fun hK => pk_imp pk_nil fun σ H Q q => by
  obtain ⟨c, ρ, P, st, f, k⟩ := q
  exact k [] H [] (.refl st) .nil f⟩
theorem dk_cons {nm : Option Str} {kpos : Pos} {kws : List Keyword} {fa : FE} (he : DE K X e fa) (hr : DK' K X kws fs) : DK' K X (⟨nm, e, kpos⟩ :: kws) (fCons fa fs) := ⟨fun hK => pk_imp (pk_cons (he.pe hK) (hr.pk hK)) fun σ H Q q => by
  obtain ⟨c, ρ, P, st, f, k⟩ := q
  refine ⟨c, ρ, _, st, f, fun v H1 d A1 r1 p => ?_⟩
  exact ⟨c, ρ, _, A1.st, p, fun vs H2 ds A2 r2 p => k (v :: vs) H2 (d :: ds) (A1.trans A2) (.cons (r1.mono A2.sm) r2) p⟩⟩
def fCallK (spec : GA) (n m : Nat) (fs fk : FA) : FE := fun ρ P => fs ρ fun ds => fk ρ fun es => ds.length = n ∧ es.length = m ∧ spec (ds ++ es) P
variable {kws : List Keyword} {ks : List Str} {fk : FA}
theorem de_callK (C : CalD X.prog X.w X.K X.mg X.base k x n ks spec) (hr : RoomG k X.A) (hg : Gl X x) (ha : DA K X (e :: es) fs) (hkw : DK' K X kws fk) (hall : (backToKw pos (keywordEach kws X.env)).all (·.1.isSome) = true := by rfl) (hks : (backToKw pos (keywordEach kws X.env)).filterMap (·.1) = ks := by rfl)
    (hdb : (x == ("__debug__" : Str)) = false := by decide) (he : starEach (e :: es) X.env = (false, eval e X.env) :: starEach es X.env := by rfl)
    (hpl : ((backTo pos (starEach (e :: es) X.env)).any (·.1) || (backToKw pos (keywordEach kws X.env)).any (·.1.isNone)) = false := by rfl) : DE K X (.Call (.Name x p) (e :: es) kws pos) (fCallK spec n ks.length fs fk) := ⟨fun hK => by
  subst hK
  obtain ⟨f, fd, ps, m, s0, g, gV, h1, h2, h3, h4, h5⟩ := C
  refine pe_imp (pe_callGK h3 hr hg h1 h2 h4 passG (ha.pa rfl) (hkw.pk rfl) hall hks hdb he hpl) fun σ H Q q => ?_
  obtain ⟨c, ρ, P, st, f, k⟩ := q
  refine ⟨c, ρ, _, st, f, fun vs H1 ds A1 r q => ⟨c, ρ, _, A1.st, q, fun zs H2 es A2 rz ⟨hl, hl2, q⟩ => ⟨r.length.trans hl, rz.length.trans hl2, ?_⟩⟩⟩
  obtain ⟨all, r', hm, hq⟩ := h5 _ vs zs ds es (r.mono A2.sm) rz hl hl2
  exact ⟨Ow c σ ρ, all, P, hm, fun b => A2.st.ow_some, r', hq P q, call_fin A2.st fun v H' d A3 => k v H' d ((A1.trans A2).trans A3)⟩⟩
theorem de_callK0 (C : CalD X.prog X.w X.K X.mg X.base k x 0 ks spec) (hr : RoomG k X.A) (hg : Gl X x) (hkw : DK' K X kws fk) (hall : (backToKw pos (keywordEach kws X.env)).all (·.1.isSome) = true := by rfl) (hks : (backToKw pos (keywordEach kws X.env)).filterMap (·.1) = ks := by rfl)
    (hdb : (x == ("__debug__" : Str)) = false := by decide)
    (hpl : ((backTo pos (starEach [] X.env)).any (·.1) || (backToKw pos (keywordEach kws X.env)).any (·.1.isNone)) = false := by rfl) : DE K X (.Call (.Name x p) [] kws pos) (fun ρ P => fk ρ fun es => es.length = ks.length ∧ spec es P) := ⟨fun hK => by
  subst hK
  obtain ⟨f, fd, ps, m, s0, g, gV, h1, h2, h3, h4, h5⟩ := C
  refine pe_imp (pe_callGK0 h3 hr hg h1 h2 h4 passG (hkw.pk rfl) hall hks hdb hpl) fun σ H Q q => ?_
  obtain ⟨c, ρ, P, st, f, k⟩ := q
  refine ⟨c, ρ, _, st, f, fun zs H2 es A2 rz ⟨hl2, q⟩ => ⟨rfl, rz.length.trans hl2, ?_⟩⟩
  obtain ⟨all, r', hm, hq⟩ := h5 _ [] zs [] es .nil rz rfl hl2
  exact ⟨Ow c σ ρ, all, P, hm, fun b => A2.st.ow_some, r', hq P q, call_fin A2.st fun v H' d A3 => k v H' d (A2.trans A3)⟩⟩
/-- the draws' object has changed alone -/
theorem StR.drawn {c : Fx} {σ : St} {ρ : Rho} {H H' : Hp} {t : Addr} {m m' : Nat} (st : StR K c σ ρ H) (i : Nat) (hi : ρ[i]? = some (.tk t m)) (hs : ∀ b o, b ≠ t → H b = some o → H' b = some o) (tp : ∃ o, H' t = some o ∧ TapeI.TP K m' (M c σ ρ H') o) :
    StR K c σ (ρ.set i (.tk t m')) H' ∧ M c σ (ρ.set i (.tk t m')) H' = M c σ ρ H' ∧ Same (M c σ ρ H) (M c σ ρ H') := by
  have hsl := st.slot i _ hi
  have hiL : i < ρ.length := (List.getElem?_eq_some_iff.mp hi).1
  have hot : Ow c σ ρ t := .inr ⟨i, _, hi, rfl, hsl.1⟩
  have eo : own σ (ρ.set i (.tk t m')) = own σ ρ := funext fun b => propext ⟨fun ⟨j, s, h1, h2, h3⟩ => by
    by_cases e : i = j
    · subst e; exact ⟨i, _, hi, rfl, h3⟩
    · rw [List.getElem?_set_ne e] at h1; exact ⟨j, s, h1, h2, h3⟩, fun ⟨j, s, h1, h2, h3⟩ => by
    by_cases e : i = j
    · subst e; exact ⟨i, .tk t m', by rw [List.getElem?_set_self hiL], rfl, h3⟩
    · exact ⟨j, s, by rw [List.getElem?_set_ne e]; exact h1, h2, h3⟩⟩
  have eM : M c σ (ρ.set i (.tk t m')) H' = M c σ ρ H' := by show msk (Ow c σ _) _ = msk (Ow c σ _) _; unfold Ow; rw [eo]
  have sm : Same (M c σ ρ H) (M c σ ρ H') := fun b o e => by
    obtain ⟨h1, h2⟩ := msk_some e
    show msk _ _ _ = _
    rw [msk_of h1]
    exact hs b o (fun z => h1 (z ▸ hot)) h2
  refine ⟨⟨by rw [List.length_set]; exact st.len, fun j s hj => ?_, fun j l s u a h1 h2 h3 h4 h5 h6 => ?_, fun b o h1 h2 => ?_, fun b h1 h2 => ?_, fun u hu => ?_, st.tpB⟩, eM, sm⟩
  · rw [eM]
    by_cases e : i = j
    · subst e
      rw [List.getElem?_set_self hiL] at hj
      cases hj
      exact ⟨hsl.1, tp, hsl.2.2⟩
    · rw [List.getElem?_set_ne e] at hj
      have q := st.slot j s hj
      have nx : s.own = true → σ[j]? = some (some (.ref t)) → False := fun z1 z2 => e (st.inj i j _ s t hi hj rfl z1 hsl.1 z2)
      cases s with
      | no => trivial
      | sh d => obtain ⟨x, h1, h2⟩ := q; exact ⟨x, h1, h2.mono sm⟩
      | ol ds => obtain ⟨a, xs, h1, h2, h3, h4⟩ := q; exact ⟨a, xs, h1, hs a _ (fun z => nx rfl (z ▸ h1)) h2, h3.mono sm, h4⟩
      | od ks ds => obtain ⟨a, xs, h1, h2, h3, hz, h4, h5⟩ := q; exact ⟨a, xs, h1, hs a _ (fun z => nx rfl (z ▸ h1)) h2, h3, hz, h4.mono sm, h5⟩
      | tk a n => obtain ⟨h1, ⟨o, h2, h3⟩, h4⟩ := q; exact ⟨h1, ⟨o, hs a o (fun z => nx rfl (z ▸ h1)) h2, TapeI.mono sm h3⟩, h4⟩
      | ot a n => obtain ⟨h1, ⟨o, h2, h3⟩, h4⟩ := q; exact ⟨h1, ⟨o, hs a o (fun z => nx rfl (z ▸ h1)) h2, OR.mono sm h3⟩, h4⟩
  · have f : ∀ (j : Nat) (u : Sl), (ρ.set i (.tk t m'))[j]? = some u → u.own = true → ∃ u', ρ[j]? = some u' ∧ u'.own = true := fun j u h1 h2 => by
      by_cases e : i = j
      · subst e; exact ⟨_, hi, rfl⟩
      · rw [List.getElem?_set_ne e] at h1; exact ⟨u, h1, h2⟩
    obtain ⟨u', k1, k2⟩ := f j s h1 h3
    obtain ⟨t', k3, k4⟩ := f l u h2 h4
    exact st.inj j l u' t' a k1 k3 k2 k4 h5 h6
  · refine hs b o (fun z => ?_) (st.base b o h1 h2)
    subst z
    rcases hsl.2.2 with z | z
    · exact h1 z
    · rw [z] at h2; cases h2
  · by_cases z : b = t
    · subst z; obtain ⟨o, e, _⟩ := tp; rw [h2] at e; cases e
    · cases e : H b with
      | none => exact st.dom b h1 e
      | some o => rw [hs b o z e] at h2; cases h2
  · rw [eM]
    obtain ⟨h1, n, o, h2, h3⟩ := st.tape u hu
    refine ⟨h1, ?_⟩
    by_cases z : u = t
    · subst z; exact ⟨m', tp⟩
    · exact ⟨n, o, hs u o z h2, TapeI.mono sm h3⟩
end
end DL
/-! The layer DL: statements, targets, loops. -/
namespace DL
open PySem PySem.Spec PyProof.Rows L2

/-! ### a slot is stored -/
section
variable [TapeI] {K : PySem.W.Frag} {c : Fx} {σ : St} {ρ : Rho} {H : Hp}
theorem own_set {i : Nat} {v : V} {s : Sl} (b : Addr) (h : own (σ.set i (some v)) (ρ.set i s) b) : (s.own = true ∧ v = .ref b) ∨ own σ ρ b := by
  obtain ⟨j, u, h1, h2, h3⟩ := h
  by_cases e : i = j
  · subst e
    rw [List.getElem?_set] at h1 h3
    simp only [if_true] at h1 h3
    split at h1
    · cases h1
      split at h3
      · cases h3; exact .inl ⟨h2, rfl⟩
      · cases h3
    · cases h1
  · rw [List.getElem?_set_ne e] at h1 h3
    exact .inr ⟨j, u, h1, h2, h3⟩
/-- shared data goes into a slot -/
theorem StR.setSh (st : StR K c σ ρ H) (i : Nat) {v : V} {d : D} (r : Rp K (M c σ ρ H) v d) : StR K c (σ.set i (some v)) (ρ.set i (.sh d)) H ∧ Same (M c σ ρ H) (M c (σ.set i (some v)) (ρ.set i (.sh d)) H) := by
  have sub : ∀ b, Ow c (σ.set i (some v)) (ρ.set i (.sh d)) b → Ow c σ ρ b := fun b h => h.elim .inl fun h => .inr ((own_set b h).resolve_left fun z => by cases z.1)
  have sm : Same (M c σ ρ H) (M c (σ.set i (some v)) (ρ.set i (.sh d)) H) := msk_le sub
  refine ⟨⟨by rw [List.length_set, List.length_set, st.len], fun j s hj => ?_, fun j l s t a h1 h2 h3 h4 h5 h6 => ?_, st.base, st.dom, fun t ht => ?_, st.tpB⟩, sm⟩
  · by_cases e : i = j
    · subst e
      rw [List.getElem?_set] at hj
      simp only [if_true] at hj
      split at hj
      · rename_i hi
        cases hj
        exact ⟨v, by rw [List.getElem?_set_self (by rw [← st.len]; exact hi)], r.mono sm⟩
      · cases hj
    · rw [List.getElem?_set_ne e] at hj ⊢
      exact (st.slot j s hj).mono sm fun b o _ z => z
  · have n1 : i ≠ j := fun e => by
      subst e
      rw [List.getElem?_set] at h1
      simp only [if_true] at h1
      split at h1
      · cases h1; cases h3
      · cases h1
    have n2 : i ≠ l := fun e => by
      subst e
      rw [List.getElem?_set] at h2
      simp only [if_true] at h2
      split at h2
      · cases h2; cases h4
      · cases h2
    rw [List.getElem?_set_ne n1] at h1 h5
    rw [List.getElem?_set_ne n2] at h2 h6
    exact st.inj j l s t a h1 h2 h3 h4 h5 h6
  · obtain ⟨h1, n, o, h2, h3⟩ := st.tape t ht
    exact ⟨h1, n, o, h2, TapeI.mono sm h3⟩
/-- a new list, a new dict of one's own goes into a slot -/
theorem StR.setOwn (st : StR K c σ ρ H) (i : Nat) {a : Addr} {s : Sl} {H' : Hp} (hs : s.own = true) (hH : Same H H') (ha : H a = none) (hB : c.B a = none)
    (q : ∀ m, Same (M c σ ρ H) m → SlR K c m H' (some (some (.ref a))) s) : StR K c (σ.set i (some (.ref a))) (ρ.set i s) H' ∧ Same (M c σ ρ H) (M c (σ.set i (some (.ref a))) (ρ.set i s) H') := by
  have sub : ∀ b, Ow c (σ.set i (some (.ref a))) (ρ.set i s) b → b = a ∨ Ow c σ ρ b := fun b h => h.elim (fun z => .inr (.inl z)) fun h => (own_set b h).elim (fun z => .inl (V.ref.inj z.2).symm) fun z => .inr (.inr z)
  have sm : Same (M c σ ρ H) (M c (σ.set i (some (.ref a))) (ρ.set i s) H') := fun b o e => by
    obtain ⟨h1, h2⟩ := msk_some e
    show msk _ _ _ = _
    rw [msk_of]
    · exact hH b o h2
    · intro z
      rcases sub b z with rfl | z
      · rw [ha] at h2; cases h2
      · exact h1 z
  refine ⟨⟨by rw [List.length_set, List.length_set, st.len], fun j u hj => ?_, fun j l u t b h1 h2 h3 h4 h5 h6 => ?_, fun b o h1 h2 => hH b o (st.base b o h1 h2), fun b h1 h2 => ?_, fun t ht => ?_, st.tpB⟩, sm⟩
  · by_cases e : i = j
    · subst e
      rw [List.getElem?_set] at hj
      simp only [if_true] at hj
      split at hj
      · rename_i hi
        cases hj
        rw [List.getElem?_set_self (by rw [← st.len]; exact hi)]
        exact q _ sm
      · cases hj
    · rw [List.getElem?_set_ne e] at hj ⊢
      exact (st.slot j u hj).mono sm fun b o _ z => hH b o z
  · have old : ∀ (l : Nat) (u : Sl), i ≠ l → (ρ.set i s)[l]? = some u → u.own = true → (σ.set i (some (V.ref a)))[l]? = some (some (.ref a)) → False := fun l u n e1 e2 e3 => by
      rw [List.getElem?_set_ne n] at e1 e3
      exact st.own_some ⟨l, u, e1, e2, e3⟩ ha
    have at_i : ∀ (l : Nat), i = l → (σ.set i (some (V.ref a)))[l]? = some (some (.ref b)) → b = a := fun l e h => by
      subst e
      rw [List.getElem?_set] at h
      simp only [if_true] at h
      split at h
      · cases h; rfl
      · cases h
    by_cases n1 : i = j
    · have := at_i j n1 h5
      subst this
      by_cases n2 : i = l
      · exact n1.symm.trans n2
      · exact (old l t n2 h2 h4 h6).elim
    · by_cases n2 : i = l
      · have := at_i l n2 h6
        subst this
        exact (old j u n1 h1 h3 h5).elim
      · rw [List.getElem?_set_ne n1] at h1 h5
        rw [List.getElem?_set_ne n2] at h2 h6
        exact st.inj j l u t b h1 h2 h3 h4 h5 h6
  · cases e : H b with
    | none => exact st.dom b h1 e
    | some o => rw [hH b o e] at h2; cases h2
  · obtain ⟨h1, n, o, h2, h3⟩ := st.tape t ht
    exact ⟨h1, n, o, hH _ _ h2, TapeI.mono sm h3⟩
/-- what one owns is changed: the slot stays, its content is another -/
theorem StR.change (st : StR K c σ ρ H) (i : Nat) {a : Addr} {s s' : Sl} {o' : HO} (hi : ρ[i]? = some s) (hs : s.own = true) (hs' : s'.own = true) (hv : σ[i]? = some (some (.ref a))) (ht : ∀ t n, s ≠ .tk t n)
    (q : ∀ m, Same (M c σ ρ H) m → SlR K c m (upd H a o') (some (some (.ref a))) s') : StR K c σ (ρ.set i s') (upd H a o') ∧ Same (M c σ ρ H) (M c σ (ρ.set i s') (upd H a o')) := by
  have hot : Ow c σ ρ a := .inr ⟨i, s, hi, hs, hv⟩
  have hiL : i < ρ.length := (List.getElem?_eq_some_iff.mp hi).1
  have same : ∀ b, own σ (ρ.set i s') b ↔ own σ ρ b := fun b => by
    constructor
    · rintro ⟨j, u, h1, h2, h3⟩
      by_cases e : i = j
      · subst e; exact ⟨i, s, hi, hs, h3⟩
      · rw [List.getElem?_set_ne e] at h1; exact ⟨j, u, h1, h2, h3⟩
    · rintro ⟨j, u, h1, h2, h3⟩
      by_cases e : i = j
      · subst e; exact ⟨i, s', by rw [List.getElem?_set_self hiL], hs', h3⟩
      · exact ⟨j, u, by rw [List.getElem?_set_ne e]; exact h1, h2, h3⟩
  have eM : M c σ (ρ.set i s') (upd H a o') = M c σ ρ H := by
    have e1 : (Ow c σ (ρ.set i s')) = Ow c σ ρ := funext fun b => propext ⟨fun h => h.imp id (same b).1, fun h => h.imp id (same b).2⟩
    show msk _ _ = msk _ _
    rw [e1, msk_upd hot]
  have sl := st.slot i s hi
  have nB : c.B a = none ∧ ∃ o, H a = some o := by
    rw [hv] at sl
    cases s with
    | no => cases hs
    | sh d => cases hs
    | tk t n => exact absurd rfl (ht t n)
    | ot t d => obtain ⟨e1, ⟨o, e2, _⟩, e4⟩ := sl; cases e1; exact ⟨e4, _, e2⟩
    | ol ds => obtain ⟨b, xs, e1, e2, _, e4⟩ := sl; cases e1; exact ⟨e4, _, e2⟩
    | od ks ds => obtain ⟨b, xs, e1, e2, _, _, _, e4⟩ := sl; cases e1; exact ⟨e4, _, e2⟩
  have keep : ∀ b o, b ≠ a → H b = some o → upd H a o' b = some o := fun b o n e => by rw [upd_ne n]; exact e
  have neT : c.tp ≠ some a := fun z => st.tpB a z nB.1
  refine ⟨⟨by rw [List.length_set, st.len], fun j u hj => ?_, fun j l u t b h1 h2 h3 h4 h5 h6 => ?_, fun b o h1 h2 => keep b o (fun z => by subst z; rw [nB.1] at h2; cases h2) (st.base b o h1 h2), fun b h1 h2 => ?_, fun t hz => ?_, st.tpB⟩, by rw [eM]; exact Same.refl _⟩
  · rw [eM]
    by_cases e : i = j
    · subst e
      rw [List.getElem?_set_self hiL] at hj
      cases hj
      rw [hv]
      exact q _ (Same.refl _)
    · rw [List.getElem?_set_ne e] at hj
      have qj := st.slot j u hj
      have nx : u.own = true → σ[j]? = some (some (.ref a)) → False := fun z1 z2 => e (st.inj i j s u a hi hj hs z1 hv z2)
      cases u with
      | no => trivial
      | sh d => exact qj
      | ol ds => obtain ⟨b, xs, e1, e2, e3⟩ := qj; exact ⟨b, xs, e1, keep b _ (fun z => nx rfl (z ▸ e1)) e2, e3⟩
      | od ks ds => obtain ⟨b, xs, e1, e2, e3⟩ := qj; exact ⟨b, xs, e1, keep b _ (fun z => nx rfl (z ▸ e1)) e2, e3⟩
      | tk t n => obtain ⟨e1, ⟨o, e2, e3⟩, e4⟩ := qj; exact ⟨e1, ⟨o, keep t _ (fun z => nx rfl (z ▸ e1)) e2, e3⟩, e4⟩
      | ot t n => obtain ⟨e1, ⟨o, e2, e3⟩, e4⟩ := qj; exact ⟨e1, ⟨o, keep t _ (fun z => nx rfl (z ▸ e1)) e2, e3⟩, e4⟩
  · have f : ∀ (j : Nat) (u : Sl), (ρ.set i s')[j]? = some u → u.own = true → ∃ u', ρ[j]? = some u' ∧ u'.own = true := fun j u h1 h2 => by
      by_cases e : i = j
      · subst e; exact ⟨s, hi, hs⟩
      · rw [List.getElem?_set_ne e] at h1; exact ⟨u, h1, h2⟩
    obtain ⟨u', k1, k2⟩ := f j u h1 h3
    obtain ⟨t', k3, k4⟩ := f l t h2 h4
    exact st.inj j l u' t' b k1 k3 k2 k4 h5 h6
  · by_cases z : b = a
    · subst z; rw [upd_same] at h2; cases h2
    · rw [upd_ne z] at h2; exact st.dom b h1 h2
  · obtain ⟨h1, n, o, h2, h3⟩ := st.tape t hz
    refine ⟨h1, n, o, keep t o (fun z => neT (z ▸ hz)) h2, by rw [eM]; exact h3⟩
end
end DL
/-! The layer DL: statements, targets, loops. -/
namespace DL
open PySem PySem.Spec PyProof.Rows L2
section
variable [TapeI] {K : PySem.W.Frag} {X : Cx} {pos : Pos} {st : Stmt} {rest : List Stmt} {g h : FS} {e : Expr} {fa : FE}

def gNext : FS := fun E ρ => E.nx ρ
def gSeq (g h : FS) : FS := fun E ρ => g { E with nx := h E } ρ
theorem same_t {c : Fx} {σ σ' σ'' : St} {ρ ρ' ρ'' : Rho} {H H' H'' : Hp} (a : Same (M c σ ρ H) (M c σ' ρ' H')) (b : Same (M c σ' ρ' H') (M c σ'' ρ'' H'')) : Same (M c σ ρ H) (M c σ'' ρ'' H'') := a.trans b
theorem dss_nil : DSs K X [] gNext := ⟨fun hK => pss_imp pss_nil fun D σ H q => by
  obtain ⟨c, ρ, E, wf, st, g, kn, kr, kb, kc⟩ := q
  exact kn σ ρ H st (Same.refl _) g⟩
theorem dss_cons (h1 : DS K X st g) (h2 : DSs K X rest h) : DSs K X (st :: rest) (gSeq g h) := ⟨fun hK => pss_imp (pss_cons (h1.ps hK) (h2.ps hK)) fun D σ H q => by
  obtain ⟨c, ρ, E, wf, s0, g, kn, kr, kb, kc⟩ := q
  refine ⟨c, ρ, _, wf, s0, g, fun σ' ρ' H' s1 sm q => ?_, kr, kb, kc⟩
  exact ⟨c, ρ', E, wf, s1, q, fun σ2 ρ2 H2 s2 sm2 q => kn σ2 ρ2 H2 s2 (sm.trans sm2) q, kr, fun σ2 ρ2 H2 s2 sm2 q => kb σ2 ρ2 H2 s2 (sm.trans sm2) q, fun σ2 ρ2 H2 s2 sm2 q => kc σ2 ρ2 H2 s2 (sm.trans sm2) q⟩⟩
theorem dss_one (h1 : DS K X st g) : DSs K X [st] g := ⟨fun hK => pss_one (h1.ps hK)⟩
theorem ds_never : DS K X st fun _ _ => False := ⟨fun hK => ps_imp (t := tNever) ps_never fun D σ H q => by obtain ⟨c, ρ, E, wf, st, g, _⟩ := q; exact g⟩
theorem dss_never {sts : List Stmt} : DSs K X sts fun _ _ => False := ⟨fun hK => pss_imp (t := tNever) pss_never fun D σ H q => by obtain ⟨c, ρ, E, wf, st, g, _⟩ := q; exact g⟩
theorem ds_pass : DS K X (.Pass pos) gNext := ⟨fun hK => ps_imp ps_pass fun D σ H q => by
  obtain ⟨c, ρ, E, wf, st, g, kn, kr, kb, kc⟩ := q
  exact kn σ ρ H st (Same.refl _) g⟩
theorem ds_break : DS K X (.Break pos) (fun E ρ => E.bk ρ) := ⟨fun hK => ps_imp ps_break fun D σ H q => by
  obtain ⟨c, ρ, E, wf, st, g, kn, kr, kb, kc⟩ := q
  exact kb σ ρ H st (Same.refl _) g⟩
theorem ds_continue : DS K X (.Continue pos) (fun E ρ => E.ct ρ) := ⟨fun hK => ps_imp ps_continue fun D σ H q => by
  obtain ⟨c, ρ, E, wf, st, g, kn, kr, kb, kc⟩ := q
  exact kc σ ρ H st (Same.refl _) g⟩
theorem StR.rt {c : Fx} {σ : St} {ρ : Rho} {H : Hp} (st : StR K c σ ρ H) {v : V} {d : D} (r : Rp K (msk c.O H) v d) : RtR K c ρ v H d := ⟨r, st.base, fun t i n ht hi => by
  obtain ⟨h1, ⟨o, h2, h3⟩, _⟩ := st.slot i _ hi
  exact ⟨o, h2, TapeI.mono (msk_le fun b z => .inl z) h3⟩, fun t i d hi => by
  obtain ⟨h1, ⟨o, h2, h3⟩, _⟩ := st.slot i _ hi
  exact ⟨o, h2, OR.mono (msk_le fun b z => z.elim .inl fun z => .inr ⟨i, _, hi, rfl, z ▸ h1⟩) h3⟩⟩
def gRet (f : FE) : FS := fun E ρ => f ρ fun d => E.rt d ρ
theorem ds_ret (he : DE K X e fa) : DS K X (.Return (some e) pos) (gRet fa) := ⟨fun hK => ps_imp (ps_ret (he.pe hK)) fun D σ H q => by
  obtain ⟨c, ρ, E, wf, s0, g, kn, kr, kb, kc⟩ := q
  exact ⟨c, ρ, _, s0, g, fun v H' d A r p => kr v H' d ρ (A.st.rt (r.mono (msk_le fun b z => .inl z))) p⟩⟩
theorem ds_retN : DS K X (.Return none pos) (fun E ρ => E.rt .non ρ) := ⟨fun hK => ps_imp ps_retN fun D σ H q => by
  obtain ⟨c, ρ, E, wf, s0, g, kn, kr, kb, kc⟩ := q
  exact kr .non H .non ρ (s0.rt .non) g⟩
/-- return of what one owns -/
def ownD : Option Sl → (D → Prop) → Prop
  | some (.ol ds), P => P (.lst ds)
  | some (.od ks ds), P => P (.dic ks ds)
  | _, _ => False
theorem StR.ownRp {c : Fx} {σ : St} {ρ : Rho} {H : Hp} (st : StR K c σ ρ H) {i : Nat} {P : D → Prop} (q : ownD ρ[i]? P) : ∃ a d, σ[i]? = some (some (.ref a)) ∧ P d ∧ (∀ O, (∀ b, O b → Ow c σ ρ b) → ¬ O a → Rp K (msk O H) (.ref a) d) ∧ c.B a = none := by
  cases e : ρ[i]? with
  | none => rw [e] at q; exact q.elim
  | some s =>
    rw [e] at q
    have sl := st.slot i s e
    cases s with
    | ol ds =>
      obtain ⟨a, xs, h1, h2, h3, h4⟩ := sl
      exact ⟨a, _, h1, q, fun O hO hn => .lst (by rw [msk_of hn]; exact h2) (h3.mono (msk_le hO)), h4⟩
    | od ks ds =>
      obtain ⟨a, xs, h1, h2, h3, hz, h4, h5⟩ := sl
      exact ⟨a, _, h1, q, fun O hO hn => .dic (.inl (by rw [msk_of hn]; exact h2)) h3 hz (h4.mono (msk_le hO)), h5⟩
    | _ => exact q.elim
theorem ds_retOwn {x : Str} {p : Pos} (i : Nat) (hN : X.N[i]? = some x := by rfl) (hv : Vis X.env.scope x := by first | exact Or.inl rfl | exact Or.inr (Or.inl rfl) | exact Or.inr (Or.inr rfl)) (hd : (x == ("__debug__" : Str)) = false := by decide)
    (hcd : (x == ("__classdict__" : Str)) = false := by decide) : DS K X (.Return (some (.Name x p)) pos) (fun E ρ => ownD ρ[i]? fun d => E.rt d ρ) := ⟨fun hK => ps_imp (ps_ret (pe_var hN hv hd hcd)) fun D σ H q => by
  obtain ⟨c, ρ, E, wf, s0, g, kn, kr, kb, kc⟩ := q
  obtain ⟨a, d, h1, h2, h3, h4⟩ := s0.ownRp g
  refine ⟨.ref a, h1, kr _ H d ρ (s0.rt (h3 c.O (fun b z => .inl z) fun z => ?_)) h2⟩
  exact wf a z h4⟩
def gDrop (f : FE) : FS := fun E ρ => f ρ fun _ => E.nx ρ
theorem ds_expr (he : DE K X e fa) (hs : swapsWith e none pos.line X.env = pure false := by rfl) : DS K X (.Expr e pos) (gDrop fa) := ⟨fun hK => ps_imp (ps_expr (he.pe hK) hs) fun D σ H q => by
  obtain ⟨c, ρ, E, wf, s0, g, kn, kr, kb, kc⟩ := q
  exact ⟨c, ρ, _, s0, g, fun v H' d A r p => kn σ ρ H' A.st A.sm p⟩⟩
def gIf (f : FT) (g h : FS) : FS := fun E ρ => f ρ fun b => if b = true then g E ρ else h E ρ
theorem ds_if {t : Expr} {a b : List Stmt} {f : FT} (ht : DT K X t f) (ha : DSs K X a g) (hb : DSs K X b h) : DS K X (.If t a b pos) (gIf f g h) := ⟨fun hK => ps_imp (ps_if (ht.pt hK) (ha.ps hK) (hb.ps hK)) fun D σ H q => by
  obtain ⟨c, ρ, E, wf, s0, g, kn, kr, kb, kc⟩ := q
  refine ⟨c, ρ, _, s0, g, fun b H1 A p => ?_⟩
  cases b <;> exact ⟨c, ρ, E, wf, A.st, p, fun σ2 ρ2 H2 s2 sm2 q => kn σ2 ρ2 H2 s2 (A.sm.trans sm2) q, kr, fun σ2 ρ2 H2 s2 sm2 q => kb σ2 ρ2 H2 s2 (A.sm.trans sm2) q, fun σ2 ρ2 H2 s2 sm2 q => kc σ2 ρ2 H2 s2 (A.sm.trans sm2) q⟩⟩
/-! ### targets -/
/-- apart from the slots vs nothing is stored -/
def OffEq (vs : List Nat) (σ σ' : St) : Prop := σ'.length = σ.length ∧ ∀ j, j ∉ vs → σ'[j]? = σ[j]?
abbrev FG := D → Rho → (Rho → Prop) → Prop
def gOf (K : PySem.W.Frag) (vs : List Nat) (f : FG) : TG := fun v σ H Q => ∃ (c : Fx) (ρ : Rho) (d : D) (P : Rho → Prop), StR K c σ ρ H ∧ Rp K (M c σ ρ H) v d ∧ f d ρ P ∧ ∀ σ' ρ', StR K c σ' ρ' H → Same (M c σ ρ H) (M c σ' ρ' H) → OffEq vs σ σ' → P ρ' → Q σ' H
structure DG (K : PySem.W.Frag) (X : Cx) (tg : Expr) (vs : List Nat) (f : FG) : Prop where
  pg : X.K = K → PG X tg (gOf K vs f)
abbrev FGs := List D → Rho → (Rho → Prop) → Prop
def gsOf (K : PySem.W.Frag) (vs : List Nat) (f : FGs) : TGs := fun ws σ H Q => ∃ (c : Fx) (ρ : Rho) (ds : List D) (P : Rho → Prop), StR K c σ ρ H ∧ RpAll K (M c σ ρ H) ws ds ∧ f ds ρ P ∧ ∀ σ' ρ', StR K c σ' ρ' H → Same (M c σ ρ H) (M c σ' ρ' H) → OffEq vs σ σ' → P ρ' → Q σ' H
structure DGs (K : PySem.W.Frag) (X : Cx) (tg : List Expr) (vs : List Nat) (f : FGs) : Prop where
  pg : X.K = K → PGs X tg (gsOf K vs f)
theorem pg_imp {tg : Expr} {t t' : TG} (h : PG X tg t) (i : ∀ v σ H Q, t' v σ H Q → t v σ H Q) : PG X tg t' := ⟨fun pins s σ H v u Q I r q => h.run pins s σ H v u Q I r (i v σ H Q q)⟩
theorem pgs_imp {tg : List Expr} {t t' : TGs} (h : PGs X tg t) (i : ∀ v σ H Q, t' v σ H Q → t v σ H Q) : PGs X tg t' := ⟨fun pins s σ H v u Q I r q => h.run pins s σ H v u Q I r (i v σ H Q q)⟩
theorem OffEq.refl {vs : List Nat} {σ : St} : OffEq vs σ σ := ⟨rfl, fun _ _ => rfl⟩
theorem OffEq.trans {vs ws : List Nat} {σ σ' σ'' : St} (a : OffEq vs σ σ') (b : OffEq ws σ' σ'') : OffEq (vs ++ ws) σ σ'' := ⟨b.1.trans a.1, fun j hj => by
  rw [List.mem_append, not_or] at hj
  exact (b.2 j hj.2).trans (a.2 j hj.1)⟩
def fgN (i : Nat) : FG := fun d ρ P => P (ρ.set i (.sh d))
theorem dg_name {x : Str} (i : Nat) (hN : X.N.Nodup) (hi : X.N[i]? = some x := by rfl) (hx : Loc X.env.scope x := by first | exact Or.inl rfl | exact Or.inr rfl) (hf : X.fn x = true ∨ X.env.scope.names.lookup x = some .local := by first | exact .inl rfl | exact .inr rfl) : DG K X (.Name x pos) [i] (fgN i) :=
  ⟨fun hK => pg_imp (pg_name hN hi hx hf) fun v σ H Q q => by
    obtain ⟨c, ρ, d, P, s0, r, f, k⟩ := q
    obtain ⟨s1, sm⟩ := s0.setSh i r
    exact k _ _ s1 sm ⟨List.length_set .., fun j hj => by rw [List.getElem?_set_ne]; rintro rfl; simp at hj⟩ f⟩
def fgNil : FGs := fun ds ρ P => ds = [] ∧ P ρ
def fgCons (f : FG) (fs : FGs) : FGs := fun ds ρ P => match ds with
  | d :: ds => f d ρ fun ρ1 => fs ds ρ1 P
  | [] => False
theorem dgs_nil : DGs K X [] [] fgNil := ⟨fun hK => pgs_imp pgs_nil fun ws σ H Q q => by
  obtain ⟨c, ρ, ds, P, s0, r, ⟨f1, f2⟩, k⟩ := q
  subst f1
  cases r
  exact ⟨rfl, k σ ρ s0 (Same.refl _) .refl f2⟩⟩
theorem dgs_cons {es : List Expr} {vs ws : List Nat} {f : FG} {fs : FGs} (h1 : DG K X e vs f) (h2 : DGs K X es ws fs) (hs : (assignEach (e :: es) X.env).map (·.2) = assign e X.env :: (assignEach es X.env).map (·.2) := by rfl) : DGs K X (e :: es) (vs ++ ws) (fgCons f fs) :=
  ⟨fun hK => pgs_imp (pgs_cons (h1.pg hK) (h2.pg hK) hs) fun us σ H Q q => by
    obtain ⟨c, ρ, ds, P, s0, r, f, k⟩ := q
    cases r with
    | nil => exact f.elim
    | @cons v vs' d ds' r rr =>
      refine ⟨v, vs', rfl, c, ρ, d, _, s0, r, f, fun σ1 ρ1 s1 sm1 o1 p1 => ?_⟩
      exact ⟨c, ρ1, ds', P, s1, rr.mono sm1, p1, fun σ2 ρ2 s2 sm2 o2 p2 => k σ2 ρ2 s2 (sm1.trans sm2) (o1.trans o2) p2⟩⟩
/-- a pair, a triple .. is a tuple -/
def fgTup (n : Nat) (fs : FGs) : FG := fun d ρ P => match d with
  | .tup ds => ds.length = n ∧ fs ds ρ P
  | _ => False
theorem dg_tup {es : List Expr} {k n : Nat} {vs : List Nat} {fs : FGs} (hc : X.calm = true) (h : DGs K X es vs fs) (hn : (assignEach es X.env).length = n := by rfl) (hst : (assignEach es X.env).findIdx? (·.1) = none := by rfl) : DG K X (.Tuple es k pos) vs (fgTup n fs) := ⟨fun hK => by
  subst hK
  refine pg_imp (pg_tup hc (h.pg rfl) hn hst) fun v σ H Q q => ?_
  obtain ⟨c, ρ, d, P, s0, r, f, k⟩ := q
  cases r with
  | @tup a xs ds h1 h2 => exact ⟨a, xs, rfl, msk_sqT h1, h2.length.trans f.1, c, ρ, ds, P, s0, h2, f.2, k⟩
  | _ => exact f.elim⟩
/-- .. a list -/
def fgLst (n : Nat) (fs : FGs) : FG := fun d ρ P => match d with
  | .lst ds => ds.length = n ∧ fs ds ρ P
  | _ => False
theorem dg_lst {es : List Expr} {k n : Nat} {vs : List Nat} {fs : FGs} (hc : X.calm = true) (h : DGs K X es vs fs) (hn : (assignEach es X.env).length = n := by rfl) (hst : (assignEach es X.env).findIdx? (·.1) = none := by rfl) : DG K X (.Tuple es k pos) vs (fgLst n fs) := ⟨fun hK => by
  subst hK
  refine pg_imp (pg_lst hc (h.pg rfl) hn hst) fun v σ H Q q => ?_
  obtain ⟨c, ρ, d, P, s0, r, f, k⟩ := q
  cases r with
  | @lst a xs ds h1 h2 => exact ⟨a, xs, rfl, .inl (.inl (msk_some h1).2), h2.length.trans f.1, c, ρ, ds, P, s0, h2, f.2, k⟩
  | _ => exact f.elim⟩
/-! ### stores -/
def gAsg (f : FE) (fg : FG) : FS := fun E ρ => f ρ fun d => fg d ρ E.nx
theorem ds_set {x : Str} {pos' : Pos} (i : Nat) (hN : X.N.Nodup) (he : DE K X e fa) (hi : X.N[i]? = some x := by rfl) (hx : Loc X.env.scope x := by first | exact Or.inl rfl | exact Or.inr rfl) (hs : swapsWith e (some (.Name x pos')) pos.line X.env = pure false := by rfl)
    (hf : X.fn x = true ∨ X.env.scope.names.lookup x = some .local := by first | exact .inl rfl | exact .inr rfl) : DS K X (.Assign [.Name x pos'] e pos) (gAsg fa (fgN i)) := ⟨fun hK => ps_imp (L2.ps_set hN hi hx (he.pe hK) hs hf) fun D σ H q => by
  obtain ⟨c, ρ, E, wf, s0, g, kn, kr, kb, kc⟩ := q
  refine ⟨c, ρ, _, s0, g, fun v H' d A r p => ?_⟩
  obtain ⟨s1, sm⟩ := A.st.setSh i r
  exact kn _ _ H' s1 (A.sm.trans sm) p⟩
theorem ds_asg {tg : Expr} {vs : List Nat} {fg : FG} (he : DE K X e fa) (hg : DG K X tg vs fg) (hs : swapsWithSole [tg] e pos.line X.env = pure false := by rfl) (hw : swappedStores [tg] e X.env = pure none := by rfl)
    (h1 : (assignEach [tg] X.env).map (·.2) = [assign tg X.env] := by rfl) : DS K X (.Assign [tg] e pos) (gAsg fa fg) := ⟨fun hK => ps_imp (ps_asg (he.pe hK) (hg.pg hK) hs hw h1) fun D σ H q => by
  obtain ⟨c, ρ, E, wf, s0, g, kn, kr, kb, kc⟩ := q
  exact ⟨c, ρ, _, s0, g, fun v H' d A r p => ⟨c, ρ, d, _, A.st, r, p, fun σ' ρ' s1 sm _ q => kn σ' ρ' H' s1 (A.sm.trans sm) q⟩⟩⟩
/-- a, b = e, f -/
def gPar (i j : Nat) (fs : FA) : FS := fun E ρ => fs ρ fun ds => match ds with
  | [d, e] => E.nx ((ρ.set i (.sh d)).set j (.sh e))
  | _ => False
theorem ds_par {x y : Str} {a b : Expr} {fs : FA} {px py pt : Pos} {kt k2 pt2} (i j : Nat) (hc : X.calm = true) (hN : X.N.Nodup) (ha : DA K X [a, b] fs) (hij : i ≠ j := by decide) (hi : X.N[i]? = some x := by rfl) (hj : X.N[j]? = some y := by rfl)
    (hx : X.env.scope.names.lookup x = some .local := by rfl) (hy : X.env.scope.names.lookup y = some .local := by rfl)
    (hw : swappedStores [.Tuple [.Name x px, .Name y py] kt pt] (.Tuple [a, b] k2 pt2) X.env = pure (some [x, y]) := by rfl)
    (hs : swapsWithSole [.Tuple [.Name x px, .Name y py] kt pt] (.Tuple [a, b] k2 pt2) pos.line X.env = pure false := by rfl) :
    DS K X (.Assign [.Tuple [.Name x px, .Name y py] kt pt] (.Tuple [a, b] k2 pt2) pos) (gPar i j fs) := ⟨fun hK => ps_imp (ps_par hc hN hi hj hij hx hy (ha.pa hK) hw hs) fun D σ H q => by
  obtain ⟨c, ρ, E, wf, s0, g, kn, kr, kb, kc⟩ := q
  refine ⟨c, ρ, _, s0, g, fun vs H' ds A r p => ?_⟩
  cases r with
  | nil => exact p.elim
  | @cons v vs' d ds' r1 r =>
    cases r with
    | nil => exact p.elim
    | @cons v2 vs' d2 ds' r2 r =>
      cases r with
      | cons _ _ => exact p.elim
      | nil =>
        obtain ⟨s1, sm⟩ := A.st.setSh i r1
        obtain ⟨s2, sm2⟩ := s1.setSh j (r2.mono sm)
        exact ⟨v, v2, rfl, kn _ _ H' s2 ((A.sm.trans sm).trans sm2) p⟩⟩
def gPar3 (i j l : Nat) (fs : FA) : FS := fun E ρ => fs ρ fun ds => match ds with
  | [d, e, f] => E.nx (((ρ.set i (.sh d)).set j (.sh e)).set l (.sh f))
  | _ => False
theorem ds_par3 {x y z : Str} {a b d : Expr} {fs : FA} {px py pz pt : Pos} {kt k2 pt2} (i j l : Nat) (hc : X.calm = true) (hN : X.N.Nodup) (ha : DA K X [a, b, d] fs) (hij : i ≠ j := by decide) (hil : i ≠ l := by decide) (hjl : j ≠ l := by decide) (hi : X.N[i]? = some x := by rfl) (hj : X.N[j]? = some y := by rfl) (hl : X.N[l]? = some z := by rfl)
    (hx : X.env.scope.names.lookup x = some .local := by rfl) (hy : X.env.scope.names.lookup y = some .local := by rfl) (hz : X.env.scope.names.lookup z = some .local := by rfl)
    (hw : swappedStores [.Tuple [.Name x px, .Name y py, .Name z pz] kt pt] (.Tuple [a, b, d] k2 pt2) X.env = pure (some [x, y, z]) := by rfl)
    (hs : swapsWithSole [.Tuple [.Name x px, .Name y py, .Name z pz] kt pt] (.Tuple [a, b, d] k2 pt2) pos.line X.env = pure false := by rfl) :
    DS K X (.Assign [.Tuple [.Name x px, .Name y py, .Name z pz] kt pt] (.Tuple [a, b, d] k2 pt2) pos) (gPar3 i j l fs) := ⟨fun hK => ps_imp (ps_par3 hc hN hi hj hl hij hil hjl hx hy hz (ha.pa hK) hw hs) fun D σ H q => by
  obtain ⟨c, ρ, E, wf, s0, g, kn, kr, kb, kc⟩ := q
  refine ⟨c, ρ, _, s0, g, fun vs H' ds A r p => ?_⟩
  cases r with
  | nil => exact p.elim
  | @cons v vs' d ds' r1 r =>
    cases r with
    | nil => exact p.elim
    | @cons v2 vs' d2 ds' r2 r =>
      cases r with
      | nil => exact p.elim
      | @cons v3 vs' d3 ds' r3 r =>
        cases r with
        | cons _ _ => exact p.elim
        | nil =>
          obtain ⟨s1, sm⟩ := A.st.setSh i r1
          obtain ⟨s2, sm2⟩ := s1.setSh j (r2.mono sm)
          obtain ⟨s3, sm3⟩ := s2.setSh l ((r3.mono sm).mono sm2)
          exact ⟨v, v2, v3, rfl, kn _ _ H' s3 (((A.sm.trans sm).trans sm2).trans sm3) p⟩⟩
/-- a name op= e -/
def gAug (i : Nat) (g : G2) (f : FE) : FS := fun E ρ => rd ρ[i]? fun x => f ρ fun y => g x y fun z => E.nx (ρ.set i (.sh z))
theorem ds_aug {x : Str} {pos' : Pos} {op : Operator} {g2 : G2} (i : Nat) (hN : X.N.Nodup) (ho : DOp K X (inplaceOp op) g2) (he : DE K X e fa) (hi : X.N[i]? = some x := by rfl) (hx : Loc X.env.scope x := by first | exact Or.inl rfl | exact Or.inr rfl)
    (hf : X.fn x = true ∨ X.env.scope.names.lookup x = some .local := by first | exact .inl rfl | exact .inr rfl) : DS K X (.AugAssign (.Name x pos') op e pos) (gAug i g2 fa) := ⟨fun hK => by
  obtain ⟨r, h1, h2⟩ := ho
  refine ps_imp (L2.ps_aug (ti := r) hN hi hx (he.pe hK) (fun pins s σ H x y v u Q I rx ry q => h1 pins s σ H x y v u Q I rx ry q) hf) fun D σ H q => ?_
  obtain ⟨c, ρ, E, wf, s0, g, kn, kr, kb, kc⟩ := q
  unfold gAug at g
  cases e1 : ρ[i]? with
  | none => rw [e1] at g; exact g.elim
  | some sl =>
    rw [e1] at g
    cases sl with
    | sh d =>
      obtain ⟨v, q1, q2⟩ := s0.slot i _ e1
      refine ⟨v, q1, c, ρ, _, s0, g, fun y H1 dy A ry p => ?_⟩
      refine h2 hK (Ow c σ ρ) H1 v y d dy _ _ (fun b => A.st.ow_some) (q2.mono A.sm) ry p fun z H2 dz sm rz p2 => ?_
      have A2 := A.trans (.grow A.st sm)
      obtain ⟨s1, sm1⟩ := A2.st.setSh i rz
      exact kn _ _ H2 s1 (A2.sm.trans sm1) p2
    | tk t n =>
      refine ⟨.ref t, (s0.slot i _ e1).1, c, ρ, _, s0, g, fun y H1 dy A ry p => ?_⟩
      refine h2 hK (Ow c σ ρ) H1 _ y (.obj t) dy _ _ (fun b => A.st.ow_some) (.obj t) ry p fun z H2 dz sm rz p2 => ?_
      have A2 := A.trans (.grow A.st sm)
      obtain ⟨s1, sm1⟩ := A2.st.setSh i rz
      exact kn _ _ H2 s1 (A2.sm.trans sm1) p2
    | _ => exact g.elim⟩
/-! ### loops -/
def whileN (ft : FT) (gb : FS) : Nat → FS
  | 0 => fun _ _ => False
  | n + 1 => fun E ρ => ft ρ fun b => if b = true then gb { E with nx := whileN ft gb n E, ct := whileN ft gb n E, bk := E.nx } ρ else E.nx ρ
def gWhile (ft : FT) (gb : FS) : FS := fun E ρ => ∃ n, whileN ft gb n E ρ
theorem ds_while {t : Expr} {body : List Stmt} {ft : FT} {gb : FS} (hp : X.K = K → PassesOwn (model X.prog X.w) X.A X.env X.xe) (ht : DT K X t ft) (hb : DSs K X body gb) : DS K X (.While t body [] pos) (gWhile ft gb) := ⟨fun hK => ps_imp (ps_while (hp hK) (ht.pt hK) (hb.ps hK)) fun D σ H q => by
  obtain ⟨c, ρ, E, wf, s0, ⟨n, g⟩, kn, kr, kb, kc⟩ := q
  refine ⟨fun m σ1 H1 => ∃ ρ1, StR K c σ1 ρ1 H1 ∧ Same (M c σ ρ H) (M c σ1 ρ1 H1) ∧ whileN ft gb m E ρ1, ⟨n, ρ, s0, Same.refl _, g⟩, fun m σ1 H1 ⟨ρ1, s1, sm1, w1⟩ => ?_⟩
  cases m with
  | zero => exact w1.elim
  | succ m =>
    refine ⟨c, ρ1, _, s1, w1, fun b H2 A p => ?_⟩
    cases b with
    | true =>
      refine ⟨fun σ' H' => ∃ ρ', StR K c σ' ρ' H' ∧ Same (M c σ ρ H) (M c σ' ρ' H') ∧ whileN ft gb m E ρ', fun σ' H' q => ⟨m, Nat.lt_succ_self m, q⟩, ?_⟩
      refine ⟨c, ρ1, _, wf, A.st, p, fun σ' ρ' H' s2 sm2 q => ⟨ρ', s2, (sm1.trans A.sm).trans sm2, q⟩, kr, fun σ' ρ' H' s2 sm2 q => kn σ' ρ' H' s2 ((sm1.trans A.sm).trans sm2) q, fun σ' ρ' H' s2 sm2 q => ⟨ρ', s2, (sm1.trans A.sm).trans sm2, q⟩⟩
    | false => exact kn σ1 ρ1 H2 A.st (sm1.trans A.sm) p⟩
/-- what is walked: the data that come, one by one -/
def Yl (K : PySem.W.Frag) (J : It) (m : Hp) (ds : List D) : Prop := ∀ (O : Addr → Prop) (H : Hp), (∀ b, O b → H b ≠ none) → Same m (msk O H) → ∀ i, (i < ds.length → J.go i H) ∧ (ds.length ≤ i → J.stop i H) ∧
  ∀ x H', i < ds.length → J.yld i H x H' → ∃ d, ds[i]? = some d ∧ Same H H' ∧ Rp K (msk O H') x d
def iOf (K : PySem.W.Frag) (f : FA) : TI := fun σ H R => ∃ (c : Fx) (ρ : Rho) (P : List D → Prop), StR K c σ ρ H ∧ f ρ P ∧ ∀ J H' ds, Aft K c σ ρ H H' → Yl K J (M c σ ρ H') ds → P ds → R J H'
structure DI (K : PySem.W.Frag) (X : Cx) (tg iter : Expr) (f : FA) : Prop where
  pi : X.K = K → PI X tg iter (iOf K f)
theorem pi_imp {tg iter : Expr} {t t' : TI} (h : PI X tg iter t) (i : ∀ σ H R, t' σ H R → t σ H R) : PI X tg iter t' := ⟨fun pins s σ H R I q => h.run pins s σ H R I (i σ H R q)⟩
def forD (fg : FG) (gb : FS) : List D → FS
  | [] => fun E ρ => E.nx ρ
  | d :: ds => fun E ρ => fg d ρ fun ρ1 => gb { E with nx := forD fg gb ds E, ct := forD fg gb ds E, bk := E.nx } ρ1
def gFor (fi : FA) (fg : FG) (gb : FS) : FS := fun E ρ => fi ρ fun ds => forD fg gb ds E ρ
theorem ds_for {tg iter : Expr} {body : List Stmt} {fi : FA} {fg : FG} {gb : FS} {vs : List Nat} (hp : X.K = K → PassesOwn (model X.prog X.w) X.A X.env X.xe) (hc : X.calm = true) (hi : DI K X tg iter fi) (hg : DG K X tg vs fg) (hb : DSs K X body gb)
    (hs : ∀ x, foldedSetIterable iter X.env x = pure x := by intro _; rfl) : DS K X (.For tg iter body [] pos) (gFor fi fg gb) := ⟨fun hK => ps_imp (ps_for (hp hK) hc (hi.pi hK) (hg.pg hK) (hb.ps hK) hs) fun D σ H q => by
  obtain ⟨c, ρ, E, wf, s0, g, kn, kr, kb, kc⟩ := q
  refine ⟨c, ρ, _, s0, g, fun J H1 ds A y p => ?_⟩
  refine ⟨fun i m σ1 H1' => m = ds.length - i ∧ i ≤ ds.length ∧ ∃ ρ1, StR K c σ1 ρ1 H1' ∧ Same (M c σ ρ H1) (M c σ1 ρ1 H1') ∧ forD fg gb (ds.drop i) E ρ1, ⟨ds.length, rfl, Nat.zero_le _, ρ, A.st, Same.refl _, p⟩, fun i m σ1 H2 ⟨hm, hle, ρ1, s1, sm1, w1⟩ => ?_⟩
  obtain ⟨y1, y2, y3⟩ := y (Ow c σ1 ρ1) H2 (fun b => s1.ow_some) sm1 i
  by_cases hlt : i < ds.length
  · refine .inr ⟨y1 hlt, fun σ' H' => ∃ ρ', StR K c σ' ρ' H' ∧ Same (M c σ ρ H1) (M c σ' ρ' H') ∧ forD fg gb (ds.drop (i + 1)) E ρ', fun σ' H' q => ⟨ds.length - (i + 1), by omega, rfl, hlt, q⟩, fun x H3 hy => ?_⟩
    obtain ⟨d, e1, e2, e3⟩ := y3 x H3 hlt hy
    have ed : ds.drop i = d :: ds.drop (i + 1) := by
      rw [List.drop_eq_getElem_cons hlt]
      rw [List.getElem?_eq_getElem hlt] at e1
      rw [Option.some.inj e1]
    rw [ed] at w1
    have A2 := Aft.grow s1 e2
    refine ⟨c, ρ1, d, _, A2.st, e3, w1, fun σ3 ρ3 s3 sm3 _ q3 => ?_⟩
    have sm : Same (M c σ ρ H1) (M c σ3 ρ3 H3) := (sm1.trans A2.sm).trans sm3
    exact ⟨c, ρ3, _, wf, s3, q3, fun σ' ρ' H' s4 sm4 q => ⟨ρ', s4, sm.trans sm4, q⟩, kr, fun σ' ρ' H' s4 sm4 q => kn σ' ρ' H' s4 (A.sm.trans (sm.trans sm4)) q, fun σ' ρ' H' s4 sm4 q => ⟨ρ', s4, sm.trans sm4, q⟩⟩
  · have e : i = ds.length := by omega
    subst e
    rw [List.drop_length] at w1
    exact .inl ⟨y2 (Nat.le_refl _), kn σ1 ρ1 H2 s1 (A.sm.trans sm1) w1⟩⟩
end
end DL
/-! The layer DL: comprehensions. -/
namespace DL
open PySem PySem.Spec PyProof.Rows L2

def wipeR (ρ : Rho) : List Nat → Rho
  | [] => ρ
  | v :: vs => (wipeR ρ vs).set v .no
/-- none of these slots is one's own -/
def noOwn (ρ : Rho) (vs : List Nat) : Bool := vs.all fun i => match ρ[i]? with
  | some s => !s.own
  | none => true
theorem wipeR_len (ρ : Rho) : ∀ vs, (wipeR ρ vs).length = ρ.length
  | [] => rfl
  | v :: vs => by unfold wipeR; rw [List.length_set, wipeR_len ρ vs]
theorem wipeR_out {ρ : Rho} {i : Nat} : ∀ {vs : List Nat}, i ∉ vs → (wipeR ρ vs)[i]? = ρ[i]?
  | [], _ => rfl
  | v :: vs, h => by
    rw [List.mem_cons, not_or] at h
    unfold wipeR
    rw [List.getElem?_set_ne (fun e => h.1 e.symm), wipeR_out h.2]
theorem wipeR_in {ρ : Rho} {i : Nat} {s : Sl} : ∀ {vs : List Nat}, i ∈ vs → (wipeR ρ vs)[i]? = some s → s = .no
  | [], h, _ => by cases h
  | v :: vs, h, e => by
    unfold wipeR at e
    by_cases q : v = i
    · subst q
      rw [List.getElem?_set] at e
      simp only [if_true] at e
      split at e
      · cases e; rfl
      · cases e
    · rw [List.getElem?_set_ne q] at e
      exact wipeR_in ((List.mem_cons.mp h).resolve_left fun z => q z.symm) e
theorem wipe_in {σ : St} {i : Nat} : ∀ {vs : List Nat}, i ∈ vs → i < σ.length → (wipe σ vs)[i]? = some none
  | [], h, _ => by cases h
  | v :: vs, h, e => by
    unfold wipe
    by_cases q : v = i
    · subst q
      rw [List.getElem?_set_self (by rw [wipe_length]; exact e)]
    · rw [List.getElem?_set_ne q]
      exact wipe_in ((List.mem_cons.mp h).resolve_left fun z => q z.symm) e
theorem noOwn_at {ρ : Rho} {vs : List Nat} (h : noOwn ρ vs = true) {i : Nat} (hi : i ∈ vs) {s : Sl} (e : ρ[i]? = some s) : s.own = false := by
  have := List.all_eq_true.mp h i hi
  rw [e] at this
  simpa using this
theorem wipe_off {vs ws : List Nat} {σ σ' : St} (h : OffEq vs σ σ') (hs : ∀ i ∈ vs, i ∈ ws) : wipe σ' ws = wipe σ ws := by
  apply List.ext_getElem?
  intro i
  by_cases hi : i ∈ ws
  · by_cases hl : i < σ.length
    · rw [wipe_in hi hl, wipe_in hi (by rw [h.1]; exact hl)]
    · have e1 : (wipe σ' ws)[i]? = none := List.getElem?_eq_none (by rw [wipe_length, h.1]; omega)
      have e2 : (wipe σ ws)[i]? = none := List.getElem?_eq_none (by rw [wipe_length]; omega)
      rw [e1, e2]
  · rw [wipe_out hi, wipe_out hi]
    exact h.2 i fun z => hi (hs i z)
theorem off_wipe {vs : List Nat} {σ : St} : OffEq vs σ (wipe σ vs) := ⟨wipe_length σ vs, fun j hj => wipe_out hj⟩

section
variable [TapeI] {K : PySem.W.Frag} {c : Fx} {σ σ' : St} {ρ ρ' : Rho} {H H' : Hp} {vs : List Nat}
theorem own_off (h : ∀ i, i ∉ vs → σ'[i]? = σ[i]? ∧ ρ'[i]? = ρ[i]?) (n : ∀ i ∈ vs, ∀ s, ρ[i]? = some s → s.own = false) (n' : ∀ i ∈ vs, ∀ s, ρ'[i]? = some s → s.own = false) : own σ' ρ' = own σ ρ := by
  funext b
  refine propext ⟨?_, ?_⟩
  · rintro ⟨i, s, h1, h2, h3⟩
    have hi : i ∉ vs := fun z => by rw [n' i z s h1] at h2; cases h2
    exact ⟨i, s, by rw [← (h i hi).2]; exact h1, h2, by rw [← (h i hi).1]; exact h3⟩
  · rintro ⟨i, s, h1, h2, h3⟩
    have hi : i ∉ vs := fun z => by rw [n i z s h1] at h2; cases h2
    exact ⟨i, s, by rw [(h i hi).2]; exact h1, h2, by rw [(h i hi).1]; exact h3⟩
/-- into a block: the slots of its own names are forgotten -/
theorem StR.wipe (st : StR K c σ ρ H) (hn : noOwn ρ vs = true) : StR K c (wipe σ vs) (wipeR ρ vs) H ∧ own (L2.wipe σ vs) (wipeR ρ vs) = own σ ρ := by
  have eo : own (L2.wipe σ vs) (wipeR ρ vs) = own σ ρ := own_off (vs := vs) (fun i hi => ⟨wipe_out hi, wipeR_out hi⟩) (fun i hi s e => noOwn_at hn hi e) fun i hi s e => by rw [wipeR_in hi e]; rfl
  have eO : Ow c (L2.wipe σ vs) (wipeR ρ vs) = Ow c σ ρ := by unfold Ow; rw [eo]
  have eM : M c (L2.wipe σ vs) (wipeR ρ vs) H = M c σ ρ H := by show msk _ _ = msk _ _; rw [eO]
  refine ⟨⟨by rw [wipeR_len, wipe_length, st.len], fun i s hi => ?_, fun i j s t a h1 h2 h3 h4 h5 h6 => ?_, st.base, st.dom, fun t ht => by rw [eM]; exact st.tape t ht, st.tpB⟩, eo⟩
  · rw [eM]
    by_cases q : i ∈ vs
    · rw [wipeR_in q hi]; trivial
    · rw [wipeR_out q] at hi
      rw [wipe_out q]
      exact st.slot i s hi
  · have f : ∀ (i : Nat) (s : Sl), (wipeR ρ vs)[i]? = some s → s.own = true → i ∉ vs := fun i s h1 h2 z => by rw [wipeR_in z h1] at h2; cases h2
    have g1 := f i s h1 h3
    have g2 := f j t h2 h4
    rw [wipeR_out g1] at h1
    rw [wipeR_out g2] at h2
    rw [wipe_out g1] at h5
    rw [wipe_out g2] at h6
    exact st.inj i j s t a h1 h2 h3 h4 h5 h6
/-- out of the block: the slots are as they were -/
theorem StR.unwipe (st : StR K c σ ρ H) (st' : StR K c σ' ρ' H') (eO : Ow c σ' ρ' = Ow c σ ρ) (hσ : OffEq vs σ σ') (hρ : ∀ i, i ∉ vs → ρ'[i]? = ρ[i]?) (hn : noOwn ρ vs = true) (sm : Same (M c σ ρ H) (M c σ ρ H')) : StR K c σ ρ H' := by
  have eM : M c σ' ρ' H' = M c σ ρ H' := by show msk _ _ = msk _ _; rw [eO]
  refine ⟨st.len, fun i s hi => ?_, st.inj, st'.base, st'.dom, fun t ht => by rw [← eM]; exact st'.tape t ht, st.tpB⟩
  by_cases q : i ∈ vs
  · have ns := noOwn_at hn q hi
    have := st.slot i s hi
    cases s with
    | no => trivial
    | sh d => obtain ⟨x, h1, h2⟩ := this; exact ⟨x, h1, h2.mono sm⟩
    | _ => cases ns
  · have := st'.slot i s (by rw [hρ i q]; exact hi)
    rw [eM, hσ.2 i q] at this
    exact this
/-- one more object that is not shared (a comprehension's list) -/
def Fx.plus (c : Fx) (D : Addr) : Fx := { c with O := fun b => c.O b ∨ b = D }
theorem ow_plus {D : Addr} {b : Addr} : Ow (c.plus D) σ ρ b ↔ Ow c σ ρ b ∨ b = D := by
  unfold Ow Fx.plus
  constructor
  · rintro ((h | h) | h)
    · exact .inl (.inl h)
    · exact .inr h
    · exact .inl (.inr h)
  · rintro ((h | h) | h)
    · exact .inl (.inl h)
    · exact .inr h
    · exact .inl (.inr h)
theorem StR.plus (st : StR K c σ ρ H) {D : Addr} {o : HO} (hD : H D = none) : StR K (c.plus D) σ ρ (upd H D o) ∧ Same (M c σ ρ H) (M (c.plus D) σ ρ (upd H D o)) := by
  have sm : Same (M c σ ρ H) (M (c.plus D) σ ρ (upd H D o)) := fun b x e => by
    obtain ⟨h1, h2⟩ := msk_some e
    have ne : b ≠ D := ne_of_none h2 hD
    show msk _ _ _ = _
    rw [msk_of (fun z => (ow_plus.1 z).elim h1 ne), upd_ne ne]
    exact h2
  have keep : ∀ b x, H b = some x → upd H D o b = some x := same_new hD
  refine ⟨⟨st.len, fun i s hi => ?_, st.inj, fun b x h1 h2 => keep b x (st.base b x h1 h2), fun b h1 h2 => ?_, fun t ht => ?_, st.tpB⟩, sm⟩
  · have q := st.slot i s hi
    cases s with
    | no => trivial
    | sh d => obtain ⟨x, h1, h2⟩ := q; exact ⟨x, h1, h2.mono sm⟩
    | ol ds => obtain ⟨a, xs, h1, h2, h3, h4⟩ := q; exact ⟨a, xs, h1, keep _ _ h2, h3.mono sm, h4⟩
    | od ks ds => obtain ⟨a, xs, h1, h2, h3, hz, h4, h5⟩ := q; exact ⟨a, xs, h1, keep _ _ h2, h3, hz, h4.mono sm, h5⟩
    | tk a n => obtain ⟨h1, ⟨o, h2, h3⟩, h4⟩ := q; exact ⟨h1, ⟨o, keep _ _ h2, TapeI.mono sm h3⟩, h4⟩
    | ot a n => obtain ⟨h1, ⟨o, h2, h3⟩, h4⟩ := q; exact ⟨h1, ⟨o, keep _ _ h2, OR.mono sm h3⟩, h4⟩
  · rcases h1 with h1 | rfl
    · cases e : H b with
      | none => exact st.dom b h1 e
      | some x => rw [keep b x e] at h2; cases h2
    · rw [upd_same] at h2; cases h2
  · obtain ⟨h1, n, x, h2, h3⟩ := st.tape t ht
    exact ⟨.inl h1, n, x, keep _ _ h2, TapeI.mono sm h3⟩
/-- that object is changed -/
theorem StR.plusUpd {D : Addr} (st : StR K (c.plus D) σ ρ H) {o : HO} (hD : H D ≠ none) (hB : c.B D = none) (hno : ¬ own σ ρ D) : StR K (c.plus D) σ ρ (upd H D o) ∧ M (c.plus D) σ ρ (upd H D o) = M (c.plus D) σ ρ H := by
  have eM : M (c.plus D) σ ρ (upd H D o) = M (c.plus D) σ ρ H := msk_upd (ow_plus.2 (.inr rfl))
  have keep : ∀ b x, b ≠ D → H b = some x → upd H D o b = some x := fun b x n e => by rw [upd_ne n]; exact e
  refine ⟨⟨st.len, fun i s hi => ?_, st.inj, fun b x h1 h2 => keep b x (fun z => by subst z; rw [show (c.plus b).B b = c.B b from rfl, hB] at h2; cases h2) (st.base b x h1 h2), fun b h1 h2 => ?_, fun t ht => ?_, st.tpB⟩, eM⟩
  · rw [eM]
    have q := st.slot i s hi
    cases s with
    | no => trivial
    | sh d => exact q
    | ol ds => obtain ⟨a, xs, h1, h2, h3⟩ := q; exact ⟨a, xs, h1, keep _ _ (fun z => hno (z ▸ ⟨i, _, hi, rfl, h1⟩)) h2, h3⟩
    | od ks ds => obtain ⟨a, xs, h1, h2, h3⟩ := q; exact ⟨a, xs, h1, keep _ _ (fun z => hno (z ▸ ⟨i, _, hi, rfl, h1⟩)) h2, h3⟩
    | tk a n => obtain ⟨h1, ⟨o, h2, h3⟩, h4⟩ := q; exact ⟨h1, ⟨o, keep _ _ (fun z => hno (z ▸ ⟨i, _, hi, rfl, h1⟩)) h2, h3⟩, h4⟩
    | ot a n => obtain ⟨h1, ⟨o, h2, h3⟩, h4⟩ := q; exact ⟨h1, ⟨o, keep _ _ (fun z => hno (z ▸ ⟨i, _, hi, rfl, h1⟩)) h2, h3⟩, h4⟩
  · by_cases z : b = D
    · subst z; rw [upd_same] at h2; cases h2
    · rw [upd_ne z] at h2; exact st.dom b h1 h2
  · obtain ⟨h1, n, x, h2, h3⟩ := st.tape t ht
    refine ⟨h1, n, x, keep _ _ (fun z => ?_) h2, by rw [eM]; exact h3⟩
    subst z
    exact st.tpB t ht hB
/-- it becomes shared -/
theorem StR.unplus {D : Addr} (st : StR K (c.plus D) σ ρ H) (hB : c.B D = none) : StR K c σ ρ H ∧ Same (M (c.plus D) σ ρ H) (M c σ ρ H) := by
  have sm : Same (M (c.plus D) σ ρ H) (M c σ ρ H) := msk_le fun b z => ow_plus.2 (.inl z)
  refine ⟨⟨st.len, fun i s hi => (st.slot i s hi).mono (c := c.plus D) sm fun b o _ z => z, st.inj, st.base, fun b h => st.dom b (.inl h), fun t ht => ?_, st.tpB⟩, sm⟩
  obtain ⟨h1, n, x, h2, h3⟩ := st.tape t ht
  refine ⟨h1.resolve_right fun z => ?_, n, x, h2, TapeI.mono sm h3⟩
  subst z
  exact st.tpB t ht hB
theorem StR.freshB (st : StR K c σ ρ H) {D : Addr} (h : H D = none) : c.B D = none := by
  cases e : c.B D with
  | none => rfl
  | some o =>
    by_cases z : c.tp = some D
    · obtain ⟨_, _, x, h2, _⟩ := st.tape D z
      rw [h] at h2; cases h2
    · rw [st.base D o z e] at h; cases h

/-! ### the walk of a block -/
abbrev AllB (X : Cx) (scope : Scope) (p : Cx → Prop) : Prop := ∀ (s : Shared) (H : Hp) (C : Addr) (cl : List (Str × Addr)) (fp : List Addr), p (X.blk s H scope (compEnvC scope cl C X.env) fp)
structure DTs (K : PySem.W.Frag) (X : Cx) (es : List Expr) (f : FT) : Prop where
  pt : X.K = K → PTs X es (bOf K f)
def fYes : FT := fun _ P => P true
theorem pts_imp {X : Cx} {es : List Expr} {t t' : TT} (h : PTs X es t) (i : ∀ σ H Q, t' σ H Q → t σ H Q) : PTs X es t' := ⟨fun pins s σ H Q I q => h.run pins s σ H Q I (i σ H Q q)⟩
theorem dts_nil {X : Cx} : DTs K X [] fYes := ⟨fun _ => pts_imp pts_nil fun σ H Q q => by
  obtain ⟨c, ρ, P, st, f, k⟩ := q
  exact k true H (.refl st) f⟩
theorem dts_one {X : Cx} {e : Expr} {f : FT} (h : DT K X e f) : DTs K X [e] f := ⟨fun hK => pts_one (h.pt hK)⟩
/-- a turn of a block: the target is stored over the wiped slots -/
def turnR (fg : FG) (vs : List Nat) (d : D) (ρ : Rho) (P : Rho → Prop) : Prop := fg d (wipeR ρ vs) fun ρ2 => wipeR ρ2 vs = wipeR ρ vs ∧ noOwn ρ2 vs = true ∧ P ρ2
/-- the turns of a block; fb: what is done with the data gathered so far -/
def blkD {α : Type} (fg : FG) (tt : FT) (fb : Rho → α → (α → Prop) → Prop) (vs : List Nat) : List D → Rho → α → (α → Prop) → Prop
  | [], _, acc, P => P acc
  | d :: ds, ρ, acc, P => turnR fg vs d ρ fun ρ2 => tt ρ2 fun b => if b = true then fb ρ2 acc fun acc' => blkD fg tt fb vs ds ρ acc' P else blkD fg tt fb vs ds ρ acc P
/-- one more item of a list -/
def bodyL (te : FE) : Rho → List D → (List D → Prop) → Prop := fun ρ acc P => te ρ fun e => acc.length < sizeLine ∧ P (acc ++ [e])
theorem wipeR_off {ρ ρ2 : Rho} (h : wipeR ρ2 vs = wipeR ρ vs) {i : Nat} (hi : i ∉ vs) : ρ2[i]? = ρ[i]? := by
  have := congrArg (fun l : Rho => l[i]?) h
  simpa only [wipeR_out hi] using this
/-- a turn's storing, and the way back -/
theorem turn_in {fg : FG} {ws : List Nat} {σ : St} {ρ : Rho} {H : Hp} {d : D} {v : V} {P : Rho → Prop} {Q : St → Hp → Prop} (st : StR K c σ ρ H) (hn : noOwn ρ vs = true) (hw : ∀ i ∈ ws, i ∈ vs) (r : Rp K (M c σ ρ H) v d) (f : turnR fg vs d ρ P)
    (k : ∀ σ2 ρ2, StR K c σ2 ρ2 H → wipe σ2 vs = wipe σ vs → own σ2 ρ2 = own σ ρ → (∀ b, hasTk ρ2 b → hasTk ρ b) → P ρ2 → (∀ H', StR K c σ2 ρ2 H' → Same (M c σ ρ H) (M c σ ρ H') → StR K c σ ρ H') → Q σ2 H) : gOf K ws fg v (wipe σ vs) H Q := by
  obtain ⟨sw, eo⟩ := st.wipe hn
  have eO : Ow c (wipe σ vs) (wipeR ρ vs) = Ow c σ ρ := by unfold Ow; rw [eo]
  refine ⟨c, wipeR ρ vs, d, _, sw, ?_, f, fun σ2 ρ2 s2 sm2 off q => ?_⟩
  · show Rp K (msk _ H) v d
    rw [eO]; exact r
  · obtain ⟨q1, q2, q3⟩ := q
    have o2 : OffEq vs σ σ2 := ⟨off.1.trans (wipe_length σ vs), fun j hj => (off.2 j fun z => hj (hw j z)).trans (wipe_out hj)⟩
    have eo2 : own σ2 ρ2 = own σ ρ := own_off (vs := vs) (fun i hi => ⟨o2.2 i hi, wipeR_off q1 hi⟩) (fun i hi s e => noOwn_at hn hi e) fun i hi s e => noOwn_at q2 hi e
    have eO2 : Ow c σ2 ρ2 = Ow c σ ρ := by unfold Ow; rw [eo2]
    have tkm : ∀ b, hasTk ρ2 b → hasTk ρ b := fun b ⟨n, hb⟩ => by
      obtain ⟨i, hi⟩ := List.getElem?_of_mem hb
      have hni : i ∉ vs := fun z => by have := noOwn_at q2 z hi; cases this
      rw [wipeR_off q1 hni] at hi
      exact ⟨n, List.mem_of_getElem? hi⟩
    exact k σ2 ρ2 s2 (wipe_off o2 fun _ h => h) eo2 tkm q3 fun H' s' sm => st.unwipe s' eO2 o2 (fun i hi => wipeR_off q1 hi) hn sm
/-- what is walked, while L holds of the heap -/
def YlL (K : PySem.W.Frag) (J : It) (m : Hp) (L : Hp → Prop) (ds : List D) : Prop := ∀ (O : Addr → Prop) (H : Hp), (∀ b, O b → H b ≠ none) → Same m (msk O H) → L H → ∀ i, (i < ds.length → J.go i H) ∧ (ds.length ≤ i → J.stop i H) ∧
  ∀ x H', i < ds.length → J.yld i H x H' → ∃ d, ds[i]? = some d ∧ Same H H' ∧ Rp K (msk O H') x d
theorem Yl.L {J : It} {m : Hp} {ds : List D} (y : Yl K J m ds) : YlL K J m (fun _ => True) ds := fun O H hO e _ i => y O H hO e i
theorem YlL.mono {J : It} {m m' : Hp} {L : Hp → Prop} {ds : List D} (y : YlL K J m L ds) (e : Same m m') : YlL K J m' L ds := fun O H hO e' l i => y O H hO (e.trans e') l i
/-- the objects of one's own that stay -/
def Oo (c : Fx) (σ : St) (ρ : Rho) (D : Addr) (H H' : Hp) : Prop := ∀ b o, Ow c σ ρ b → c.tp ≠ some b → ¬ hasTk ρ b → b ≠ D → H b = some o → H' b = some o
section
variable {α : Type} {AR : Hp → α → HO → Prop}
/-- behind a body: the gathered object has changed alone -/
structure Bdy (K : PySem.W.Frag) (AR : Hp → α → HO → Prop) (c : Fx) (D : Addr) (σ : St) (ρ : Rho) (H H' : Hp) (a : α) : Prop where
  st : StR K (c.plus D) σ ρ H'
  sm : Same (M (c.plus D) σ ρ H) (M (c.plus D) σ ρ H')
  at_ : ∃ o, H' D = some o ∧ AR (M (c.plus D) σ ρ H') a o
  oo : Oo c σ ρ D H H'
def BodyOk (K : PySem.W.Frag) (AR : Hp → α → HO → Prop) (c : Fx) (D : Addr) (body : St → Hp → (Hp → Prop) → Prop) (fb : Rho → α → (α → Prop) → Prop) : Prop := ∀ (σ : St) (ρ : Rho) (H : Hp) (a : α) (P : α → Prop) (Nx : Hp → Prop), StR K (c.plus D) σ ρ H → ¬ own σ ρ D → (∃ o, H D = some o ∧ AR (M (c.plus D) σ ρ H) a o) → fb ρ a P →
  (∀ H' a', Bdy K AR c D σ ρ H H' a' → P a' → Nx H') → body σ H Nx
theorem blk_loop (hAR : ∀ {m m' : Hp} {a : α} {o : HO}, Same m m' → AR m a o → AR m' a o) {D : Addr} {fg : FG} {tt : FT} {fb : Rho → α → (α → Prop) → Prop} {body : St → Hp → (Hp → Prop) → Prop} {ws : List Nat} {σ : St} {ρ : Rho} {H1 : Hp} {J : It} {L : Hp → Prop} {ds : List DL.D} {a0 : α} {P : α → Prop} {G : Hp → Prop}
    (hb : BodyOk K AR c D body fb) (hw : ∀ i ∈ ws, i ∈ vs) (hB : c.B D = none) (hno : ¬ own σ ρ D) (hn : noOwn ρ vs = true) (s1 : StR K (c.plus D) σ ρ H1) (y : YlL K J (M (c.plus D) σ ρ H1) L ds) (hL : ∀ H2, Oo c σ ρ D H1 H2 → L H2) (h0 : ∃ o, H1 D = some o ∧ AR (M (c.plus D) σ ρ H1) a0 o)
    (p : blkD fg tt fb vs ds ρ a0 P) (k : ∀ H' a, Bdy K AR c D σ ρ H1 H' a → P a → G H') :
    ∃ W : Nat → Nat → Hp → Prop, (∃ m, W 0 m H1) ∧ ∀ i m H, W i m H → (J.stop i H ∧ G H) ∨ (J.go i H ∧ ∃ Nx : Hp → Prop, (∀ H', Nx H' → ∃ m', m' < m ∧ W (i + 1) m' H') ∧ ∀ x H', J.yld i H x H' → gOf K ws fg x (wipe σ vs) H' fun σ2 H2 => wipe σ2 vs = wipe σ vs ∧ bOf K tt σ2 H2 fun b H3 =>
      if b = true then body σ2 H3 Nx else Nx H3) := by
  have tpD : (c.plus D).tp ≠ some D := fun z => s1.tpB D z hB
  refine ⟨fun i m H2 => m = ds.length - i ∧ i ≤ ds.length ∧ ∃ a, Bdy K AR c D σ ρ H1 H2 a ∧ blkD fg tt fb vs (ds.drop i) ρ a P, ⟨ds.length, rfl, Nat.zero_le _, a0, ⟨s1, Same.refl _, h0, fun b o _ _ _ _ e => e⟩, p⟩, fun i m H2 ⟨hm, hle, a, B2, w2⟩ => ?_⟩
  have s2 := B2.st
  have hO2 : ∀ b, Ow (c.plus D) σ ρ b → H2 b ≠ none := fun b => s2.ow_some
  obtain ⟨y1, y2, y3⟩ := y (Ow (c.plus D) σ ρ) H2 hO2 B2.sm (hL H2 B2.oo) i
  by_cases hlt : i < ds.length
  · refine .inr ⟨y1 hlt, fun H' => ∃ a, Bdy K AR c D σ ρ H1 H' a ∧ blkD fg tt fb vs (ds.drop (i + 1)) ρ a P, fun H' q => ⟨ds.length - (i + 1), by omega, rfl, hlt, q⟩, fun x H3 hy => ?_⟩
    obtain ⟨d, e1, e2, e3⟩ := y3 x H3 hlt hy
    have ed : ds.drop i = d :: ds.drop (i + 1) := by
      rw [List.drop_eq_getElem_cons hlt]
      rw [List.getElem?_eq_getElem hlt] at e1
      rw [Option.some.inj e1]
    rw [ed] at w2
    have s3 := s2.grow e2
    have sm3 : Same (M (c.plus D) σ ρ H2) (M (c.plus D) σ ρ H3) := msk_same e2
    refine turn_in s3 hn hw e3 w2 fun σ4 ρ4 s4 ew eo tkm q4 back => ⟨ew, c.plus D, ρ4, _, s4, q4, fun b H5 A5 p5 => ?_⟩
    have eO : Ow (c.plus D) σ4 ρ4 = Ow (c.plus D) σ ρ := by unfold Ow; rw [eo]
    have eM : ∀ H, M (c.plus D) σ4 ρ4 H = M (c.plus D) σ ρ H := fun H => by show msk _ _ = msk _ _; rw [eO]
    have sm5 : Same (M (c.plus D) σ ρ H3) (M (c.plus D) σ ρ H5) := by
      have := A5.sm
      rwa [eM, eM] at this
    have hoD : Ow (c.plus D) σ4 ρ4 D := .inl (.inr rfl)
    have ntk : ¬ hasTk ρ4 D := fun z => by
      obtain ⟨_, z⟩ := tkm _ z
      obtain ⟨j, hj⟩ := List.getElem?_of_mem z
      exact hno ⟨j, _, hj, rfl, (s1.slot j _ hj).1⟩
    obtain ⟨o2, hD2, r2⟩ := B2.at_
    have hD5 : H5 D = some o2 := A5.oo D _ hoD tpD ntk (e2 _ _ hD2)
    have s5 := back H5 A5.st sm5
    have sm25 := sm3.trans sm5
    have oo5 : Oo c σ ρ D H1 H5 := fun b o h1 h2 h3 h4 e => A5.oo b o (by rw [eO]; exact ow_plus.2 (.inl h1)) h2 (fun z => h3 (tkm _ z)) (e2 _ _ (B2.oo b o h1 h2 h3 h4 e))
    cases b with
    | true =>
      refine hb σ4 ρ4 H5 a _ _ A5.st (by rw [eo]; exact hno) ⟨o2, hD5, by rw [eM]; exact hAR sm25 r2⟩ p5 fun H6 a' B6 p6 => ?_
      have sm6 : Same (M (c.plus D) σ ρ H5) (M (c.plus D) σ ρ H6) := by
        have := B6.sm
        rwa [eM, eM] at this
      obtain ⟨o6, hD6, r6⟩ := B6.at_
      rw [eM] at r6
      exact ⟨a', ⟨back H6 B6.st (sm5.trans sm6), (B2.sm.trans sm25).trans sm6, ⟨o6, hD6, r6⟩, fun b o h1 h2 h3 h4 e => B6.oo b o (by
        have : Ow (c.plus D) σ4 ρ4 b := by rw [eO]; exact ow_plus.2 (.inl h1)
        exact (ow_plus.1 this).resolve_right h4) h2 (fun z => h3 (tkm _ z)) h4 (oo5 b o h1 h2 h3 h4 e)⟩, p6⟩
    | false => exact ⟨a, ⟨s5, B2.sm.trans sm25, ⟨o2, hD5, hAR sm25 r2⟩, oo5⟩, p5⟩
  · have e : i = ds.length := by omega
    subst e
    rw [List.drop_length] at w2
    exact .inl ⟨y2 (Nat.le_refl _), k H2 a B2 w2⟩
end
/-- the gathered list -/
def ARL (K : PySem.W.Frag) (m : Hp) (es : List D) (o : HO) : Prop := ∃ acc, o = .lst acc ∧ RpAll K m acc es
theorem ARL.mono {m m' : Hp} {a : List D} {o : HO} (e : Same m m') (h : ARL K m a o) : ARL K m' a o := by
  obtain ⟨acc, h1, h2⟩ := h
  exact ⟨acc, h1, h2.mono e⟩
theorem body_L {te : FE} {D : Addr} (hB : c.B D = none) : BodyOk K (ARL K) c D (fun σ H Nx => eOf K te σ H fun y H4 => ∃ acc, H4 D = some (.lst acc) ∧ acc.length < sizeLine ∧ Nx (upd H4 D (.lst (acc ++ [y])))) (bodyL te) := fun σ ρ H es P Nx st hno ⟨o, hD, acc, eo, racc⟩ f k => by
  subst eo
  have tpD : (c.plus D).tp ≠ some D := fun z => st.tpB D z hB
  have ntk : ¬ hasTk ρ D := fun z => by
    obtain ⟨_, z⟩ := z
    obtain ⟨j, hj⟩ := List.getElem?_of_mem z
    exact hno ⟨j, _, hj, rfl, (st.slot j _ hj).1⟩
  refine ⟨c.plus D, ρ, _, st, f, fun v H6 e A6 r6 p6 => ?_⟩
  have hD6 : H6 D = some (.lst acc) := A6.oo D _ (.inl (.inr rfl)) tpD ntk hD
  obtain ⟨s7, eM7⟩ := A6.st.plusUpd (o := .lst (acc ++ [v])) (by rw [hD6]; exact fun z => nomatch z) hB hno
  refine ⟨acc, hD6, by rw [racc.length]; exact p6.1, k _ _ ⟨s7, by rw [eM7]; exact A6.sm, ⟨_, upd_same, acc ++ [v], rfl, ?_⟩, fun b o h1 h2 h3 h4 e => ?_⟩ p6.2⟩
  · rw [eM7]; exact (racc.mono A6.sm).append (.one r6)
  · rw [upd_ne h4]; exact A6.oo b o (ow_plus.2 (.inl h1)) h2 h3 e
section
variable {X : Cx} {pos : Pos} {elt tg iter : Expr} {ifs : List Expr} {scope : Scope} {fi : FA} {fg : FG} {tt : FT} {te : FE} {ws : List Nat}
/-- [elt for tg in iter if ..] -/
def fLc (fi : FA) (fg : FG) (tt : FT) (te : FE) (vs : List Nat) (ρ : Rho) (P : List D → Prop) : Prop := noOwn ρ vs = true ∧ fi ρ fun ds => blkD fg tt (bodyL te) vs ds ρ [] P
/-- behind the source: the list is new -/
theorem e_lcJ (hw : ∀ i ∈ ws, i ∈ vs) {c : Fx} {σ : St} {ρ : Rho} {H1 : Hp} {Q : VK} {P : List D → Prop} {J : It} {L : Hp → Prop} {ds : List D} (s1 : StR K c σ ρ H1) (hn : noOwn ρ vs = true) (y : YlL K J (M c σ ρ H1) L ds) (hL : ∀ H2, (∀ b o, Ow c σ ρ b → c.tp ≠ some b → ¬ hasTk ρ b → H1 b = some o → H2 b = some o) → L H2)
    (p : blkD fg tt (bodyL te) vs ds ρ [] P)
    (k : ∀ D H' es acc, H1 D = none → H' D = some (.lst acc) → RpAll K (M (c.plus D) σ ρ H') acc es → StR K (c.plus D) σ ρ H' → Same (M c σ ρ H1) (M (c.plus D) σ ρ H') →
      (∀ b o, Ow c σ ρ b → c.tp ≠ some b → ¬ hasTk ρ b → H1 b = some o → H' b = some o) → P es → Q (.ref D) H') :
    ∀ D, H1 D = none → ∃ W : Nat → Nat → Hp → Prop, (∃ m, W 0 m (upd H1 D (.lst []))) ∧ ∀ i m H, W i m H →
      (J.stop i H ∧ Q (.ref D) H) ∨ (J.go i H ∧ ∃ Nx : Hp → Prop, (∀ H', Nx H' → ∃ m', m' < m ∧ W (i + 1) m' H') ∧ ∀ x H', J.yld i H x H' → gOf K ws fg x (wipe σ vs) H' fun σ2 H2 => wipe σ2 vs = wipe σ vs ∧ bOf K tt σ2 H2 fun b H3 =>
        if b = true then eOf K te σ2 H3 fun y H4 => ∃ acc, H4 D = some (.lst acc) ∧ acc.length < sizeLine ∧ Nx (upd H4 D (.lst (acc ++ [y]))) else Nx H3) := fun D hD => by
  have hB := s1.freshB hD
  have hno : ¬ own σ ρ D := fun z => s1.own_some z hD
  obtain ⟨sp, smp⟩ := s1.plus (o := .lst []) hD
  have nD : ∀ b o, H1 b = some o → b ≠ D := fun b o e => ne_of_none e hD
  have oo1 : ∀ H', Oo c σ ρ D (upd H1 D (.lst [])) H' → ∀ b o, Ow c σ ρ b → c.tp ≠ some b → ¬ hasTk ρ b → H1 b = some o → H' b = some o := fun H' oo b o h1 h2 h3 e => oo b o h1 h2 h3 (nD b o e) (same_new hD b o e)
  exact blk_loop (AR := ARL K) ARL.mono (body_L hB) hw hB hno hn sp (y.mono smp) (fun H2 oo => hL H2 (oo1 H2 oo)) ⟨_, upd_same, [], rfl, .nil⟩ p fun H' es B pe => by
    obtain ⟨o, hD', acc, eo, racc⟩ := B.at_
    subst eo
    exact k D H' es acc hD hD' racc B.st (smp.trans B.sm) (oo1 H' B.oo) pe
/-- the reading of a comprehension, its list new -/
theorem e_lc (hw : ∀ i ∈ ws, i ∈ vs) {c : Fx} {σ : St} {ρ : Rho} {H : Hp} {Q : VK} {P : List D → Prop} (st : StR K c σ ρ H) (f : fLc fi fg tt te vs ρ P)
    (k : ∀ D H1 H' es acc, Aft K c σ ρ H H1 → H1 D = none → H' D = some (.lst acc) → RpAll K (M (c.plus D) σ ρ H') acc es → StR K (c.plus D) σ ρ H' → Same (M c σ ρ H1) (M (c.plus D) σ ρ H') →
      (∀ b o, Ow c σ ρ b → c.tp ≠ some b → ¬ hasTk ρ b → H1 b = some o → H' b = some o) → P es → Q (.ref D) H') :
    tLc (iOf K fi) (gOf K ws fg) (bOf K tt) (eOf K te) vs σ H Q := by
  obtain ⟨hn, f⟩ := f
  exact ⟨c, ρ, _, st, f, fun J H1 ds A y p => e_lcJ hw A.st hn y.L (fun _ _ => trivial) p fun D H' es acc => k D H1 H' es acc A⟩
theorem de_lc {own' : List (Str × Nat)} (hc : X.calm = true) (hN : X.N.Nodup) (hi : DI K X tg iter fi) (own : List (Str × Nat)) (ok : blkC X.N X.env.scope scope own = true) (hw : ∀ i ∈ ws, i ∈ own.map (·.2))
    (hg : AllB X scope fun X' => DG K X' tg ws fg) (ht : AllB X scope fun X' => DTs K X' ifs tt) (he : AllB X scope fun X' => DE K X' elt te) (hs : ∀ x, foldedSetIterable iter X.env x = pure x := by intro _; rfl) :
    DE K X (.ListComp elt [⟨tg, iter, ifs, 0⟩] scope pos) (fun ρ P => fLc fi fg tt te (own.map (·.2)) ρ fun es => P (.lst es)) := ⟨fun hK => by
  refine pe_imp (pe_lc hc hN (hi.pi hK) (blkOk_by ok) (fun s H C cl fp => (hg s H C cl fp).pg hK) (fun s H C cl fp => (ht s H C cl fp).pt hK) (fun s H C cl fp => (he s H C cl fp).pe hK) hs) fun σ H Q q => ?_
  obtain ⟨c, ρ, P, st, f, k⟩ := q
  refine e_lc hw st f fun D H1 H' es acc A hD hacc racc s2 sm2 oo p => ?_
  obtain ⟨s3, sm3⟩ := s2.unplus (A.st.freshB hD)
  refine k (.ref D) H' (.lst es) ⟨s3, A.sm.trans (sm2.trans sm3), fun b o h1 h2 h3 e => oo b o h1 h2 h3 (A.oo b o h1 h2 h3 e)⟩ (.lst ?_ (racc.mono sm3)) p
  show msk _ _ _ = _
  rw [msk_of, hacc]
  exact fun z => A.st.ow_some z hD⟩
end
end
end DL
/-! The layer DL: slices, what one owns, what is walked. -/
namespace DL
open PySem PySem.Spec PyProof.Rows L2
section
variable [TapeI] {K : PySem.W.Frag} {X : Cx} {pos : Pos} {e : Expr} {fa : FE}
/-! ### slices -/
abbrev FO := Rho → (Option Int → Prop) → Prop
def oOf (K : PySem.W.Frag) (f : FO) : St → Hp → (Option Int → Hp → Prop) → Prop := fun σ H Q => ∃ (c : Fx) (ρ : Rho) (P : Option Int → Prop), StR K c σ ρ H ∧ f ρ P ∧ ∀ o H', Aft K c σ ρ H H' → P o → Q o H'
structure DO (K : PySem.W.Frag) (X : Cx) (e : Option Expr) (f : FO) : Prop where
  po : X.K = K → PO X e (oOf K f)
theorem po_imp {e : Option Expr} {t t' : St → Hp → (Option Int → Hp → Prop) → Prop} (h : PO X e t) (i : ∀ σ H Q, t' σ H Q → t σ H Q) : PO X e t' := ⟨fun pins s σ H Q I q => h.run pins s σ H Q I (i σ H Q q)⟩
def foN : FO := fun _ P => P none
def foS (f : FE) : FO := fun ρ P => f ρ fun d => match d with | .int i => P (some i) | _ => False
theorem do_none : DO K X none foN := ⟨fun _ => po_imp po_none fun σ H Q q => by
  obtain ⟨c, ρ, P, st, f, k⟩ := q
  exact k none H (.refl st) f⟩
theorem do_some (h : DE K X e fa) : DO K X (some e) (foS fa) := ⟨fun hK => po_imp (po_some (h.pe hK)) fun σ H Q q => by
  obtain ⟨c, ρ, P, st, f, k⟩ := q
  refine ⟨c, ρ, _, st, f, fun v H' d A r p => ?_⟩
  cases r with
  | int i => exact ⟨i, rfl, k _ H' A p⟩
  | _ => exact p.elim⟩
def cutL {α : Type} (xs : List α) (lo hi : Option Int) : List α := (xs.drop (HT.sIx xs.length 0 lo)).take (HT.sIx xs.length xs.length hi - HT.sIx xs.length 0 lo)
def gSl (d : D) (lo hi : Option Int) (P : D → Prop) : Prop := match d with
  | .tup ds => P (.tup (cutL ds lo hi))
  | .lst ds => P (.lst (cutL ds lo hi))
  | .scr ns => P (.lst (cutL (ns.map .int) lo hi))
  | .str l => P (.str (cutL l lo hi))
  | _ => False
theorem rp_ints {H : Hp} : ∀ ns : List Int, RpAll K H (ns.map V.int) (ns.map D.int)
  | [] => .nil
  | n :: ns => .cons (.int n) (rp_ints ns)
theorem cutV_rp {H : Hp} {vs : List V} {ds : List D} (r : RpAll K H vs ds) (lo hi : Option Int) : RpAll K H (cutV vs lo hi) (cutL ds lo hi) := by
  unfold cutV cutL
  rw [r.length]
  exact (r.drop _).take _
theorem cutL_len {α : Type} (xs : List α) (lo hi : Option Int) : (cutL xs lo hi).length ≤ xs.length := by
  unfold cutL
  rw [List.length_take, List.length_drop]
  omega
theorem cutS_S (l : Tx) (lo hi : Option Int) : cutS (S l) lo hi = S (cutL l lo hi) := by
  unfold cutS cutL
  rw [S_cps, S_length]
  rfl
theorem cutL_whole {α : Type} {xs : List α} {lo hi : Option Int} (h : HT.sIx xs.length 0 lo = 0 ∧ HT.sIx xs.length xs.length hi = xs.length) : cutL xs lo hi = xs := by
  unfold cutL
  rw [h.1, h.2]
  simp
def fSl (f : FE) (fl fh : FO) : FE := fun ρ P => f ρ fun d => fl ρ fun lo => fh ρ fun hi => gSl d lo hi P
theorem SlR.imp {r r' : V → Option Int → Option Int → Hp → VK → Prop} (h : L2.SlR X r) (i : ∀ x lo hi H Q, r' x lo hi H Q → r x lo hi H Q) : L2.SlR X r' := fun pins s σ H x v vl vu lo hi sl Q I rx hs pl pu q => h pins s σ H x v vl vu lo hi sl Q I rx hs pl pu (i _ _ _ _ _ q)
theorem de_sl {lo hi : Option Expr} {fl fh : FO} {p2 : Pos} (he : DE K X e fa) (hl : DO K X lo fl) (hh : DO K X hi fh) : DE K X (.Subscript e (.Slice lo hi none p2) pos) (fSl fa fl fh) := ⟨fun hK => by
  subst hK
  refine pe_imp (pe_slice (SlR.or (SlR.or sl_tupA sl_list) sl_str) (he.pe rfl) (hl.po rfl) (hh.po rfl)) fun σ H Q q => ?_
  obtain ⟨c, ρ, P, st, f, k⟩ := q
  refine ⟨c, ρ, _, st, f, fun v H1 d A1 r1 p1 => ⟨c, ρ, _, A1.st, p1, fun lo' H2 A2 p2 => ⟨c, ρ, _, A2.st, p2, fun hi' H3 A3 p3 => ?_⟩⟩⟩
  have A := (A1.trans A2).trans A3
  have r := (r1.mono A2.sm).mono A3.sm
  have o : Out X.K (Ow c σ ρ) H3 P Q := fun v H' d e rv p => k v H' d (A.trans (.grow A3.st e)) rv p
  have hO : ∀ b, Ow c σ ρ b → H3 b ≠ none := fun b => A3.st.ow_some
  cases r with
  | @tup a xs ds h r =>
    refine .inl (.inl ⟨a, xs, rfl, msk_sqT h, fun hw => ?_, fun _ p hp => o.tup hO (cutV_rp r lo' hi') p3 p hp⟩)
    refine o.ret (.tup h r) ?_
    rw [r.length] at hw
    have : P (.tup (cutL ds lo' hi')) := p3
    rwa [cutL_whole hw] at this
  | @lst a xs ds h r => exact .inl (.inr ⟨a, xs, rfl, .inl (.inl (msk_some h).2), fun p hp => o.lst hO (cutV_rp r lo' hi') p3 p hp⟩)
  | @scr a ns h => exact .inl (.inr ⟨a, _, rfl, Same.sqL same_msk h, fun p hp => o.lst hO (cutV_rp (rp_ints ns) lo' hi') p3 p hp⟩)
  | str l hl =>
    refine .inr ⟨S l, rfl, by rw [S_length]; exact hl, ?_⟩
    rw [cutS_S]
    exact o.str (Nat.le_trans (cutL_len l lo' hi') hl) p3
  | _ => exact p3.elim⟩
/-! ### new lists and dicts of one's own -/
abbrev FN := Rho → (Sl → Prop) → Prop
/-- behind an expression that makes an object at D which nothing else names -/
structure NewR (K : PySem.W.Frag) (c : Fx) (σ : St) (ρ : Rho) (H : Hp) (q : Addr) (H' : Hp) (s : Sl) : Prop where
  st : StR K (c.plus q) σ ρ H'
  sm : Same (M c σ ρ H) (M (c.plus q) σ ρ H')
  oo : ∀ b o, Ow c σ ρ b → c.tp ≠ some b → ¬ hasTk ρ b → H b = some o → H' b = some o
  nB : c.B q = none
  no : ¬ own σ ρ q
  nO : ¬ c.O q
  ow : s.own = true
  sl : ∀ m, Same (M (c.plus q) σ ρ H') m → SlR K c m H' (some (some (.ref q))) s
def nOf (K : PySem.W.Frag) (f : FN) : TE := fun σ H Q => ∃ (c : Fx) (ρ : Rho) (P : Sl → Prop), StR K c σ ρ H ∧ f ρ P ∧ ∀ q H' s, NewR K c σ ρ H q H' s → P s → Q (.ref q) H'
structure DF (K : PySem.W.Frag) (X : Cx) (e : Expr) (f : FN) : Prop where
  pe : X.K = K → PE X e (nOf K f)
theorem StR.plusOwn {c : Fx} {σ : St} {ρ : Rho} {H H' : Hp} {D : Addr} {s : Sl} (i : Nat) (n : NewR K c σ ρ H D H' s) : StR K c (σ.set i (some (.ref D))) (ρ.set i s) H' ∧ Same (M c σ ρ H) (M c (σ.set i (some (.ref D))) (ρ.set i s) H') := by
  have st := n.st
  have sub : ∀ b, Ow c (σ.set i (some (.ref D))) (ρ.set i s) b → Ow (c.plus D) σ ρ b := fun b h => ow_plus.2 (h.elim (fun z => .inl (.inl z)) fun h => (own_set b h).elim (fun z => .inr (V.ref.inj z.2).symm) fun z => .inl (.inr z))
  have sm : Same (M (c.plus D) σ ρ H') (M c (σ.set i (some (.ref D))) (ρ.set i s) H') := msk_le sub
  refine ⟨⟨by rw [List.length_set, List.length_set, st.len], fun j u hj => ?_, fun j l u t b h1 h2 h3 h4 h5 h6 => ?_, st.base, fun b h => st.dom b (.inl h), fun t ht => ?_, st.tpB⟩, n.sm.trans sm⟩
  · by_cases e : i = j
    · subst e
      rw [List.getElem?_set] at hj
      simp only [if_true] at hj
      split at hj
      · rename_i hi
        cases hj
        rw [List.getElem?_set_self (by rw [← st.len]; exact hi)]
        exact n.sl _ sm
      · cases hj
    · rw [List.getElem?_set_ne e] at hj ⊢
      exact (st.slot j u hj).mono (c := c.plus D) sm fun b o _ z => z
  · have old : ∀ (l : Nat) (u : Sl), i ≠ l → (ρ.set i s)[l]? = some u → u.own = true → (σ.set i (some (V.ref D)))[l]? = some (some (.ref D)) → False := fun l u ne e1 e2 e3 => by
      rw [List.getElem?_set_ne ne] at e1 e3
      exact n.no ⟨l, u, e1, e2, e3⟩
    have at_i : ∀ (l : Nat), i = l → (σ.set i (some (V.ref D)))[l]? = some (some (.ref b)) → b = D := fun l e h => by
      subst e
      rw [List.getElem?_set] at h
      simp only [if_true] at h
      split at h
      · cases h; rfl
      · cases h
    by_cases n1 : i = j
    · have := at_i j n1 h5
      subst this
      by_cases n2 : i = l
      · exact n1.symm.trans n2
      · exact (old l t n2 h2 h4 h6).elim
    · by_cases n2 : i = l
      · have := at_i l n2 h6
        subst this
        exact (old j u n1 h1 h3 h5).elim
      · rw [List.getElem?_set_ne n1] at h1 h5
        rw [List.getElem?_set_ne n2] at h2 h6
        exact st.inj j l u t b h1 h2 h3 h4 h5 h6
  · obtain ⟨h1, n, o, h2, h3⟩ := st.tape t ht
    refine ⟨h1.resolve_right fun z => ?_, n, o, h2, TapeI.mono sm h3⟩
    subst z
    exact st.tpB t ht n.nB
/-- a list that was just laid -/
theorem NewR.lst {c : Fx} {σ : St} {ρ : Rho} {H H1 : Hp} (A : Aft K c σ ρ H H1) {q : Addr} (hD : H1 q = none) {vs : List V} {ds : List D} (r : RpAll K (M c σ ρ H1) vs ds) : NewR K c σ ρ H q (upd H1 q (.lst vs)) (.ol ds) := by
  obtain ⟨sp, smp⟩ := A.st.plus (o := .lst vs) hD
  exact ⟨sp, A.sm.trans smp, fun b o h1 h2 h3 e => same_new hD b o (A.oo b o h1 h2 h3 e), A.st.freshB hD, fun z => A.st.own_some z hD, fun z => A.st.dom q z hD, rfl, fun m em => ⟨q, vs, rfl, upd_same, (r.mono smp).mono em, A.st.freshB hD⟩⟩
theorem NewR.dic {c : Fx} {σ : St} {ρ : Rho} {H H1 : Hp} (A : Aft K c σ ρ H H1) {q : Addr} (hD : H1 q = none) {kvs : List (Key × V)} {ks : List DK} {ds : List D} (hk : kvs.map (·.1) = ks.map dkey) (hz : KeysOk ks) (r : RpAll K (M c σ ρ H1) (kvs.map (·.2)) ds) : NewR K c σ ρ H q (upd H1 q (.dK kvs)) (.od ks ds) := by
  obtain ⟨sp, smp⟩ := A.st.plus (o := .dK kvs) hD
  exact ⟨sp, A.sm.trans smp, fun b o h1 h2 h3 e => same_new hD b o (A.oo b o h1 h2 h3 e), A.st.freshB hD, fun z => A.st.own_some z hD, fun z => A.st.dom q z hD, rfl, fun m em => ⟨q, kvs, rfl, upd_same, hk, hz, (r.mono smp).mono em, A.st.freshB hD⟩⟩
theorem df_lst {es : List Expr} {fs : FA} {x1} (h : DA K X es fs) : DF K X (.List es x1) (fun ρ P => fs ρ fun ds => ds.length ≤ sizeLine ∧ P (.ol ds)) := ⟨fun hK => pe_imp (pe_lst (h.pa hK)) fun σ H Q q => by
  obtain ⟨c, ρ, P, st, f, k⟩ := q
  refine ⟨c, ρ, _, st, f, fun vs H1 ds A1 r p => ⟨by rw [r.length]; exact p.1, fun a ha => k a _ _ (.lst A1 ha r) p.2⟩⟩⟩
theorem df_lc {tg elt iter : Expr} {ifs : List Expr} {scope : Scope} {fi : FA} {fg : FG} {tt : FT} {te : FE} {ws : List Nat} (hc : X.calm = true) (hN : X.N.Nodup) (hi : DI K X tg iter fi) (own : List (Str × Nat)) (ok : blkC X.N X.env.scope scope own = true) (hw : ∀ i ∈ ws, i ∈ own.map (·.2))
    (hg : AllB X scope fun X' => DG K X' tg ws fg) (ht : AllB X scope fun X' => DTs K X' ifs tt) (he : AllB X scope fun X' => DE K X' elt te) (hs : ∀ x, foldedSetIterable iter X.env x = pure x := by intro _; rfl) :
    DF K X (.ListComp elt [⟨tg, iter, ifs, 0⟩] scope pos) (fun ρ P => fLc fi fg tt te (own.map (·.2)) ρ fun es => P (.ol es)) := ⟨fun hK => by
  refine pe_imp (pe_lc hc hN (hi.pi hK) (blkOk_by ok) (fun s H C cl fp => (hg s H C cl fp).pg hK) (fun s H C cl fp => (ht s H C cl fp).pt hK) (fun s H C cl fp => (he s H C cl fp).pe hK) hs) fun σ H Q q => ?_
  obtain ⟨c, ρ, P, st, f, k⟩ := q
  refine e_lc hw st f fun D H1 H' es acc A hD hacc racc s2 sm2 oo p => ?_
  exact k D H' (.ol es) ⟨s2, A.sm.trans sm2, fun b o h1 h2 h3 e => oo b o h1 h2 h3 (A.oo b o h1 h2 h3 e), A.st.freshB hD, fun z => A.st.own_some z hD, fun z => A.st.dom D z hD, rfl, fun m em => ⟨D, acc, rfl, hacc, racc.mono em, A.st.freshB hD⟩⟩ p⟩
/-- a new object goes into a slot -/
theorem ds_setOwn {x : Str} {pos' : Pos} {f : FN} (i : Nat) (hN : X.N.Nodup) (he : DF K X e f) (hi : X.N[i]? = some x := by rfl) (hx : Loc X.env.scope x := by first | exact Or.inl rfl | exact Or.inr rfl) (hs : swapsWith e (some (.Name x pos')) pos.line X.env = pure false := by rfl)
    (hf : X.fn x = true ∨ X.env.scope.names.lookup x = some .local := by first | exact .inl rfl | exact .inr rfl) : DS K X (.Assign [.Name x pos'] e pos) (fun E ρ => f ρ fun s => E.nx (ρ.set i s)) := ⟨fun hK => ps_imp (L2.ps_set hN hi hx (he.pe hK) hs hf) fun D σ H q => by
  obtain ⟨c, ρ, E, wf, s0, g, kn, kr, kb, kc⟩ := q
  refine ⟨c, ρ, _, s0, g, fun D H' s n p => ?_⟩
  obtain ⟨s1, sm⟩ := StR.plusOwn i n
  exact kn _ _ H' s1 sm p⟩
/-- name = [..] on one line -/
theorem ds_setLc {y : Str} {py : Pos} {tg elt iter : Expr} {ifs : List Expr} {scope : Scope} {fi : FA} {fg : FG} {tt : FT} {te : FE} {ws : List Nat} {cpos : Pos} (i : Nat) (hc : X.calm = true) (hN : X.N.Nodup) (hi : DI K X tg iter fi) (own : List (Str × Nat)) (ok : blkC X.N X.env.scope scope own = true) (hw : ∀ i ∈ ws, i ∈ own.map (·.2))
    (hg : AllB X scope fun X' => DG K X' tg ws fg) (ht : AllB X scope fun X' => DTs K X' ifs tt) (he : AllB X scope fun X' => DE K X' elt te)
    (hsw : swapsWith (.ListComp elt [⟨tg, iter, ifs, 0⟩] scope cpos) (some (.Name y py)) pos.line X.env = pure true) (hy : X.N[i]? = some y := by rfl) (hyl : X.env.scope.names.lookup y = some .local := by rfl) (hs : ∀ x, foldedSetIterable iter X.env x = pure x := by intro _; rfl) :
    DS K X (.Assign [.Name y py] (.ListComp elt [⟨tg, iter, ifs, 0⟩] scope cpos) pos) (fun E ρ => fLc fi fg tt te (own.map (·.2)) ρ fun es => E.nx (ρ.set i (.sh (.lst es)))) := ⟨fun hK => by
  refine ps_imp (L2.ps_setLc hc hN hy hyl hsw (hi.pi hK) (blkOk_by ok) (fun s H C cl fp => (hg s H C cl fp).pg hK) (fun s H C cl fp => (ht s H C cl fp).pt hK) (fun s H C cl fp => (he s H C cl fp).pe hK) hs) fun D σ H q => ?_
  obtain ⟨c, ρ, E, wf, s0, g, kn, kr, kb, kc⟩ := q
  refine e_lc hw s0 g fun D H1 H' es acc A hD hacc racc s2 sm2 oo p => ?_
  obtain ⟨s3, sm3⟩ := s2.unplus (A.st.freshB hD)
  have rD : Rp K (M c σ ρ H') (.ref D) (.lst es) := .lst (by
    show msk _ _ _ = _
    rw [msk_of, hacc]
    exact fun z => A.st.ow_some z hD) (racc.mono sm3)
  obtain ⟨s4, sm4⟩ := s3.setSh i rD
  exact kn _ _ H' s4 ((A.sm.trans (sm2.trans sm3)).trans sm4) p⟩
theorem ds_setLcOwn {y : Str} {py : Pos} {tg elt iter : Expr} {ifs : List Expr} {scope : Scope} {fi : FA} {fg : FG} {tt : FT} {te : FE} {ws : List Nat} {cpos : Pos} (i : Nat) (hc : X.calm = true) (hN : X.N.Nodup) (hi : DI K X tg iter fi) (own : List (Str × Nat)) (ok : blkC X.N X.env.scope scope own = true) (hw : ∀ i ∈ ws, i ∈ own.map (·.2))
    (hg : AllB X scope fun X' => DG K X' tg ws fg) (ht : AllB X scope fun X' => DTs K X' ifs tt) (he : AllB X scope fun X' => DE K X' elt te)
    (hsw : swapsWith (.ListComp elt [⟨tg, iter, ifs, 0⟩] scope cpos) (some (.Name y py)) pos.line X.env = pure true) (hy : X.N[i]? = some y := by rfl) (hyl : X.env.scope.names.lookup y = some .local := by rfl) (hs : ∀ x, foldedSetIterable iter X.env x = pure x := by intro _; rfl) :
    DS K X (.Assign [.Name y py] (.ListComp elt [⟨tg, iter, ifs, 0⟩] scope cpos) pos) (fun E ρ => fLc fi fg tt te (own.map (·.2)) ρ fun es => E.nx (ρ.set i (.ol es))) := ⟨fun hK => by
  refine ps_imp (L2.ps_setLc hc hN hy hyl hsw (hi.pi hK) (blkOk_by ok) (fun s H C cl fp => (hg s H C cl fp).pg hK) (fun s H C cl fp => (ht s H C cl fp).pt hK) (fun s H C cl fp => (he s H C cl fp).pe hK) hs) fun D σ H q => ?_
  obtain ⟨c, ρ, E, wf, s0, g, kn, kr, kb, kc⟩ := q
  refine e_lc hw s0 g fun D H1 H' es acc A hD hacc racc s2 sm2 oo p => ?_
  obtain ⟨s4, sm4⟩ := StR.plusOwn i (H := H) (s := .ol es) (H' := H') ⟨s2, A.sm.trans sm2, fun b o h1 h2 h3 e => oo b o h1 h2 h3 (A.oo b o h1 h2 h3 e), A.st.freshB hD, fun z => A.st.own_some z hD, fun z => A.st.dom D z hD, rfl, fun m em => ⟨D, acc, rfl, hacc, racc.mono em, A.st.freshB hD⟩⟩
  exact kn _ _ H' s4 sm4 p⟩
/-- what one owned is shared from here on -/
def frzR (ρ : Rho) (i : Nat) : Rho := match ρ[i]? with
  | some (.ol ds) => ρ.set i (.sh (.lst ds))
  | some (.od ks ds) => ρ.set i (.sh (.dic ks ds))
  | _ => ρ
theorem StR.frz {c : Fx} {σ : St} {ρ : Rho} {H : Hp} (st : StR K c σ ρ H) (wf : ∀ b, c.O b → c.B b ≠ none) (i : Nat) : StR K c σ (frzR ρ i) H ∧ Same (M c σ ρ H) (M c σ (frzR ρ i) H) := by
  have main : ∀ (a : Addr) (d : D) (s : Sl), ρ[i]? = some s → s.own = true → σ[i]? = some (some (.ref a)) → c.B a = none → (∀ m, Same (M c σ ρ H) m → m a = H a → Rp K m (.ref a) d) → StR K c σ (ρ.set i (.sh d)) H ∧ Same (M c σ ρ H) (M c σ (ρ.set i (.sh d)) H) := by
    intro a d s hi hs hv hB hr
    have hiL : i < ρ.length := (List.getElem?_eq_some_iff.mp hi).1
    have out : ∀ (j : Nat) (u : Sl), (ρ.set i (.sh d))[j]? = some u → u.own = true → i ≠ j ∧ ρ[j]? = some u := fun j u h1 h2 => by
      by_cases e : i = j
      · subst e; rw [List.getElem?_set_self hiL] at h1; cases h1; cases h2
      · rw [List.getElem?_set_ne e] at h1; exact ⟨e, h1⟩
    have sub : ∀ b, Ow c σ (ρ.set i (.sh d)) b → Ow c σ ρ b := fun b h => h.imp id fun ⟨j, u, h1, h2, h3⟩ => ⟨j, u, (out j u h1 h2).2, h2, h3⟩
    have na : ¬ Ow c σ (ρ.set i (.sh d)) a := fun h => h.elim (fun z => wf a z hB) fun ⟨j, u, h1, h2, h3⟩ => by
      obtain ⟨n1, h1⟩ := out j u h1 h2
      exact n1 (st.inj i j s u a hi h1 hs h2 hv h3)
    have sm : Same (M c σ ρ H) (M c σ (ρ.set i (.sh d)) H) := msk_le sub
    refine ⟨⟨by rw [List.length_set, st.len], fun j u hj => ?_, fun j l u t b h1 h2 h3 h4 h5 h6 => st.inj j l u t b (out j u h1 h3).2 (out l t h2 h4).2 h3 h4 h5 h6, st.base, st.dom, fun t ht => ?_, st.tpB⟩, sm⟩
    · by_cases e : i = j
      · subst e
        rw [List.getElem?_set_self hiL] at hj
        cases hj
        exact ⟨.ref a, hv, hr _ sm (msk_of na)⟩
      · rw [List.getElem?_set_ne e] at hj
        exact (st.slot j u hj).mono sm fun b o _ z => z
    · obtain ⟨h1, n, o, h2, h3⟩ := st.tape t ht
      exact ⟨h1, n, o, h2, TapeI.mono sm h3⟩
  unfold frzR
  split
  · rename_i ds hi
    obtain ⟨a, xs, h1, h2, h3, h4⟩ := st.slot i _ hi
    exact main a (.lst ds) _ hi rfl h1 h4 fun m sm ea => .lst (ea.trans h2) (h3.mono sm)
  · rename_i ks ds hi
    obtain ⟨a, xs, h1, h2, h3, hz, h4, h5⟩ := st.slot i _ hi
    exact main a (.dic ks ds) _ hi rfl h1 h5 fun m sm ea => .dic (.inl (ea.trans h2)) h3 hz (h4.mono sm)
  · exact ⟨st, Same.refl _⟩
theorem dss_frz {sts : List Stmt} {g : FS} (i : Nat) (h : DSs K X sts g) : DSs K X sts (fun E ρ => g E (frzR ρ i)) := ⟨fun hK => pss_imp (h.ps hK) fun D σ H q => by
  obtain ⟨c, ρ, E, wf, s0, g, kn, kr, kb, kc⟩ := q
  obtain ⟨s1, sm⟩ := s0.frz wf i
  exact ⟨c, _, E, wf, s1, g, fun σ' ρ' H' s' sm' q => kn σ' ρ' H' s' (sm.trans sm') q, kr, fun σ' ρ' H' s' sm' q => kb σ' ρ' H' s' (sm.trans sm') q, fun σ' ρ' H' s' sm' q => kc σ' ρ' H' s' (sm.trans sm') q⟩⟩
/-! ### changes of what one owns -/
variable {x : Str} {p apos cpos p2 : Pos}
def olAt : Option Sl → (List D → Prop) → Prop
  | some (.ol ds), P => P ds
  | _, _ => False
def odAt : Option Sl → (List DK → List D → Prop) → Prop
  | some (.od ks ds), P => P ks ds
  | _, _ => False
theorem StR.ol {c : Fx} {σ : St} {ρ : Rho} {H : Hp} (st : StR K c σ ρ H) {i : Nat} {P : List D → Prop} (q : olAt ρ[i]? P) : ∃ a xs ds, ρ[i]? = some (.ol ds) ∧ σ[i]? = some (some (.ref a)) ∧ H a = some (.lst xs) ∧ RpAll K (M c σ ρ H) xs ds ∧ c.B a = none ∧ P ds := by
  cases e : ρ[i]? with
  | none => rw [e] at q; exact q.elim
  | some s =>
    rw [e] at q
    cases s with
    | ol ds =>
      obtain ⟨a, xs, h1, h2, h3, h4⟩ := st.slot i _ e
      exact ⟨a, xs, ds, rfl, h1, h2, h3, h4, q⟩
    | _ => exact q.elim
theorem StR.od {c : Fx} {σ : St} {ρ : Rho} {H : Hp} (st : StR K c σ ρ H) {i : Nat} {P : List DK → List D → Prop} (q : odAt ρ[i]? P) : ∃ a kvs ks ds, ρ[i]? = some (.od ks ds) ∧ σ[i]? = some (some (.ref a)) ∧ H a = some (.dK kvs) ∧ kvs.map (·.1) = ks.map dkey ∧ KeysOk ks ∧ RpAll K (M c σ ρ H) (kvs.map (·.2)) ds ∧ c.B a = none ∧ P ks ds := by
  cases e : ρ[i]? with
  | none => rw [e] at q; exact q.elim
  | some s =>
    rw [e] at q
    cases s with
    | od ks ds =>
      obtain ⟨a, kvs, h1, h2, h3, hz, h4, h5⟩ := st.slot i _ e
      exact ⟨a, kvs, ks, ds, rfl, h1, h2, h3, hz, h4, h5, q⟩
    | _ => exact q.elim
theorem StR.setOl {c : Fx} {σ : St} {ρ : Rho} {H : Hp} (st : StR K c σ ρ H) {i : Nat} {a : Addr} {ds ds' : List D} {xs xs' : List V} (hi : ρ[i]? = some (.ol ds)) (hv : σ[i]? = some (some (.ref a))) (hB : c.B a = none) (r : RpAll K (M c σ ρ H) xs' ds') :
    StR K c σ (ρ.set i (.ol ds')) (upd H a (.lst xs')) ∧ Same (M c σ ρ H) (M c σ (ρ.set i (.ol ds')) (upd H a (.lst xs'))) :=
  st.change i hi rfl rfl hv (fun t n z => by cases z) fun m sm => ⟨a, xs', rfl, upd_same, r.mono sm, hB⟩
end
end DL
namespace DL
open PySem PySem.Spec PyProof PyProof.Rows L2
set_option maxRecDepth 8000 in
theorem list_extend_tup (l : Addr) (items : Array Value) (n : Nat) (b : Addr) (dd : Option Addr) (sl : Array (Option Value)) (items2 : Array Value) (n2 : Nat) (hs0 : ¬(!items.isEmpty && Builtin.List.listTooLong (items.size + items2.size)) = true) (hs1 : items.size ≤ sizeLine) (hs2 : items.size + items2.size ≤ sizeLine + 1) :
    Meets (Builtin.«list.extend» ⟨[.ref l, .ref b], []⟩) (fun _ R s => s.heap.get? l = some { cls := .type "list", dict := none, data := .seq items n, slots := #[] } ∧ s.heap.get? b = some { cls := .type "tuple", dict := dd, data := .seq items2 n2, slots := sl } ∧ R (.ok (.ret Value.none)) { s with heap := s.heap.update l (Obj.mapSeq fun x => x ++ items2), toks := s.toks }) :=
  .of_wp fun prog w A R s h => by
    obtain ⟨hp, g, d, tk, os⟩ := s; obtain ⟨hl, hb, h⟩ := h; have f1 := PySem.AutoSeq1.idx_int; have f2 := PySem.AutoSeq1.sub_tuple_tuple; have f3 := PySem.AutoSeq1.sub_list_list; have f4 := PySem.AutoSeq1.sub_tuple_list; have f5 := PySem.AutoSeq1.sub_list_tuple
    have hz : (items ++ items2).size ≤ sizeLine + 1 := by rw [Array.size_append]; exact hs2
    wp_walk using (wpAny_updateSeq hl rfl (hz := hs1) (_hz' := hz)), PySem.AutoSeq1.wpAny_loadPart' hl, PySem.AutoSeq1.wpAny_loadPart' hb
    exact ⟨_, rfl, h⟩
/-- list.extend by a tuple -/
def rExtT (K : PySem.W.Frag) : V → List V → Hp → VK → Prop := fun x vs H Q => ∃ l b xs zs, x = .ref l ∧ vs = [.ref b] ∧ H l = some (.lst xs) ∧ SqT K H b zs ∧ xs.length + zs.length ≤ sizeLine ∧ Q .non (upd H l (.lst (xs ++ zs)))
theorem mt_extT {X : Cx} : MtR X "list.extend" (rExtT X.K) := by
  intro pins s σ H x vs v us Q I rx rv h
  obtain ⟨l, b, xs, zs, rfl, rfl, hH, hB, hz, q⟩ := h
  cases rx
  obtain ⟨u, rfl, ru⟩ := rv.one
  cases ru
  obtain ⟨z, its, n, r, hl, e⟩ := I.lstM hH
  obtain ⟨its2, r2, ⟨⟨oc, od, dt, os⟩, e2, hc, n2, hd⟩, z2⟩ := I.tuple hB
  cases hc
  cases hd
  have hl2 := r2.length
  have fit : its.toArray.size + its2.toArray.size ≤ sizeLine := by rw [List.size_toArray, List.size_toArray]; omega
  have short : ¬ (!its.toArray.isEmpty && Builtin.List.listTooLong (its.toArray.size + its2.toArray.size)) = true := by
    rw [notLongL fit, Bool.and_false]
    decide
  refine call_meets F.slot_list_extend ⟨_, e, rfl⟩ F.entry_list_extend (F.args_list_extend_2 _ _)
    (list_extend_tup l its.toArray n b od os its2.toArray n2 short (by rw [List.size_toArray]; omega) (by omega)) ⟨e, e2, ?_⟩
  exact ⟨.non, _, I.lset (its' := its ++ its2) hH e (by simp) (r.append r2) (by rw [List.length_append]; omega), rfl, q⟩
def rExt2 (K : PySem.W.Frag) : V → List V → Hp → VK → Prop := fun x vs H Q => rExtend x vs H Q ∨ rExtT K x vs H Q
theorem mt_ext2 {X : Cx} : MtR X "list.extend" (rExt2 X.K) := MtR.or mt_extend mt_extT
end DL
/-! The layer DL: changes of what one owns; what one owns is read. -/
namespace DL
open PySem PySem.Spec PyProof.Rows L2
section
variable [TapeI] {K : PySem.W.Frag} {X : Cx} {pos : Pos} {e : Expr} {fa : FE}
/-! ### expressions that change the slots -/
abbrev FM := Rho → (D → Rho → Prop) → Prop
/-- behind an expression that changes what one owns: the names stand, the slots say what is there now -/
structure AftM (K : PySem.W.Frag) (c : Fx) (σ : St) (ρ : Rho) (H : Hp) (ρ' : Rho) (H' : Hp) : Prop where
  st : StR K c σ ρ' H'
  sm : Same (M c σ ρ H) (M c σ ρ' H')
  eo : own σ ρ' = own σ ρ
  oo : ∀ b o, c.O b → ¬ own σ ρ b → c.tp ≠ some b → H b = some o → H' b = some o
theorem StR.tkOwn {c : Fx} {σ : St} {ρ : Rho} {H : Hp} (st : StR K c σ ρ H) {b : Addr} (h : hasTk ρ b) : own σ ρ b := by
  obtain ⟨n, h⟩ := h
  obtain ⟨i, hi⟩ := List.getElem?_of_mem h
  exact ⟨i, _, hi, rfl, (st.slot i _ hi).1⟩
theorem AftM.of {c : Fx} {σ : St} {ρ : Rho} {H H' : Hp} (s0 : StR K c σ ρ H) (A : Aft K c σ ρ H H') : AftM K c σ ρ H ρ H' := ⟨A.st, A.sm, rfl, fun b o h1 h2 h3 e => A.oo b o (.inl h1) h3 (fun z => h2 (s0.tkOwn z)) e⟩
theorem AftM.trans {c : Fx} {σ : St} {ρ ρ1 ρ2 : Rho} {H H1 H2 : Hp} (A : AftM K c σ ρ H ρ1 H1) (B : AftM K c σ ρ1 H1 ρ2 H2) : AftM K c σ ρ H ρ2 H2 := ⟨B.st, A.sm.trans B.sm, B.eo.trans A.eo, fun b o h1 h2 h3 e => B.oo b o h1 (by rw [A.eo]; exact h2) h3 (A.oo b o h1 h2 h3 e)⟩
theorem own_swap {σ : St} {ρ : Rho} {i : Nat} {s s' : Sl} (hi : ρ[i]? = some s) (hs : s.own = true) (hs' : s'.own = true) : own σ (ρ.set i s') = own σ ρ := funext fun b => propext ⟨fun ⟨j, u, h1, h2, h3⟩ => by
    by_cases e : i = j
    · subst e; exact ⟨i, _, hi, hs, h3⟩
    · rw [List.getElem?_set_ne e] at h1; exact ⟨j, u, h1, h2, h3⟩, fun ⟨j, u, h1, h2, h3⟩ => by
    by_cases e : i = j
    · subst e; exact ⟨i, s', by rw [List.getElem?_set_self (List.getElem?_eq_some_iff.mp hi).1], hs', h3⟩
    · exact ⟨j, u, by rw [List.getElem?_set_ne e]; exact h1, h2, h3⟩⟩
def mOf (K : PySem.W.Frag) (f : FM) : TE := fun σ H Q => ∃ (c : Fx) (ρ : Rho) (P : D → Rho → Prop), StR K c σ ρ H ∧ f ρ P ∧ ∀ v H' d ρ', AftM K c σ ρ H ρ' H' → Rp K (M c σ ρ' H') v d → P d ρ' → Q v H'
structure DM (K : PySem.W.Frag) (X : Cx) (e : Expr) (f : FM) : Prop where
  pe : X.K = K → PE X e (mOf K f)
theorem ds_exprM {f : FM} (he : DM K X e f) (hs : swapsWith e none pos.line X.env = pure false := by rfl) : DS K X (.Expr e pos) (fun E ρ => f ρ fun _ ρ' => E.nx ρ') := ⟨fun hK => ps_imp (ps_expr (he.pe hK) hs) fun D σ H q => by
  obtain ⟨c, ρ, E, wf, s0, g, kn, kr, kb, kc⟩ := q
  exact ⟨c, ρ, _, s0, g, fun v H' d ρ' A _ p => kn _ _ H' A.st A.sm p⟩⟩
theorem ds_setM {x : Str} {pos' : Pos} {f : FM} (i : Nat) (hN : X.N.Nodup) (he : DM K X e f) (hi : X.N[i]? = some x := by rfl) (hx : Loc X.env.scope x := by first | exact Or.inl rfl | exact Or.inr rfl) (hs : swapsWith e (some (.Name x pos')) pos.line X.env = pure false := by rfl)
    (hf : X.fn x = true ∨ X.env.scope.names.lookup x = some .local := by first | exact .inl rfl | exact .inr rfl) : DS K X (.Assign [.Name x pos'] e pos) (fun E ρ => f ρ fun d ρ' => E.nx (ρ'.set i (.sh d))) := ⟨fun hK => ps_imp (L2.ps_set hN hi hx (he.pe hK) hs hf) fun D σ H q => by
  obtain ⟨c, ρ, E, wf, s0, g, kn, kr, kb, kc⟩ := q
  refine ⟨c, ρ, _, s0, g, fun v H' d ρ' A r p => ?_⟩
  obtain ⟨s2, sm2⟩ := A.st.setSh i r
  exact kn _ _ H' s2 (A.sm.trans sm2) p⟩
theorem ds_asgM {f : FM} {tg : Expr} {vs : List Nat} {fg : FG} (he : DM K X e f) (hg : DG K X tg vs fg) (hs : swapsWithSole [tg] e pos.line X.env = pure false := by rfl) (hw : swappedStores [tg] e X.env = pure none := by rfl)
    (h1 : (assignEach [tg] X.env).map (·.2) = [assign tg X.env] := by rfl) : DS K X (.Assign [tg] e pos) (fun E ρ => f ρ fun d ρ' => fg d ρ' E.nx) := ⟨fun hK => ps_imp (ps_asg (he.pe hK) (hg.pg hK) hs hw h1) fun D σ H q => by
  obtain ⟨c, ρ, E, wf, s0, g, kn, kr, kb, kc⟩ := q
  exact ⟨c, ρ, _, s0, g, fun v H' d ρ' A r p => ⟨c, ρ', d, _, A.st, r, p, fun σ2 ρ2 s2 sm2 _ q => kn σ2 ρ2 H' s2 (A.sm.trans sm2) q⟩⟩⟩
/-! ### methods of a list of one's own -/
variable {x : Str} {p apos cpos p2 : Pos}
abbrev GM := List D → List D → (D → List D → Prop) → Prop
/-- what a method of lists owes, by values -/
def MOk (K : PySem.W.Frag) (r : V → List V → Hp → VK → Prop) (g : GM) : Prop := ∀ (m H : Hp) (a : Addr) (xs ys : List V) (ds es : List D) (P : D → List D → Prop) (Q : VK), H a = some (.lst xs) → (∀ b o, m b = some o → H b = some o) → RpAll K m xs ds → RpAll K m ys es → g ds es P →
  (∀ v xs' d ds', Rp K m v d → RpAll K m xs' ds' → P d ds' → Q v (upd H a (.lst xs'))) → r (.ref a) ys H Q
theorem e_bmOl {r : V → List V → Hp → VK → Prop} {g : GM} {fs : FA} (i : Nat) (hr : MOk K r g) (σ : St) (H : Hp) (Q : VK) (q : mOf K (fun ρ P => olAt ρ[i]? fun ds => fs ρ fun es => g ds es fun d ds' => P d (ρ.set i (.ol ds'))) σ H Q) : tBM K "list" r (tVar i) (aOf K fs) σ H Q := by
  obtain ⟨c, ρ, P, st, f, k⟩ := q
  obtain ⟨a, xs, ds, h1, h2, h3, h4, h5, f⟩ := st.ol f
  refine ⟨.ref a, h2, .inl ⟨rfl, xs, .inl (.inl h3)⟩, c, ρ, _, st, f, fun ys H1 es A r1 p => ?_⟩
  obtain ⟨a', xs1, e1, e2, e3, e4⟩ := A.st.slot i _ h1
  rw [h2] at e1
  cases e1
  refine hr (M c σ ρ H1) H1 a xs1 ys ds es _ Q e2 (fun b o z => (msk_some z).2) e3 r1 p fun v xs' d ds' rv rx p2 => ?_
  obtain ⟨s2, sm2⟩ := A.st.setOl (xs := []) h1 h2 h5 rx
  exact k v _ d _ ((AftM.of st A).trans ⟨s2, sm2, own_swap h1 rfl rfl, fun b o z1 z2 _ e => by rw [upd_ne (fun z : b = a => by subst z; exact z2 ⟨i, _, h1, rfl, h2⟩)]; exact e⟩) (rv.mono sm2) p2
theorem dm_bm {name : Str} {id : String} {r : V → List V → Hp → VK → Prop} {g : GM} {es : List Expr} {fs : FA} (i : Nat) (slot : Slot "list" name id) (hty : typeOf (.builtin id) = pure (.type "method_descriptor")) (hm : MtR X id r) (hr : MOk K r g) (ha : DA K X (e :: es) fs)
    (hN : X.N[i]? = some x := by rfl) (hv : Vis X.env.scope x := by first | exact Or.inl rfl | exact Or.inr (Or.inl rfl) | exact Or.inr (Or.inr rfl))
    (hd1 : (x == ("__debug__" : Str)) = false := by decide) (hcd : (x == ("__classdict__" : Str)) = false := by decide)
    (hbase : attributeBase (.Name x p) name X.env (eval (.Name x p) X.env) = eval (.Name x p) X.env := by rfl)
    (hfew : ((backTo cpos (starEach (e :: es) X.env)).all (fun x => !x.1) && (backToKw cpos (keywordEach [] X.env)).all (fun x => x.1.isSome) && decide ((e :: es).length + ([] : List Keyword).length + (if ([] : List Keyword).isEmpty then 0 else 1) < 30)) = true := by rfl)
    (hline : (apos.endLine == cpos.line) = true := by rfl) (hs : starEach (e :: es) X.env = (false, eval e X.env) :: starEach es X.env := by rfl) (hplain : (backTo cpos (starEach es X.env)).any (·.1) = false := by rfl) :
    DM K X (.Call (.Attribute (.Name x p) name apos) (e :: es) [] cpos) (fun ρ P => olAt ρ[i]? fun ds => fs ρ fun es => g ds es fun d ds' => P d (ρ.set i (.ol ds'))) := ⟨fun hK => by
  subst hK
  exact pe_imp (pe_bm PySem.F.plainAttrs_list slot hty hm (pe_var hN hv hd1 hcd) (ha.pa rfl) hbase hfew hline hs hplain) (e_bmOl i hr)⟩
theorem dm_bm0 {name : Str} {id : String} {r : V → List V → Hp → VK → Prop} {g : GM} (i : Nat) (slot : Slot "list" name id) (hty : typeOf (.builtin id) = pure (.type "method_descriptor")) (hm : MtR X id r) (hr : MOk K r g)
    (hN : X.N[i]? = some x := by rfl) (hv : Vis X.env.scope x := by first | exact Or.inl rfl | exact Or.inr (Or.inl rfl) | exact Or.inr (Or.inr rfl))
    (hd1 : (x == ("__debug__" : Str)) = false := by decide) (hcd : (x == ("__classdict__" : Str)) = false := by decide)
    (hbase : attributeBase (.Name x p) name X.env (eval (.Name x p) X.env) = eval (.Name x p) X.env := by rfl) (hline : (apos.endLine == cpos.line) = true := by rfl) :
    DM K X (.Call (.Attribute (.Name x p) name apos) [] [] cpos) (fun ρ P => olAt ρ[i]? fun ds => g ds [] fun d ds' => P d (ρ.set i (.ol ds'))) := ⟨fun hK => by
  subst hK
  refine pe_imp (pe_bm0 PySem.F.plainAttrs_list slot hty hm (pe_var hN hv hd1 hcd) hbase hline) fun σ H Q q => ?_
  obtain ⟨c, ρ, P, st, f, k⟩ := q
  obtain ⟨a, xs, ds, h1, h2, h3, h4, h5, f⟩ := st.ol f
  refine ⟨.ref a, h2, .inl ⟨rfl, xs, .inl (.inl h3)⟩, ?_⟩
  refine hr (M c σ ρ H) H a xs [] ds [] _ Q h3 (fun b o z => (msk_some z).2) h4 .nil f fun v xs' d ds' rv rx p2 => ?_
  obtain ⟨s2, sm2⟩ := st.setOl (xs := []) h1 h2 h5 rx
  exact k v _ d _ ⟨s2, sm2, own_swap h1 rfl rfl, fun b o z1 z2 _ e => by rw [upd_ne (fun z : b = a => by subst z; exact z2 ⟨i, _, h1, rfl, h2⟩)]; exact e⟩ (rv.mono sm2) p2⟩
def gmApp : GM := fun ds es P => match es with
  | [d] => ds.length < sizeLine ∧ P .non (ds ++ [d])
  | _ => False
theorem mok_app : MOk K rAppend gmApp := fun m H a xs ys ds es P Q h1 h2 r1 r2 f k => by
  match r2 with
  | .nil => exact f.elim
  | .cons ry .nil => exact ⟨a, xs, _, rfl, rfl, h1, by rw [r1.length]; exact f.1, k _ _ _ _ .non (r1.append (.one ry)) f.2⟩
  | .cons _ (.cons _ _) => exact f.elim
def gmExt : GM := fun ds es P => match es with
  | [.lst es] => ds.length + es.length ≤ sizeLine ∧ P .non (ds ++ es)
  | [.tup es] => ds.length + es.length ≤ sizeLine ∧ P .non (ds ++ es)
  | _ => False
theorem mok_ext : MOk K (rExt2 K) gmExt := fun m H a xs ys ds es P Q h1 h2 r1 r2 f k => by
  cases r2 with
  | nil => exact f.elim
  | @cons v vs d ds' r0 rr =>
    cases rr with
    | cons _ _ => cases d <;> exact f.elim
    | nil =>
      cases r0 with
      | lst hb rb => exact .inl ⟨a, _, xs, _, rfl, rfl, h1, h2 _ _ hb, by rw [r1.length, rb.length]; exact f.1, k _ _ _ _ .non (r1.append rb) f.2⟩
      | tup hb rb => exact .inr ⟨a, _, xs, _, rfl, rfl, h1, Same.sqT h2 hb, by rw [r1.length, rb.length]; exact f.1, k _ _ _ _ .non (r1.append rb) f.2⟩
      | _ => exact f.elim
def gmPop : GM := fun ds es P => match es with
  | [] => ∃ d, ds[ds.length - 1]? = some d ∧ P d ds.dropLast
  | _ => False
theorem mok_pop : MOk K rPop gmPop := fun m H a xs ys ds es P Q h1 h2 r1 r2 f k => by
  match r2 with
  | .nil =>
    obtain ⟨d, e1, e2⟩ := f
    obtain ⟨y, e3, e4⟩ := r1.get e1
    exact ⟨a, xs, y, rfl, rfl, h1, by rw [r1.length]; exact e3, k _ _ _ _ e4 r1.dropLast e2⟩
  | .cons _ _ => exact f.elim
theorem RpAll.eraseIdx {H : Hp} : ∀ {vs : List V} {ds : List D} (i : Nat), RpAll K H vs ds → RpAll K H (vs.eraseIdx i) (ds.eraseIdx i)
  | _, _, _, .nil => .nil
  | _, _, 0, .cons _ t => t
  | _, _, i + 1, .cons q t => .cons q (RpAll.eraseIdx i t)
def gmPopAt : GM := fun ds es P => match es with
  | [.int i] => -(2 ^ 63) ≤ i ∧ i < 2 ^ 63 ∧ ∃ k d, seqIndex? i ds.length = some k ∧ ds[k]? = some d ∧ P d (ds.eraseIdx k)
  | _ => False
theorem mok_popAt : MOk K rPopAt gmPopAt := fun m H a xs ys ds es P Q h1 h2 r1 r2 f k => by
  match r2 with
  | .nil => exact f.elim
  | .cons (d := .int i) (.int _) .nil =>
    obtain ⟨b1, b2, j, d, e1, e2, e3⟩ := f
    obtain ⟨y, e4, e5⟩ := r1.get e2
    exact ⟨a, xs, i, j, y, rfl, rfl, h1, b1, b2, by rw [r1.length]; exact e1, e4, k _ _ _ _ e5 (r1.eraseIdx j) e3⟩
  | .cons (d := .lst _) _ .nil => exact f.elim
  | .cons (d := .non) _ .nil => exact f.elim
  | .cons (d := .bl _) _ .nil => exact f.elim
  | .cons (d := .str _) _ .nil => exact f.elim
  | .cons (d := .tup _) _ .nil => exact f.elim
  | .cons (d := .dic _ _) _ .nil => exact f.elim
  | .cons (d := .obj _) _ .nil => exact f.elim
  | .cons (d := .ty _) _ .nil => exact f.elim
  | .cons (d := d1) _ (.cons _ _) => cases d1 <;> exact f.elim
/-! ### a dict of one's own -/
def putKs (ks : List DK) (k : DK) : List DK := if memK k ks = true then ks else ks ++ [k]
def putDs (ks : List DK) (ds : List D) (k : DK) (d : D) : List D := if memK k ks = true then (ks.zip ds).map fun p => if p.1 = k then d else p.2 else ds ++ [d]
theorem any_memK {k : DK} {kvs : List (Key × V)} {ks : List DK} (h : kvs.map (·.1) = ks.map dkey) : (kvs.any fun kv => decide (kv.1 = dkey k)) = memK k ks := by
  rw [valV_any]; exact valV_none h
theorem putK_keys {k : DK} {v : V} {kvs : List (Key × V)} {ks : List DK} (h : kvs.map (·.1) = ks.map dkey) : (putK kvs (dkey k) v).map (·.1) = (putKs ks k).map dkey := by
  unfold putK putKs
  rw [any_memK h]
  split
  · rw [← h, List.map_map]
    apply List.map_congr_left
    intro p _
    show (if p.1 = dkey k then (p.1, v) else p).1 = p.1
    split <;> rfl
  · rw [List.map_append, List.map_append, h]; rfl
theorem repl_rp {H : Hp} {k : DK} {v : V} {d : D} (rv : Rp K H v d) : ∀ {kvs : List (Key × V)} {ks : List DK} {ds : List D}, kvs.map (·.1) = ks.map dkey → RpAll K H (kvs.map (·.2)) ds →
    RpAll K H ((kvs.map fun kv => if kv.1 = dkey k then (kv.1, v) else kv).map (·.2)) ((ks.zip ds).map fun p => if p.1 = k then d else p.2)
  | [], ks, ds, _, r => by cases r; simp; exact .nil
  | p :: kvs, [], ds, h, _ => by simp at h
  | p :: kvs, k' :: ks, ds, h, r => by
    rw [List.map_cons, List.map_cons, List.cons.injEq] at h
    cases r with
    | @cons _ _ d' ds' r1 t =>
      rw [List.zip_cons_cons, List.map_cons, List.map_cons, List.map_cons]
      refine .cons ?_ (repl_rp rv h.2 t)
      by_cases e : k' = k
      · rw [if_pos (by rw [h.1, e])]
        simp only [if_pos e]
        exact rv
      · rw [if_neg (fun z => e (dkey_inj (h.1.symm.trans z)))]
        simp only [if_neg e]
        exact r1
theorem putK_rp {H : Hp} {k : DK} {v : V} {d : D} (rv : Rp K H v d) {kvs : List (Key × V)} {ks : List DK} {ds : List D} (h : kvs.map (·.1) = ks.map dkey) (r : RpAll K H (kvs.map (·.2)) ds) : RpAll K H ((putK kvs (dkey k) v).map (·.2)) (putDs ks ds k d) := by
  unfold putK putDs
  rw [any_memK h]
  split
  · exact repl_rp rv h r
  · rw [List.map_append]; exact r.append (.one rv)
theorem keysOk_put {H : Hp} {v : V} {d : D} {ks : List DK} {k : DK} (hz : KeysOk ks) (r : Rp K H v d) (hk : keyD d = some k) : KeysOk (putKs ks k) := fun l hl => by
  unfold putKs at hl
  split at hl
  · exact hz l hl
  · rcases List.mem_append.mp hl with h | h
    · exact hz l h
    · rw [List.mem_singleton] at h
      subst h
      cases r with
      | str z hz' => cases hk; exact hz'
      | _ => cases hk
theorem StR.setOd {c : Fx} {σ : St} {ρ : Rho} {H : Hp} (st : StR K c σ ρ H) {i : Nat} {a : Addr} {ks ks' : List DK} {ds ds' : List D} {kvs kvs' : List (Key × V)} (hi : ρ[i]? = some (.od ks ds)) (hv : σ[i]? = some (some (.ref a))) (hB : c.B a = none) (hk : kvs'.map (·.1) = ks'.map dkey) (hz : KeysOk ks')
    (r : RpAll K (M c σ ρ H) (kvs'.map (·.2)) ds') : StR K c σ (ρ.set i (.od ks' ds')) (upd H a (.dK kvs')) ∧ Same (M c σ ρ H) (M c σ (ρ.set i (.od ks' ds')) (upd H a (.dK kvs'))) :=
  st.change i hi rfl rfl hv (fun t n z => by cases z) fun m sm => ⟨a, kvs', rfl, upd_same, hk, hz, r.mono sm, hB⟩
def gDput (i : Nat) (fk fv : FE) : FS := fun E ρ => fv ρ fun d => odAt ρ[i]? fun ks ds => fk ρ fun y => ∃ k, keyD y = some k ∧ ks.length < sizeLine ∧ E.nx (ρ.set i (.od (putKs ks k) (putDs ks ds k d)))
theorem ds_dput {ek ev : Expr} {fk fv : FE} {pos' : Pos} (i : Nat) (hr : X.K = K → X.A.units + 64 < cLine) (hk : DE K X ek fk) (hv : DE K X ev fv) (hN : X.N[i]? = some x := by rfl) (hvis : Vis X.env.scope x := by first | exact Or.inl rfl | exact Or.inr (Or.inl rfl) | exact Or.inr (Or.inr rfl))
    (hd1 : (x == ("__debug__" : Str)) = false := by decide) (hcd : (x == ("__classdict__" : Str)) = false := by decide) (hs : swapsWith ev (some (.Subscript (.Name x p) ek pos')) pos.line X.env = pure false := by rfl) :
    DS K X (.Assign [.Subscript (.Name x p) ek pos'] ev pos) (gDput i fk fv) := ⟨fun hK => by
  have hu := hr hK
  refine ps_imp (ps_dput (by omega) (pe_var hN hvis hd1 hcd) (hk.pe hK) (hv.pe hK) hs) fun D σ H q => ?_
  obtain ⟨c, ρ, E, wf, s0, g, kn, kr, kb, kc⟩ := q
  refine ⟨c, ρ, _, s0, g, fun v H1 d A rv p => ?_⟩
  obtain ⟨a, kvs, ks, ds, h1, h2, h3, h4, hz, h5, h6, p⟩ := A.st.od p
  refine ⟨.ref a, h2, c, ρ, _, A.st, p, fun y H2 dy A2 ry ⟨k, e1, e2, p⟩ => ?_⟩
  obtain ⟨a', kvs1, q1, q2, q3, q4, q5, q6⟩ := A2.st.slot i _ h1
  rw [h2] at q1
  cases q1
  have hl : kvs1.length = ks.length := by simpa using congrArg List.length q3
  have ey := keyD_rp ry e1
  subst ey
  obtain ⟨s2, sm2⟩ := A2.st.setOd (kvs := []) h1 h2 h6 (putK_keys (v := v) q3) (keysOk_put q4 ry e1) (putK_rp (rv.mono A2.sm) q3 q5)
  exact ⟨a, _, rfl, .k q2 (by rw [hl]; exact e2), kn _ _ _ s2 ((A.sm.trans A2.sm).trans sm2) p⟩⟩
/-! ### what one owns is read: nothing of it stays in the value -/
def thawS : Sl → Sl
  | .no => .no
  | .sh d => .sh d
  | .ol ds => .sh (.lst ds)
  | .od ks ds => .sh (.dic ks ds)
  | .tk _ _ => .no
  | .ot _ d => .sh d
def thawR (ρ : Rho) : Rho := ρ.map thawS
theorem thaw_sh {ρ : Rho} : ∀ s ∈ thawR ρ, s.own = false := fun s hs => by
  obtain ⟨t, _, rfl⟩ := List.mem_map.mp hs
  cases t <;> rfl
/-- one that is a list, a dict of one's own -/
def hard (σ : St) (ρ : Rho) (b : Addr) : Prop := ∃ (i : Nat) (s : Sl), ρ[i]? = some s ∧ s.own = true ∧ (∀ t n, s ≠ .tk t n) ∧ σ[i]? = some (some (.ref b))
def thawC (c : Fx) (σ : St) (ρ : Rho) (H : Hp) : Fx := ⟨H, fun b => Ow c σ ρ b ∧ ¬ hard σ ρ b, none⟩
theorem StR.thaw {c : Fx} {σ : St} {ρ : Rho} {H : Hp} (st : StR K c σ ρ H) : StR K (thawC c σ ρ H) σ (thawR ρ) H := by
  have hM : M (thawC c σ ρ H) σ (thawR ρ) H = msk (thawC c σ ρ H).O H := M_of fun b => ⟨fun h => h.resolve_right (own_sh thaw_sh b), .inl⟩
  have sm : Same (M c σ ρ H) (msk (thawC c σ ρ H).O H) := msk_le fun b h => h.1
  have at_ : ∀ a, hard σ ρ a → msk (thawC c σ ρ H).O H a = H a := fun a h => msk_of fun z => z.2 h
  refine ⟨by rw [← st.len]; exact List.length_map _, fun i s hi => ?_, fun i j s t a h1 h2 h3 => ?_, fun b o _ h => h, fun b h => st.ow_some h.1, (fun t h => by cases h), (fun t h => by cases h)⟩
  · rw [hM]
    unfold thawR at hi
    rw [List.getElem?_map] at hi
    obtain ⟨s', e1, e2⟩ := Option.map_eq_some_iff.mp hi
    have q := st.slot i s' e1
    subst e2
    cases s' with
    | no => trivial
    | sh d => obtain ⟨x, h1, h2⟩ := q; exact ⟨x, h1, h2.mono sm⟩
    | ol ds =>
      obtain ⟨a, xs, h1, h2, h3, h4⟩ := q
      exact ⟨.ref a, h1, .lst ((at_ a ⟨i, _, e1, rfl, (fun t n z => by cases z), h1⟩).trans h2) (h3.mono sm)⟩
    | od ks ds =>
      obtain ⟨a, xs, h1, h2, h3, hz, h4, h5⟩ := q
      exact ⟨.ref a, h1, .dic (.inl ((at_ a ⟨i, _, e1, rfl, (fun t n z => by cases z), h1⟩).trans h2)) h3 hz (h4.mono sm)⟩
    | tk t n => trivial
    | ot a d =>
      obtain ⟨h1, ⟨o, h2, h3⟩, h4⟩ := q
      have ha := at_ a ⟨i, _, e1, rfl, (fun t n z => by cases z), h1⟩
      refine ⟨.ref a, h1, ?_⟩
      cases d with
      | lst ds => obtain ⟨xs, z1, z2⟩ := h3; subst z1; exact .lst (ha.trans h2) (z2.mono sm)
      | dic ks ds => obtain ⟨xs, z1, z2, z3, z4⟩ := h3; subst z1; exact .dic (.inl (ha.trans h2)) z2 z3 (z4.mono sm)
      | _ => exact h3.elim
  · rw [thaw_sh s (List.mem_of_getElem? h1)] at h3
    cases h3
theorem Aft.thaw {c : Fx} {σ : St} {ρ : Rho} {H H' : Hp} (st : StR K c σ ρ H) (A : Aft K (thawC c σ ρ H) σ (thawR ρ) H H') : Same H H' := fun b o e => by
  by_cases z : Ow (thawC c σ ρ H) σ (thawR ρ) b
  · exact A.oo b o z (fun q => by cases q) (fun ⟨_, q⟩ => by have := thaw_sh _ q; cases this) e
  · have : M (thawC c σ ρ H) σ (thawR ρ) H b = some o := by show msk _ _ _ = _; rw [msk_of z]; exact e
    exact (msk_some (A.sm b o this)).2
theorem Rp.flatTo {H H' : Hp} {v : V} {d : D} (r : Rp K H v d) (h : flatD d = true) : Rp K H' v d := by
  cases r with
  | non => exact .non
  | bl b => exact .bl b
  | int i => exact .int i
  | str l hl => exact .str l hl
  | _ => cases h
def fThaw (f : FE) : FE := fun ρ P => f (thawR ρ) fun d => flatD d = true ∧ P d
theorem de_thaw (h : DE K X e fa) : DE K X e (fThaw fa) := ⟨fun hK => pe_imp (h.pe hK) fun σ H Q q => by
  obtain ⟨c, ρ, P, st, f, k⟩ := q
  refine ⟨thawC c σ ρ H, thawR ρ, _, st.thaw, f, fun v H' d A r p => ?_⟩
  exact k v H' d (.grow st (Aft.thaw st A)) (r.flatTo p.1) p.2⟩
def ftThaw (f : FT) : FT := fun ρ P => f (thawR ρ) P
theorem dt_thaw {f : FT} (h : DT K X e f) : DT K X e (ftThaw f) := ⟨fun hK => pt_imp (h.pt hK) fun σ H Q q => by
  obtain ⟨c, ρ, P, st, f, k⟩ := q
  refine ⟨thawC c σ ρ H, thawR ρ, _, st.thaw, f, fun b H' A p => ?_⟩
  exact k b H' (.grow st (Aft.thaw st A)) p⟩
end
end DL
/-! The layer DL: what is walked; built-ins. -/
namespace L2
open PySem PySem.Spec PyProof.Rows
section
variable {X : Cx} {tg : Expr}
/-- a list, a tuple, a text, walked -/
theorem pi_seq {l : Expr} {tl : TE} (hl : PE X l tl) : PI X tg l (fun σ H R => tl σ H fun x H1 => (∃ a xs, x = .ref a ∧ SqL X.K H1 a xs ∧ R (Itl X.K a) H1) ∨ (∃ a xs, x = .ref a ∧ SqT X.K H1 a xs ∧ R (Itt X.K a) H1) ∨ ∃ z, x = .str z ∧ R (Its z) H1) := by
  refine ⟨fun pins s σ H R I h => ?_⟩
  refine thn (hl.run pins s σ H _ I h) fun v s1 ⟨x, H1, I1, r1, q1⟩ => ?_
  rcases q1 with ⟨a, xs, e, hq, q⟩ | ⟨a, xs, e, hq, q⟩ | ⟨z, e, q⟩
  · subst e
    cases r1
    obtain ⟨its, rv, p, hz⟩ := I1.list hq
    refine wpAny_pyIter_list p.isList ?_
    refine ⟨s1.heap.objs.size, [s1.heap.objs.size], _, _, H1, rfl, I1.kept (t' := s1.toks) fun b o e => Heap.get?_push_of_some _ e, turn_list a _, ⟨_, Heap.get?_push_size _ rfl, rfl, rfl⟩, fun b hb => ?_, q⟩
    have e : b = s1.heap.objs.size := by simpa using hb
    subst e
    exact I1.fpOk (Nat.le_refl _) (I1.hok.fresh (Nat.le_refl _))
  · subst e
    cases r1
    obtain ⟨its, rv, p, hz⟩ := I1.tuple hq
    refine wpAny_pyIter_tuple (show s1.heap.IsTuple a its.toArray from p) ?_
    refine ⟨s1.heap.objs.size, [s1.heap.objs.size], _, _, H1, rfl, I1.kept (t' := s1.toks) fun b o e => Heap.get?_push_of_some _ e, turn_tuple a _, ⟨_, Heap.get?_push_size _ rfl, rfl, rfl⟩, fun b hb => ?_, q⟩
    have e : b = s1.heap.objs.size := by simpa using hb
    subst e
    exact I1.fpOk (Nat.le_refl _) (I1.hok.fresh (Nat.le_refl _))
  · subst e
    obtain ⟨t, rfl⟩ := r1
    cases ha : z.cps.all (· < 128)
    · exact wpAny_pyIter_wide ha (pi_one (tk := s1.toks) I1 _ (turn_str _ z t "str_iterator" (.inr rfl)) ⟨_, Heap.get?_push_size _ rfl, rfl, rfl⟩ q)
    · exact wpAny_pyIter_ascii ha (pi_one (tk := s1.toks) I1 _ (turn_str _ z t "str_ascii_iterator" (.inl rfl)) ⟨_, Heap.get?_push_size _ rfl, rfl, rfl⟩ q)
/-- list(range(a, b, c)) -/
theorem pe_listRg3 {a b c : Expr} {ta : TA} {p pos p2 pos2 : Pos} (hc : X.calm = true) (hg : Gl X "list") (hm : X.mg "list" = none) (hg2 : Gl X "range") (hm2 : X.mg "range" = none) (ha : PA X [a, b, c] ta)
    (hs : starEach [a, b, c] X.env = (false, eval a X.env) :: starEach [b, c] X.env := by rfl) (hpl : (backTo pos2 (starEach [b, c] X.env)).any (·.1) = false := by rfl)
    (na : starEach [.Call (.Name "range" p2) [a, b, c] [] pos2] X.env = (false, eval (.Call (.Name "range" p2) [a, b, c] [] pos2) X.env) :: starEach [] X.env := by rfl) :
    PE X (.Call (.Name "list" p) [.Call (.Name "range" p2) [a, b, c] [] pos2] [] pos) (fun σ H Q => ta σ H fun vs H1 => ∃ (i j k : Int) (n : Nat), vs = [.int i, .int j, .int k] ∧ RgC i j k n ∧ n ≤ 2 ^ 24 ∧ ∀ q, H1 q = none → Q (.ref q) (upd H1 q (.lst ((List.range n).map fun m => V.int (i + (m : Nat) * k))))) := by
  refine ⟨fun pins s σ H Q I h => ?_⟩
  refine Call_ (ld_blt I hg hm boot_list (PyProof.Rows.callWith_type1 (args_cons ?_ na) na))
  refine Call_ (ld_blt I hg2 hm2 boot_range (PyProof.Rows.callWith_type1 (thn (ha.run pos2 pins s σ H _ I h) fun us s1 ⟨vs, H1, I1, r1, q1⟩ => ?_) hs hpl))
  obtain ⟨i, j, k, n, e, ⟨c0, c1, c2, c3⟩, hn, q⟩ := q1
  subst e
  cases r1 with
  | cons r rr =>
    cases rr with
    | cons r' rr =>
      cases rr with
      | cons r'' rr =>
        cases rr
        obtain ⟨t, rfl⟩ := r
        obtain ⟨t', rfl⟩ := r'
        obtain ⟨t'', rfl⟩ := r''
        refine call_range_3 c0 ?_ (.inl (PyProof.noPylong_small c1))
        refine args_nil ?_
        have I2 : Inv X pins σ H1 { s1 with heap := s1.heap.push { cls := .type "range", data := .fields #[.int i t, .int j t', .int k t''] } } := I1.kept (t' := s1.toks) fun b o e => Heap.get?_push_of_some _ e
        refine call_list_range (n := n) (I2.ok.hd hc) (IsRange.new ..) c2 c3 hn fun h' tk acc c' hk e' hi => ?_
        refine ⟨.ref _, upd H1 _ (.lst ((List.range n).map fun m => V.int (i + (m : Nat) * k))), I2.laid hk (Nat.le_refl _) (show ObjOk X.prog X.w _ _ _ (.lst _) from ⟨?_, acc.toList, c', ?_, ?_⟩), rfl, q _ (I2.hok.fresh (Nat.le_refl _))⟩
        · rw [List.length_map, List.length_range, sizeLine_eq]; omega
        · have e : acc.toList.length = n := by rw [Array.length_toList]; exact hi.1
          rw [← e]
          refine vals_of_get acc.toList _ fun m u hm => ?_
          obtain ⟨t, rfl⟩ := hi.2 m u (by rw [← hm, Array.getElem?_toList])
          exact ⟨t, rfl⟩
        · rw [Array.toArray_toList]; exact e'
theorem eachRel {H : Hp} {s : Shared} {pins : List (Addr × Obj)} {σ : St} (I : Inv X pins σ H s) : ∀ {bs : List (V × PyData)} {us : List Value}, Vals (bs.map (·.1)) us → (∀ b ∈ bs, Dp X.K H b.1 b.2) →
    PySem.W.EachIs (fun (v : Value) (b : V × PyData) => RelV b.1 v) us bs ∧ PySem.W.EachIs (fun (v : Value) (b : V × PyData) => ∃ as, Reads s.heap v b.2 as) us bs
  | [], _, r, _ => by
    rw [List.map_nil] at r
    cases r
    exact ⟨.nil, .nil⟩
  | b :: bs, _, r, h => by
    rw [List.map_cons] at r
    cases r with
    | cons r1 t =>
      obtain ⟨q1, q2⟩ := eachRel I t fun x hx => h x (List.mem_cons_of_mem _ hx)
      exact ⟨.cons r1 q1, .cons (Dp.reads I _ _ _ (h b List.mem_cons_self) r1) q2⟩
theorem valsOfEach : ∀ {bs : List (V × PyData)} {us : List Value}, PySem.W.EachIs (fun (v : Value) (b : V × PyData) => RelV b.1 v) us bs → Vals (bs.map (·.1)) us
  | [], _, .nil => .nil
  | _ :: _, _, .cons h t => .cons h (valsOfEach t)
/-- sorted(xs) of plain data -/
def rSortedDat (K : PySem.W.Frag) : List V → Hp → VK → Prop := fun vs H Q => ∃ (a : Addr) (bs : List (V × PyData)), vs = [V.ref a] ∧ SqL K H a (bs.map (·.1)) ∧ (∀ b ∈ bs, Dp K H b.1 b.2) ∧ PySem.W.AllAlike (bs.map (·.2)) ∧ PySem.W.Sortable (bs.map (·.2)) ∧ (∀ b ∈ bs, b.2.depth ≤ 60) ∧
  ∀ p, H p = none → Q (.ref p) (upd H p (.lst ((bs.mergeSort (PySem.W.dataLe false (·.2))).map (·.1))))
theorem cr_sortedDat (hu : X.A.units + 64 < cLine) : CallR X (.builtin "sorted") (rSortedDat X.K) := by
  intro pins s σ H vs us Q I r h
  obtain ⟨a, bs, rfl, hs, hd, hal, hk, hdep, q⟩ := h
  obtain ⟨its, rv, hl, hz⟩ := I.list hs
  rw [Vals.ref1 r]
  obtain ⟨e1, e2⟩ := eachRel I rv hd
  rw [List.length_map] at hz
  refine PySem.W.sorted_data hl.isList e1 e2 hal hk hz (fun b hb => by have := hdep b hb; omega) fun out ho eo => ?_
  obtain ⟨ep, he'⟩ := PyProof.Rows.sortedAll_at s.heap its out.toArray
  have hlen : ((bs.mergeSort (PySem.W.dataLe false (·.2))).map (·.1)).length ≤ sizeLine := by
    rw [List.length_map, List.length_mergeSort]; exact hz
  exact ⟨.ref _, upd H (s.heap.objs.size + 1) (.lst _), I.laid (t' := s.toks) (fun _ _ => PyProof.Rows.sortedAll_old) (Nat.le_succ _) ⟨hlen, out, ep, valsOfEach eo, he'⟩, rfl, q _ (I.hok.fresh (Nat.le_succ _))⟩
/-- repr of plain data -/
def rRepr (K : PySem.W.Frag) : List V → Hp → VK → Prop := fun vs H Q => ∃ (a : Addr) (d : PyData), vs = [V.ref a] ∧ Dp K H (V.ref a) d ∧ d.showable = true ∧ d.hasDict = false ∧ d.depth ≤ 60 ∧ d.shown.length ≤ sizeLine ∧ Q (.str d.shown) H
theorem cr_repr (hu : X.A.units + 64 < cLine) (hg : X.A.guards = some []) : CallR X (.builtin "repr") (rRepr X.K) := by
  intro pins s σ H vs us Q I r h
  obtain ⟨a, d, rfl, hd, hs, hn, hdep, hz, q⟩ := h
  rw [Vals.ref1 r]
  obtain ⟨as, rd⟩ := Dp.reads I d (.ref a) (.ref a) hd rfl
  exact PySem.repr_of_reads' rd hs (fun z => by rw [hn] at z; cases z) hg (by omega) (fun _ _ e => e) (fun h' u tk hk => ⟨.str d.shown, H, I.kept (t' := tk) hk, ⟨u, rfl⟩, q⟩) hz
end
end L2
namespace DL
open PySem PySem.Spec PyProof.Rows L2
section
variable [TapeI] {K : PySem.W.Frag} {X : Cx} {pos : Pos} {e : Expr} {fa : FE} {fs : FA} {tg : Expr} {es : List Expr}
/-! ### what is walked -/
def chD (c : Nat) : D := .str [c]
def asSeq (d : D) (P : List D → Prop) : Prop := match d with
  | .tup ds => P ds
  | .lst ds => P ds
  | .str l => P (l.map chD)
  | _ => False
def fSeq (f : FE) : FA := fun ρ P => f ρ fun d => asSeq d P
theorem yl_at {O : Addr → Prop} {m H : Hp} (e : Same m (msk O H)) {xs : List V} {ds : List D} (r : RpAll K m xs ds) {i : Nat} {x : V} (hx : xs[i]? = some x) : ∃ d, ds[i]? = some d ∧ Same H H ∧ Rp K (msk O H) x d := by
  obtain ⟨d, e1, e2⟩ := r.getV hx
  exact ⟨d, e1, Same.refl _, e2.mono e⟩
theorem yl_seqL {m : Hp} {a : Addr} {xs : List V} {ds : List D} (h : m a = some (.lst xs)) (r : RpAll K m xs ds) : Yl K (Itl K a) m ds := fun O H hO e i => by
  have ha : SqL K H a xs := .inl (.inl (msk_some (e _ _ h)).2)
  refine ⟨fun hi => ?_, fun hi => ⟨xs, ha, by rw [r.length]; exact hi⟩, fun x H' _ ⟨e1, e2⟩ => ?_⟩
  · rw [← r.length] at hi
    exact ⟨xs, xs[i], ha, List.getElem?_eq_getElem hi⟩
  · subst e1
    exact yl_at e r (e2 xs ha)
theorem yl_seqT {m : Hp} {a : Addr} {xs : List V} {ds : List D} (h : SqT K m a xs) (r : RpAll K m xs ds) : Yl K (Itt K a) m ds := fun O H hO e i => by
  have ha : SqT K H a xs := Same.sqT same_msk (Same.sqT e h)
  refine ⟨fun hi => ?_, fun hi => ⟨xs, ha, by rw [r.length]; exact hi⟩, fun x H' _ ⟨e1, e2⟩ => ?_⟩
  · rw [← r.length] at hi
    exact ⟨xs, xs[i], ha, List.getElem?_eq_getElem hi⟩
  · subst e1
    exact yl_at e r (e2 xs ha)
theorem one_le : 1 ≤ sizeLine := by rw [sizeLine_eq]; decide
theorem yl_str {m : Hp} (l : Tx) : Yl K (Its (S l)) m (l.map chD) := fun O H hO e i => by
  have hs : (S l).cps.size = l.length := by simp [S]
  refine ⟨fun hi => ?_, fun hi => ?_, fun x H' _ ⟨e1, c, e2, e3⟩ => ?_⟩
  · show i < (S l).cps.size; rw [hs]; simpa using hi
  · show (S l).cps.size ≤ i; rw [hs]; simpa using hi
  · subst e1 e3
    have : l[i]? = some c := by simpa [S] using e2
    exact ⟨chD c, by rw [List.getElem?_map, this]; rfl, Same.refl _, .str [c] one_le⟩
theorem di_seq (h : DE K X e fa) : DI K X tg e (fSeq fa) := ⟨fun hK => by
  subst hK
  refine pi_imp (pi_seq (h.pe rfl)) fun σ H R q => ?_
  obtain ⟨c, ρ, P, st, f, k⟩ := q
  refine ⟨c, ρ, _, st, f, fun v H1 d A r p => ?_⟩
  cases r with
  | @lst a xs ds h1 r => exact .inl ⟨a, xs, rfl, .inl (.inl (msk_some h1).2), k _ H1 ds A (yl_seqL h1 r) p⟩
  | @tup a xs ds h1 r => exact .inr (.inl ⟨a, xs, rfl, Same.sqT same_msk h1, k _ H1 ds A (yl_seqT h1 r) p⟩)
  | str l hl => exact .inr (.inr ⟨S l, rfl, k _ H1 _ A (yl_str l) p⟩)
  | _ => exact p.elim⟩
def rngD (i c : Int) (n : Nat) : List D := (List.range n).map fun k => .int (i + (k : Nat) * c)
theorem rngD_get {i c : Int} {n k : Nat} (h : k < n) : (rngD i c n)[k]? = some (.int (i + (k : Nat) * c)) := by
  unfold rngD
  rw [List.getElem?_map, List.getElem?_range h]; rfl
theorem rngD_len (i c : Int) (n : Nat) : (rngD i c n).length = n := by simp [rngD]
theorem yl_rng {m : Hp} (i : Int) (n : Nat) : Yl K (Itr i n) m (rngD i 1 n) := fun O H hO e k => by
  refine ⟨fun hi => ?_, fun hi => ?_, fun x H' hk ⟨e1, e2⟩ => ?_⟩
  · show k < n; rwa [rngD_len] at hi
  · show n ≤ k; rwa [rngD_len] at hi
  · subst e1 e2
    rw [rngD_len] at hk
    exact ⟨_, rngD_get hk, Same.refl _, by rw [Int.mul_one]; exact .int _⟩
theorem yl_rngc {m : Hp} (i c : Int) (n : Nat) : Yl K (Itc i c n) m (rngD i c n) := fun O H hO e k => by
  refine ⟨fun hi => ?_, fun hi => ?_, fun x H' hk ⟨e1, e2⟩ => ?_⟩
  · show k < n; rwa [rngD_len] at hi
  · show n ≤ k; rwa [rngD_len] at hi
  · subst e1 e2
    rw [rngD_len] at hk
    exact ⟨_, rngD_get hk, Same.refl _, .int _⟩
def int1 : List D → (Int → Prop) → Prop
  | [.int j], p => p j
  | _, _ => False
def int2 : List D → (Int → Int → Prop) → Prop
  | [.int i, .int j], p => p i j
  | _, _ => False
def int3 : List D → (Int → Int → Int → Prop) → Prop
  | [.int i, .int j, .int c], p => p i j c
  | _, _ => False
def fRng1 (fs : FA) : FA := fun ρ P => fs ρ fun ds => int1 ds fun j => -(2 ^ 62) ≤ j ∧ j < 2 ^ 62 ∧ P (rngD 0 1 j.toNat)
theorem ints1 {H : Hp} {vs : List V} {ds : List D} (r : RpAll K H vs ds) {p : Int → Prop} (f : int1 ds p) : ∃ j, vs = [.int j] ∧ p j := by
  match ds, r, f with
  | [.int j], .cons (.int _) .nil, f => exact ⟨j, rfl, f⟩
theorem di_range1 {a : Expr} {p : Pos} (hg : Gl X "range") (hm : X.mg "range" = none) (ha : DA K X [a] fs)
    (hs : starEach [a] X.env = [(false, eval a X.env)] := by rfl) : DI K X tg (.Call (.Name "range" p) [a] [] pos) (fRng1 fs) := ⟨fun hK => pi_imp (pi_range1 hg hm (ha.pa hK) hs) fun σ H R q => by
  obtain ⟨c, ρ, P, st, f, k⟩ := q
  refine ⟨c, ρ, _, st, f, fun vs H1 ds A r p => ?_⟩
  obtain ⟨j, e, p1, p2, p3⟩ := ints1 r p
  exact ⟨j, e, p1, p2, k _ H1 _ A (yl_rng 0 j.toNat) p3⟩⟩
def fRng2 (fs : FA) : FA := fun ρ P => fs ρ fun ds => int2 ds fun i j => (-(2 ^ 62) ≤ i ∧ i < 2 ^ 62 ∧ -(2 ^ 62) ≤ j ∧ j < 2 ^ 62) ∧ P (rngD i 1 (j - i).toNat)
theorem ints2 {H : Hp} {vs : List V} {ds : List D} (r : RpAll K H vs ds) {p : Int → Int → Prop} (f : int2 ds p) : ∃ i j, vs = [.int i, .int j] ∧ p i j := by
  match ds, r, f with
  | [.int i, .int j], .cons (.int _) (.cons (.int _) .nil), f => exact ⟨i, j, rfl, f⟩
theorem di_range2 {a b : Expr} {p : Pos} (hg : Gl X "range") (hm : X.mg "range" = none) (ha : DA K X [a, b] fs)
    (hs : starEach [a, b] X.env = [(false, eval a X.env), (false, eval b X.env)] := by rfl) (hs2 : starEach [b] X.env = [(false, eval b X.env)] := by rfl) : DI K X tg (.Call (.Name "range" p) [a, b] [] pos) (fRng2 fs) := ⟨fun hK => pi_imp (pi_range2 hg hm (ha.pa hK) hs hs2) fun σ H R q => by
  obtain ⟨c, ρ, P, st, f, k⟩ := q
  refine ⟨c, ρ, _, st, f, fun vs H1 ds A r p => ?_⟩
  obtain ⟨i, j, e, p1, p3⟩ := ints2 r p
  exact ⟨i, j, e, p1, k _ H1 _ A (yl_rng i (j - i).toNat) p3⟩⟩
def fRng3 (fs : FA) : FA := fun ρ P => fs ρ fun ds => int3 ds fun i j c => ∃ n, RgC i j c n ∧ P (rngD i c n)
theorem ints3 {H : Hp} {vs : List V} {ds : List D} (r : RpAll K H vs ds) {p : Int → Int → Int → Prop} (f : int3 ds p) : ∃ i j c, vs = [.int i, .int j, .int c] ∧ p i j c := by
  match ds, r, f with
  | [.int i, .int j, .int c], .cons (.int _) (.cons (.int _) (.cons (.int _) .nil)), f => exact ⟨i, j, c, rfl, f⟩
theorem di_range3 {a b c : Expr} {p : Pos} (hg : Gl X "range") (hm : X.mg "range" = none) (ha : DA K X [a, b, c] fs)
    (hs : starEach [a, b, c] X.env = (false, eval a X.env) :: starEach [b, c] X.env := by rfl) (hpl : (backTo pos (starEach [b, c] X.env)).any (·.1) = false := by rfl) : DI K X tg (.Call (.Name "range" p) [a, b, c] [] pos) (fRng3 fs) := ⟨fun hK => pi_imp (pi_range3 hg hm (ha.pa hK) hs hpl) fun σ H R q => by
  obtain ⟨c', ρ, P, st, f, k⟩ := q
  refine ⟨c', ρ, _, st, f, fun vs H1 ds A r p => ?_⟩
  obtain ⟨i, j, c, e, n, p1, p3⟩ := ints3 r p
  exact ⟨i, j, c, n, e, p1, k _ H1 _ A (yl_rngc i c n) p3⟩⟩
/-! ### lists of ranges -/
theorem rngV_rp {H : Hp} (i c : Int) (n : Nat) : RpAll K H ((List.range n).map fun m => V.int (i + (m : Nat) * c)) (rngD i c n) := by
  unfold rngD
  induction List.range n with
  | nil => exact .nil
  | cons k ks ih => exact .cons (.int _) ih
def fLstRg3 (fs : FA) : FE := fun ρ P => fs ρ fun ds => int3 ds fun i j c => ∃ n, RgC i j c n ∧ n ≤ 2 ^ 24 ∧ P (.lst (rngD i c n))
theorem de_lstRg3 {a b c : Expr} {p pos p2 pos2 : Pos} (hc : X.calm = true) (hg : Gl X "list") (hm : X.mg "list" = none) (hg2 : Gl X "range") (hm2 : X.mg "range" = none) (ha : DA K X [a, b, c] fs)
    (hs : starEach [a, b, c] X.env = (false, eval a X.env) :: starEach [b, c] X.env := by rfl) (hpl : (backTo pos2 (starEach [b, c] X.env)).any (·.1) = false := by rfl)
    (na : starEach [.Call (.Name "range" p2) [a, b, c] [] pos2] X.env = (false, eval (.Call (.Name "range" p2) [a, b, c] [] pos2) X.env) :: starEach [] X.env := by rfl) :
    DE K X (.Call (.Name "list" p) [.Call (.Name "range" p2) [a, b, c] [] pos2] [] pos) (fLstRg3 fs) := ⟨fun hK => pe_imp (pe_listRg3 hc hg hm hg2 hm2 (ha.pa hK) hs hpl na) fun σ H Q q => by
  obtain ⟨c', ρ, P, st, f, k⟩ := q
  refine ⟨c', ρ, _, st, f, fun vs H1 ds A r p => ?_⟩
  obtain ⟨i, j, c, e, n, p1, p2, p3⟩ := ints3 r p
  refine ⟨i, j, c, n, e, p1, p2, fun q hq => ?_⟩
  have en := same_new (o := .lst ((List.range n).map fun m => V.int (i + (m : Nat) * c))) hq
  exact k _ _ _ (A.trans (.grow A.st en)) (.lst (A.st.newM hq) (rngV_rp i c n)) p3⟩
def fLstRg1 (f : FE) : FE := fun ρ P => f ρ fun d => match d with
  | .int j => RgOk 0 j ∧ P (.lst (rngD 0 1 j.toNat))
  | _ => False
theorem rgV_rp {H : Hp} (i j : Int) : RpAll K H (rgV i j) (rngD i 1 (j - i).toNat) := by
  have := rngV_rp (K := K) (H := H) i 1 (j - i).toNat
  simpa [rgV] using this
theorem de_lstRg1 {a : Expr} {p pos p2 pos2 : Pos} (hc : X.calm = true) (hg : Gl X "list") (hm : X.mg "list" = none) (hg2 : Gl X "range") (hm2 : X.mg "range" = none) (ha : DE K X a fa)
    (na2 : starEach [a] X.env = (false, eval a X.env) :: starEach [] X.env := by rfl)
    (na : starEach [.Call (.Name "range" p2) [a] [] pos2] X.env = (false, eval (.Call (.Name "range" p2) [a] [] pos2) X.env) :: starEach [] X.env := by rfl) :
    DE K X (.Call (.Name "list" p) [.Call (.Name "range" p2) [a] [] pos2] [] pos) (fLstRg1 fa) := ⟨fun hK => pe_imp (pe_listRg hc hg hm (prg_1 hg2 hm2 (ha.pe hK) na2) na) fun σ H Q q => by
  obtain ⟨c', ρ, P, st, f, k⟩ := q
  refine ⟨c', ρ, _, st, f, fun v H1 d A r p => ?_⟩
  cases r with
  | int j =>
    refine ⟨j, rfl, p.1, fun q hq => ?_⟩
    have en := same_new (o := .lst (rgV 0 j)) hq
    have e : (j - 0).toNat = j.toNat := by rw [Int.sub_zero]
    exact k _ _ _ (A.trans (.grow A.st en)) (.lst (A.st.newM hq) (by rw [← e]; exact rgV_rp 0 j)) p.2
  | _ => exact p.elim⟩
def fLstRg2 (f g : FE) : FE := fun ρ P => f ρ fun d => g ρ fun e => match d, e with
  | .int i, .int j => RgOk i j ∧ P (.lst (rngD i 1 (j - i).toNat))
  | _, _ => False
theorem de_lstRg2 {a b : Expr} {fb : FE} {p pos p2 pos2 : Pos} (hc : X.calm = true) (hg : Gl X "list") (hm : X.mg "list" = none) (hg2 : Gl X "range") (hm2 : X.mg "range" = none) (ha : DE K X a fa) (hb : DE K X b fb)
    (na3 : starEach [a, b] X.env = (false, eval a X.env) :: starEach [b] X.env := by rfl) (nb : starEach [b] X.env = (false, eval b X.env) :: starEach [] X.env := by rfl) (hp : (backTo pos2 (starEach [b] X.env)).any (·.1) = false := by rfl)
    (na : starEach [.Call (.Name "range" p2) [a, b] [] pos2] X.env = (false, eval (.Call (.Name "range" p2) [a, b] [] pos2) X.env) :: starEach [] X.env := by rfl) :
    DE K X (.Call (.Name "list" p) [.Call (.Name "range" p2) [a, b] [] pos2] [] pos) (fLstRg2 fa fb) := ⟨fun hK => pe_imp (pe_listRg hc hg hm (prg_2 hg2 hm2 (ha.pe hK) (hb.pe hK) na3 nb hp) na) fun σ H Q q => by
  obtain ⟨c', ρ, P, st, f, k⟩ := q
  refine ⟨c', ρ, _, st, f, fun v H1 d A r p => ⟨c', ρ, _, A.st, p, fun w H2 e A2 r2 p => ?_⟩⟩
  cases r with
  | int i =>
    cases r2 with
    | int j =>
      refine ⟨i, j, rfl, rfl, p.1, fun q hq => ?_⟩
      have en := same_new (o := .lst (rgV i j)) hq
      exact k _ _ _ ((A.trans A2).trans (.grow A2.st en)) (.lst (A2.st.newM hq) (rgV_rp i j)) p.2
    | _ => exact p.elim
  | _ => exact p.elim⟩
end
end DL
/-! The layer DL: built-ins by plain data. -/
namespace DL
open PySem PySem.Spec PyProof.Rows L2
section
variable [TapeI] {K : PySem.W.Frag} {X : Cx} {pos : Pos} {e : Expr} {fa : FE} {fs : FA} {tg : Expr} {es : List Expr}
def a1 : List D → (D → Prop) → Prop
  | [d], p => p d
  | _, _ => False
def a2 : List D → (D → D → Prop) → Prop
  | [d, e], p => p d e
  | _, _ => False
theorem a1_rp {H : Hp} {vs : List V} {ds : List D} (r : RpAll K H vs ds) {p : D → Prop} (f : a1 ds p) : ∃ v d, vs = [v] ∧ Rp K H v d ∧ p d := by
  match ds, r, f with
  | [d], .cons h .nil, f => exact ⟨_, d, rfl, h, f⟩
theorem a2_rp {H : Hp} {vs : List V} {ds : List D} (r : RpAll K H vs ds) {p : D → D → Prop} (f : a2 ds p) : ∃ v w d e, vs = [v, w] ∧ Rp K H v d ∧ Rp K H w e ∧ p d e := by
  match ds, r, f with
  | [d, e], .cons h (.cons h' .nil), f => exact ⟨_, _, d, e, rfl, h, h', f⟩
/-! ### len -/
def lenD : D → Option Nat
  | .str l => some l.length
  | .tup ds => some ds.length
  | .lst ds => some ds.length
  | .dic ks _ => some ks.length
  | _ => none
def gLen : GA := fun ds P => a1 ds fun d => ∃ n, lenD d = some n ∧ P (.int (n : Nat))
/-- len of a dict of which is read -/
theorem dc_len : DCall K X (.builtin "len") (fun ds P => a1 ds fun d => ∃ n, lenD d = some n ∧ (∀ ks es, d ≠ .dic ks es) ∧ P (.int (n : Nat))) := ⟨_, call_len, fun hK O H vs ds P Q hO r g o => by
  subst hK
  obtain ⟨v, d, e, rd, n, hn, hd, p⟩ := a1_rp r g
  cases rd with
  | str l hl => cases hn; exact ⟨_, l.length, e, ⟨by rw [S_length]; exact hl, (S_length l).symm⟩, o.int p⟩
  | @lst a xs ds h r => cases hn; exact ⟨_, _, e, .inl ⟨xs, .inl (.inl (msk_some h).2), r.length.symm⟩, o.int p⟩
  | @tup a xs ds h r => cases hn; exact ⟨_, _, e, .inr ⟨xs, Same.sqT same_msk h, r.length.symm⟩, o.int p⟩
  | @dic a kvs ks ds h => exact (hd _ _ rfl).elim
  | _ => cases hn⟩
/-! ### tuple, list -/
def gTuple : GA := fun ds P => a1 ds fun d => match d with
  | .tup ds => P (.tup ds)
  | .lst ds => P (.tup ds)
  | _ => False
theorem dc_tuple : DCall K X (.type "tuple") gTuple := ⟨_, call_tuple_of, fun hK O H vs ds P Q hO r g o => by
  subst hK
  obtain ⟨v, d, e, rd, p⟩ := a1_rp r g
  cases rd with
  | @lst a xs ds h r => exact ⟨a, xs, e, .inl ⟨.inl (.inl (msk_some h).2), fun l hl => o.tup hO r p l hl⟩⟩
  | @tup a xs ds h r => exact ⟨a, xs, e, .inr ⟨Same.sqT same_msk h, o.ret (.tup h r) p⟩⟩
  | _ => exact p.elim⟩
def kD : DK → D
  | .inl i => .int i
  | .inr l => .str l
def gList : GA := fun ds P => a1 ds fun d => match d with
  | .tup ds => P (.lst ds)
  | .lst ds => P (.lst ds)
  | .dic ks _ => P (.lst (ks.map kD))
  | _ => False
theorem keys_rp {H : Hp} : ∀ {kvs : List (Key × V)} {ks : List DK}, kvs.map (·.1) = ks.map dkey → KeysOk ks → RpAll K H (kvs.map fun kv => kV kv.1) (ks.map kD)
  | [], [], _, _ => .nil
  | p :: kvs, k :: ks, h, z => by
    rw [List.map_cons, List.map_cons, List.cons.injEq] at h
    refine .cons ?_ (keys_rp h.2 fun l hl => z l (List.mem_cons_of_mem _ hl))
    show Rp K H (kV p.1) (kD k)
    rw [h.1]
    cases k with
    | inl i => exact .int i
    | inr l => exact .str l (z l List.mem_cons_self)
  | [], _ :: _, h, _ => by simp at h
  | _ :: _, [], h, _ => by simp at h
theorem dc_list (hc : X.calm = true) : DCall K X (.type "list") gList := ⟨_, call_list_of.or (call_listD hc), fun hK O H vs ds P Q hO r g o => by
  subst hK
  obtain ⟨v, d, e, rd, p⟩ := a1_rp r g
  cases rd with
  | @lst a xs ds h r => exact .inl ⟨a, xs, e, .inl (.inl (.inl (msk_some h).2)), fun l hl => o.lst hO r p l hl⟩
  | @tup a xs ds h r => exact .inl ⟨a, xs, e, .inr (Same.sqT same_msk h), fun l hl => o.lst hO r p l hl⟩
  | @dic a kvs ks ds h hk hz r => exact .inr ⟨a, kvs, e, Same.rd same_msk h, fun l hl => o.lst hO (keys_rp hk hz) p l hl⟩
  | _ => exact p.elim⟩
/-! ### all, any, sum, max, min -/
def bsOf : List D → Option (List Bool)
  | [] => some []
  | .bl b :: ds => (bsOf ds).map (b :: ·)
  | _ => none
def isOf : List D → Option (List Int)
  | [] => some []
  | .int b :: ds => (isOf ds).map (b :: ·)
  | _ => none
def ssOf : List D → Option (List Tx)
  | [] => some []
  | .str b :: ds => (ssOf ds).map (b :: ·)
  | _ => none
theorem bsOf_map : ∀ {ds : List D} {bs : List Bool}, bsOf ds = some bs → ds = bs.map .bl
  | [], bs, h => by cases h; rfl
  | d :: ds, bs, h => by
    cases d <;> first | (cases h; done) | skip
    unfold bsOf at h
    obtain ⟨cs, e1, e2⟩ := Option.map_eq_some_iff.mp h
    subst e2
    rw [bsOf_map e1]; rfl
theorem isOf_map : ∀ {ds : List D} {bs : List Int}, isOf ds = some bs → ds = bs.map .int
  | [], bs, h => by cases h; rfl
  | d :: ds, bs, h => by
    cases d <;> first | (cases h; done) | skip
    unfold isOf at h
    obtain ⟨cs, e1, e2⟩ := Option.map_eq_some_iff.mp h
    subst e2
    rw [isOf_map e1]; rfl
theorem ssOf_map : ∀ {ds : List D} {bs : List Tx}, ssOf ds = some bs → ds = bs.map .str
  | [], bs, h => by cases h; rfl
  | d :: ds, bs, h => by
    cases d <;> first | (cases h; done) | skip
    unfold ssOf at h
    obtain ⟨cs, e1, e2⟩ := Option.map_eq_some_iff.mp h
    subst e2
    rw [ssOf_map e1]; rfl
theorem bsOf_bl (bs : List Bool) : bsOf (bs.map .bl) = some bs := by
  induction bs with
  | nil => rfl
  | cons b bs ih => simp [bsOf, ih]
theorem isOf_int (bs : List Int) : isOf (bs.map .int) = some bs := by
  induction bs with
  | nil => rfl
  | cons b bs ih => simp [isOf, ih]
theorem ssOf_str (bs : List Tx) : ssOf (bs.map .str) = some bs := by
  induction bs with
  | nil => rfl
  | cons b bs ih => simp [ssOf, ih]
def gBools (f : List Bool → Bool) : GA := fun ds P => a1 ds fun d => match d with
  | .lst ds => ∃ bs, bsOf ds = some bs ∧ P (.bl (f bs))
  | _ => False
theorem dc_all (hc : X.calm = true) : DCall K X (.builtin "all") (gBools fun bs => bs.all id) := ⟨_, cr_all hc, fun hK O H vs ds P Q hO r g o => by
  subst hK
  obtain ⟨v, d, e, rd, p⟩ := a1_rp r g
  cases rd with
  | @lst a xs ds h r =>
    obtain ⟨bs, e2, p⟩ := p
    rw [bsOf_map e2] at r
    exact ⟨a, bs, e, .inl (.inl (by rw [← RpAll.bls r]; exact (msk_some h).2)), o.bl p⟩
  | _ => exact p.elim⟩
theorem dc_any (hc : X.calm = true) : DCall K X (.builtin "any") (gBools fun bs => bs.any id) := ⟨_, cr_any hc, fun hK O H vs ds P Q hO r g o => by
  subst hK
  obtain ⟨v, d, e, rd, p⟩ := a1_rp r g
  cases rd with
  | @lst a xs ds h r =>
    obtain ⟨bs, e2, p⟩ := p
    rw [bsOf_map e2] at r
    exact ⟨a, bs, e, .inl (.inl (by rw [← RpAll.bls r]; exact (msk_some h).2)), o.bl p⟩
  | _ => exact p.elim⟩
def gSum : GA := fun ds P => a1 ds fun d => match d with
  | .lst ds => ∃ bs, isOf ds = some bs ∧ P (.int bs.sum)
  | _ => False
theorem dc_sum (hc : X.calm = true) : DCall K X (.builtin "sum") gSum := ⟨_, cr_sum hc, fun hK O H vs ds P Q hO r g o => by
  subst hK
  obtain ⟨v, d, e, rd, p⟩ := a1_rp r g
  cases rd with
  | @lst a xs ds h r =>
    obtain ⟨bs, e2, p⟩ := p
    rw [isOf_map e2] at r
    exact ⟨a, bs, e, .inl (.inl (by rw [← RpAll.ints r]; exact (msk_some h).2)), o.int p⟩
  | _ => exact p.elim⟩
def gMax : GA := fun ds P => match ds with
  | [.int i, .int j] => P (.int (if j > i then j else i))
  | [.lst ds] => ∃ bs, isOf ds = some bs ∧ bs ≠ [] ∧ ∀ m ∈ bs, (∀ y ∈ bs, y ≤ m) → P (.int m)
  | _ => False
theorem dc_max (hc : X.calm = true) : DCall K X (.builtin "max") gMax := ⟨_, (call_max2 hc).or (cr_max hc), fun hK O H vs ds P Q hO r g o => by
  subst hK
  unfold gMax at g
  split at g
  · match r with
    | .cons (.int i) (.cons (.int j) .nil) => exact .inl ⟨_, _, rfl, o.int g⟩
  · match r with
    | .cons (.lst h r) .nil =>
      obtain ⟨bs, e2, n, p⟩ := g
      rw [isOf_map e2] at r
      exact .inr ⟨_, bs, rfl, .inl (.inl (by rw [← RpAll.ints r]; exact (msk_some h).2)), List.length_pos_iff.mpr n, fun m h1 h2 => o.int (p m h1 h2)⟩
  · exact g.elim⟩
def gMin : GA := fun ds P => match ds with
  | [.int i, .int j] => P (.int (if j < i then j else i))
  | [.lst ds] => ∃ bs, isOf ds = some bs ∧ bs ≠ [] ∧ ∀ m ∈ bs, (∀ y ∈ bs, m ≤ y) → P (.int m)
  | _ => False
theorem dc_min (hc : X.calm = true) : DCall K X (.builtin "min") gMin := ⟨_, (call_min2 hc).or (cr_min hc), fun hK O H vs ds P Q hO r g o => by
  subst hK
  unfold gMin at g
  split at g
  · match r with
    | .cons (.int i) (.cons (.int j) .nil) => exact .inl ⟨_, _, rfl, o.int g⟩
  · match r with
    | .cons (.lst h r) .nil =>
      obtain ⟨bs, e2, n, p⟩ := g
      rw [isOf_map e2] at r
      exact .inr ⟨_, bs, rfl, .inl (.inl (by rw [← RpAll.ints r]; exact (msk_some h).2)), List.length_pos_iff.mpr n, fun m h1 h2 => o.int (p m h1 h2)⟩
  · exact g.elim⟩
/-! ### int, str -/
def gInt : GA := fun ds P => a1 ds fun d => match d with
  | .int i => P (.int i)
  | .str l => l.length ≤ 640 ∧ ∃ n, PySem.intText? (S l) = some n ∧ P (.int n)
  | _ => False
theorem dc_int : DCall K X (.type "int") gInt := ⟨_, call_int1.or call_int_str, fun hK O H vs ds P Q hO r g o => by
  subst hK
  obtain ⟨v, d, e, rd, p⟩ := a1_rp r g
  cases rd with
  | int i => exact .inl (.inl ⟨i, e, o.int p⟩)
  | str l hl =>
    obtain ⟨p1, n, p2, p3⟩ := p
    exact .inr ⟨S l, n, e, p2, by rw [S_length]; exact p1, o.int p3⟩
  | _ => exact p.elim⟩
/-! ### isinstance -/
def tyN : D → Option String
  | .non => some "NoneType"
  | .bl _ => some "bool"
  | .int _ => some "int"
  | .str _ => some "str"
  | .tup _ => some "tuple"
  | .lst _ => some "list"
  | .dic _ _ => some "dict"
  | _ => none
def isB (d : D) (n : String) : Option Bool := match d, n with
  | .non, "int" => some false | .non, "str" => some false | .non, "bool" => some false | .non, "tuple" => some false | .non, "list" => some false | .non, "dict" => some false
  | .bl _, "int" => some true | .bl _, "str" => some false | .bl _, "bool" => some true | .bl _, "tuple" => some false | .bl _, "list" => some false | .bl _, "dict" => some false
  | .int _, "int" => some true | .int _, "str" => some false | .int _, "bool" => some false | .int _, "tuple" => some false | .int _, "list" => some false | .int _, "dict" => some false
  | .str _, "int" => some false | .str _, "str" => some true | .str _, "bool" => some false | .str _, "tuple" => some false | .str _, "list" => some false | .str _, "dict" => some false
  | .tup _, "int" => some false | .tup _, "str" => some false | .tup _, "bool" => some false | .tup _, "tuple" => some true | .tup _, "list" => some false | .tup _, "dict" => some false
  | .lst _, "int" => some false | .lst _, "str" => some false | .lst _, "bool" => some false | .lst _, "tuple" => some false | .lst _, "list" => some true | .lst _, "dict" => some false
  | .dic _ _, "int" => some false | .dic _ _, "str" => some false | .dic _ _, "bool" => some false | .dic _ _, "tuple" => some false | .dic _ _, "list" => some false | .dic _ _, "dict" => some true
  | _, _ => none
theorem isB_kit {d : D} {n : String} {b : Bool} (h : isB d n = some b) : ∃ t, tyN d = some t ∧ PySem.W.kitOne K (.type t) (.type n) = some b := by
  unfold isB at h
  split at h <;> first | (cases h; exact ⟨_, rfl, rfl⟩) | cases h
theorem tyN_x {O : Addr → Prop} {H : Hp} {v : V} {d : D} {t : String} (r : Rp K (msk O H) v d) (h : tyN d = some t) : TyX K H v (.type t) := by
  cases r with
  | non => cases h; exact .base .non
  | bl b => cases h; exact .base (.bl b)
  | int i => cases h; exact .base (.int i)
  | str l => cases h; exact .base (.str _)
  | lst e => cases h; exact .base (.lst (msk_some e).2)
  | tup e =>
    cases h
    rcases Same.sqT same_msk e with (e | ⟨o, e⟩) | ⟨o, its, n, e1, e2, _⟩
    · exact .base (.tup e)
    · exact .fTuple e
    · exact .kTuple e1 e2
  | dic e =>
    cases h
    rcases Same.rd same_msk e with e | ⟨o, e⟩
    · exact .base (.dK e)
    · exact .fDict e
  | _ => cases h
def gIsi : GA := fun ds P => a2 ds fun d c => match c with
  | .ty n => ∃ b, isB d n = some b ∧ P (.bl b)
  | _ => False
theorem dc_isi : DCall K X (.builtin "isinstance") gIsi := ⟨_, call_isi, fun hK O H vs ds P Q hO r g o => by
  subst hK
  obtain ⟨v, w, d, c, e, rd, rc, p⟩ := a2_rp r g
  cases rc with
  | ty n =>
    obtain ⟨b, hb, p⟩ := p
    obtain ⟨t, h1, h2⟩ := isB_kit (K := X.K) hb
    exact ⟨v, _, _, _, b, e, .ty n, tyN_x rd h1, h2, o.bl p⟩
  | _ => exact p.elim⟩
/-! ### sorted -/
def leD (d e : D) : Bool := PySem.W.dataLe false toPy d e
def gSorted : GA := fun ds P => a1 ds fun d => match d with
  | .lst ds => ds.all okE = true ∧ PySem.W.AllAlike (ds.map toPy) ∧ PySem.W.Sortable (ds.map toPy) ∧ (∀ d ∈ ds, depE d ≤ 60) ∧ P (.lst (ds.mergeSort leD))
  | _ => False
theorem zip_fst {H : Hp} : ∀ {xs : List V} {ds : List D}, RpAll K H xs ds → (xs.zip ds).map (·.1) = xs ∧ (xs.zip ds).map (·.2) = ds
  | _, _, .nil => ⟨rfl, rfl⟩
  | _, _, .cons _ t => by simp [zip_fst t]
theorem zip_rp {H : Hp} : ∀ {xs : List V} {ds : List D}, RpAll K H xs ds → ∀ p ∈ xs.zip ds, Rp K H p.1 p.2
  | _, _, .nil, p, h => by simp at h
  | _, _, .cons r t, p, h => by
    rcases List.mem_cons.mp h with rfl | h
    · exact r
    · exact zip_rp t p h
theorem rpAll_zip {H : Hp} : ∀ {ps : List (V × D)}, (∀ p ∈ ps, Rp K H p.1 p.2) → RpAll K H (ps.map (·.1)) (ps.map (·.2))
  | [], _ => .nil
  | p :: ps, h => .cons (h p List.mem_cons_self) (rpAll_zip fun q hq => h q (List.mem_cons_of_mem _ hq))
theorem dc_sorted (hu : X.K = K → X.A.units + 64 < cLine) : X.K = K → DCall K X (.builtin "sorted") gSorted := fun hK => ⟨_, cr_sortedDat (hu hK), fun hK O H vs ds P Q hO r g o => by
  subst hK
  obtain ⟨v, d, e, rd, p⟩ := a1_rp r g
  cases rd with
  | @lst a xs ds h r =>
    obtain ⟨g1, g2, g3, g4, p⟩ := p
    obtain ⟨z1, z2⟩ := zip_fst r
    have z3 := zip_rp r
    let ps := xs.zip ds
    let bs : List (V × PyData) := ps.map fun p => (p.1, toPy p.2)
    have b1 : bs.map (·.1) = xs := by
      show (List.map _ (List.map _ _)) = _
      rw [List.map_map]; exact z1
    have b2 : bs.map (·.2) = ds.map toPy := by
      show (List.map _ (List.map _ _)) = _
      rw [List.map_map]
      conv => rhs; rw [← z2]
      rw [List.map_map]; rfl
    have dm : ∀ p ∈ ps, p.2 ∈ ds := fun p hp => by rw [← z2]; exact List.mem_map_of_mem hp
    refine ⟨a, bs, e, .inl (.inl (by rw [b1]; exact (msk_some h).2)), fun b hb => ?_, by rw [b2]; exact g2, by rw [b2]; exact g3, fun b hb => ?_, fun q hq => ?_⟩
    · obtain ⟨p, hp, rfl⟩ := List.mem_map.mp hb
      exact (Rp.mono same_msk (z3 p hp)).dp (List.all_eq_true.mp g1 p.2 (dm p hp))
    · obtain ⟨p, hp, rfl⟩ := List.mem_map.mp hb
      exact g4 p.2 (dm p hp)
    · have m1 : bs.mergeSort (PySem.W.dataLe false (·.2)) = (ps.mergeSort fun p q => leD p.2 q.2).map fun p => (p.1, toPy p.2) := by
        refine (List.map_mergeSort (r := fun p q : V × D => leD p.2 q.2) (s := PySem.W.dataLe false (·.2)) (f := fun p : V × D => (p.1, toPy p.2)) fun _ _ _ _ => ?_).symm
        rfl
      have m2 : ds.mergeSort leD = (ps.mergeSort fun p q => leD p.2 q.2).map (·.2) := by
        rw [List.map_mergeSort (r := fun p q : V × D => leD p.2 q.2) (s := leD) (f := fun p : V × D => p.2) fun _ _ _ _ => rfl]
        rw [z2]
      have m3 : (bs.mergeSort (PySem.W.dataLe false (·.2))).map (·.1) = (ps.mergeSort fun p q => leD p.2 q.2).map (·.1) := by
        rw [m1, List.map_map]; rfl
      rw [m3]
      rw [m2] at p
      exact o.lst hO (rpAll_zip fun p hp => z3 p (List.mem_mergeSort.mp hp)) p q hq
  | _ => exact p.elim⟩
/-! ### repr -/
def shT (d : D) : Tx := (toPy d).shown.cps.toList
def gRepr : GA := fun ds P => a1 ds fun d => (match d with | .tup _ => True | .lst _ => True | _ => False) ∧ okE d = true ∧ (toPy d).showable = true ∧ (toPy d).hasDict = false ∧ depE d ≤ 60 ∧ (shT d).length ≤ sizeLine ∧ P (.str (shT d))
theorem dc_repr (hu : X.K = K → X.A.units + 64 < cLine) (hg : X.K = K → X.A.guards = some []) : X.K = K → DCall K X (.builtin "repr") gRepr := fun hK => ⟨_, cr_repr (hu hK) (hg hK), fun hK O H vs ds P Q hO r g o => by
  subst hK
  obtain ⟨v, d, e, rd, g0, g1, g2, g3, g4, g5, p⟩ := a1_rp r g
  have fin : ∀ a, v = .ref a → ∃ (a : Addr) (d : PyData), vs = [V.ref a] ∧ Dp X.K H (V.ref a) d ∧ d.showable = true ∧ d.hasDict = false ∧ d.depth ≤ 60 ∧ d.shown.length ≤ sizeLine ∧ Q (.str d.shown) H := fun a ea => by
    subst ea
    refine ⟨a, toPy d, e, (Rp.mono same_msk rd).dp g1, g2, g3, g4, by simpa [shT, Str.length] using g5, ?_⟩
    have := o.str g5 p
    unfold shT at this
    rwa [S_of] at this
  cases rd with
  | lst => exact fin _ rfl
  | tup => exact fin _ rfl
  | _ => exact g0.elim⟩
/-! ### dict(pairs) -/
def pairsOf : List D → Option (List (DK × D))
  | [] => some []
  | .tup [k, d] :: ds => (keyD k).bind fun k => (pairsOf ds).map ((k, d) :: ·)
  | _ => none
def mrgD (ks : List DK) (ds : List D) : List (DK × D) → List DK × List D
  | [] => (ks, ds)
  | (k, d) :: ps => mrgD (putKs ks k) (putDs ks ds k d) ps
def gDictP : GA := fun ds P => a1 ds fun d => match d with
  | .lst ds => ∃ ps, pairsOf ds = some ps ∧ P (.dic (mrgD [] [] ps).1 (mrgD [] [] ps).2)
  | _ => False
theorem pairsOf_cons {d : D} {ds : List D} {ps : List (DK × D)} (h : pairsOf (d :: ds) = some ps) : ∃ k d' key qs, d = .tup [k, d'] ∧ keyD k = some key ∧ pairsOf ds = some qs ∧ ps = (key, d') :: qs := by
  match d, h with
  | .tup [k, d'], h =>
    obtain ⟨key, e1, e2⟩ := Option.bind_eq_some_iff.mp (show (keyD k).bind _ = some ps from h)
    obtain ⟨qs, e3, e4⟩ := Option.map_eq_some_iff.mp e2
    exact ⟨k, d', key, qs, rfl, e1, e3, e4.symm⟩
theorem pairsOf_rp {O : Addr → Prop} {H : Hp} : ∀ {xs : List V} {ds : List D} {ps : List (DK × D)}, RpAll K (msk O H) xs ds → pairsOf ds = some ps → ∃ (as : List Addr) (kvs : List (Key × V)), xs = as.map V.ref ∧ Paired (fun p (kv : Key × V) => SqT K H p [kV kv.1, kv.2]) as kvs ∧ kvs.map (·.1) = (ps.map (·.1)).map dkey ∧
    KeysOk (ps.map (·.1)) ∧ RpAll K (msk O H) (kvs.map (·.2)) (ps.map (·.2))
  | _, [], ps, .nil, h => by
    cases h
    exact ⟨[], [], rfl, .nil, rfl, fun l h => by simp at h, .nil⟩
  | _, d :: ds, ps, .cons r t, h => by
    obtain ⟨k, d', key, qs, rfl, e1, e3, rfl⟩ := pairsOf_cons h
    obtain ⟨as, kvs, h1, h2, h3, hz, h4⟩ := pairsOf_rp t e3
    cases r with
    | @tup a vs _ hs rr =>
      cases rr with
      | @cons x1 _ _ _ r1 rr =>
        cases rr with
        | @cons x2 _ _ _ r2 rr =>
          cases rr
          have ek := keyD_rp r1 e1
          have kz : KeysOk [key] := keysOk_put (ks := []) (fun l hl => by simp at hl) r1 e1
          subst ek
          refine ⟨a :: as, (dkey key, x2) :: kvs, by rw [h1]; rfl, .cons (Same.sqT same_msk hs) h2, by rw [List.map_cons, h3]; rfl, fun l hl => ?_, .cons r2 h4⟩
          rcases List.mem_cons.mp hl with hl | hl
          · exact kz l (by rw [hl]; exact List.mem_cons_self)
          · exact hz l hl
theorem mrgD_rp {H : Hp} : ∀ {ps : List (DK × D)} {more kvs : List (Key × V)} {ks : List DK} {ds : List D}, more.map (·.1) = (ps.map (·.1)).map dkey → KeysOk (ps.map (·.1)) → RpAll K H (more.map (·.2)) (ps.map (·.2)) →
    kvs.map (·.1) = ks.map dkey → KeysOk ks → RpAll K H (kvs.map (·.2)) ds → (mergeK kvs more).map (·.1) = (mrgD ks ds ps).1.map dkey ∧ KeysOk (mrgD ks ds ps).1 ∧ RpAll K H ((mergeK kvs more).map (·.2)) (mrgD ks ds ps).2
  | [], [], kvs, ks, ds, _, _, _, h1, h2, h3 => ⟨h1, h2, h3⟩
  | [], _ :: _, _, _, _, h, _, _, _, _, _ => by simp at h
  | _ :: _, [], _, _, _, h, _, _, _, _, _ => by simp at h
  | (k, d) :: ps, p :: more, kvs, ks, ds, h, hz, r, h1, h2, h3 => by
    rw [List.map_cons, List.map_cons, List.map_cons, List.cons.injEq] at h
    rw [List.map_cons, List.map_cons] at r
    cases r with
    | cons r1 t =>
      have e : mergeK kvs (p :: more) = mergeK (putK kvs (dkey k) p.2) more := by
        show mergeK (putK kvs p.1 p.2) more = _
        rw [h.1]
      rw [e]
      refine mrgD_rp (ps := ps) h.2 (fun l hl => hz l (List.mem_cons_of_mem _ hl)) t (putK_keys h1) ?_ (putK_rp r1 h1 h3)
      intro l hl
      unfold putKs at hl
      split at hl
      · exact h2 l hl
      · rcases List.mem_append.mp hl with hl | hl
        · exact h2 l hl
        · rw [List.mem_singleton] at hl
          exact hz l (by rw [hl]; exact List.mem_cons_self)
theorem dc_dictP (hc : X.calm = true) : DCall K X (.type "dict") gDictP := ⟨_, call_dictP hc, fun hK O H vs ds P Q hO r g o => by
  subst hK
  obtain ⟨v, d, e, rd, p⟩ := a1_rp r g
  cases rd with
  | @lst a xs ds h r =>
    obtain ⟨ps, e2, p⟩ := p
    obtain ⟨as, kvs, h1, h2, h3, hz, h4⟩ := pairsOf_rp r e2
    refine ⟨a, as, kvs, e, .inl (.inl (by rw [← h1]; exact (msk_some h).2)), h2, fun q hq => ?_⟩
    obtain ⟨m1, m2, m3⟩ := mrgD_rp (kvs := []) (ks := []) (ds := []) h3 hz h4 rfl (fun l hl => by simp at hl) .nil
    have en := same_new (o := .dK (mergeK [] kvs)) hq
    refine o _ _ _ en (.dic (.inl ?_) m1 m2 (m3.mono (msk_same en))) p
    show msk _ _ _ = _
    rw [msk_of fun z => hO q z hq, upd_same]
  | _ => exact p.elim⟩
/-! ### methods of texts -/
def asStr (d : D) (p : Tx → Prop) : Prop := match d with
  | .str a => p a
  | _ => False
def asStrs (d : D) (p : List Tx → Prop) : Prop := match d with
  | .lst ds => ∃ ls, ssOf ds = some ls ∧ p ls
  | .tup ds => ∃ ls, ssOf ds = some ls ∧ p ls
  | _ => False
theorem tl_S (l : Tx) : TL.tl (S l) = l := S_cps l
theorem join_S (a : Tx) (ls : List Tx) : Txt.join (S a) (ls.map S) = S (TL.joinL a ls) := by
  rw [TL.join_eq]
  have := TL.tl_join (S a) (ls.map S)
  rw [tl_S, List.map_map] at this
  have e : ls.map (TL.tl ∘ S) = ls := by
    conv => rhs; rw [← List.map_id ls]
    exact List.map_congr_left fun l _ => tl_S l
  rw [e] at this
  rw [← this]
  exact (S_of _).symm
theorem joinL_len (a : Tx) : ∀ ls : List Tx, (TL.joinL a ls).length ≤ (ls.map (·.length)).sum + ls.length * a.length
  | [] => by simp [TL.joinL]
  | [p] => by simp [TL.joinL]
  | p :: q :: r => by
    have := joinL_len a (q :: r)
    simp only [TL.joinL, List.length_append, List.map_cons, List.sum_cons, List.length_cons, Nat.add_mul, Nat.one_mul] at *
    omega
def fJoin (f g : FE) : FE := fun ρ P => f ρ fun d => asStr d fun a => g ρ fun e => asStrs e fun ls => (ls.map (·.length)).sum + ls.length * a.length ≤ 16777216 ∧ P (.str (TL.joinL a ls))
theorem de_join {o e : Expr} {fb : FE} {apos pos : Pos} (ho : DE K X o fa) (he : DE K X e fb) (hs : starEach [e] X.env = [(false, eval e X.env)] := by rfl) (hbase : attributeBase o "join" X.env (eval o X.env) = eval o X.env := by rfl) (hline : (apos.endLine == pos.line) = true := by rfl) :
    DE K X (.Call (.Attribute o "join" apos) [e] [] pos) (fJoin fa fb) := ⟨fun hK => by
  subst hK
  refine pe_imp (pe_join (ho.pe rfl) (he.pe rfl) hs hbase hline) fun σ H Q q => ?_
  obtain ⟨c, ρ, P, st, f, k⟩ := q
  refine ⟨c, ρ, _, st, f, fun v H1 d A1 r1 p => ?_⟩
  cases r1 with
  | str l hl =>
    refine ⟨⟨S l, rfl⟩, c, ρ, _, A1.st, p, fun w H2 e A2 r2 p2 => ?_⟩
    have fin : ∀ (a : Addr) (xs : List V) (ds : List D) (ls : List Tx), w = .ref a → RpAll X.K (M c σ ρ H2) xs ds → (SqL X.K H2 a xs ∨ SqT X.K H2 a xs) → ssOf ds = some ls → ((ls.map (·.length)).sum + ls.length * l.length ≤ 16777216 ∧ P (.str (TL.joinL l ls))) →
        ∃ b p, ∃ ys : List Str, V.str (S l) = .str b ∧ [w] = [.ref p] ∧ (SqL X.K H2 p (ys.map V.str) ∨ SqT X.K H2 p (ys.map V.str)) ∧ (ys.map (·.length)).sum + ys.length * b.length ≤ 16777216 ∧ Q (.str (Txt.join b ys)) H2 := by
      intro a xs ds ls ew r h1 h2 p2
      subst ew
      rw [ssOf_map h2] at r
      have ex := RpAll.strs r
      subst ex
      have em : (ls.map fun l => V.str (S l)) = (ls.map S).map V.str := by rw [List.map_map]; rfl
      rw [em] at h1
      have e1 : ((ls.map S).map (·.length)) = ls.map (·.length) := by
        rw [List.map_map]
        exact List.map_congr_left fun l _ => S_length l
      refine ⟨S l, a, ls.map S, rfl, rfl, h1, by rw [e1, List.length_map, S_length]; exact p2.1, ?_⟩
      rw [join_S]
      exact k _ _ _ (A1.trans A2) (.str _ (Nat.le_trans (joinL_len l ls) (by rw [sizeLine_eq]; exact p2.1))) p2.2
    cases r2 with
    | @lst a xs ds h r =>
      obtain ⟨ls, h2, p2⟩ := p2
      exact fin a xs ds ls rfl r (.inl (.inl (.inl (msk_some h).2))) h2 p2
    | @tup a xs ds h r =>
      obtain ⟨ls, h2, p2⟩ := p2
      exact fin a xs ds ls rfl r (.inr (Same.sqT same_msk h)) h2 p2
    | _ => exact p2.elim
  | _ => exact p.elim⟩
def fSplit (f g : FE) : FE := fun ρ P => f ρ fun d => asStr d fun a => g ρ fun e => asStr e fun b => b ≠ [] ∧ b.all (· < 256) = true ∧ a.length + 2 ≤ sizeLine ∧ P (.lst ((TL.spl b 0 [] a).map .str))
theorem split_S {a b : Tx} (hb : b ≠ []) (hk : b.all (· < 256) = true) : Txt.split (S a) (S b) = (TL.spl b 0 [] a).map S := by
  have h := TL.split_spl (S a) (S b) (by rw [tl_S]; exact hb) (TL.kind_ok (by
    show (S b).cps.all _ = true
    rw [← Array.all_toList, S_cps]; exact hk))
  rw [tl_S, tl_S] at h
  rw [← h, List.map_map]
  exact (List.map_id _).symm.trans (List.map_congr_left fun x _ => (S_of x).symm)
theorem spl_len {S : Tx} : ∀ {l acc : Tx} {k : Nat}, ∀ z ∈ TL.spl S k acc l, z.length ≤ acc.length + l.length
  | [], acc, k, z, h => by
    unfold TL.spl at h
    rw [List.mem_singleton.mp h]
    exact Nat.le_refl _
  | c :: r, acc, 0, z, h => by
    unfold TL.spl at h
    split at h
    · rcases List.mem_cons.mp h with rfl | h
      · omega
      · have := spl_len z h
        simp only [List.length_nil, List.length_cons] at *
        omega
    · have := spl_len z h
      simp only [List.length_append, List.length_cons, List.length_nil] at *
      omega
  | c :: r, acc, k + 1, z, h => by
    unfold TL.spl at h
    have := spl_len z h
    simp only [List.length_cons]
    omega
theorem de_split {o e : Expr} {fb : FE} {apos pos : Pos} (ho : DE K X o fa) (he : DE K X e fb) (hs : starEach [e] X.env = [(false, eval e X.env)] := by rfl) (hbase : attributeBase o "split" X.env (eval o X.env) = eval o X.env := by rfl) (hline : (apos.endLine == pos.line) = true := by rfl) :
    DE K X (.Call (.Attribute o "split" apos) [e] [] pos) (fSplit fa fb) := ⟨fun hK => by
  subst hK
  refine pe_imp (pe_split (ho.pe rfl) (he.pe rfl) hs hbase hline) fun σ H Q q => ?_
  obtain ⟨c, ρ, P, st, f, k⟩ := q
  refine ⟨c, ρ, _, st, f, fun v H1 d A1 r1 p => ?_⟩
  cases r1 with
  | str l hl =>
    refine ⟨⟨S l, rfl⟩, c, ρ, _, A1.st, p, fun w H2 e A2 r2 p2 => ?_⟩
    cases r2 with
    | str b hb =>
      obtain ⟨p1, p2, p3, p4⟩ := p2
      refine ⟨S l, S b, rfl, rfl, by rw [S_length]; exact beq_eq_false_iff_ne.mpr fun z => p1 (List.length_eq_zero_iff.mp z), by rw [S_length]; exact p3, fun q hq => ?_⟩
      rw [split_S p1 p2, List.map_map]
      have en := same_new (o := .lst ((TL.spl b 0 [] l).map (V.str ∘ S))) hq
      refine k _ _ _ ((A1.trans A2).trans (.grow A2.st en)) (.lst (A2.st.newM hq) (RpAll.ofStrs fun z hz => ?_)) p4
      have := spl_len z hz
      simp only [List.length_nil] at this
      omega
    | _ => exact p2.elim
  | _ => exact p.elim⟩
end
end DL
/-! The layer DL: displays, comprehensions of dicts, of two clauses, over a dict's items. -/
namespace DL
open PySem PySem.Spec PyProof.Rows L2
section
variable [TapeI] {K : PySem.W.Frag} {X : Cx} {pos : Pos} {e : Expr} {fa : FE} {fs : FA} {tg : Expr} {es : List Expr}
/-! ### a new object that is shared at once -/
def shP : Sl → (D → Prop) → Prop
  | .ol ds, P => P (.lst ds)
  | .od ks ds, P => P (.dic ks ds)
  | _, _ => False
theorem NewR.share {c : Fx} {σ : St} {ρ : Rho} {H H' : Hp} {q : Addr} {s : Sl} (n : NewR K c σ ρ H q H' s) {P : D → Prop} (p : shP s P) : ∃ d, Aft K c σ ρ H H' ∧ Rp K (M c σ ρ H') (.ref q) d ∧ P d := by
  obtain ⟨s3, sm3⟩ := n.st.unplus n.nB
  have A : Aft K c σ ρ H H' := ⟨s3, n.sm.trans sm3, n.oo⟩
  have sl := n.sl _ sm3
  have at_ : M c σ ρ H' q = H' q := msk_of fun z => z.elim n.nO n.no
  cases s with
  | ol ds =>
    obtain ⟨a, xs, e1, e2, e3, _⟩ := sl
    cases e1
    exact ⟨_, A, .lst (at_.trans e2) e3, p⟩
  | od ks ds =>
    obtain ⟨a, kvs, e1, e2, e3, hz, e4, _⟩ := sl
    cases e1
    exact ⟨_, A, .dic (.inl (at_.trans e2)) e3 hz e4, p⟩
  | _ => exact p.elim
theorem de_df {f : FN} (h : DF K X e f) : DE K X e (fun ρ P => f ρ fun s => shP s P) := ⟨fun hK => pe_imp (h.pe hK) fun σ H Q q => by
  obtain ⟨c, ρ, P, st, f, k⟩ := q
  refine ⟨c, ρ, _, st, f, fun q H' s n p => ?_⟩
  obtain ⟨d, A, r, p⟩ := n.share p
  exact k _ H' d A r p⟩
/-! ### displays of dicts -/
def fPairs : List (FE × FE) → Rho → (List (D × D) → Prop) → Prop
  | [], _, P => P []
  | (fk, fv) :: r, ρ, P => fk ρ fun k => fv ρ fun v => fPairs r ρ fun ps => P ((k, v) :: ps)
structure DPs (K : PySem.W.Frag) (X : Cx) (pos : Pos) (keys : List (Option Expr)) (values : List Expr) (fps : List (FE × FE)) : Prop where
  pp : X.K = K → PPs X pos keys values (fps.map fun p => (eOf K p.1, eOf K p.2))
theorem dps_nil : DPs K X pos [] [] [] := ⟨fun _ => pps_nil⟩
theorem dps_cons {k v : Expr} {ks : List (Option Expr)} {vs : List Expr} {fk fv : FE} {fps : List (FE × FE)} (hk : DE K X k fk) (hv : DE K X v fv) (hr : DPs K X pos ks vs fps) : DPs K X pos (some k :: ks) (v :: vs) ((fk, fv) :: fps) := ⟨fun hK => pps_cons (hk.pe hK) (hv.pe hK) (hr.pp hK)⟩
theorem e_pairs {c : Fx} {σ : St} {ρ : Rho} : ∀ {fps : List (FE × FE)} {H : Hp} {Q : List (V × V) → Hp → Prop} {P : List (D × D) → Prop}, StR K c σ ρ H → fPairs fps ρ P →
    (∀ ps H' qs, Aft K c σ ρ H H' → RpAll K (M c σ ρ H') (ps.map (·.1)) (qs.map (·.1)) → RpAll K (M c σ ρ H') (ps.map (·.2)) (qs.map (·.2)) → P qs → Q ps H') → tPairs (fps.map fun p => (eOf K p.1, eOf K p.2)) σ H Q
  | [], H, Q, P, st, f, k => k [] H [] (.refl st) .nil .nil f
  | (fk, fv) :: fps, H, Q, P, st, f, k => by
    refine ⟨c, ρ, _, st, f, fun x H1 d A1 r1 p1 => ⟨c, ρ, _, A1.st, p1, fun y H2 e A2 r2 p2 => ?_⟩⟩
    refine e_pairs A2.st p2 fun ps H3 qs A3 ra rb p3 => ?_
    exact k ((x, y) :: ps) H3 ((d, e) :: qs) ((A1.trans A2).trans A3) (.cons ((r1.mono A2.sm).mono A3.sm) ra) (.cons (r2.mono A3.sm) rb) p3
/-- the keys of a display -/
def keysOf : List (D × D) → Option (List (DK × D))
  | [] => some []
  | (k, d) :: r => (keyD k).bind fun k => (keysOf r).map ((k, d) :: ·)
theorem keysOf_rp {H : Hp} : ∀ {ps : List (V × V)} {qs : List (D × D)} {ks : List (DK × D)}, RpAll K H (ps.map (·.1)) (qs.map (·.1)) → RpAll K H (ps.map (·.2)) (qs.map (·.2)) → keysOf qs = some ks →
    ∃ kvs : List (Key × V), ps = kvs.map (fun kv => (kV kv.1, kv.2)) ∧ kvs.map (·.1) = (ks.map (·.1)).map dkey ∧ KeysOk (ks.map (·.1)) ∧ RpAll K H (kvs.map (·.2)) (ks.map (·.2))
  | [], [], ks, _, _, h => by
    cases h
    exact ⟨[], rfl, rfl, fun l hl => by simp at hl, .nil⟩
  | [], _ :: _, _, r, _, _ => by cases r
  | _ :: _, [], _, r, _, _ => by cases r
  | (x, y) :: ps, (k, d) :: qs, ks, ra, rb, h => by
    obtain ⟨key, e1, e2⟩ := Option.bind_eq_some_iff.mp (show (keyD k).bind _ = some ks from h)
    obtain ⟨ls, e3, e4⟩ := Option.map_eq_some_iff.mp e2
    subst e4
    rw [List.map_cons, List.map_cons] at ra rb
    cases ra with
    | cons r1 ra =>
      cases rb with
      | cons r2 rb =>
        obtain ⟨kvs, h1, h2, h3, h4⟩ := keysOf_rp ra rb e3
        have ek := keyD_rp r1 e1
        have kz : KeysOk [key] := keysOk_put (ks := []) (fun l hl => by simp at hl) r1 e1
        refine ⟨(dkey key, y) :: kvs, by rw [h1]; exact congrArg (· :: _) (Prod.ext ek rfl), by rw [List.map_cons, h2]; rfl, fun l hl => ?_, .cons r2 h4⟩
        rcases List.mem_cons.mp hl with hl | hl
        · exact kz l (by rw [hl]; exact List.mem_cons_self)
        · exact h3 l hl
def fDisp (fps : List (FE × FE)) : FN := fun ρ P => fPairs fps ρ fun qs => ∃ ks, keysOf qs = some ks ∧ ks.length ≤ 15 ∧ P (.od (mrgD [] [] ks).1 (mrgD [] [] ks).2)
theorem df_disp {keys : List (Option Expr)} {values : List Expr} {fps : List (FE × FE)} (h : DPs K X pos keys values fps) (hall : keys.all (·.isSome) = true := by rfl) (hl : keys.length = values.length := by rfl) (h0 : keys ≠ [] := by exact fun z => nomatch z) (h15 : keys.length ≤ 15 := by decide) :
    DF K X (.Dict keys values pos) (fDisp fps) := ⟨fun hK => pe_imp (pe_disp (h.pp hK) hall hl h0 h15) fun σ H Q q => by
  obtain ⟨c, ρ, P, st, f, k⟩ := q
  intro D hD
  have hB := st.freshB hD
  have hno : ¬ own σ ρ D := fun z => st.own_some z hD
  obtain ⟨sp, smp⟩ := st.plus (o := .dK []) hD
  refine e_pairs sp f fun ps H2 qs A ra rb ⟨ks, e1, e2, p⟩ => ?_
  have tpD : (c.plus D).tp ≠ some D := fun z => sp.tpB D z hB
  have ntk : ¬ hasTk ρ D := fun z => by
    obtain ⟨_, z⟩ := z
    obtain ⟨j, hj⟩ := List.getElem?_of_mem z
    exact hno ⟨j, _, hj, rfl, (st.slot j _ hj).1⟩
  have hD2 : H2 D = some (.dK []) := A.oo D _ (.inl (.inr rfl)) tpD ntk upd_same
  obtain ⟨kvs, h1, h2, h3, h4⟩ := keysOf_rp ra rb e1
  have hl : kvs.length = ks.length := by simpa using congrArg List.length h2
  refine ⟨hD2, kvs, h1, by rw [hl]; exact e2, ?_⟩
  obtain ⟨m1, m2, m3⟩ := mrgD_rp (kvs := []) (ks := []) (ds := []) h2 h3 h4 rfl (fun l hl => by simp at hl) .nil
  obtain ⟨s7, eM7⟩ := A.st.plusUpd (o := .dK (mergeK [] kvs)) (by rw [hD2]; exact fun z => nomatch z) hB hno
  refine k D _ (.od _ _) ⟨s7, smp.trans (by rw [eM7]; exact A.sm), fun b o h1 h2 h3 e => ?_, hB, hno, fun z => st.dom D z hD, rfl, fun m em => ⟨D, _, rfl, upd_same, m1, m2, ?_, hB⟩⟩ p
  · have ne : b ≠ D := ne_of_none e hD
    rw [upd_ne ne]
    exact A.oo b o (ow_plus.2 (.inl h1)) h2 h3 (same_new hD b o e)
  · rw [eM7] at em
    exact m3.mono em⟩
theorem df_dnil : DF K X (.Dict [] [] pos) (fun _ P => P (.od [] [])) := ⟨fun hK => pe_imp pe_dnewK fun σ H Q q => by
  obtain ⟨c, ρ, P, st, f, k⟩ := q
  exact fun D hD => k D _ _ (.dic (.refl st) hD rfl (fun l hl => by simp at hl) .nil) f⟩
/-! ### comprehensions of dicts -/
def ARD (K : PySem.W.Frag) (m : Hp) (a : List DK × List D) (o : HO) : Prop := ∃ kvs, o = .dK kvs ∧ kvs.map (·.1) = a.1.map dkey ∧ KeysOk a.1 ∧ RpAll K m (kvs.map (·.2)) a.2
theorem ARD.mono {m m' : Hp} {a : List DK × List D} {o : HO} (e : Same m m') (h : ARD K m a o) : ARD K m' a o := by
  obtain ⟨acc, h1, h2, h3, h4⟩ := h
  exact ⟨acc, h1, h2, h3, h4.mono e⟩
def bodyD (tk tv : FE) : Rho → List DK × List D → (List DK × List D → Prop) → Prop := fun ρ a P => tk ρ fun y => tv ρ fun d => ∃ k, keyD y = some k ∧ a.1.length < sizeLine ∧ P (putKs a.1 k, putDs a.1 a.2 k d)
theorem body_D {c : Fx} {tk tv : FE} {D : Addr} (hB : c.B D = none) : BodyOk K (ARD K) c D (fun σ2 H3 Nx => eOf K tk σ2 H3 fun y H4 => eOf K tv σ2 H4 fun z H5 => ∃ kvs k, y = kV k ∧ H5 D = some (.dK kvs) ∧ kvs.length < sizeLine ∧ Nx (upd H5 D (.dK (putK kvs k z)))) (bodyD tk tv) := fun σ ρ H a P Nx st hno ⟨o, hD, kvs, eo, hk, hz, rd⟩ f k => by
  subst eo
  have tpD : (c.plus D).tp ≠ some D := fun z => st.tpB D z hB
  have ntk : ¬ hasTk ρ D := fun z => by
    obtain ⟨_, z⟩ := z
    obtain ⟨j, hj⟩ := List.getElem?_of_mem z
    exact hno ⟨j, _, hj, rfl, (st.slot j _ hj).1⟩
  refine ⟨c.plus D, ρ, _, st, f, fun y H4 dy A4 r4 p4 => ⟨c.plus D, ρ, _, A4.st, p4, fun z H5 dz A5 r5 ⟨key, e1, e2, p5⟩ => ?_⟩⟩
  have A := A4.trans A5
  have hD5 : H5 D = some (.dK kvs) := A.oo D _ (.inl (.inr rfl)) tpD ntk hD
  obtain ⟨s7, eM7⟩ := A.st.plusUpd (o := .dK (putK kvs (dkey key) z)) (by rw [hD5]; exact fun z => nomatch z) hB hno
  have hl : kvs.length = a.1.length := by simpa using congrArg List.length hk
  refine ⟨kvs, dkey key, keyD_rp r4 e1, hD5, by rw [hl]; exact e2, k _ _ ⟨s7, by rw [eM7]; exact A.sm, ⟨_, upd_same, _, rfl, putK_keys hk, keysOk_put hz r4 e1, ?_⟩, fun b o h1 h2 h3 h4 e => ?_⟩ p5⟩
  · rw [eM7]; exact putK_rp r5 hk (rd.mono A.sm)
  · rw [upd_ne h4]; exact A.oo b o (ow_plus.2 (.inl h1)) h2 h3 e
variable {kx vx iter : Expr} {ifs : List Expr} {scope : Scope} {fi : FA} {fg : FG} {tt : FT} {te tk tv : FE} {ws : List Nat}
def fDc (fi : FA) (fg : FG) (tt : FT) (tk tv : FE) (vs : List Nat) : FN := fun ρ P => noOwn ρ vs = true ∧ fi ρ fun ds => blkD fg tt (bodyD tk tv) vs ds ρ ([], []) fun a => P (.od a.1 a.2)
theorem df_dc (hc : X.calm = true) (hN : X.N.Nodup) (hi : DI K X tg iter fi) (own : List (Str × Nat)) (ok : blkC X.N X.env.scope scope own = true) (hw : ∀ i ∈ ws, i ∈ own.map (·.2))
    (hg : AllB X scope fun X' => DG K X' tg ws fg) (ht : AllB X scope fun X' => DTs K X' ifs tt) (hk : AllB X scope fun X' => DE K X' kx tk) (he : AllB X scope fun X' => DE K X' vx tv) (hs : ∀ x, foldedSetIterable iter X.env x = pure x := by intro _; rfl) :
    DF K X (.DictComp kx vx [⟨tg, iter, ifs, 0⟩] scope pos) (fDc fi fg tt tk tv (own.map (·.2))) := ⟨fun hK => by
  refine pe_imp (pe_dc hc hN (hi.pi hK) (blkOk_by ok) (fun s H C cl fp => (hg s H C cl fp).pg hK) (fun s H C cl fp => (ht s H C cl fp).pt hK) (fun s H C cl fp => (hk s H C cl fp).pe hK) (fun s H C cl fp => (he s H C cl fp).pe hK) hs) fun σ H Q q => ?_
  obtain ⟨c, ρ, P, st, ⟨hn, f⟩, k⟩ := q
  refine ⟨c, ρ, _, st, f, fun J H1 ds A y p => fun D hD => ?_⟩
  have hB := A.st.freshB hD
  have hno : ¬ DL.own σ ρ D := fun z => A.st.own_some z hD
  obtain ⟨sp, smp⟩ := A.st.plus (o := .dK []) hD
  refine blk_loop (AR := ARD K) ARD.mono (body_D hB) hw hB hno hn sp (y.L.mono smp) (fun _ _ => trivial) ⟨_, upd_same, [], rfl, rfl, (fun l hl => by simp at hl), .nil⟩ p fun H' a B pe => ?_
  obtain ⟨o, hD', kvs, eo, h1, h2, h3⟩ := B.at_
  subst eo
  exact k D H' (.od a.1 a.2) ⟨B.st, A.sm.trans (smp.trans B.sm), fun b o q1 q2 q3 e => by
    have e1 := A.oo b o q1 q2 q3 e
    exact B.oo b o q1 q2 q3 (ne_of_none e1 hD) (same_new hD b o e1), hB, hno, fun z => A.st.dom D z hD, rfl, fun m em => ⟨D, kvs, rfl, hD', h1, h2, h3.mono em, hB⟩⟩ pe⟩
/-! ### two clauses -/
variable {elt tg1 iter1 : Expr} {ifs1 : List Expr} {fi1 : FA} {fg1 : FG} {tt1 : FT} {ws1 vs1 : List Nat}
def bodyL2 (fi1 : FA) (fg1 : FG) (tt1 : FT) (te : FE) (vs1 : List Nat) : Rho → List D → (List D → Prop) → Prop := fun ρ acc P => noOwn ρ vs1 = true ∧ fi1 ρ fun ds => blkD fg1 tt1 (bodyL te) vs1 ds ρ acc P
theorem body_L2 {c : Fx} {D : Addr} (hB : c.B D = none) (hw : ∀ i ∈ ws1, i ∈ vs1) : BodyOk K (ARL K) c D (fun σ2 H3 Nx => iOf K fi1 σ2 H3 fun J1 H4 => ∃ W1 : Nat → Nat → Hp → Prop, (∃ m, W1 0 m H4) ∧ ∀ j k H, W1 j k H →
      (J1.stop j H ∧ Nx H) ∨ (J1.go j H ∧ ∃ Nx1 : Hp → Prop, (∀ H', Nx1 H' → ∃ k', k' < k ∧ W1 (j + 1) k' H') ∧ ∀ x H', J1.yld j H x H' → gOf K ws1 fg1 x (wipe σ2 vs1) H' fun σ3 H5 => wipe σ3 vs1 = wipe σ2 vs1 ∧ bOf K tt1 σ3 H5 fun b H6 =>
        if b = true then eOf K te σ3 H6 fun y H7 => ∃ acc, H7 D = some (.lst acc) ∧ acc.length < sizeLine ∧ Nx1 (upd H7 D (.lst (acc ++ [y]))) else Nx1 H6)) (bodyL2 fi1 fg1 tt1 te vs1) := fun σ ρ H es P Nx st hno ⟨o, hD, rest⟩ ⟨hn, f⟩ k => by
  have tpD : (c.plus D).tp ≠ some D := fun z => st.tpB D z hB
  have ntk : ¬ hasTk ρ D := fun z => by
    obtain ⟨_, z⟩ := z
    obtain ⟨j, hj⟩ := List.getElem?_of_mem z
    exact hno ⟨j, _, hj, rfl, (st.slot j _ hj).1⟩
  refine ⟨c.plus D, ρ, _, st, f, fun J H4 ds A y p => ?_⟩
  have hD4 : H4 D = some o := A.oo D _ (.inl (.inr rfl)) tpD ntk hD
  refine blk_loop (AR := ARL K) ARL.mono (body_L hB) hw hB hno hn A.st y.L (fun _ _ => trivial) ⟨o, hD4, ARL.mono A.sm rest⟩ p fun H' a B pe => ?_
  exact k H' a ⟨B.st, A.sm.trans B.sm, B.at_, fun b o h1 h2 h3 h4 e => B.oo b o h1 h2 h3 h4 (A.oo b o (ow_plus.2 (.inl h1)) h2 h3 e)⟩ pe
def fLc2 (fi : FA) (fg : FG) (tt : FT) (fi1 : FA) (fg1 : FG) (tt1 : FT) (te : FE) (vs vs1 : List Nat) (ρ : Rho) (P : List D → Prop) : Prop := noOwn ρ vs = true ∧ fi ρ fun ds => blkD fg tt (bodyL2 fi1 fg1 tt1 te vs1) vs ds ρ [] P
theorem e_lc2 {vs : List Nat} (hw : ∀ i ∈ ws, i ∈ vs) (hw1 : ∀ i ∈ ws1, i ∈ vs1) {c : Fx} {σ : St} {ρ : Rho} {H : Hp} {Q : VK} {P : List D → Prop} (st : StR K c σ ρ H) (f : fLc2 fi fg tt fi1 fg1 tt1 te vs vs1 ρ P)
    (k : ∀ D H' es, NewR K c σ ρ H D H' (.ol es) → P es → Q (.ref D) H') :
    tLc2 (iOf K fi) (gOf K ws fg) (bOf K tt) (iOf K fi1) (gOf K ws1 fg1) (bOf K tt1) (eOf K te) vs vs1 σ H Q := by
  obtain ⟨hn, f⟩ := f
  refine ⟨c, ρ, _, st, f, fun J H1 ds A y p => fun D hD => ?_⟩
  have hB := A.st.freshB hD
  have hno : ¬ own σ ρ D := fun z => A.st.own_some z hD
  obtain ⟨sp, smp⟩ := A.st.plus (o := .lst []) hD
  refine blk_loop (AR := ARL K) ARL.mono (body_L2 hB hw1) hw hB hno hn sp (y.L.mono smp) (fun _ _ => trivial) ⟨_, upd_same, [], rfl, .nil⟩ p fun H' es B pe => ?_
  obtain ⟨o, hD', acc, eo, racc⟩ := B.at_
  subst eo
  exact k D H' es ⟨B.st, A.sm.trans (smp.trans B.sm), fun b o q1 q2 q3 e => by
    have e1 := A.oo b o q1 q2 q3 e
    exact B.oo b o q1 q2 q3 (ne_of_none e1 hD) (same_new hD b o e1), hB, hno, fun z => A.st.dom D z hD, rfl, fun m em => ⟨D, acc, rfl, hD', racc.mono em, hB⟩⟩ pe
theorem df_lc2 (hc : X.calm = true) (hN : X.N.Nodup) (hi : DI K X tg iter fi) (own : List (Str × Nat)) (vs1 : List Nat) (ok : blkC X.N X.env.scope scope own = true) (hv : ∀ i ∈ vs1, i ∈ own.map (·.2)) (hw : ∀ i ∈ ws, i ∈ own.map (·.2)) (hw1 : ∀ i ∈ ws1, i ∈ vs1)
    (hg : AllB X scope fun X' => DG K X' tg ws fg) (ht : AllB X scope fun X' => DTs K X' ifs tt) (hi1 : AllB X scope fun X' => DI K X' tg1 iter1 fi1) (hg1 : AllB X scope fun X' => DG K X' tg1 ws1 fg1) (ht1 : AllB X scope fun X' => DTs K X' ifs1 tt1)
    (he : AllB X scope fun X' => DE K X' elt te) (hs : ∀ x, foldedSetIterable iter X.env x = pure x := by intro _; rfl) (hs1 : ∀ env x, foldedSetIterable iter1 env x = pure x := by intro _ _; rfl) :
    DF K X (.ListComp elt [⟨tg, iter, ifs, 0⟩, ⟨tg1, iter1, ifs1, 0⟩] scope pos) (fun ρ P => fLc2 fi fg tt fi1 fg1 tt1 te (own.map (·.2)) vs1 ρ fun es => P (.ol es)) := ⟨fun hK => by
  refine pe_imp (pe_lc2 hc hN (hi.pi hK) (blkOk_by ok) hv (fun s H C cl fp => (hg s H C cl fp).pg hK) (fun s H C cl fp => (ht s H C cl fp).pt hK) (fun s H C cl fp => (hi1 s H C cl fp).pi hK) (fun s H C cl fp => (hg1 s H C cl fp).pg hK) (fun s H C cl fp => (ht1 s H C cl fp).pt hK) (fun s H C cl fp => (he s H C cl fp).pe hK) hs hs1) fun σ H Q q => ?_
  obtain ⟨c, ρ, P, st, f, k⟩ := q
  exact e_lc2 hw hw1 st f fun D H' es n p => k D H' _ n p⟩
end
end DL
/-! The layer DL: a dict of one's own, its items walked. -/
namespace DL
open PySem PySem.Spec PyProof.Rows L2
section
variable [TapeI] {K : PySem.W.Frag} {X : Cx} {pos : Pos} {e : Expr} {fa : FE} {fs : FA} {tg : Expr} {es : List Expr} {c : Fx} {σ : St} {ρ : Rho} {H H' : Hp}
theorem plus_comm (c : Fx) (a b : Addr) : (c.plus a).plus b = (c.plus b).plus a := by
  unfold Fx.plus
  congr 1
  funext x
  exact propext ⟨fun h => h.elim (fun h => h.elim (fun h => .inl (.inl h)) .inr) fun h => .inl (.inr h), fun h => h.elim (fun h => h.elim (fun h => .inl (.inl h)) .inr) fun h => .inl (.inr h)⟩
theorem ow_hide {i : Nat} {a : Addr} {s : Sl} (hi : ρ[i]? = some s) (hs : s.own = true) (hv : σ[i]? = some (some (.ref a))) : Ow (c.plus a) σ (ρ.set i .no) = Ow c σ ρ := by
  have hiL : i < ρ.length := (List.getElem?_eq_some_iff.mp hi).1
  funext b
  refine propext ⟨fun h => ?_, fun h => ?_⟩
  · rcases h with (h | h) | ⟨j, u, h1, h2, h3⟩
    · exact .inl h
    · exact .inr ⟨i, s, hi, hs, by rw [h]; exact hv⟩
    · by_cases e : i = j
      · subst e; rw [List.getElem?_set_self hiL] at h1; cases h1; cases h2
      · rw [List.getElem?_set_ne e] at h1; exact .inr ⟨j, u, h1, h2, h3⟩
  · rcases h with h | ⟨j, u, h1, h2, h3⟩
    · exact .inl (.inl h)
    · by_cases e : i = j
      · subst e
        rw [hv] at h3
        exact .inl (.inr (V.ref.inj (Option.some.inj (Option.some.inj h3))).symm)
      · exact .inr ⟨j, u, by rw [List.getElem?_set_ne e]; exact h1, h2, h3⟩
theorem StR.lockIn (st : StR K c σ ρ H) {i : Nat} {a : Addr} {ks : List DK} {ds : List D} (o' : HO) (hi : ρ[i]? = some (.od ks ds)) (hv : σ[i]? = some (some (.ref a))) (hB : c.B a = none) :
    StR K (c.plus a) σ (ρ.set i .no) (upd H a o') ∧ M (c.plus a) σ (ρ.set i .no) (upd H a o') = M c σ ρ H := by
  have hiL : i < ρ.length := (List.getElem?_eq_some_iff.mp hi).1
  have eO := ow_hide (c := c) hi rfl hv
  have eM : M (c.plus a) σ (ρ.set i .no) (upd H a o') = M c σ ρ H := by
    show msk _ _ = msk _ _
    rw [eO, msk_upd (.inr ⟨i, _, hi, rfl, hv⟩)]
  have old : ∀ (j : Nat) (u : Sl), (ρ.set i .no)[j]? = some u → u.own = true → i ≠ j ∧ ρ[j]? = some u := fun j u h1 h2 => by
    by_cases e : i = j
    · subst e; rw [List.getElem?_set_self hiL] at h1; cases h1; cases h2
    · rw [List.getElem?_set_ne e] at h1; exact ⟨e, h1⟩
  have keep : ∀ b o, b ≠ a → H b = some o → upd H a o' b = some o := fun b o n e => by rw [upd_ne n]; exact e
  refine ⟨⟨by rw [List.length_set]; exact st.len, fun j u hj => ?_, fun j l u t b h1 h2 h3 h4 h5 h6 => st.inj j l u t b (old j u h1 h3).2 (old l t h2 h4).2 h3 h4 h5 h6, fun b o h1 h2 => keep b o (fun z => by subst z; rw [show (c.plus b).B b = c.B b from rfl, hB] at h2; cases h2) (st.base b o h1 h2), fun b h1 h2 => ?_, fun t ht => ?_, st.tpB⟩, eM⟩
  · rw [eM]
    by_cases e : i = j
    · subst e; rw [List.getElem?_set_self hiL] at hj; cases hj; trivial
    · rw [List.getElem?_set_ne e] at hj
      have qj := st.slot j u hj
      have nx : u.own = true → σ[j]? = some (some (.ref a)) → False := fun z1 z2 => e (st.inj i j _ u a hi hj rfl z1 hv z2)
      cases u with
      | no => trivial
      | sh d => exact qj
      | ol ds => obtain ⟨b, xs, e1, e2, e3⟩ := qj; exact ⟨b, xs, e1, keep b _ (fun z => nx rfl (z ▸ e1)) e2, e3⟩
      | od ks ds => obtain ⟨b, xs, e1, e2, e3⟩ := qj; exact ⟨b, xs, e1, keep b _ (fun z => nx rfl (z ▸ e1)) e2, e3⟩
      | tk t n => obtain ⟨e1, ⟨o, e2, e3⟩, e4⟩ := qj; exact ⟨e1, ⟨o, keep t _ (fun z => nx rfl (z ▸ e1)) e2, e3⟩, e4⟩
      | ot t n => obtain ⟨e1, ⟨o, e2, e3⟩, e4⟩ := qj; exact ⟨e1, ⟨o, keep t _ (fun z => nx rfl (z ▸ e1)) e2, e3⟩, e4⟩
  · by_cases z : b = a
    · subst z; rw [upd_same] at h2; cases h2
    · rw [upd_ne z] at h2
      exact h1.elim (fun q => st.dom b q h2) z
  · obtain ⟨h1, n, o, h2, h3⟩ := st.tape t ht
    exact ⟨.inl h1, n, o, keep t o (fun z => by subst z; exact st.tpB t ht hB) h2, by rw [eM]; exact h3⟩
theorem StR.lockOut {H0 : Hp} (st0 : StR K c σ ρ H0) {i : Nat} {a : Addr} {ks : List DK} {ds : List D} {kvs : List (Key × V)} (hi : ρ[i]? = some (.od ks ds)) (hv : σ[i]? = some (some (.ref a))) (hB : c.B a = none) {c2 : Fx} (e2 : c2.B = c.B ∧ c2.tp = c.tp)
    (st : StR K (c2.plus a) σ (ρ.set i .no) H') (hk : kvs.map (·.1) = ks.map dkey) (hz : KeysOk ks) (r : RpAll K (M (c2.plus a) σ (ρ.set i .no) H') (kvs.map (·.2)) ds) :
    StR K c2 σ ρ (upd H' a (.dK kvs)) ∧ M c2 σ ρ (upd H' a (.dK kvs)) = M (c2.plus a) σ (ρ.set i .no) H' := by
  have hiL : i < ρ.length := (List.getElem?_eq_some_iff.mp hi).1
  have eO := ow_hide (c := c2) hi rfl hv
  have hB2 : c2.B a = none := by rw [e2.1]; exact hB
  have eM : M c2 σ ρ (upd H' a (.dK kvs)) = M (c2.plus a) σ (ρ.set i .no) H' := by
    show msk _ _ = msk _ _
    rw [eO, msk_upd (.inr ⟨i, _, hi, rfl, hv⟩)]
  have keep : ∀ b o, b ≠ a → H' b = some o → upd H' a (.dK kvs) b = some o := fun b o n e => by rw [upd_ne n]; exact e
  refine ⟨⟨st0.len, fun j u hj => ?_, st0.inj, fun b o h1 h2 => keep b o (fun z => by subst z; rw [hB2] at h2; cases h2) (st.base b o h1 h2), fun b h1 h2 => ?_, fun t ht => ?_, st.tpB⟩, eM⟩
  · rw [eM]
    by_cases e : i = j
    · subst e
      rw [hi] at hj
      cases hj
      exact ⟨a, kvs, hv, upd_same, hk, hz, r, hB2⟩
    · have qj := st.slot j u (by rw [List.getElem?_set_ne e]; exact hj)
      have nx : u.own = true → σ[j]? = some (some (.ref a)) → False := fun z1 z2 => e (st0.inj i j _ u a hi hj rfl z1 hv z2)
      cases u with
      | no => trivial
      | sh d => exact qj
      | ol ds => obtain ⟨b, xs, e1, e2, e3⟩ := qj; exact ⟨b, xs, e1, keep b _ (fun z => nx rfl (z ▸ e1)) e2, e3⟩
      | od ks ds => obtain ⟨b, xs, e1, e2, e3⟩ := qj; exact ⟨b, xs, e1, keep b _ (fun z => nx rfl (z ▸ e1)) e2, e3⟩
      | tk t n => obtain ⟨e1, ⟨o, e2, e3⟩, e4⟩ := qj; exact ⟨e1, ⟨o, keep t _ (fun z => nx rfl (z ▸ e1)) e2, e3⟩, e4⟩
      | ot t n => obtain ⟨e1, ⟨o, e2, e3⟩, e4⟩ := qj; exact ⟨e1, ⟨o, keep t _ (fun z => nx rfl (z ▸ e1)) e2, e3⟩, e4⟩
  · by_cases z : b = a
    · subst z; rw [upd_same] at h2; cases h2
    · rw [upd_ne z] at h2
      exact st.dom b (.inl h1) h2
  · obtain ⟨h1, n, o, h2, h3⟩ := st.tape t ht
    have ne : t ≠ a := fun z => by subst z; exact st.tpB t ht hB2
    exact ⟨h1.resolve_right ne, n, o, keep t o ne h2, by rw [eM]; exact h3⟩
def itemsD (ks : List DK) (ds : List D) : List D := (ks.zip ds).map fun p => .tup [kD p.1, p.2]
theorem items_get {H : Hp} : ∀ {kvs : List (Key × V)} {ks : List DK} {ds : List D} {i : Nat} {k : Key} {v : V}, kvs.map (·.1) = ks.map dkey → KeysOk ks → RpAll K H (kvs.map (·.2)) ds → kvs[i]? = some (k, v) → ∃ q d, (itemsD ks ds)[i]? = some (.tup [kD q, d]) ∧ Rp K H (kV k) (kD q) ∧ Rp K H v d
  | [], _, _, _, _, _, _, _, _, h => by simp at h
  | p :: kvs, [], _, _, _, _, h, _, _, _ => by simp at h
  | p :: kvs, q :: ks, ds, i, k, v, h, hz, r, hi => by
    rw [List.map_cons, List.map_cons, List.cons.injEq] at h
    cases r with
    | @cons _ _ d ds' r1 t =>
      cases i with
      | zero =>
        simp only [List.getElem?_cons_zero, Option.some.injEq] at hi
        subst hi
        refine ⟨q, d, rfl, ?_, r1⟩
        rw [show k = dkey q from h.1]
        cases q with
        | inl i => exact .int i
        | inr l => exact .str l (hz l List.mem_cons_self)
      | succ i =>
        rw [List.getElem?_cons_succ] at hi
        obtain ⟨q', d', e1, e2, e3⟩ := items_get h.2 (fun l hl => hz l (List.mem_cons_of_mem _ hl)) t hi
        exact ⟨q', d', by simpa [itemsD] using e1, e2, e3⟩
theorem items_len {H : Hp} {kvs : List (Key × V)} {ks : List DK} {ds : List D} (h : kvs.map (·.1) = ks.map dkey) (r : RpAll K H (kvs.map (·.2)) ds) : (itemsD ks ds).length = kvs.length := by
  have h1 : kvs.length = ks.length := by simpa using congrArg List.length h
  have h2 := r.length
  rw [List.length_map] at h2
  unfold itemsD
  rw [List.length_map, List.length_zip]
  omega
theorem yl_items {m : Hp} {a : Addr} {od : Obj} {kvs : List (Key × V)} {ks : List DK} {ds : List D} (hk : kvs.map (·.1) = ks.map dkey) (hz : KeysOk ks) (r : RpAll K m (kvs.map (·.2)) ds) : YlL K (Iti a od kvs) m (fun H => H a = some (.frz od (.dK kvs))) (itemsD ks ds) := fun O H hO e hL i => by
  have hl := items_len hk r
  refine ⟨fun hi => ⟨hL, by omega⟩, fun hi => ⟨hL, by omega⟩, fun x H' hi ⟨T, k, v, e1, e2, e3, e4⟩ => ?_⟩
  subst e2 e4
  obtain ⟨q, d, h1, h2, h3⟩ := items_get hk hz r e1
  have en := same_new (o := .tup [kV k, v]) e3
  refine ⟨_, h1, en, .tup (.inl (.inl ?_)) (RpAll.mono (msk_same en) (.cons (h2.mono e) (.cons (h3.mono e) .nil)))⟩
  show msk _ _ _ = _
  rw [msk_of fun z => hO T z e3, upd_same]
variable {kx vx iter elt : Expr} {ifs : List Expr} {scope : Scope} {fi : FA} {fg : FG} {tt : FT} {te tk tv : FE} {ws : List Nat} {x : Str} {p apos cpos tpos : Pos} {elts : List Expr} {kk : Nat}
/-- [elt for k, v in found.items() if ..], found one's own -/
theorem df_lcItems (i : Nat) (hc : X.calm = true) (hNd : X.N.Nodup) (own : List (Str × Nat)) (ok : blkC X.N X.env.scope scope own = true) (hw : ∀ i ∈ ws, i ∈ own.map (·.2))
    (hg : AllB X scope fun X' => DG K X' (.Tuple elts kk tpos) ws fg) (ht : AllB X scope fun X' => DTs K X' ifs tt) (he : AllB X scope fun X' => DE K X' elt te)
    (hN : X.N[i]? = some x := by rfl) (hv : Vis X.env.scope x := by first | exact Or.inl rfl | exact Or.inr (Or.inl rfl) | exact Or.inr (Or.inr rfl))
    (hd1 : (x == ("__debug__" : Str)) = false := by decide) (hcd : (x == ("__classdict__" : Str)) = false := by decide)
    (hs : ∀ y, foldedSetIterable (.Call (.Attribute (.Name x p) "items" apos) [] [] cpos) X.env y = pure y := by intro _; rfl)
    (hbase : attributeBase (.Name x p) "items" X.env (eval (.Name x p) X.env) = eval (.Name x p) X.env := by rfl) (hline : (apos.endLine == cpos.line) = true := by rfl) :
    DF K X (.ListComp elt [⟨.Tuple elts kk tpos, .Call (.Attribute (.Name x p) "items" apos) [] [] cpos, ifs, 0⟩] scope pos)
      (fun ρ P => odAt ρ[i]? fun ks ds => noOwn (ρ.set i .no) (own.map (·.2)) = true ∧ blkD fg tt (bodyL te) (own.map (·.2)) (itemsD ks ds) (ρ.set i .no) [] fun es => P (.ol es)) := ⟨fun hK => by
  refine pe_imp (pe_lock (pe_lc hc hNd (pi_items (pe_var hN hv hd1 hcd) hbase hline) (blkOk_by ok) (fun s H C cl fp => (hg s H C cl fp).pg hK) (fun s H C cl fp => (ht s H C cl fp).pt hK) (fun s H C cl fp => (he s H C cl fp).pe hK) hs)) fun σ H Q q => ?_
  obtain ⟨c, ρ, P, st, f, k⟩ := q
  obtain ⟨a, kvs, ks, ds, h1, h2, h3, h4, hz, h5, h6, hn, f⟩ := st.od f
  refine ⟨a, .dK kvs, h3, trivial, fun ob => ⟨.ref a, h2, a, ob, kvs, rfl, upd_same, ?_⟩⟩
  obtain ⟨s1, eM⟩ := st.lockIn (.frz ob (.dK kvs)) h1 h2 h6
  have ow : ∀ b, Ow c σ ρ b → Ow (c.plus a) σ (ρ.set i .no) b := fun b h => by rw [ow_hide h1 rfl h2]; exact h
  have tpa : c.tp ≠ some a := fun z => st.tpB a z h6
  have tkm : ∀ b, hasTk (ρ.set i .no) b → hasTk ρ b := fun b ⟨n, hb⟩ => ⟨n, (List.mem_or_eq_of_mem_set hb).resolve_right fun z => by cases z⟩
  have ntk : ¬ hasTk ρ a := fun z => by
    obtain ⟨_, z⟩ := z
    obtain ⟨j, hj⟩ := List.getElem?_of_mem z
    have := st.inj i j _ _ a h1 hj rfl rfl h2 (st.slot j _ hj).1
    subst this
    rw [h1] at hj
    cases hj
  have hoa : Ow c σ ρ a := .inr ⟨i, _, h1, rfl, h2⟩
  refine e_lcJ (Q := fun v H' => H' a = some (.frz ob (.dK kvs)) ∧ Q v (upd H' a (.dK kvs))) hw s1 hn (L := fun H => H a = some (.frz ob (.dK kvs))) (yl_items h4 hz (by rw [eM]; exact h5)) (fun H2 oo => oo a _ (ow a hoa) tpa (fun z => ntk (tkm _ z)) upd_same) f fun D H' es acc hD hD' racc s2 sm2 oo pe => ?_
  have ha' : H' a = some (.frz ob (.dK kvs)) := oo a _ (ow a hoa) tpa (fun z => ntk (tkm _ z)) upd_same
  have neD : D ≠ a := fun z => by subst z; rw [upd_same] at hD; cases hD
  have hHD : H D = none := by rwa [upd_ne neD] at hD
  rw [plus_comm] at s2 racc
  have sm2' : Same (M c σ ρ H) (M ((c.plus D).plus a) σ (ρ.set i .no) H') := by rw [← eM, plus_comm]; exact sm2
  obtain ⟨s3, eM3⟩ := st.lockOut (c2 := c.plus D) h1 h2 h6 ⟨rfl, rfl⟩ s2 h4 hz (h5.mono sm2')
  refine ⟨ha', k D _ (.ol es) ⟨s3, by rw [eM3]; exact sm2', fun b o q1 q2 q3 e => ?_, st.freshB hHD, fun z => st.own_some z hHD, fun z => st.dom D z hHD, rfl, fun m em => ⟨D, acc, rfl, by rw [upd_ne neD]; exact hD', ?_, st.freshB hHD⟩⟩ pe⟩
  · by_cases z : b = a
    · subst z
      rw [h3] at e
      cases e
      exact upd_same
    · rw [upd_ne z]
      exact oo b o (ow b q1) q2 (fun z => q3 (tkm _ z)) (by rw [upd_ne z]; exact e)
  · rw [eM3] at em
    exact racc.mono em⟩
end
end DL
/-! The layer DL: name = a comprehension on one line; odds and ends. -/
namespace L2
open PySem PySem.Spec PyProof.Rows
theorem sw_trueD {kx vx : Expr} {gs : List Comprehension} {scope : Scope} {pos py : Pos} {y : Str} {l : Nat} {env : Env} (hk : env.scope.kind = .function) (hy : env.scope.names.lookup y = some .local) (hl : (py.line == pos.line) = true)
    (ha : (scope.names.any fun (n, k) => n == y && (k == .local || k == .cell)) = false) : swapsWith (.DictComp kx vx gs scope pos) (some (.Name y py)) l env = pure true := by
  have ky : env.kindOf y = some .local := hy
  have hb : env.blockKind = .function := by unfold Env.blockKind; rw [hk]; rfl
  unfold swapsWith
  simp only [hb, ky, ha, Expr.pos, hl]
  rfl
section
variable {X : Cx}
theorem ps_setDc {i : Nat} {y : Str} {py : Pos} {kx vx tg iter : Expr} {ifs : List Expr} {scope : Scope} {own : List (Str × Nat)} {pos spos : Pos} {wi : TI} {g : TG} {tt : TT} {tk tv : TE} (hc : X.calm = true) (hN : X.N.Nodup) (hy : X.N[i]? = some y) (hyl : X.env.scope.names.lookup y = some .local)
    (hsw : swapsWith (.DictComp kx vx [⟨tg, iter, ifs, 0⟩] scope pos) (some (.Name y py)) spos.line X.env = pure true) (hi : PI X tg iter wi) (ok : BlkOk X.N X.env.scope scope own)
    (hg : ∀ (s : Shared) (H : Hp) (C : Addr) (cl : List (Str × Addr)) (fp : List Addr), PG (X.blk s H scope (compEnvC scope cl C X.env) fp) tg g) (ht : ∀ (s : Shared) (H : Hp) (C : Addr) (cl : List (Str × Addr)) (fp : List Addr), PTs (X.blk s H scope (compEnvC scope cl C X.env) fp) ifs tt)
    (hk : ∀ (s : Shared) (H : Hp) (C : Addr) (cl : List (Str × Addr)) (fp : List Addr), PE (X.blk s H scope (compEnvC scope cl C X.env) fp) kx tk)
    (he : ∀ (s : Shared) (H : Hp) (C : Addr) (cl : List (Str × Addr)) (fp : List Addr), PE (X.blk s H scope (compEnvC scope cl C X.env) fp) vx tv) (hs : ∀ x, foldedSetIterable iter X.env x = pure x := by intro _; rfl) :
    PS X (.Assign [.Name y py] (.DictComp kx vx [⟨tg, iter, ifs, 0⟩] scope pos) spos) (tAsg (tDc wi g tt tk tv (own.map (·.2))) (gName i)) := by
  refine ⟨fun pins s σ H D I h => ?_⟩
  rw [exec_Assign_Name_used _ _ _ _ hsw]
  refine wpAny_bind (wpAny_standAt (wpAny_bind ?_))
  show wpAny _ X.A (do let _ ← comprehension (.DictComp kx vx [⟨tg, iter, ifs, 0⟩] scope pos) scope X.env (firstIterPos [⟨tg, iter, ifs, 0⟩] pos) newDict false (eval iter X.env) (some (assign (.Name y py) X.env))) _ _ s
  have h : tDc wi g tt tk tv (own.map (·.2)) σ H (fun x H1 => gName i x σ H1 D.nx) := h
  refine wpAny_bind (thn (dc_core (Qf := fun _ s' => SP X pins D .next s') hc hN I hi ok hg ht hk he hs h fun L C s' m H' I' q hn f => ?_) fun _ s' hq => wpAny_pure (wpAny_pure hq))
  show wpAny _ _ (assign (.Name y py) X.env (.ref L)) _ _ _
  refine wpAny_assign_Name (store_ok2 (v := V.ref L) I' hN hy (.inl hyl) rfl (fun s2 I2 ⟨a, sb, ha⟩ => ?_) (.inr hyl))
  obtain ⟨f0, f1, f2, f3, f4, f5⟩ := f
  have haC : C ≠ a := by
    rcases ha with z | z
    · rw [z]; exact f1
    · exact fun e => f4 y a z e.symm
  refine ⟨m, hn.sameBut sb haC, fun h3 sb3 => ?_⟩
  exact ⟨_, H', I2.turned (t' := s2.toks) (fun b o hb e => (sb3.2 b hb).trans e) f0 f1 f3 f4 f5, q⟩
end
end L2
namespace DL
open PySem PySem.Spec PyProof.Rows L2
section
variable [TapeI] {K : PySem.W.Frag} {X : Cx} {pos : Pos} {e : Expr} {fa : FE} {fs : FA} {tg : Expr} {es : List Expr}
/-- a comprehension, also as the value of an assignment on its line -/
structure DFC (K : PySem.W.Frag) (X : Cx) (e : Expr) (f : FN) : Prop where
  df : DF K X e f
  ps : X.K = K → ∀ {i : Nat} {y : Str} {py spos : Pos}, X.N[i]? = some y → X.env.scope.names.lookup y = some .local → swapsWith e (some (.Name y py)) spos.line X.env = pure true → PS X (.Assign [.Name y py] e spos) (tAsg (nOf K f) (gName i))
theorem tAsg_imp {t t' : TE} {g : TG} (h : ∀ σ H Q, t' σ H Q → t σ H Q) (D : Ends) (σ : St) (H : Hp) (q : tAsg t' g D σ H) : tAsg t g D σ H := h σ H _ q
variable {kx vx iter elt : Expr} {ifs : List Expr} {scope : Scope} {fi : FA} {fg : FG} {tt : FT} {te tk tv : FE} {ws : List Nat}
theorem e_lcN {own : List (Str × Nat)} (hw : ∀ i ∈ ws, i ∈ own.map (·.2)) (σ : St) (H : Hp) (Q : VK) (q : nOf K (fun ρ P => fLc fi fg tt te (own.map (·.2)) ρ fun es => P (.ol es)) σ H Q) : tLc (iOf K fi) (gOf K ws fg) (bOf K tt) (eOf K te) (own.map (·.2)) σ H Q := by
  obtain ⟨c, ρ, P, st, f, k⟩ := q
  refine e_lc hw st f fun D H1 H' es acc A hD hacc racc s2 sm2 oo p => ?_
  exact k D H' (.ol es) ⟨s2, A.sm.trans sm2, fun b o h1 h2 h3 e => oo b o h1 h2 h3 (A.oo b o h1 h2 h3 e), A.st.freshB hD, fun z => A.st.own_some z hD, fun z => A.st.dom D z hD, rfl, fun m em => ⟨D, acc, rfl, hacc, racc.mono em, A.st.freshB hD⟩⟩ p
theorem dfc_lc (hc : X.calm = true) (hN : X.N.Nodup) (hi : DI K X tg iter fi) (own : List (Str × Nat)) (ok : blkC X.N X.env.scope scope own = true) (hw : ∀ i ∈ ws, i ∈ own.map (·.2))
    (hg : AllB X scope fun X' => DG K X' tg ws fg) (ht : AllB X scope fun X' => DTs K X' ifs tt) (he : AllB X scope fun X' => DE K X' elt te) (hs : ∀ x, foldedSetIterable iter X.env x = pure x := by intro _; rfl) :
    DFC K X (.ListComp elt [⟨tg, iter, ifs, 0⟩] scope pos) (fun ρ P => fLc fi fg tt te (own.map (·.2)) ρ fun es => P (.ol es)) where
  df := ⟨fun hK => pe_imp (pe_lc hc hN (hi.pi hK) (blkOk_by ok) (fun s H C cl fp => (hg s H C cl fp).pg hK) (fun s H C cl fp => (ht s H C cl fp).pt hK) (fun s H C cl fp => (he s H C cl fp).pe hK) hs) (e_lcN hw)⟩
  ps := fun hK _ _ _ _ hy hyl hsw => ps_imp (L2.ps_setLc hc hN hy hyl hsw (hi.pi hK) (blkOk_by ok) (fun s H C cl fp => (hg s H C cl fp).pg hK) (fun s H C cl fp => (ht s H C cl fp).pt hK) (fun s H C cl fp => (he s H C cl fp).pe hK) hs) (tAsg_imp (e_lcN hw))
theorem e_dcN {own : List (Str × Nat)} (hw : ∀ i ∈ ws, i ∈ own.map (·.2)) (σ : St) (H : Hp) (Q : VK) (q : nOf K (fDc fi fg tt tk tv (own.map (·.2))) σ H Q) : tDc (iOf K fi) (gOf K ws fg) (bOf K tt) (eOf K tk) (eOf K tv) (own.map (·.2)) σ H Q := by
  obtain ⟨c, ρ, P, st, ⟨hn, f⟩, k⟩ := q
  refine ⟨c, ρ, _, st, f, fun J H1 ds A y p => fun D hD => ?_⟩
  have hB := A.st.freshB hD
  have hno : ¬ DL.own σ ρ D := fun z => A.st.own_some z hD
  obtain ⟨sp, smp⟩ := A.st.plus (o := .dK []) hD
  refine blk_loop (AR := ARD K) ARD.mono (body_D hB) hw hB hno hn sp (y.L.mono smp) (fun _ _ => trivial) ⟨_, upd_same, [], rfl, rfl, (fun l hl => by simp at hl), .nil⟩ p fun H' a B pe => ?_
  obtain ⟨o, hD', kvs, eo, h1, h2, h3⟩ := B.at_
  subst eo
  exact k D H' (.od a.1 a.2) ⟨B.st, A.sm.trans (smp.trans B.sm), fun b o q1 q2 q3 e => by
    have e1 := A.oo b o q1 q2 q3 e
    exact B.oo b o q1 q2 q3 (ne_of_none e1 hD) (same_new hD b o e1), hB, hno, fun z => A.st.dom D z hD, rfl, fun m em => ⟨D, kvs, rfl, hD', h1, h2, h3.mono em, hB⟩⟩ pe
theorem dfc_dc (hc : X.calm = true) (hN : X.N.Nodup) (hi : DI K X tg iter fi) (own : List (Str × Nat)) (ok : blkC X.N X.env.scope scope own = true) (hw : ∀ i ∈ ws, i ∈ own.map (·.2))
    (hg : AllB X scope fun X' => DG K X' tg ws fg) (ht : AllB X scope fun X' => DTs K X' ifs tt) (hk : AllB X scope fun X' => DE K X' kx tk) (he : AllB X scope fun X' => DE K X' vx tv) (hs : ∀ x, foldedSetIterable iter X.env x = pure x := by intro _; rfl) :
    DFC K X (.DictComp kx vx [⟨tg, iter, ifs, 0⟩] scope pos) (fDc fi fg tt tk tv (own.map (·.2))) where
  df := df_dc hc hN hi own ok hw hg ht hk he hs
  ps := fun hK _ _ _ _ hy hyl hsw => ps_imp (L2.ps_setDc hc hN hy hyl hsw (hi.pi hK) (blkOk_by ok) (fun s H C cl fp => (hg s H C cl fp).pg hK) (fun s H C cl fp => (ht s H C cl fp).pt hK) (fun s H C cl fp => (hk s H C cl fp).pe hK) (fun s H C cl fp => (he s H C cl fp).pe hK) hs) (tAsg_imp (e_dcN hw))
variable {tg1 iter1 : Expr} {ifs1 : List Expr} {fi1 : FA} {fg1 : FG} {tt1 : FT} {ws1 vs1 : List Nat}
theorem e_lc2N {vs : List Nat} (hw : ∀ i ∈ ws, i ∈ vs) (hw1 : ∀ i ∈ ws1, i ∈ vs1) (σ : St) (H : Hp) (Q : VK) (q : nOf K (fun ρ P => fLc2 fi fg tt fi1 fg1 tt1 te vs vs1 ρ fun es => P (.ol es)) σ H Q) : tLc2 (iOf K fi) (gOf K ws fg) (bOf K tt) (iOf K fi1) (gOf K ws1 fg1) (bOf K tt1) (eOf K te) vs vs1 σ H Q := by
  obtain ⟨c, ρ, P, st, f, k⟩ := q
  exact e_lc2 hw hw1 st f fun D H' es n p => k D H' _ n p
theorem dfc_lc2 (hc : X.calm = true) (hN : X.N.Nodup) (hi : DI K X tg iter fi) (own : List (Str × Nat)) (vs1 : List Nat) (ok : blkC X.N X.env.scope scope own = true) (hv : ∀ i ∈ vs1, i ∈ own.map (·.2)) (hw : ∀ i ∈ ws, i ∈ own.map (·.2)) (hw1 : ∀ i ∈ ws1, i ∈ vs1)
    (hg : AllB X scope fun X' => DG K X' tg ws fg) (ht : AllB X scope fun X' => DTs K X' ifs tt) (hi1 : AllB X scope fun X' => DI K X' tg1 iter1 fi1) (hg1 : AllB X scope fun X' => DG K X' tg1 ws1 fg1) (ht1 : AllB X scope fun X' => DTs K X' ifs1 tt1)
    (he : AllB X scope fun X' => DE K X' elt te) (hs : ∀ x, foldedSetIterable iter X.env x = pure x := by intro _; rfl) (hs1 : ∀ env x, foldedSetIterable iter1 env x = pure x := by intro _ _; rfl) :
    DFC K X (.ListComp elt [⟨tg, iter, ifs, 0⟩, ⟨tg1, iter1, ifs1, 0⟩] scope pos) (fun ρ P => fLc2 fi fg tt fi1 fg1 tt1 te (own.map (·.2)) vs1 ρ fun es => P (.ol es)) where
  df := df_lc2 hc hN hi own vs1 ok hv hw hw1 hg ht hi1 hg1 ht1 he hs hs1
  ps := fun hK _ _ _ _ hy hyl hsw => ps_imp (L2.ps_setLc2 hc hN hy hyl hsw (hi.pi hK) (blkOk_by ok) hv (fun s H C cl fp => (hg s H C cl fp).pg hK) (fun s H C cl fp => (ht s H C cl fp).pt hK) (fun s H C cl fp => (hi1 s H C cl fp).pi hK) (fun s H C cl fp => (hg1 s H C cl fp).pg hK) (fun s H C cl fp => (ht1 s H C cl fp).pt hK) (fun s H C cl fp => (he s H C cl fp).pe hK) hs hs1) (tAsg_imp (e_lc2N hw hw1))
/-- a comprehension goes into a slot, as one's own -/
theorem ds_setC {y : Str} {py : Pos} {f : FN} (i : Nat) (h : DFC K X e f) (hsw : swapsWith e (some (.Name y py)) pos.line X.env = pure true) (hy : X.N[i]? = some y := by rfl) (hyl : X.env.scope.names.lookup y = some .local := by rfl) :
    DS K X (.Assign [.Name y py] e pos) (fun E ρ => f ρ fun s => E.nx (ρ.set i s)) := ⟨fun hK => ps_imp (h.ps hK hy hyl hsw) fun D σ H q => by
  obtain ⟨c, ρ, E, wf, s0, g, kn, kr, kb, kc⟩ := q
  refine ⟨c, ρ, _, s0, g, fun D H' s n p => ?_⟩
  obtain ⟨s1, sm⟩ := StR.plusOwn i n
  exact kn _ _ H' s1 sm p⟩
/-- .. shared at once -/
theorem ds_setCs {y : Str} {py : Pos} {f : FN} (i : Nat) (h : DFC K X e f) (hsw : swapsWith e (some (.Name y py)) pos.line X.env = pure true) (hy : X.N[i]? = some y := by rfl) (hyl : X.env.scope.names.lookup y = some .local := by rfl) :
    DS K X (.Assign [.Name y py] e pos) (fun E ρ => f ρ fun s => shP s fun d => E.nx (ρ.set i (.sh d))) := ⟨fun hK => ps_imp (h.ps hK hy hyl hsw) fun D σ H q => by
  obtain ⟨c, ρ, E, wf, s0, g, kn, kr, kb, kc⟩ := q
  refine ⟨c, ρ, _, s0, g, fun D H' s n p => ?_⟩
  obtain ⟨d, A, r, p⟩ := n.share p
  obtain ⟨s1, sm⟩ := A.st.setSh i r
  exact kn _ _ H' s1 (A.sm.trans sm) p⟩
/-- a, b = e, a new object of one's own -/
theorem ds_parOwn {x y : Str} {a b : Expr} {fn : FN} {px py pt : Pos} {kt k2 pt2} (i j : Nat) (hc : X.calm = true) (hN : X.N.Nodup) (ha : DE K X a fa) (hb : DF K X b fn) (hij : i ≠ j := by decide) (hi : X.N[i]? = some x := by rfl) (hj : X.N[j]? = some y := by rfl)
    (hx : X.env.scope.names.lookup x = some .local := by rfl) (hy : X.env.scope.names.lookup y = some .local := by rfl)
    (hw : swappedStores [.Tuple [.Name x px, .Name y py] kt pt] (.Tuple [a, b] k2 pt2) X.env = pure (some [x, y]) := by rfl)
    (hs : swapsWithSole [.Tuple [.Name x px, .Name y py] kt pt] (.Tuple [a, b] k2 pt2) pos.line X.env = pure false := by rfl)
    (hs1 : starEach [a, b] X.env = (false, eval a X.env) :: starEach [b] X.env := by rfl) (hs2 : starEach [b] X.env = (false, eval b X.env) :: starEach [] X.env := by rfl) :
    DS K X (.Assign [.Tuple [.Name x px, .Name y py] kt pt] (.Tuple [a, b] k2 pt2) pos) (fun E ρ => fa ρ fun d => fn ρ fun s => E.nx ((ρ.set j s).set i (.sh d))) := ⟨fun hK => ps_imp (ps_par hc hN hi hj hij hx hy (pa_cons (ha.pe hK) (pa_cons (hb.pe hK) pa_nil hs2) hs1) hw hs) fun D σ H q => by
  obtain ⟨c, ρ, E, wf, s0, g, kn, kr, kb, kc⟩ := q
  refine ⟨c, ρ, _, s0, g, fun v H1 d A r p => ⟨c, ρ, _, A.st, p, fun q H2 s n p => ⟨v, .ref q, rfl, ?_⟩⟩⟩
  obtain ⟨s1, sm⟩ := StR.plusOwn j n
  obtain ⟨s2, sm2⟩ := s1.setSh i (r.mono sm)
  rw [List.set_comm _ _ hij] 
  exact kn _ _ H2 s2 ((A.sm.trans sm).trans sm2) p⟩
/-- -e -/
def fNeg (f : FE) : FE := fun ρ P => f ρ fun d => match d with
  | .int i => P (.int (-i))
  | _ => False
theorem de_neg {a : Expr} (h : DE K X a fa) : DE K X (.UnaryOp .USub a pos) (fNeg fa) := ⟨fun hK => pe_imp (pe_un un_neg (h.pe hK)) fun σ H Q q => by
  obtain ⟨c, ρ, P, st, f, k⟩ := q
  refine ⟨c, ρ, _, st, f, fun v H1 d A r p => ?_⟩
  cases r with
  | int i => exact ⟨i, rfl, k _ H1 _ A (.int _) p⟩
  | _ => exact p.elim⟩
/-- e[::-1], a list -/
def fRev (f : FE) : FE := fun ρ P => f ρ fun d => match d with
  | .lst ds => P (.lst ds.reverse)
  | _ => False
theorem de_rev {k : Nat} {p1 p2 p3 : Pos} (h : DE K X e fa) : DE K X (.Subscript e (.Slice none none (some (.UnaryOp .USub (.Constant (.int 1) k p1) p2)) p3) pos) (fRev fa) := ⟨fun hK => by
  subst hK
  refine pe_imp (pe_revL (h.pe rfl)) fun σ H Q q => ?_
  obtain ⟨c, ρ, P, st, f, k⟩ := q
  refine ⟨c, ρ, _, st, f, fun v H1 d A r p => ?_⟩
  cases r with
  | @lst a xs ds h r =>
    refine ⟨a, xs, rfl, .inl (.inl (msk_some h).2), fun q hq => ?_⟩
    have en := same_new (o := .lst xs.reverse) hq
    exact k _ _ _ (A.trans (.grow A.st en)) (.lst (A.st.newM hq) (r.reverse.mono (msk_same en))) p
  | _ => exact p.elim⟩
end
section
variable [TapeI] {K : PySem.W.Frag} {X : Cx} {pos : Pos}
def gLenS : GA := fun ds P => a1 ds fun d => ∃ n, lenD d = some n ∧ (∀ ks es, d ≠ .dic ks es) ∧ P (.int (n : Nat))
theorem dc_lenS : DCall K X (.builtin "len") gLenS := dc_len
theorem de_gstrT (s : String) {x : Str} (hg : Gl X x) (hm : ∃ t, X.mg x = some (.str (Str.ofString s) t)) (hz : (T s).length ≤ 16777216 := by decide +kernel) (hd : (x == ("__debug__" : Str)) = false := by decide) : DE K X (.Name x pos) (fC (.str (T s))) := by
  obtain ⟨t, hm⟩ := hm
  refine de_gstr hg hm ?_ hd
  rw [sizeLine_eq]
  simpa [T, Str.length] using hz
theorem ds_doc {x : Str} {j} {p p' : Pos} : DS K X (.Expr (.Constant (.str x) j p) p') gNext := ⟨fun hK => ps_imp ps_doc fun D σ H q => by
  obtain ⟨c, ρ, E, wf, st, g, kn, kr, kb, kc⟩ := q
  exact kn σ ρ H st (Same.refl _) g⟩
end
/-! ### the built-ins' names -/
theorem B_len : bootBuiltins "len" = some (.builtin "len") := by decide +kernel
theorem B_all : bootBuiltins "all" = some (.builtin "all") := by decide +kernel
theorem B_any : bootBuiltins "any" = some (.builtin "any") := by decide +kernel
theorem B_sum : bootBuiltins "sum" = some (.builtin "sum") := by decide +kernel
theorem B_max : bootBuiltins "max" = some (.builtin "max") := by decide +kernel
theorem B_min : bootBuiltins "min" = some (.builtin "min") := by decide +kernel
theorem B_sorted : bootBuiltins "sorted" = some (.builtin "sorted") := by decide +kernel
theorem B_repr : bootBuiltins "repr" = some (.builtin "repr") := by decide +kernel
theorem B_isinstance : bootBuiltins "isinstance" = some (.builtin "isinstance") := by decide +kernel
theorem B_tuple : bootBuiltins "tuple" = some (.type "tuple") := by decide +kernel
theorem B_list : bootBuiltins "list" = some (.type "list") := by decide +kernel
theorem B_dict : bootBuiltins "dict" = some (.type "dict") := by decide +kernel
theorem B_int : bootBuiltins "int" = some (.type "int") := by decide +kernel
theorem B_str : bootBuiltins "str" = some (.type "str") := by decide +kernel
theorem B_bool : bootBuiltins "bool" = some (.type "bool") := by decide +kernel
end DL
/-! The layer DL: expressions that draw. -/
namespace DL
open PySem PySem.Spec PyProof.Rows L2
section
variable [TapeI] {K : PySem.W.Frag} {X : Cx} {pos : Pos} {a b e : Expr} {es : List Expr} {fa fb : FM} {c : Fx} {σ : St} {ρ : Rho} {H H' : Hp}
def mE (f : FE) : FM := fun ρ P => f ρ fun d => P d ρ
theorem dm_of {f : FE} (h : DE K X e f) : DM K X e (mE f) := ⟨fun hK => pe_imp (h.pe hK) fun σ H Q q => by
  obtain ⟨c, ρ, P, st, f, k⟩ := q
  exact ⟨c, ρ, _, st, f, fun v H' d A r p => k v H' d ρ (.of st A) r p⟩⟩
/-! ### argument lists -/
abbrev FAM := Rho → (List D → Rho → Prop) → Prop
def amOf (K : PySem.W.Frag) (f : FAM) : TA := fun σ H Q => ∃ (c : Fx) (ρ : Rho) (P : List D → Rho → Prop), StR K c σ ρ H ∧ f ρ P ∧ ∀ vs H' ds ρ', AftM K c σ ρ H ρ' H' → RpAll K (M c σ ρ' H') vs ds → P ds ρ' → Q vs H'
structure DAM (K : PySem.W.Frag) (X : Cx) (es : List Expr) (f : FAM) : Prop where
  pa : X.K = K → PA X es (amOf K f)
def mA (f : FA) : FAM := fun ρ P => f ρ fun ds => P ds ρ
theorem dam_of {f : FA} (h : DA K X es f) : DAM K X es (mA f) := ⟨fun hK => pa_imp (h.pa hK) fun σ H Q q => by
  obtain ⟨c, ρ, P, st, f, k⟩ := q
  exact ⟨c, ρ, _, st, f, fun v H' d A r p => k v H' d ρ (.of st A) r p⟩⟩
def fNilM : FAM := fun ρ P => P [] ρ
def fConsM (fe : FM) (fs : FAM) : FAM := fun ρ P => fe ρ fun d ρ1 => fs ρ1 fun ds ρ2 => P (d :: ds) ρ2
theorem dam_nil : DAM K X [] fNilM := ⟨fun hK => pa_imp pa_nil fun σ H Q q => by
  obtain ⟨c, ρ, P, st, f, k⟩ := q
  exact k [] H [] ρ (.of st (.refl st)) .nil f⟩
theorem dam_cons {fs : FAM} (he : DM K X e fa) (hr : DAM K X es fs) (hs : starEach (e :: es) X.env = (false, eval e X.env) :: starEach es X.env := by rfl) : DAM K X (e :: es) (fConsM fa fs) := ⟨fun hK => pa_imp (pa_cons (he.pe hK) (hr.pa hK) hs) fun σ H Q q => by
  obtain ⟨c, ρ, P, st, f, k⟩ := q
  refine ⟨c, ρ, _, st, f, fun v H1 d ρ1 A1 r1 p => ?_⟩
  exact ⟨c, ρ1, _, A1.st, p, fun vs H2 ds ρ2 A2 r2 p => k (v :: vs) H2 (d :: ds) ρ2 (A1.trans A2) (.cons (r1.mono A2.sm) r2) p⟩⟩
/-! ### the draw -/
def tkn : Option Sl → (Addr → Nat → Prop) → Prop
  | some (.tk t m), P => P t m
  | _, _ => False
def fDraw (spec : GA) (cost n i : Nat) (fs : FAM) : FM := fun ρ P => tkn ρ[i]? fun _ _ => fs ρ fun ds ρ1 => tkn ρ1[i]? fun t m => ds.length = n ∧ m + cost ≤ LIM ∧ spec ds fun d => P d (ρ1.set i (.tk t (m + cost)))
variable {x : Str} {p : Pos} {k n cost : Nat} {spec : GA} {fs : FAM}
theorem dm_draw {y : Str} {p2 : Pos} (i : Nat) (C : CalT X.prog X.w X.K X.mg X.base k x n spec cost) (hr : RoomG k X.A) (hg : Gl X x) (ha : DAM K X es fs) (hN : X.N[i]? = some y := by rfl) (hv : Vis X.env.scope y := by first | exact Or.inl rfl | exact Or.inr (Or.inl rfl) | exact Or.inr (Or.inr rfl))
    (hd1 : (y == ("__debug__" : Str)) = false := by decide) (hcd : (y == ("__classdict__" : Str)) = false := by decide)
    (hdb : (x == ("__debug__" : Str)) = false := by decide) (he : starEach (.Name y p2 :: es) X.env = (false, eval (.Name y p2) X.env) :: starEach es X.env := by rfl) (hpl : (backTo pos (starEach es X.env)).any (·.1) = false := by rfl) :
    DM K X (.Call (.Name x p) (.Name y p2 :: es) [] pos) (fDraw spec cost n i fs) := ⟨fun hK => by
  subst hK
  obtain ⟨f, fd, ps, g, h1, h2, h3, h4⟩ := C
  refine pe_imp (pe_callG h3 hr hg h1 h2 h4 passG (pa_cons (pe_var hN hv hd1 hcd) (ha.pa rfl) he) hdb he hpl) fun σ H Q q => ?_
  obtain ⟨c, ρ, P, st, f, k⟩ := q
  unfold fDraw at f
  cases hi : ρ[i]? with
  | none => rw [hi] at f; exact f.elim
  | some sl =>
    rw [hi] at f
    cases sl with
    | tk t m0 =>
      have hsl := st.slot i _ hi
      refine ⟨.ref t, hsl.1, c, ρ, _, st, f, fun vs H1 ds ρ1 A1 r q => ?_⟩
      cases hi1 : ρ1[i]? with
      | none => rw [hi1] at q; exact q.elim
      | some sl1 =>
        rw [hi1] at q
        cases sl1 with
        | tk t1 m =>
          obtain ⟨hl, hm, q⟩ := q
          have hsl1 := A1.st.slot i _ hi1
          have et : t1 = t := by
            have := hsl.1.symm.trans hsl1.1
            cases this; rfl
          subst et
          refine ⟨by rw [List.length_cons, r.length, hl], rfl, ?_⟩
          refine ⟨Ow c σ ρ1, t1, m, vs, ds, fun d => P d (ρ1.set i (.tk t1 (m + cost))), rfl, hl, hm, fun b => A1.st.ow_some, .inr ⟨i, _, hi1, rfl, hsl1.1⟩, hsl1.2.1, r, q, fun v H' d rv hs tp p => ?_⟩
          obtain ⟨s2, eM, sm⟩ := A1.st.drawn i hi1 hs tp
          refine k v H' d _ (A1.trans ⟨s2, by rw [eM]; exact sm, own_swap hi1 rfl rfl, fun b o z1 z2 _ e => hs b o (fun z => ?_) e⟩) (by rw [eM]; exact rv) p
          subst z
          exact z2 ⟨i, _, hi1, rfl, hsl1.1⟩
        | _ => exact q.elim
    | _ => exact f.elim⟩
/-! ### two values, displays, calls -/
def fOpM (g : G2) (fa fb : FM) : FM := fun ρ P => fa ρ fun x ρ1 => fb ρ1 fun y ρ2 => g x y fun z => P z ρ2
theorem e_binM {r : R2} {g : G2} (hr : ∀ (O : Addr → Prop) (H : Hp) (x y : V) (dx dy : D) (P : D → Prop) (Q : VK), (∀ b, O b → H b ≠ none) → Rp K (msk O H) x dx → Rp K (msk O H) y dy → g dx dy P → Out K O H P Q → r x y H Q)
    (σ : St) (H : Hp) (Q : VK) (q : mOf K (fOpM g fa fb) σ H Q) : tOp r (mOf K fa) (mOf K fb) σ H Q := by
  obtain ⟨c, ρ, P, st, f, k⟩ := q
  refine ⟨c, ρ, _, st, f, fun x H1 dx ρ1 A1 rx p1 => ?_⟩
  refine ⟨c, ρ1, _, A1.st, p1, fun y H2 dy ρ2 A2 ry p2 => ?_⟩
  exact hr (Ow c σ ρ2) H2 x y dx dy (fun z => P z ρ2) Q (fun b => A2.st.ow_some) (rx.mono A2.sm) ry p2 fun v H' d e rv p => k v H' d ρ2 ((A1.trans A2).trans (.of A2.st (.grow A2.st e))) rv p
theorem dm_op {op : Operator} {g : G2} (ho : DOp K X (binaryOp op) g) (ha : DM K X a fa) (hb : DM K X b fb) : DM K X (.BinOp a op b pos) (fOpM g fa fb) := ⟨fun hK => by
  obtain ⟨r, h1, h2⟩ := ho
  exact pe_imp (pe_op h1 (ha.pe hK) (hb.pe hK)) (e_binM (h2 hK))⟩
theorem dm_cmp {op : CmpOp} {g : G2} (ho : DOp K X (compareOp op) g) (ha : DM K X a fa) (hb : DM K X b fb) (hm : behindInMarks op b = false := by first | exact nomark _ | rfl) : DM K X (.Compare a [op] [b] pos) (fOpM g fa fb) := ⟨fun hK => by
  obtain ⟨r, h1, h2⟩ := ho
  exact pe_imp (pe_cmpR h1 (ha.pe hK) (hb.pe hK) hm) (e_binM (h2 hK))⟩
theorem dm_ix (hu : X.A.units + 64 < cLine) (ha : DM K X a fa) (hb : DM K X b fb) (hs : PlainIx b := by intro _ _; rfl) : DM K X (.Subscript a b pos) (fOpM gIx fa fb) := ⟨fun hK => by
  subst hK
  obtain ⟨r, h1, h2⟩ := ix_ok hu
  exact pe_imp (pe_ix h1 (ha.pe rfl) (hb.pe rfl) hs) (e_binM h2)⟩
def fTupM (fs : FAM) : FM := fun ρ P => fs ρ fun ds ρ1 => ds.length ≤ sizeLine ∧ P (.tup ds) ρ1
theorem dm_tup {x1} (h : DAM K X es fs) : DM K X (.Tuple es x1 pos) (fTupM fs) := ⟨fun hK => pe_imp (pe_tup (h.pa hK)) fun σ H Q q => by
  obtain ⟨c, ρ, P, st, f, k⟩ := q
  refine ⟨c, ρ, _, st, f, fun vs H1 ds ρ1 A1 r p => ?_⟩
  refine ⟨by rw [r.length]; exact p.1, fun a ha => ?_⟩
  have e := same_new (o := .tup vs) ha
  exact k (.ref a) _ (.tup ds) ρ1 (A1.trans (.of A1.st (.grow A1.st e))) (.tup (.inl (.inl (A1.st.newM ha))) (r.mono (msk_same e))) p.2⟩
def fLstM (fs : FAM) : FM := fun ρ P => fs ρ fun ds ρ1 => ds.length ≤ sizeLine ∧ P (.lst ds) ρ1
theorem dm_lst {x1} (h : DAM K X es fs) : DM K X (.List es x1) (fLstM fs) := ⟨fun hK => pe_imp (pe_lst (h.pa hK)) fun σ H Q q => by
  obtain ⟨c, ρ, P, st, f, k⟩ := q
  refine ⟨c, ρ, _, st, f, fun vs H1 ds ρ1 A1 r p => ?_⟩
  refine ⟨by rw [r.length]; exact p.1, fun a ha => ?_⟩
  have e := same_new (o := .lst vs) ha
  exact k (.ref a) _ (.lst ds) ρ1 (A1.trans (.of A1.st (.grow A1.st e))) (.lst (A1.st.newM ha) (r.mono (msk_same e))) p.2⟩
def fCallBM (g : GA) (fs : FAM) : FM := fun ρ P => fs ρ fun ds ρ1 => g ds fun d => P d ρ1
theorem e_callBM {r : List V → Hp → VK → Prop} {g : GA} (hr : ∀ (O : Addr → Prop) (H : Hp) (xs : List V) (ds : List D) (P : D → Prop) (Q : VK), (∀ b, O b → H b ≠ none) → RpAll K (msk O H) xs ds → g ds P → Out K O H P Q → r xs H Q)
    (σ : St) (H : Hp) (Q : VK) (q : mOf K (fCallBM g fs) σ H Q) : tCB r (amOf K fs) σ H Q := by
  obtain ⟨c, ρ, P, st, f, k⟩ := q
  refine ⟨c, ρ, _, st, f, fun xs H1 ds ρ1 A1 rx p => ?_⟩
  exact hr (Ow c σ ρ1) H1 xs ds (fun d => P d ρ1) Q (fun b => A1.st.ow_some) rx p fun v H' d e rv p => k v H' d ρ1 (A1.trans (.of A1.st (.grow A1.st e))) rv p
theorem dm_callB {id : String} {g : GA} (hc : DCall K X (.builtin id) g) (hg : Gl X x) (hm : X.mg x = none) (hv : bootBuiltins x = some (.builtin id)) (ha : DAM K X (e :: es) fs) (hn : x ≠ "__name__" := by decide) (hdb : (x == ("__debug__" : Str)) = false := by decide)
    (he : starEach (e :: es) X.env = (false, eval e X.env) :: starEach es X.env := by rfl) (hpl : (backTo pos (starEach es X.env)).any (·.1) = false := by rfl) : DM K X (.Call (.Name x p) (e :: es) [] pos) (fCallBM g fs) := ⟨fun hK => by
  obtain ⟨r, h1, h2⟩ := hc
  exact pe_imp (pe_callB h1 hg hm hv (ha.pa hK) hn hdb he hpl) (e_callBM (h2 hK))⟩
theorem dm_callTy {n : String} {g : GA} (hc : DCall K X (.type n) g) (hg : Gl X x) (hm : X.mg x = none) (hv : bootBuiltins x = some (.type n)) (ha : DAM K X (e :: es) fs) (hn : x ≠ "__name__" := by decide) (hdb : (x == ("__debug__" : Str)) = false := by decide)
    (he : starEach (e :: es) X.env = (false, eval e X.env) :: starEach es X.env := by rfl) (hpl : (backTo pos (starEach es X.env)).any (·.1) = false := by rfl) : DM K X (.Call (.Name x p) (e :: es) [] pos) (fCallBM g fs) := ⟨fun hK => by
  obtain ⟨r, h1, h2⟩ := hc
  exact pe_imp (pe_callTy h1 hg hm hv (ha.pa hK) hn hdb he hpl) (e_callBM (h2 hK))⟩
def fCallM (spec : GA) (n : Nat) (fs : FAM) : FM := fun ρ P => fs ρ fun ds ρ1 => ds.length = n ∧ spec ds fun d => P d ρ1
theorem dm_call (C : CalD X.prog X.w X.K X.mg X.base k x n [] spec) (hr : RoomG k X.A) (hg : Gl X x) (ha : DAM K X (e :: es) fs) (hdb : (x == ("__debug__" : Str)) = false := by decide) (he : starEach (e :: es) X.env = (false, eval e X.env) :: starEach es X.env := by rfl) (hpl : (backTo pos (starEach es X.env)).any (·.1) = false := by rfl) :
    DM K X (.Call (.Name x p) (e :: es) [] pos) (fCallM spec n fs) := ⟨fun hK => by
  subst hK
  obtain ⟨f, fd, ps, m, s0, g, gV, h1, h2, h3, h4, h5⟩ := C
  refine pe_imp (pe_callG h3 hr hg h1 h2 h4 passG (ha.pa rfl) hdb he hpl) fun σ H Q q => ?_
  obtain ⟨c, ρ, P, st, f, k⟩ := q
  refine ⟨c, ρ, _, st, f, fun vs H1 ds ρ1 A1 r ⟨hl, q⟩ => ⟨r.length.trans hl, rfl, ?_⟩⟩
  obtain ⟨all, r', hm, hq⟩ := h5 _ vs [] ds [] r .nil hl rfl
  exact ⟨Ow c σ ρ1, all, fun d => P d ρ1, hm, fun b => A1.st.ow_some, r', hq _ (by rw [List.append_nil]; exact q), call_fin A1.st fun v H' d A2 => k v H' d ρ1 (A1.trans (.of A1.st A2))⟩⟩
/-! ### tests, if -/
abbrev FTM := Rho → (Bool → Rho → Prop) → Prop
def bmOf (K : PySem.W.Frag) (f : FTM) : TT := fun σ H Q => ∃ (c : Fx) (ρ : Rho) (P : Bool → Rho → Prop), StR K c σ ρ H ∧ f ρ P ∧ ∀ b H' ρ', AftM K c σ ρ H ρ' H' → P b ρ' → Q b H'
structure DTM (K : PySem.W.Frag) (X : Cx) (e : Expr) (f : FTM) : Prop where
  pt : X.K = K → PT X e (bmOf K f)
def mT (f : FT) : FTM := fun ρ P => f ρ fun b => P b ρ
theorem dtm_of {f : FT} (h : DT K X e f) : DTM K X e (mT f) := ⟨fun hK => pt_imp (h.pt hK) fun σ H Q q => by
  obtain ⟨c, ρ, P, st, f, k⟩ := q
  exact ⟨c, ρ, _, st, f, fun b H' A p => k b H' ρ (.of st A) p⟩⟩
def fBM (f : FM) : FTM := fun ρ P => f ρ fun d ρ1 => asB d fun b => P b ρ1
theorem dtm_cmp {op : CmpOp} {g : G2} (ho : DOp K X (compareOp op) g) (ha : DM K X a fa) (hb : DM K X b fb) (hm : behindInMarks op b = false := by first | exact nomark _ | rfl) : DTM K X (.Compare a [op] [b] pos) (fBM (fOpM g fa fb)) := ⟨fun hK => by
  obtain ⟨r, h1, h2⟩ := ho
  refine pt_imp (pt_cmpR h1 (ha.pe hK) (hb.pe hK) hm) fun σ H Q q => ?_
  obtain ⟨c, ρ, P, st, f, k⟩ := q
  refine e_binM (h2 hK) σ H _ ⟨c, ρ, _, st, f, fun v H' d ρ1 A rv p => ?_⟩
  cases d with
  | bl b => cases rv; exact ⟨b, rfl, k b H' ρ1 A p⟩
  | _ => exact p.elim⟩
theorem dtm_val (h : DM K X a fa) (he : ∀ whole, isTrue a X.env whole = (do let v ← whole; standAt a.pos; holding [v] (truthy v)) := by intro _; rfl) : DTM K X a (fBM fa) := ⟨fun hK => by
  refine pt_imp (pt_val (h.pe hK) he) fun σ H Q q => ?_
  obtain ⟨c, ρ, P, st, f, k⟩ := q
  refine ⟨c, ρ, _, st, f, fun v H' d ρ1 A rv p => ?_⟩
  cases d with
  | bl b => cases rv; exact ⟨b, rfl, k b H' ρ1 A p⟩
  | _ => exact p.elim⟩
structure DWM (K : PySem.W.Frag) (X : Cx) (e : Expr) (f : FTM) : Prop where
  pw : X.K = K → PW X e (bmOf K f)
theorem DWM.dt {f : FTM} (h : DWM K X e f) : DTM K X e f := ⟨fun hK => (h.pw hK).pt⟩
variable {f g : FTM} {rest : List Expr}
def fAndM (f g : FTM) : FTM := fun ρ P => f ρ fun b ρ1 => if b = true then g ρ1 P else P false ρ1
def fOrM (f g : FTM) : FTM := fun ρ P => f ρ fun b ρ1 => if b = true then P true ρ1 else g ρ1 P
def fNotM (f : FTM) : FTM := fun ρ P => f ρ fun b ρ1 => P (!b) ρ1
theorem dwm_and1 (h : DTM K X a f) : DWM K X (.BoolOp .And [a] pos) f := ⟨fun hK => pw_and1 (h.pt hK)⟩
theorem dwm_or1 (h : DTM K X a f) : DWM K X (.BoolOp .Or [a] pos) f := ⟨fun hK => pw_or1 (h.pt hK)⟩
theorem dwm_and (h : DTM K X a f) (h2 : DWM K X (.BoolOp .And (b :: rest) pos) g) : DWM K X (.BoolOp .And (a :: b :: rest) pos) (fAndM f g) := ⟨fun hK => pw_imp (pw_and (h.pt hK) (h2.pw hK)) fun σ H Q q => by
  obtain ⟨c, ρ, P, st, f, k⟩ := q
  refine ⟨c, ρ, _, st, f, fun b H1 ρ1 A1 p => ?_⟩
  cases b with
  | true => exact ⟨c, ρ1, P, A1.st, p, fun b H2 ρ2 A2 p => k b H2 ρ2 (A1.trans A2) p⟩
  | false => exact k false H1 ρ1 A1 p⟩
theorem dwm_or (h : DTM K X a f) (h2 : DWM K X (.BoolOp .Or (b :: rest) pos) g) : DWM K X (.BoolOp .Or (a :: b :: rest) pos) (fOrM f g) := ⟨fun hK => pw_imp (pw_or (h.pt hK) (h2.pw hK)) fun σ H Q q => by
  obtain ⟨c, ρ, P, st, f, k⟩ := q
  refine ⟨c, ρ, _, st, f, fun b H1 ρ1 A1 p => ?_⟩
  cases b with
  | false => exact ⟨c, ρ1, P, A1.st, p, fun b H2 ρ2 A2 p => k b H2 ρ2 (A1.trans A2) p⟩
  | true => exact k true H1 ρ1 A1 p⟩
theorem dtm_not (h : DTM K X a f) : DTM K X (.UnaryOp .Not a pos) (fNotM f) := ⟨fun hK => pt_imp (pt_not (h.pt hK)) fun σ H Q q => by
  obtain ⟨c, ρ, P, st, f, k⟩ := q
  exact ⟨c, ρ, _, st, f, fun b H1 ρ1 A1 p => k _ H1 ρ1 A1 p⟩⟩
def fIfM (f : FTM) (fa fb : FM) : FM := fun ρ P => f ρ fun b ρ1 => if b = true then fa ρ1 P else fb ρ1 P
theorem dm_if {t : Expr} (ht : DTM K X t f) (ha : DM K X a fa) (hb : DM K X b fb) : DM K X (.IfExp t a b pos) (fIfM f fa fb) := ⟨fun hK => pe_imp (pe_ifExp (ht.pt hK) (ha.pe hK) (hb.pe hK)) fun σ H Q q => by
  obtain ⟨c, ρ, P, st, f, k⟩ := q
  refine ⟨c, ρ, _, st, f, fun b H1 ρ1 A1 p => ?_⟩
  cases b with
  | true => exact ⟨c, ρ1, P, A1.st, p, fun v H2 d ρ2 A2 r2 p => k v H2 d ρ2 (A1.trans A2) r2 p⟩
  | false => exact ⟨c, ρ1, P, A1.st, p, fun v H2 d ρ2 A2 r2 p => k v H2 d ρ2 (A1.trans A2) r2 p⟩⟩
/-! ### statements -/
def gIfM (f : FTM) (g h : FS) : FS := fun E ρ => f ρ fun b ρ1 => if b = true then g E ρ1 else h E ρ1
theorem ds_ifM {t : Expr} {a b : List Stmt} {f : FTM} {g h : FS} (ht : DTM K X t f) (ha : DSs K X a g) (hb : DSs K X b h) : DS K X (.If t a b pos) (gIfM f g h) := ⟨fun hK => ps_imp (ps_if (ht.pt hK) (ha.ps hK) (hb.ps hK)) fun D σ H q => by
  obtain ⟨c, ρ, E, wf, s0, g, kn, kr, kb, kc⟩ := q
  refine ⟨c, ρ, _, s0, g, fun b H1 ρ1 A p => ?_⟩
  cases b <;> exact ⟨c, ρ1, E, wf, A.st, p, fun σ2 ρ2 H2 s2 sm2 q => kn σ2 ρ2 H2 s2 (A.sm.trans sm2) q, kr, fun σ2 ρ2 H2 s2 sm2 q => kb σ2 ρ2 H2 s2 (A.sm.trans sm2) q, fun σ2 ρ2 H2 s2 sm2 q => kc σ2 ρ2 H2 s2 (A.sm.trans sm2) q⟩⟩
def gRetM (f : FM) : FS := fun E ρ => f ρ fun d ρ' => E.rt d ρ'
theorem ds_retM (he : DM K X e fa) : DS K X (.Return (some e) pos) (gRetM fa) := ⟨fun hK => ps_imp (ps_ret (he.pe hK)) fun D σ H q => by
  obtain ⟨c, ρ, E, wf, s0, g, kn, kr, kb, kc⟩ := q
  exact ⟨c, ρ, _, s0, g, fun v H' d ρ' A r p => kr v H' d ρ' (A.st.rt (r.mono (msk_le fun b z => .inl z))) p⟩⟩
/-! ### what is walked -/
def imOf (K : PySem.W.Frag) (f : FAM) : TI := fun σ H R => ∃ (c : Fx) (ρ : Rho) (P : List D → Rho → Prop), StR K c σ ρ H ∧ f ρ P ∧ ∀ J H' ds ρ', AftM K c σ ρ H ρ' H' → Yl K J (M c σ ρ' H') ds → P ds ρ' → R J H'
structure DIM (K : PySem.W.Frag) (X : Cx) (tg iter : Expr) (f : FAM) : Prop where
  pi : X.K = K → PI X tg iter (imOf K f)
variable {tg iter : Expr}
theorem dim_of {f : FA} (h : DI K X tg iter f) : DIM K X tg iter (mA f) := ⟨fun hK => pi_imp (h.pi hK) fun σ H R q => by
  obtain ⟨c, ρ, P, st, f, k⟩ := q
  exact ⟨c, ρ, _, st, f, fun J H' ds A y p => k J H' ds ρ (.of st A) y p⟩⟩
def fRng1M (fs : FAM) : FAM := fun ρ P => fs ρ fun ds ρ1 => int1 ds fun j => -(2 ^ 62) ≤ j ∧ j < 2 ^ 62 ∧ P (rngD 0 1 j.toNat) ρ1
theorem dim_range1 {a : Expr} {p : Pos} (hg : Gl X "range") (hm : X.mg "range" = none) (ha : DAM K X [a] fs) (hs : starEach [a] X.env = [(false, eval a X.env)] := by rfl) : DIM K X tg (.Call (.Name "range" p) [a] [] pos) (fRng1M fs) := ⟨fun hK => pi_imp (pi_range1 hg hm (ha.pa hK) hs) fun σ H R q => by
  obtain ⟨c, ρ, P, st, f, k⟩ := q
  refine ⟨c, ρ, _, st, f, fun vs H1 ds ρ1 A r p => ?_⟩
  obtain ⟨j, e, p1, p2, p3⟩ := ints1 r p
  exact ⟨j, e, p1, p2, k _ H1 _ ρ1 A (yl_rng 0 j.toNat) p3⟩⟩
def fSeqM (f : FM) : FAM := fun ρ P => f ρ fun d ρ1 => asSeq d fun ds => P ds ρ1
theorem dim_seq (h : DM K X e fa) : DIM K X tg e (fSeqM fa) := ⟨fun hK => by
  subst hK
  refine pi_imp (pi_seq (h.pe rfl)) fun σ H R q => ?_
  obtain ⟨c, ρ, P, st, f, k⟩ := q
  refine ⟨c, ρ, _, st, f, fun v H1 d ρ1 A r p => ?_⟩
  cases r with
  | @lst a xs ds h1 r => exact .inl ⟨a, xs, rfl, .inl (.inl (msk_some h1).2), k _ H1 ds ρ1 A (yl_seqL h1 r) p⟩
  | @tup a xs ds h1 r => exact .inr (.inl ⟨a, xs, rfl, Same.sqT same_msk h1, k _ H1 ds ρ1 A (yl_seqT h1 r) p⟩)
  | str l hl => exact .inr (.inr ⟨S l, rfl, k _ H1 _ ρ1 A (yl_str l) p⟩)
  | _ => exact p.elim⟩
def gForM (fi : FAM) (fg : FG) (gb : FS) : FS := fun E ρ => fi ρ fun ds ρ1 => forD fg gb ds E ρ1
theorem ds_forM {body : List Stmt} {fi : FAM} {fg : FG} {gb : FS} {vs : List Nat} (hp : X.K = K → PassesOwn (model X.prog X.w) X.A X.env X.xe) (hc : X.calm = true) (hi : DIM K X tg iter fi) (hg : DG K X tg vs fg) (hb : DSs K X body gb)
    (hs : ∀ x, foldedSetIterable iter X.env x = pure x := by intro _; rfl) : DS K X (.For tg iter body [] pos) (gForM fi fg gb) := ⟨fun hK => ps_imp (ps_for (hp hK) hc (hi.pi hK) (hg.pg hK) (hb.ps hK) hs) fun D σ H q => by
  obtain ⟨c, ρ0, E, wf, s0, g, kn, kr, kb, kc⟩ := q
  refine ⟨c, ρ0, _, s0, g, fun J H1 ds ρ A y p => ?_⟩
  refine ⟨fun i m σ1 H1' => m = ds.length - i ∧ i ≤ ds.length ∧ ∃ ρ1, StR K c σ1 ρ1 H1' ∧ Same (M c σ ρ H1) (M c σ1 ρ1 H1') ∧ forD fg gb (ds.drop i) E ρ1, ⟨ds.length, rfl, Nat.zero_le _, ρ, A.st, Same.refl _, p⟩, fun i m σ1 H2 ⟨hm, hle, ρ1, s1, sm1, w1⟩ => ?_⟩
  obtain ⟨y1, y2, y3⟩ := y (Ow c σ1 ρ1) H2 (fun b => s1.ow_some) sm1 i
  by_cases hlt : i < ds.length
  · refine .inr ⟨y1 hlt, fun σ' H' => ∃ ρ', StR K c σ' ρ' H' ∧ Same (M c σ ρ H1) (M c σ' ρ' H') ∧ forD fg gb (ds.drop (i + 1)) E ρ', fun σ' H' q => ⟨ds.length - (i + 1), by omega, rfl, hlt, q⟩, fun x H3 hy => ?_⟩
    obtain ⟨d, e1, e2, e3⟩ := y3 x H3 hlt hy
    have ed : ds.drop i = d :: ds.drop (i + 1) := by
      rw [List.drop_eq_getElem_cons hlt]
      rw [List.getElem?_eq_getElem hlt] at e1
      rw [Option.some.inj e1]
    rw [ed] at w1
    have A2 := Aft.grow s1 e2
    refine ⟨c, ρ1, d, _, A2.st, e3, w1, fun σ3 ρ3 s3 sm3 _ q3 => ?_⟩
    have sm : Same (M c σ ρ H1) (M c σ3 ρ3 H3) := (sm1.trans A2.sm).trans sm3
    exact ⟨c, ρ3, _, wf, s3, q3, fun σ' ρ' H' s4 sm4 q => ⟨ρ', s4, sm.trans sm4, q⟩, kr, fun σ' ρ' H' s4 sm4 q => kn σ' ρ' H' s4 (A.sm.trans (sm.trans sm4)) q, fun σ' ρ' H' s4 sm4 q => ⟨ρ', s4, sm.trans sm4, q⟩⟩
  · have e : i = ds.length := by omega
    subst e
    rw [List.drop_length] at w1
    exact .inl ⟨y2 (Nat.le_refl _), kn σ1 ρ1 H2 s1 (A.sm.trans sm1) w1⟩⟩
end
end DL
/-! The layer DL: comprehensions that draw. -/
namespace DL
open PySem PySem.Spec PyProof.Rows L2
section
variable [TapeI] {K : PySem.W.Frag} {X : Cx} {pos : Pos} {a b e : Expr} {es : List Expr} {fa fb : FM} {c : Fx} {σ σ' : St} {ρ ρ' : Rho} {H H' : Hp} {vs : List Nat}
/-- out of a turn: the block's own slots are as they were -/
def backR (ρ ρ' : Rho) : List Nat → Rho
  | [] => ρ'
  | v :: vs => (backR ρ ρ' vs).set v (ρ.getD v .no)
theorem backR_len : ∀ vs, (backR ρ ρ' vs).length = ρ'.length
  | [] => rfl
  | v :: vs => by unfold backR; rw [List.length_set, backR_len vs]
theorem backR_out {i : Nat} : ∀ {vs : List Nat}, i ∉ vs → (backR ρ ρ' vs)[i]? = ρ'[i]?
  | [], _ => rfl
  | v :: vs, h => by
    rw [List.mem_cons, not_or] at h
    unfold backR
    rw [List.getElem?_set_ne (fun e => h.1 e.symm), backR_out h.2]
theorem backR_in {i : Nat} (hl : ρ'.length = ρ.length) : ∀ {vs : List Nat}, i ∈ vs → (backR ρ ρ' vs)[i]? = ρ[i]?
  | [], h => by cases h
  | v :: vs, h => by
    unfold backR
    by_cases q : v = i
    · subst q
      by_cases hv : v < ρ.length
      · rw [List.getElem?_set_self (by rw [backR_len, hl]; exact hv), List.getD_eq_getElem?_getD, List.getElem?_eq_getElem hv]; rfl
      · rw [List.getElem?_eq_none (by rw [List.length_set, backR_len, hl]; omega), List.getElem?_eq_none (by omega)]
    · rw [List.getElem?_set_ne q]
      exact backR_in hl ((List.mem_cons.mp h).resolve_left fun z => q z.symm)
theorem unwipeM (st : StR K c σ ρ H) (st' : StR K c σ' ρ' H') (eo : own σ' ρ' = own σ ρ) (hw : wipe σ' vs = wipe σ vs) (hn : noOwn ρ vs = true) (hn' : noOwn ρ' vs = true) (sm : Same (M c σ ρ H) (M c σ' ρ' H')) :
    StR K c σ (backR ρ ρ' vs) H' ∧ own σ (backR ρ ρ' vs) = own σ ρ ∧ noOwn (backR ρ ρ' vs) vs = true := by
  have hlσ : σ'.length = σ.length := by rw [← wipe_length σ' vs, hw, wipe_length]
  have hl : ρ'.length = ρ.length := by rw [st'.len, st.len, hlσ]
  have off : ∀ i, i ∉ vs → σ'[i]? = σ[i]? := fun i hi => by rw [← wipe_out hi, hw, wipe_out hi]
  have eo2 : own σ (backR ρ ρ' vs) = own σ' ρ' := own_off (vs := vs) (fun i hi => ⟨(off i hi).symm, backR_out hi⟩) (fun i hi s e => noOwn_at hn' hi e) fun i hi s e => by
    rw [backR_in hl hi] at e
    exact noOwn_at hn hi e
  have eO : Ow c σ (backR ρ ρ' vs) = Ow c σ' ρ' := by unfold Ow; rw [eo2]
  have eM : M c σ (backR ρ ρ' vs) H' = M c σ' ρ' H' := by show msk _ _ = msk _ _; rw [eO]
  have nvs : ∀ (i : Nat) (s : Sl), (backR ρ ρ' vs)[i]? = some s → s.own = true → i ∉ vs := fun i s h1 h2 z => by
    rw [backR_in hl z] at h1
    rw [noOwn_at hn z h1] at h2
    cases h2
  refine ⟨⟨by rw [backR_len, hl]; exact st.len, fun i s hi => ?_, fun i j s t a h1 h2 h3 h4 h5 h6 => ?_, st'.base, st'.dom, fun t ht => by rw [eM]; exact st'.tape t ht, st'.tpB⟩, eo2.trans eo, ?_⟩
  · rw [eM]
    by_cases q : i ∈ vs
    · rw [backR_in hl q] at hi
      have ns := noOwn_at hn q hi
      have := st.slot i s hi
      cases s with
      | no => trivial
      | sh d => obtain ⟨x, h1, h2⟩ := this; exact ⟨x, h1, h2.mono sm⟩
      | _ => cases ns
    · rw [backR_out q] at hi
      have := st'.slot i s hi
      rwa [off i q] at this
  · have g1 := nvs i s h1 h3
    have g2 := nvs j t h2 h4
    rw [backR_out g1] at h1
    rw [backR_out g2] at h2
    rw [← off i g1] at h5
    rw [← off j g2] at h6
    exact st'.inj i j s t a h1 h2 h3 h4 h5 h6
  · refine List.all_eq_true.mpr fun i hi => ?_
    rw [backR_in hl hi]
    exact List.all_eq_true.mp hn i hi
def blkM (fg : FG) (tt : FT) (te : FM) (vs : List Nat) : List D → Rho → List D → (List D → Rho → Prop) → Prop
  | [], ρ, acc, P => P acc ρ
  | d :: ds, ρ, acc, P => turnR fg vs d ρ fun ρ2 => tt ρ2 fun b => if b = true then te ρ2 fun e ρ3 => acc.length < sizeLine ∧ noOwn ρ3 vs = true ∧ blkM fg tt te vs ds (backR ρ ρ3 vs) (acc ++ [e]) P else blkM fg tt te vs ds ρ acc P
def fLcM (fi : FAM) (fg : FG) (tt : FT) (te : FM) (vs : List Nat) (ρ : Rho) (P : List D → Rho → Prop) : Prop := fi ρ fun ds ρ1 => noOwn ρ1 vs = true ∧ blkM fg tt te vs ds ρ1 [] P
section
variable {elt tg iter : Expr} {ifs : List Expr} {scope : Scope} {fi : FAM} {fg : FG} {tt : FT} {te : FM} {ws : List Nat}
theorem e_lcM (hw : ∀ i ∈ ws, i ∈ vs) {Q : VK} {P : D → Rho → Prop} (st : StR K c σ ρ H) (f : fLcM fi fg tt te vs ρ fun es ρ' => P (.lst es) ρ') (k : ∀ v H' d ρ', AftM K c σ ρ H ρ' H' → Rp K (M c σ ρ' H') v d → P d ρ' → Q v H') :
    tLc (imOf K fi) (gOf K ws fg) (bOf K tt) (mOf K te) vs σ H Q := by
  refine ⟨c, ρ, _, st, f, fun J H1 ds ρ1 A y ⟨hn, p⟩ => fun D hD => ?_⟩
  have s1 := A.st
  have hB := s1.freshB hD
  have hno : ¬ own σ ρ1 D := fun z => s1.own_some z hD
  obtain ⟨sp, smp⟩ := s1.plus (o := .lst []) hD
  have tpD : (c.plus D).tp ≠ some D := fun z => s1.tpB D z hB
  have nD : ∀ b o, H1 b = some o → b ≠ D := fun b o e => ne_of_none e hD
  refine ⟨fun i m H2 => m = ds.length - i ∧ i ≤ ds.length ∧ ∃ ρi es acc, StR K (c.plus D) σ ρi H2 ∧ own σ ρi = own σ ρ1 ∧ noOwn ρi vs = true ∧ Same (M c σ ρ1 H1) (M (c.plus D) σ ρi H2) ∧ H2 D = some (.lst acc) ∧ RpAll K (M (c.plus D) σ ρi H2) acc es ∧
      (∀ b o, c.O b → ¬ own σ ρ1 b → c.tp ≠ some b → H1 b = some o → H2 b = some o) ∧ blkM fg tt te vs (ds.drop i) ρi es (fun es ρ' => P (.lst es) ρ'),
    ⟨ds.length, rfl, Nat.zero_le _, ρ1, [], [], sp, rfl, hn, smp, upd_same, .nil, fun b o _ _ _ e => same_new hD b o e, p⟩, fun i m H2 ⟨hm, hle, ρi, es, acc, s2, eoi, hni, sm2, hacc, racc, oo2, w2⟩ => ?_⟩
  have hnoi : ¬ own σ ρi D := by rw [eoi]; exact hno
  have eOi : Ow (c.plus D) σ ρi = Ow (c.plus D) σ ρ1 := by unfold Ow; rw [eoi]
  obtain ⟨y1, y2, y3⟩ := y (Ow (c.plus D) σ ρi) H2 (fun b => s2.ow_some) sm2 i
  by_cases hlt : i < ds.length
  · refine .inr ⟨y1 hlt, fun H' => ∃ ρi es acc, StR K (c.plus D) σ ρi H' ∧ own σ ρi = own σ ρ1 ∧ noOwn ρi vs = true ∧ Same (M c σ ρ1 H1) (M (c.plus D) σ ρi H') ∧ H' D = some (.lst acc) ∧ RpAll K (M (c.plus D) σ ρi H') acc es ∧
        (∀ b o, c.O b → ¬ own σ ρ1 b → c.tp ≠ some b → H1 b = some o → H' b = some o) ∧ blkM fg tt te vs (ds.drop (i + 1)) ρi es (fun es ρ' => P (.lst es) ρ'),
      fun H' q => ⟨ds.length - (i + 1), by omega, rfl, hlt, q⟩, fun x H3 hy => ?_⟩
    obtain ⟨d, e1, e2, e3⟩ := y3 x H3 hlt hy
    have ed : ds.drop i = d :: ds.drop (i + 1) := by
      rw [List.drop_eq_getElem_cons hlt]
      rw [List.getElem?_eq_getElem hlt] at e1
      rw [Option.some.inj e1]
    rw [ed] at w2
    have s3 := s2.grow e2
    have sm3 : Same (M (c.plus D) σ ρi H2) (M (c.plus D) σ ρi H3) := msk_same e2
    refine turn_in s3 hni hw e3 w2 fun σ4 ρ4 s4 ew eo tkm q4 back => ⟨ew, c.plus D, ρ4, _, s4, q4, fun b H5 A5 p5 => ?_⟩
    have eO : Ow (c.plus D) σ4 ρ4 = Ow (c.plus D) σ ρi := by unfold Ow; rw [eo]
    have eM : ∀ H, M (c.plus D) σ4 ρ4 H = M (c.plus D) σ ρi H := fun H => by show msk _ _ = msk _ _; rw [eO]
    have sm5 : Same (M (c.plus D) σ ρi H3) (M (c.plus D) σ ρi H5) := by
      have := A5.sm
      rwa [eM, eM] at this
    have ntk : ¬ hasTk ρ4 D := fun z => hnoi (s2.tkOwn (tkm _ z))
    have hD5 : H5 D = some (.lst acc) := A5.oo D _ (.inl (.inr rfl)) tpD ntk (e2 _ _ hacc)
    have s5 := back H5 A5.st sm5
    have oo5 : ∀ b o, c.O b → ¬ own σ ρ1 b → c.tp ≠ some b → H1 b = some o → H5 b = some o := fun b o h1 h2 h3 e => A5.oo b o (.inl (.inl h1)) h3 (fun z => h2 (by rw [← eoi]; exact s2.tkOwn (tkm _ z))) (e2 _ _ (oo2 b o h1 h2 h3 e))
    cases b with
    | true =>
      refine ⟨c.plus D, ρ4, _, A5.st, p5, fun v H6 e ρ6 A6 r6 ⟨p6, hn6, p7⟩ => ?_⟩
      have hno4 : ¬ own σ4 ρ4 D := by rw [eo]; exact hnoi
      have hD6 : H6 D = some (.lst acc) := A6.oo D _ (.inr rfl) hno4 tpD hD5
      have sm36 : Same (M (c.plus D) σ ρi H5) (M (c.plus D) σ4 ρ6 H6) := by
        have := A6.sm
        rwa [eM] at this
      obtain ⟨s6, eo6, hnb⟩ := unwipeM s5 A6.st (A6.eo.trans eo) ew hni hn6 sm36
      have eO6 : Ow (c.plus D) σ (backR ρi ρ6 vs) = Ow (c.plus D) σ4 ρ6 := by unfold Ow; rw [eo6, A6.eo, eo]
      have eM6 : M (c.plus D) σ (backR ρi ρ6 vs) H6 = M (c.plus D) σ4 ρ6 H6 := by show msk _ _ = msk _ _; rw [eO6]
      have hno6 : ¬ own σ (backR ρi ρ6 vs) D := by rw [eo6]; exact hnoi
      obtain ⟨s7, eM7⟩ := s6.plusUpd (o := .lst (acc ++ [v])) (by rw [hD6]; exact fun z => nomatch z) hB hno6
      have smT : Same (M (c.plus D) σ ρi H2) (M (c.plus D) σ (backR ρi ρ6 vs) H6) := by
        rw [eM6]
        exact (sm3.trans sm5).trans sm36
      refine ⟨acc, hD6, by rw [racc.length]; exact p6, backR ρi ρ6 vs, es ++ [e], acc ++ [v], s7, eo6.trans eoi, hnb, by rw [eM7]; exact sm2.trans smT, upd_same, ?_, fun b o h1 h2 h3 q => ?_, p7⟩
      · rw [eM7]
        exact (racc.mono smT).append (.one (by rw [eM6]; exact r6))
      · rw [upd_ne (nD b o q)]
        exact A6.oo b o (.inl h1) (by rw [eo, eoi]; exact h2) h3 (oo5 b o h1 h2 h3 q)
    | false => exact ⟨ρi, es, acc, s5, eoi, hni, sm2.trans (sm3.trans sm5), hD5, racc.mono (sm3.trans sm5), oo5, p5⟩
  · have e : i = ds.length := by omega
    subst e
    rw [List.drop_length] at w2
    refine .inl ⟨y2 (Nat.le_refl _), ?_⟩
    obtain ⟨s3, sm3⟩ := s2.unplus hB
    refine k (.ref D) H2 (.lst es) ρi (A.trans ⟨s3, sm2.trans sm3, eoi, oo2⟩) (.lst ?_ (racc.mono sm3)) w2
    show msk _ _ _ = _
    rw [msk_of, hacc]
    intro z
    exact z.elim (fun z => s1.dom D z hD) hnoi
theorem dm_lc (hc : X.calm = true) (hN : X.N.Nodup) (hi : DIM K X tg iter fi) (own : List (Str × Nat)) (ok : blkC X.N X.env.scope scope own = true) (hw : ∀ i ∈ ws, i ∈ own.map (·.2))
    (hg : AllB X scope fun X' => DG K X' tg ws fg) (ht : AllB X scope fun X' => DTs K X' ifs tt) (he : AllB X scope fun X' => DM K X' elt te) (hs : ∀ x, foldedSetIterable iter X.env x = pure x := by intro _; rfl) :
    DM K X (.ListComp elt [⟨tg, iter, ifs, 0⟩] scope pos) (fun ρ P => fLcM fi fg tt te (own.map (·.2)) ρ fun es ρ' => P (.lst es) ρ') := ⟨fun hK => by
  refine pe_imp (pe_lc hc hN (hi.pi hK) (blkOk_by ok) (fun s H C cl fp => (hg s H C cl fp).pg hK) (fun s H C cl fp => (ht s H C cl fp).pt hK) (fun s H C cl fp => (he s H C cl fp).pe hK) hs) fun σ H Q q => ?_
  obtain ⟨c, ρ, P, st, f, k⟩ := q
  exact e_lcM hw st f k⟩
end
/-! ### join -/
def fJoinM (f g : FM) : FM := fun ρ P => f ρ fun d ρ1 => asStr d fun a => g ρ1 fun e ρ2 => asStrs e fun ls => (ls.map (·.length)).sum + ls.length * a.length ≤ 16777216 ∧ P (.str (TL.joinL a ls)) ρ2
theorem dm_join {o e : Expr} {apos pos : Pos} (ho : DM K X o fa) (he : DM K X e fb) (hs : starEach [e] X.env = [(false, eval e X.env)] := by rfl) (hbase : attributeBase o "join" X.env (eval o X.env) = eval o X.env := by rfl) (hline : (apos.endLine == pos.line) = true := by rfl) :
    DM K X (.Call (.Attribute o "join" apos) [e] [] pos) (fJoinM fa fb) := ⟨fun hK => by
  subst hK
  refine pe_imp (pe_join (ho.pe rfl) (he.pe rfl) hs hbase hline) fun σ H Q q => ?_
  obtain ⟨c, ρ, P, st, f, k⟩ := q
  refine ⟨c, ρ, _, st, f, fun v H1 d ρ1 A1 r1 p => ?_⟩
  cases r1 with
  | str l hl =>
    refine ⟨⟨S l, rfl⟩, c, ρ1, _, A1.st, p, fun w H2 e ρ2 A2 r2 p2 => ?_⟩
    have fin : ∀ (a : Addr) (xs : List V) (ds : List D) (ls : List Tx), w = .ref a → RpAll X.K (M c σ ρ2 H2) xs ds → (SqL X.K H2 a xs ∨ SqT X.K H2 a xs) → ssOf ds = some ls → ((ls.map (·.length)).sum + ls.length * l.length ≤ 16777216 ∧ P (.str (TL.joinL l ls)) ρ2) →
        ∃ b p, ∃ ys : List Str, V.str (S l) = .str b ∧ [w] = [.ref p] ∧ (SqL X.K H2 p (ys.map V.str) ∨ SqT X.K H2 p (ys.map V.str)) ∧ (ys.map (·.length)).sum + ys.length * b.length ≤ 16777216 ∧ Q (.str (Txt.join b ys)) H2 := by
      intro a xs ds ls ew r h1 h2 p2
      subst ew
      rw [ssOf_map h2] at r
      have ex := RpAll.strs r
      subst ex
      have em : (ls.map fun l => V.str (S l)) = (ls.map S).map V.str := by rw [List.map_map]; rfl
      rw [em] at h1
      have e1 : ((ls.map S).map (·.length)) = ls.map (·.length) := by
        rw [List.map_map]
        exact List.map_congr_left fun l _ => S_length l
      refine ⟨S l, a, ls.map S, rfl, rfl, h1, by rw [e1, List.length_map, S_length]; exact p2.1, ?_⟩
      rw [join_S]
      exact k _ _ _ ρ2 (A1.trans A2) (.str _ (Nat.le_trans (joinL_len l ls) (by rw [sizeLine_eq]; exact p2.1))) p2.2
    cases r2 with
    | @lst a xs ds h r =>
      obtain ⟨ls, h2, p2⟩ := p2
      exact fin a xs ds ls rfl r (.inl (.inl (.inl (msk_some h).2))) h2 p2
    | @tup a xs ds h r =>
      obtain ⟨ls, h2, p2⟩ := p2
      exact fin a xs ds ls rfl r (.inr (Same.sqT same_msk h)) h2 p2
    | _ => exact p2.elim
  | _ => exact p.elim⟩
end
end DL
/-! The layer DL: the draws' object: made, drawn from. -/
namespace DL
open PySem PySem.Spec PyProof.Rows L2
/-- what a family of draws promises: the object's data, drawn from at most n times -/
class TapeD where
  TD : Nat → D → Prop
  le : ∀ {n m : Nat} {d : D}, n ≤ m → TD n d → TD m d
instance tapeOf [TapeD] : TapeI where
  TP := fun K n m o => ∃ d, TapeD.TD n d ∧ OR K m o d
  mono := fun e ⟨d, h1, h2⟩ => ⟨d, h1, h2.mono e⟩
  le := fun h ⟨d, h1, h2⟩ => ⟨d, TapeD.le h h1, h2⟩
section
variable [TapeI] {K : PySem.W.Frag} {X : Cx} {pos p apos cpos pos' : Pos} {x : Str} {e ek ev : Expr} {fe fk fv : FE} {c : Fx} {σ : St} {ρ : Rho} {H H' : Hp}
/-! ### an item of what one owns -/
def ownDat : Option Sl → (D → Prop) → Prop
  | some (.ol ds), P => P (.lst ds)
  | some (.od ks ds), P => P (.dic ks ds)
  | some (.ot _ d), P => P d
  | _, _ => False
theorem StR.dat (st : StR K c σ ρ H) {i : Nat} {P : D → Prop} (q : ownDat ρ[i]? P) : ∃ a o d, σ[i]? = some (some (.ref a)) ∧ H a = some o ∧ OR K (M c σ ρ H) o d ∧ P d := by
  cases e : ρ[i]? with
  | none => rw [e] at q; exact q.elim
  | some s =>
    rw [e] at q
    have sl := st.slot i s e
    cases s with
    | ol ds => obtain ⟨a, xs, h1, h2, h3, h4⟩ := sl; exact ⟨a, _, .lst ds, h1, h2, ⟨xs, rfl, h3⟩, q⟩
    | od ks ds => obtain ⟨a, xs, h1, h2, h3, hz, h4, h5⟩ := sl; exact ⟨a, _, .dic ks ds, h1, h2, ⟨xs, rfl, h3, hz, h4⟩, q⟩
    | ot t d => obtain ⟨h1, ⟨o, h2, h3⟩, h4⟩ := sl; exact ⟨t, o, d, h1, h2, h3, q⟩
    | _ => exact q.elim
def fOwnIx (i : Nat) (fe : FE) : FE := fun ρ P => ownDat ρ[i]? fun _ => fe ρ fun y => ownDat ρ[i]? fun d => gIx d y P
theorem de_ownIx (i : Nat) (hu : X.A.units + 64 < cLine) (he : DE K X e fe) (hN : X.N[i]? = some x := by rfl) (hv : Vis X.env.scope x := by first | exact Or.inl rfl | exact Or.inr (Or.inl rfl) | exact Or.inr (Or.inr rfl))
    (hd1 : (x == ("__debug__" : Str)) = false := by decide) (hcd : (x == ("__classdict__" : Str)) = false := by decide) (hs : PlainIx e := by intro _ _; rfl) : DE K X (.Subscript (.Name x p) e pos) (fOwnIx i fe) := ⟨fun hK => by
  subst hK
  refine pe_imp (pe_ix (IxR.or ix_seq (ix_dict (by omega))) (pe_var hN hv hd1 hcd) (he.pe rfl) hs) fun σ H Q q => ?_
  obtain ⟨c, ρ, P, st, f, k⟩ := q
  obtain ⟨a, _, _, hv, _, _, f⟩ := st.dat f
  refine ⟨.ref a, hv, c, ρ, _, st, f, fun y H1 dy A ry p => ?_⟩
  obtain ⟨a', o, d, hv', ho, hr, p⟩ := A.st.dat p
  rw [hv] at hv'
  cases hv'
  cases d with
  | lst ds =>
    obtain ⟨xs, e1, r⟩ := hr
    subst e1
    cases ry with
    | int i =>
      obtain ⟨d, h1, h2⟩ := p
      obtain ⟨v, e1, e2⟩ := atI_rp r h1
      exact .inl (.inl ⟨a, xs, i, v, rfl, rfl, .inl (.inl ho), e1, k _ H1 d A e2 h2⟩)
    | _ => exact p.elim
  | dic ks ds =>
    obtain ⟨kvs, e1, h2, hz, h3⟩ := hr
    subst e1
    obtain ⟨key, e, e1, e2, p⟩ := p
    obtain ⟨v, z1, z2⟩ := valV_getK h2 h3 e2
    exact .inr ⟨a, v, rfl, .inl ⟨kvs, dkey key, .inl ho, keyD_rp ry e1, z1.symm⟩, k _ H1 e A z2 p⟩
  | _ => exact hr.elim⟩
/-! ### an item is stored -/
def otAt : Option Sl → (Addr → D → Prop) → Prop
  | some (.ot a d), P => P a d
  | _, _ => False
theorem StR.ot (st : StR K c σ ρ H) {i : Nat} {P : Addr → D → Prop} (q : otAt ρ[i]? P) : ∃ a o d, ρ[i]? = some (.ot a d) ∧ σ[i]? = some (some (.ref a)) ∧ H a = some o ∧ OR K (M c σ ρ H) o d ∧ c.B a = none ∧ P a d := by
  cases e : ρ[i]? with
  | none => rw [e] at q; exact q.elim
  | some s =>
    rw [e] at q
    cases s with
    | ot a d => obtain ⟨h1, ⟨o, h2, h3⟩, h4⟩ := st.slot i _ e; exact ⟨a, o, d, rfl, h1, h2, h3, h4, q⟩
    | _ => exact q.elim
theorem StR.setOt (st : StR K c σ ρ H) {i : Nat} {a : Addr} {d d' : D} {o' : HO} (hi : ρ[i]? = some (.ot a d)) (hv : σ[i]? = some (some (.ref a))) (hB : c.B a = none) (r : OR K (M c σ ρ H) o' d') :
    StR K c σ (ρ.set i (.ot a d')) (upd H a o') ∧ Same (M c σ ρ H) (M c σ (ρ.set i (.ot a d')) (upd H a o')) :=
  st.change i hi rfl rfl hv (fun t n z => by cases z) fun m sm => ⟨rfl, ⟨o', upd_same, r.mono sm⟩, hB⟩
def gOtD (i : Nat) (fk fv : FE) : FS := fun E ρ => fv ρ fun v => otAt ρ[i]? fun _ _ => fk ρ fun y => otAt ρ[i]? fun a d => match d with
  | .dic ks ds => ∃ k, keyD y = some k ∧ ks.length < sizeLine ∧ E.nx (ρ.set i (.ot a (.dic (putKs ks k) (putDs ks ds k v))))
  | _ => False
theorem ds_otD (i : Nat) (hr : X.K = K → X.A.units + 64 < cLine) (hk : DE K X ek fk) (hv : DE K X ev fv) (hN : X.N[i]? = some x := by rfl) (hvis : Vis X.env.scope x := by first | exact Or.inl rfl | exact Or.inr (Or.inl rfl) | exact Or.inr (Or.inr rfl))
    (hd1 : (x == ("__debug__" : Str)) = false := by decide) (hcd : (x == ("__classdict__" : Str)) = false := by decide) (hs : swapsWith ev (some (.Subscript (.Name x p) ek pos')) pos.line X.env = pure false := by rfl) :
    DS K X (.Assign [.Subscript (.Name x p) ek pos'] ev pos) (gOtD i fk fv) := ⟨fun hK => by
  have hu := hr hK
  refine ps_imp (ps_dput (by omega) (pe_var hN hvis hd1 hcd) (hk.pe hK) (hv.pe hK) hs) fun D σ H q => ?_
  obtain ⟨c, ρ, E, wf, s0, g, kn, kr, kb, kc⟩ := q
  refine ⟨c, ρ, _, s0, g, fun v H1 d A rv p => ?_⟩
  obtain ⟨a, _, _, hi, h2, _, _, hB, p⟩ := A.st.ot p
  refine ⟨.ref a, h2, c, ρ, _, A.st, p, fun y H2 dy A2 ry p => ?_⟩
  obtain ⟨a', o, d', hi', h2', ho, hr', _, p⟩ := A2.st.ot p
  rw [h2] at h2'
  cases h2'
  cases d' with
  | dic ks ds =>
    obtain ⟨kvs, e1, h3, hz, h4⟩ := hr'
    subst e1
    obtain ⟨key, e1, e2, p⟩ := p
    have hl : kvs.length = ks.length := by simpa using congrArg List.length h3
    have ey := keyD_rp ry e1
    have kz := keysOk_put hz ry e1
    subst ey
    obtain ⟨s2, sm2⟩ := A2.st.setOt (o' := .dK (putK kvs (dkey key) v)) hi' h2 hB (d' := .dic (putKs ks key) (putDs ks ds key d)) ⟨_, rfl, putK_keys h3, kz, putK_rp (rv.mono A2.sm) h3 h4⟩
    exact ⟨a, _, rfl, .k ho (by rw [hl]; exact e2), kn _ _ _ s2 ((A.sm.trans A2.sm).trans sm2) p⟩
  | _ => exact p.elim⟩
def gOtL (i : Nat) (fk fv : FE) : FS := fun E ρ => fv ρ fun v => otAt ρ[i]? fun _ _ => fk ρ fun y => otAt ρ[i]? fun a d => match d, y with
  | .lst ds, .int k => ∃ j, ixN ds.length k = some j ∧ E.nx (ρ.set i (.ot a (.lst (ds.set j v))))
  | _, _ => False
theorem ds_otL (i : Nat) (hk : DE K X ek fk) (hv : DE K X ev fv) (hN : X.N[i]? = some x := by rfl) (hvis : Vis X.env.scope x := by first | exact Or.inl rfl | exact Or.inr (Or.inl rfl) | exact Or.inr (Or.inr rfl))
    (hd1 : (x == ("__debug__" : Str)) = false := by decide) (hcd : (x == ("__classdict__" : Str)) = false := by decide)
    (ha : ∀ v, assign (.Subscript (.Name x p) ek pos') X.env v = (do
      let ov ← holding [v] (eval (.Name x p) X.env)
      let iv ← holding [v, ov] (eval ek X.env)
      standAt pos'
      holding [v, ov, iv] (setItem ov iv v)
      release [v, ov, iv] []) := by intro _; rfl)
    (hs : swapsWithSole [.Subscript (.Name x p) ek pos'] ev pos.line X.env = pure false := by rfl) (hw : swappedStores [.Subscript (.Name x p) ek pos'] ev X.env = pure none := by rfl)
    (h1 : (assignEach [.Subscript (.Name x p) ek pos'] X.env).map (·.2) = [assign (.Subscript (.Name x p) ek pos') X.env] := by rfl) :
    DS K X (.Assign [.Subscript (.Name x p) ek pos'] ev pos) (gOtL i fk fv) := ⟨fun hK => by
  refine ps_imp (ps_asg (hv.pe hK) (pg_sub (pe_var hN hvis hd1 hcd) (hk.pe hK) set_list ha) hs hw h1) fun D σ H q => ?_
  obtain ⟨c, ρ, E, wf, s0, g, kn, kr, kb, kc⟩ := q
  refine ⟨c, ρ, _, s0, g, fun v H1 d A rv p => ?_⟩
  obtain ⟨a, _, _, hi, h2, _, _, hB, p⟩ := A.st.ot p
  refine ⟨.ref a, h2, c, ρ, _, A.st, p, fun y H2 dy A2 ry p => ?_⟩
  obtain ⟨a', o, d', hi', h2', ho, hr', _, p⟩ := A2.st.ot p
  rw [h2] at h2'
  cases h2'
  cases d' with
  | lst ds =>
    obtain ⟨xs, e1, r⟩ := hr'
    subst e1
    cases ry with
    | int k =>
      obtain ⟨j, e1, p⟩ := p
      obtain ⟨s2, sm2⟩ := A2.st.setOt (o' := .lst (xs.set j v)) hi' h2 hB (d' := .lst (ds.set j d)) ⟨_, rfl, RpAll.set (rv.mono A2.sm) j r⟩
      exact ⟨a, xs, k, j, rfl, rfl, ho, by rw [r.length]; exact e1, kn _ _ _ s2 ((A.sm.trans A2.sm).trans sm2) p⟩
    | _ => exact p.elim
  | _ => exact p.elim⟩
end
section
variable [TapeI] {K : PySem.W.Frag} {X : Cx}
abbrev gPow : G2 := gInt2 CPow fun a b => .int (a ^ b.toNat)
theorem dop_pow : DOp K X (binaryOp .Pow) gPow := dop_int op_pow fun i j H => .int _
theorem dip_add : DOp K X (inplaceOp .Add) (gInt2 (fun _ _ => True) fun a b => .int (a + b)) := dop_int (gv := fun i j => .int (i + j)) (OpR.imp iop_add fun x y H Q ⟨i, j, e1, e2, _, q⟩ => ⟨i, j, e1, e2, q⟩) fun i j H => .int _
theorem dip_sub : DOp K X (inplaceOp .Sub) (gInt2 (fun _ _ => True) fun a b => .int (a - b)) := dop_int (gv := fun i j => .int (i - j)) (OpR.imp iop_sub fun x y H Q ⟨i, j, e1, e2, _, q⟩ => ⟨i, j, e1, e2, q⟩) fun i j H => .int _
theorem dip_mul : DOp K X (inplaceOp .Mult) gMul := dop_int iop_mul fun i j H => .int _
end
/-! ### the def that draws -/
def initO (n : Nat) (t : Addr) (d : D) (ds : List D) : Rho := .ot t d :: (ds.map .sh ++ List.replicate (n - (ds.length + 1)) .no)
section
variable [TapeD] {K : PySem.W.Frag}
def EnO (t : Addr) (m : Nat) (P : D → Prop) : Dn := { nx := fun _ => False, rt := fun d ρ => flatD d = true ∧ (∃ d2, ρ[0]? = some (.ot t d2) ∧ TapeD.TD m d2) ∧ P d }
theorem st_initO {N : List Str} {O : Addr → Prop} {t : Addr} {d : D} {o : HO} {H : Hp} {vs : List V} {ds : List D} (hl : ds.length + 1 ≤ N.length) (hO : ∀ b, O b → H b ≠ none) (hT : O t) (ho : H t = some o) (tp : OR K (msk O H) o d) (r : RpAll K (msk O H) vs ds) :
    StR K ⟨fun b => if b = t then none else H b, fun b => O b ∧ b ≠ t, none⟩ (start N (.ref t :: vs)) (initO N.length t d ds) H := by
  have sh : ∀ i s, (initO N.length t d ds)[i + 1]? = some s → s.own = false := fun i s h => by
    have h' : (ds.map Sl.sh ++ List.replicate (N.length - (ds.length + 1)) .no)[i]? = some s := h
    rcases List.mem_append.mp (List.mem_of_getElem? h') with h | h
    · obtain ⟨d, _, rfl⟩ := List.mem_map.mp h; rfl
    · rw [(List.mem_replicate.mp h).2]; rfl
  have s0 : (start N (.ref t :: vs))[0]? = some (some (.ref t)) := start_get rfl
  have hM : M ⟨fun b => if b = t then none else H b, fun b => O b ∧ b ≠ t, none⟩ (start N (.ref t :: vs)) (initO N.length t d ds) H = msk O H := by
    show msk _ _ = _
    congr 1
    funext b
    refine propext ⟨fun h => h.elim (fun h => h.1) (fun ⟨i, s, h1, h2, h3⟩ => ?_), fun h => ?_⟩
    · cases i with
      | zero => rw [s0] at h3; cases h3; exact hT
      | succ i => rw [sh i s h1] at h2; cases h2
    · by_cases z : b = t
      · exact .inr ⟨0, _, rfl, rfl, by rw [z]; exact s0⟩
      · exact .inl ⟨h, z⟩
  refine ⟨?_, fun i s hs => ?_, fun i j s u a h1 h2 h3 h4 _ _ => ?_, fun b o' _ h => ?_, fun b h => hO b h.1, (fun u h => by cases h), (fun u h => by cases h)⟩
  · simp only [initO, L2.start, List.length_cons, List.length_append, List.length_map, List.length_replicate, r.length]
    omega
  · rw [hM]
    cases i with
    | zero => cases hs; exact ⟨s0, ⟨o, ho, tp⟩, if_pos rfl⟩
    | succ i =>
      have hs' : (ds.map Sl.sh ++ List.replicate (N.length - (ds.length + 1)) .no)[i]? = some s := hs
      by_cases hi : i < ds.length
      · rw [List.getElem?_append_left (by simpa using hi), List.getElem?_map, List.getElem?_eq_getElem hi] at hs'
        cases hs'
        obtain ⟨v, e1, e2⟩ := r.get (List.getElem?_eq_getElem hi)
        exact ⟨v, start_get (i := i + 1) e1, e2⟩
      · rw [List.getElem?_append_right (by simpa using hi), List.getElem?_replicate] at hs'
        split at hs'
        · cases hs'; trivial
        · cases hs'
  · cases i with
    | succ i => rw [sh i s h1] at h3; cases h3
    | zero =>
      cases j with
      | zero => rfl
      | succ j => rw [sh j u h2] at h4; cases h4
  · have h : (if b = t then none else H b) = some o' := h
    by_cases z : b = t
    · rw [if_pos z] at h; cases h
    · rwa [if_neg z] at h
variable {P : Program} {w : World} {mg : Str → Option Value} {base : Heap} {x qual : Str} {params : Arguments} {body : List Stmt} {scope : Scope} {dvs : List V} {kws : List (Str × V)} {f : Addr} {fd : FuncData} {N ps : List Str} {k : Nat}
theorem fnO (F : FunD K x qual params body scope dvs kws f fd) (S : FnScope N ps scope) (hN : ps.length ≤ N.length) (G : FS) (spec : GA)
    (der : ∀ (cdv : Value) (A : Around) (outer : List Env) (s : Shared) (H : Hp) (E : XK), RoomG k (A.deeper (envOfC qual scope s.heap.objs.size f cdv)) → DSs K (cxOf CX0 P w K mg base N qual scope f cdv A outer s H E).nox body G)
    (h : ∀ (t : Addr) (m : Nat) (d : D) (ds : List D) (Q : D → Prop), ds.length + 1 = ps.length → m + 1 ≤ LIM → TapeD.TD m d → spec ds Q → G (EnO t (m + 1) Q) (initO N.length t d ds)) (n : Nat) (hn : n + 1 = ps.length) : FnG P w K mg base CX0 (k + 1) f fd ps (spT K n spec 1) := by
  obtain ⟨oc, od, dV, kV, doc, pm, an, cdv, ct, osl, rfl, lk, hcd, _, _⟩ := F.ex
  refine fnG_of lk hcd S (fun vs H Q E ⟨O, t, m, vs', ds, Pd, h0, h1, _, _, _, _, h3, _⟩ => by rw [h0, List.length_cons, h3.length, h1, hn]) fun A outer s H vs Q E hr hsp => ?_
  obtain ⟨O, t, m, vs', ds, Pd, rfl, h1, hm, h2, hT, ⟨o, ho, d, hd, hor⟩, h3, h4, h5⟩ := hsp
  have eO : (fun b => (O b ∧ b ≠ t) ∨ b = t) = O := funext fun b => propext ⟨fun h => h.elim (fun h => h.1) fun h => h ▸ hT, fun h => by
    by_cases z : b = t
    · exact .inr z
    · exact .inl ⟨h, z⟩⟩
  refine ⟨sOf K G, PSs.nox' ((der cdv A outer s H E hr).ps rfl), _, initO N.length t d ds, EnO t (m + 1) Pd, fun b h z => ?_, st_initO (by omega) h2 hT ho hor h3, h t m d ds Pd (by omega) hm hd h4, fun σ' ρ' H' st _ q => q.elim, fun v H' d ρ' r q => ?_, fun _ _ _ _ _ q => q.elim, fun _ _ _ _ _ q => q.elim⟩
  · have z : (if b = t then none else H b) = none := z
    rw [if_neg h.2] at z
    exact h2 b h.1 z
  · obtain ⟨q0, ⟨d2, q1, q2⟩, q3⟩ := q
    obtain ⟨o2, e1, e2⟩ := r.ot t 0 d2 q1
    rw [eO] at e2
    exact h5 _ _ _ (r.rp.flatTo q0) (fun b o' ne e => r.base b o' (fun z => by cases z) (show (if b = t then none else H b) = some o' by rw [if_neg ne]; exact e)) ⟨o2, e1, d2, q2, e2⟩ q3
/-! ### the def that makes the object -/
def slD : Sl → Option D
  | .ol ds => some (.lst ds)
  | .od ks ds => some (.dic ks ds)
  | _ => none
variable (K) in
def spN : Sp := fun vs H Q _ => ∃ (O : Addr → Prop) (ns : List Int), (∀ b, O b → H b ≠ none) ∧ RpAll K (msk O H) vs [.scr ns] ∧ ∀ a H', H a = none → Same H H' → (∃ o, H' a = some o ∧ TapeI.TP K 0 (msk (fun b => O b ∨ b = a) H') o) → Q (.ref a) H'
theorem fnN {e : Expr} {pos : Pos} (F : FunD K x qual params [.Return (some e) pos] scope dvs kws f fd) (S : FnScope N ps scope) (hp : ps.length = 1) (hN : 1 ≤ N.length) (g : FN)
    (der : ∀ (cdv : Value) (A : Around) (outer : List Env) (s : Shared) (H : Hp) (E : XK), RoomG k (A.deeper (envOfC qual scope s.heap.objs.size f cdv)) → DF K (cxOf CX0 P w K mg base N qual scope f cdv A outer s H E).nox e g)
    (h : ∀ ns : List Int, g (initR N.length [.scr ns]) fun s => ∃ d, slD s = some d ∧ TapeD.TD 0 d) : FnG P w K mg base CX0 (k + 1) f fd ps (spN K) := by
  obtain ⟨oc, od, dV, kV, doc, pm, an, cdv, ct, osl, rfl, lk, hcd, _, _⟩ := F.ex
  refine fnG_of lk hcd S (fun vs H Q E ⟨O, ns, _, h3, _⟩ => by rw [h3.length, hp]; rfl) fun A outer s H vs Q E hr hsp => ?_
  obtain ⟨O, ns, h2, h3, h5⟩ := hsp
  refine ⟨_, PSs.nox' (pss_one (ps_ret ((der cdv A outer s H E hr).pe rfl))), ⟨H, O, none⟩, initR N.length [.scr ns], _, st_init (by simpa using hN) h2 h3, h ns, fun q H' sl n ⟨d, q1, q2⟩ => ?_⟩
  have hHq : H q = none := n.nB
  have so := n.sl _ (Same.refl _)
  have sub : ∀ b, Ow (Fx.plus ⟨H, O, none⟩ q) (start N vs) (initR N.length [.scr ns]) b ↔ O b ∨ b = q := fun b => ⟨fun z => z.elim id fun z => (own_sh initR_own b z).elim, .inl⟩
  have eM : M (Fx.plus ⟨H, O, none⟩ q) (start N vs) (initR N.length [.scr ns]) H' = msk (fun b => O b ∨ b = q) H' := by
    show msk _ _ = _
    congr 1
    funext b
    exact propext (sub b)
  refine h5 q H' hHq (fun b o e => n.st.base b o (fun z => by cases z) e) ?_
  rw [eM] at so
  cases sl with
  | ol ds =>
    cases q1
    obtain ⟨a, xs, e1, e2, e3, _⟩ := so
    cases e1
    exact ⟨_, e2, _, q2, xs, rfl, e3⟩
  | od ks ds =>
    cases q1
    obtain ⟨a, kvs, e1, e2, e3, hz, e4, _⟩ := so
    cases e1
    exact ⟨_, e2, _, q2, kvs, rfl, e3, hz, e4⟩
  | _ => cases q1
/-- the def that makes the draws' object -/
def CalN (P : Program) (w : World) (K : PySem.W.Frag) (mg : Str → Option Value) (base : Heap) (k : Nat) (x : Str) : Prop :=
  ∃ (f : Addr) (fd : FuncData) (ps : List Str) (g : List Value → List Value → List Value), mg x = some (.ref f) ∧ PySem.W.keepIn K (.ref f) = true ∧ FnG P w K mg base CX0 k f fd ps (spN K) ∧ KBn K fd ps 1 [] g (fun vs _ => vs)
theorem CalN.mono {j : Nat} (h : CalN P w K mg base j x) (hj : j ≤ k) : CalN P w K mg base k x := by
  obtain ⟨f, fd, ps, g, h1, h2, h3, h4⟩ := h
  exact ⟨f, fd, ps, g, h1, h2, h3.mono hj, h4⟩
theorem CalN.pos {nm : Str} (F : FunD K nm qual params body scope [] [] f fd) (hm : mg x = some (.ref f)) (hp : ps.length = 1) (G : FnG P w K mg base CX0 k f fd ps (spN K))
    (h : ∀ (kV doc pm : Value) (an : Option Addr) (cdv ct : Value) (us : List Value), us.length = ps.length → bindArgs (PySem.W.fnOf nm qual params body scope .none kV doc pm an cdv ct) ⟨us, []⟩ = pure (ps.zip us)) : CalN P w K mg base k x := by
  have hb := FunD.bindsA F h
  refine ⟨f, fd, ps, fun us _ => us, hm, F.kp, G, ⟨fun s us ws _ h1 h2 => ?_, fun r _ => r⟩⟩
  cases ws with
  | nil => exact hb s us (h1.trans hp.symm)
  | cons a b => cases h2
variable {c : Fx} {σ : St} {ρ : Rho} {H H' : Hp}
theorem StR.plusG (st : StR K c σ ρ H) {q : Addr} (e : Same H H') (hq : H q = none) (hq' : H' q ≠ none) : StR K (c.plus q) σ ρ H' ∧ Same (M c σ ρ H) (M (c.plus q) σ ρ H') := by
  have sm : Same (M c σ ρ H) (M (c.plus q) σ ρ H') := fun b x z => by
    obtain ⟨h1, h2⟩ := msk_some z
    have ne : b ≠ q := ne_of_none h2 hq
    show msk _ _ _ = _
    rw [msk_of (fun z => (ow_plus.1 z).elim h1 ne)]
    exact e _ _ h2
  refine ⟨⟨st.len, fun i s hi => ?_, st.inj, fun b x h1 h2 => e b x (st.base b x h1 h2), fun b h1 h2 => ?_, fun t ht => ?_, st.tpB⟩, sm⟩
  · have z := st.slot i s hi
    cases s with
    | no => trivial
    | sh d => obtain ⟨x, h1, h2⟩ := z; exact ⟨x, h1, h2.mono sm⟩
    | ol ds => obtain ⟨a, xs, h1, h2, h3, h4⟩ := z; exact ⟨a, xs, h1, e _ _ h2, h3.mono sm, h4⟩
    | od ks ds => obtain ⟨a, xs, h1, h2, h3, hz, h4, h5⟩ := z; exact ⟨a, xs, h1, e _ _ h2, h3, hz, h4.mono sm, h5⟩
    | tk a n => obtain ⟨h1, ⟨o, h2, h3⟩, h4⟩ := z; exact ⟨h1, ⟨o, e _ _ h2, TapeI.mono sm h3⟩, h4⟩
    | ot a n => obtain ⟨h1, ⟨o, h2, h3⟩, h4⟩ := z; exact ⟨h1, ⟨o, e _ _ h2, OR.mono sm h3⟩, h4⟩
  · rcases h1 with h1 | rfl
    · cases z : H b with
      | none => exact st.dom b h1 z
      | some x => rw [e b x z] at h2; cases h2
    · exact hq' h2
  · obtain ⟨h1, n, x, h2, h3⟩ := st.tape t ht
    exact ⟨.inl h1, n, x, e _ _ h2, TapeI.mono sm h3⟩
theorem ds_mkTape {X : Cx} {y x : Str} {p pos pos' cpos : Pos} {e : Expr} {fa : FE} (i : Nat) (C : CalN X.prog X.w X.K X.mg X.base k x) (hr : RoomG k X.A) (hNd : X.N.Nodup) (hg : Gl X x) (ha : DE K X e fa) (hi : X.N[i]? = some y := by rfl) (hx : Loc X.env.scope y := by first | exact Or.inl rfl | exact Or.inr rfl)
    (hs : swapsWith (.Call (.Name x p) [e] [] cpos) (some (.Name y pos')) pos.line X.env = pure false := by rfl) (hf : X.fn y = true ∨ X.env.scope.names.lookup y = some .local := by first | exact .inl rfl | exact .inr rfl)
    (hdb : (x == ("__debug__" : Str)) = false := by decide) (he : starEach [e] X.env = (false, eval e X.env) :: starEach [] X.env := by rfl) (hpl : (backTo cpos (starEach [] X.env)).any (·.1) = false := by rfl) :
    DS K X (.Assign [.Name y pos'] (.Call (.Name x p) [e] [] cpos) pos) (fun E ρ => fa ρ fun d => ∃ ns : List Int, d = .scr ns ∧ ∀ a, E.nx (ρ.set i (.tk a 0))) := ⟨fun hK => by
  subst hK
  obtain ⟨f, fd, ps, g, h1, h2, h3, h4⟩ := C
  refine ps_imp (L2.ps_set hNd hi hx (pe_callG h3 hr hg h1 h2 h4 passG (pa_cons (ha.pe rfl) pa_nil he) hdb he hpl) hs hf) fun D σ H q => ?_
  obtain ⟨c, ρ, E, wf, s0, g, kn, kr, kb, kc⟩ := q
  refine ⟨c, ρ, _, s0, g, fun v H1 d A r ⟨ns, ed, p⟩ => ⟨rfl, rfl, ?_⟩⟩
  subst ed
  refine ⟨Ow c σ ρ, ns, fun b => A.st.ow_some, .one r, fun a H' ha e tp => ?_⟩
  obtain ⟨o, ho, tp⟩ := tp
  obtain ⟨s1, sm1⟩ := A.st.plusG e ha (by rw [ho]; exact fun z => nomatch z)
  have eM : M (c.plus a) σ ρ H' = msk (fun b => Ow c σ ρ b ∨ b = a) H' := by
    show msk _ _ = _
    congr 1
    funext b
    exact propext ow_plus
  obtain ⟨s2, sm2⟩ := StR.plusOwn (s := .tk a 0) i (H := H1) (σ := σ) (ρ := ρ) (c := c) (H' := H') (D := a) ⟨s1, sm1, fun b o z1 z2 z3 z4 => e b o z4, A.st.freshB ha, fun z => A.st.own_some z ha, fun z => A.st.dom a z ha, rfl, fun m em => ⟨rfl, ⟨o, ho, TapeI.mono (by rw [eM] at em; exact em) tp⟩, .inr (A.st.freshB ha)⟩⟩
  exact kn _ _ H' s2 (A.sm.trans sm2) (p a)⟩
end
end DL
/-! The layer DL: plain laws of the readings. -/
namespace DL
open PySem PySem.Spec PyProof.Rows L2
/-! ### comprehensions -/
theorem blkL {fg : FG} {tt : FT} {te : FE} {vs : List Nat} (g : D → Option D) {ρ : Rho} {P : List D → Prop} : ∀ {ds acc : List D}, (∀ d ∈ ds, ∀ R : Option D → Prop, R (g d) → turnR fg vs d ρ fun ρ2 => tt ρ2 fun b => if b = true then te ρ2 fun e => R (some e) else R none) →
    acc.length + ds.length ≤ sizeLine → P (acc ++ ds.filterMap g) → blkD fg tt (bodyL te) vs ds ρ acc P
  | [], acc, _, _, p => by simpa [blkD] using p
  | d :: ds, acc, h, hl, p => by
    simp only [List.length_cons] at hl
    refine h d List.mem_cons_self (fun o => match o with
      | some e => acc.length < sizeLine ∧ blkD fg tt (bodyL te) vs ds ρ (acc ++ [e]) P
      | none => blkD fg tt (bodyL te) vs ds ρ acc P) ?_
    cases e : g d with
    | none =>
      rw [List.filterMap_cons_none e] at p
      exact blkL g (fun x hx => h x (List.mem_cons_of_mem _ hx)) (by omega) p
    | some y =>
      rw [List.filterMap_cons_some e] at p
      exact ⟨by omega, blkL g (fun x hx => h x (List.mem_cons_of_mem _ hx)) (by simp only [List.length_append, List.length_cons, List.length_nil]; omega) (by simpa using p)⟩
/-- every item, made -/
theorem blkMap {fg : FG} {te : FE} {vs : List Nat} (g : D → D) {ρ : Rho} {P : List D → Prop} {ds : List D} (h : ∀ d ∈ ds, ∀ R : D → Prop, R (g d) → turnR fg vs d ρ fun ρ2 => te ρ2 R) (hl : ds.length ≤ sizeLine) (p : P (ds.map g)) : blkD fg fYes (bodyL te) vs ds ρ [] P :=
  blkL (fun d => some (g d)) (fun d hd R r => h d hd (fun e => R (some e)) r) (by simpa using hl) (by simpa using p)
theorem blkDic {fg : FG} {tt : FT} {tk tv : FE} {vs : List Nat} (g : D → Option (DK × D)) {ρ : Rho} {P : List DK × List D → Prop} : ∀ {ds : List D} {a : List DK × List D}, (∀ d ∈ ds, ∀ R : Option (DK × D) → Prop, R (g d) → turnR fg vs d ρ fun ρ2 => tt ρ2 fun b => if b = true then tk ρ2 fun y => tv ρ2 fun v => ∃ k, keyD y = some k ∧ R (some (k, v)) else R none) →
    a.1.length + ds.length ≤ sizeLine → P (mrgD a.1 a.2 (ds.filterMap g)) → blkD fg tt (bodyD tk tv) vs ds ρ a P
  | [], a, _, _, p => p
  | d :: ds, a, h, hl, p => by
    simp only [List.length_cons] at hl
    refine h d List.mem_cons_self (fun o => match o with
      | some kv => a.1.length < sizeLine ∧ blkD fg tt (bodyD tk tv) vs ds ρ (putKs a.1 kv.1, putDs a.1 a.2 kv.1 kv.2) P
      | none => blkD fg tt (bodyD tk tv) vs ds ρ a P) ?_
    cases e : g d with
    | none =>
      rw [List.filterMap_cons_none e] at p
      exact blkDic g (fun x hx => h x (List.mem_cons_of_mem _ hx)) (by omega) p
    | some kv =>
      rw [List.filterMap_cons_some e] at p
      refine ⟨by omega, blkDic g (fun x hx => h x (List.mem_cons_of_mem _ hx)) ?_ p⟩
      have : (putKs a.1 kv.1).length ≤ a.1.length + 1 := by unfold putKs; split <;> simp
      show (putKs a.1 kv.1).length + ds.length ≤ sizeLine
      omega
theorem blkL2 {fg fg1 : FG} {tt tt1 : FT} {fi1 : FA} {te : FE} {vs vs1 : List Nat} (g : D → List D) {ρ : Rho} {P : List D → Prop} (B : Nat) : ∀ {ds acc : List D}, (∀ d ∈ ds, (g d).length ≤ B ∧ ∀ (acc : List D) (R : List D → Prop), acc.length + B ≤ sizeLine → R (acc ++ g d) → turnR fg vs d ρ fun ρ2 => tt ρ2 fun b => if b = true then bodyL2 fi1 fg1 tt1 te vs1 ρ2 acc R else R acc) →
    acc.length + (ds.length + 1) * B ≤ sizeLine → P (acc ++ ds.flatMap g) → blkD fg tt (bodyL2 fi1 fg1 tt1 te vs1) vs ds ρ acc P
  | [], acc, _, _, p => by simpa [blkD] using p
  | d :: ds, acc, h, hl, p => by
    obtain ⟨h0, h1⟩ := h d List.mem_cons_self
    simp only [List.length_cons, Nat.add_mul, Nat.one_mul] at hl
    refine h1 acc (fun acc' => blkD fg tt (bodyL2 fi1 fg1 tt1 te vs1) vs ds ρ acc' P) (by omega) ?_
    refine blkL2 g B (fun x hx => h x (List.mem_cons_of_mem _ hx)) ?_ (by simpa using p)
    simp only [List.length_append, Nat.add_mul, Nat.one_mul]
    omega
/-! ### repr -/
mutual
/-- a bound on the repr's length -/
def szD : D → Nat
  | .non => 4
  | .bl _ => 5
  | .int i => i.natAbs + 2
  | .str l => 10 * l.length + 2
  | .tup ds => szAll ds + 3
  | .lst ds => szAll ds + 3
  | _ => 0
def szAll : List D → Nat
  | [] => 0
  | d :: ds => szD d + 2 + szAll ds
end
mutual
/-- plain data that repr takes -/
def repOk : Nat → D → Bool
  | _, .non => true
  | _, .bl _ => true
  | _, .int i => decide (i.natAbs.log2 < 1920)
  | _, .str l => decide (l.length ≤ sizeLine) && l.all fun c => decide (c < 1114112)
  | n + 1, .tup ds => repAll n ds
  | n + 1, .lst ds => repAll n ds
  | _, _ => false
def repAll : Nat → List D → Bool
  | _, [] => true
  | n, d :: ds => repOk n d && repAll n ds
end
theorem S_all (l : Tx) (p : Nat → Bool) : (S l).cps.all p = l.all p := by simp [S]
theorem join_len_le : ∀ ts : List Str, (Str.join ", " ts).length ≤ (ts.map fun t => t.length + 2).sum
  | [] => Nat.zero_le _
  | t :: ts => by
    have h := join_length_add (t :: ts) (by simp)
    unfold piled at h
    omega
theorem textFrom_le : ∀ (ts : List Str) (k : Nat) (acc : Str), (textFrom k acc ts).length ≤ acc.length + (ts.map fun t => t.length + 2).sum
  | [], k, acc => Nat.le_add_right _ _
  | t :: ts, k, acc => by
    have h := textFrom_le ts (k + 1) (acc ++ (if k > 0 then ", " else "" : String) ++ t)
    have e : (acc ++ (if k > 0 then ", " else "" : String) ++ t).length ≤ acc.length + 2 + t.length := by
      rw [strLen_append, strLen_append]
      have : ((if k > 0 then ", " else "" : String) : Str).length ≤ 2 := by split <;> decide
      omega
    show (textFrom (k + 1) _ ts).length ≤ _
    rw [List.map_cons, List.sum_cons]
    omega
mutual
theorem repOk_py : ∀ {n : Nat} {d : D}, repOk n d = true → (toPy d).canLay0 = true ∧ (toPy d).showable = true ∧ (toPy d).hasDict = false ∧ (toPy d).depth ≤ n ∧ (toPy d).shown.length ≤ szD d
  | n, .non, _ => ⟨rfl, rfl, rfl, Nat.zero_le _, by show ("None" : Str).length ≤ 4; decide⟩
  | n, .bl b, _ => ⟨rfl, rfl, rfl, Nat.zero_le _, by cases b <;> (show (_ : Str).length ≤ 5) <;> decide⟩
  | n, .int i, h => by
    have h' : i.natAbs.log2 < 1920 := by
      cases n <;> simpa [repOk] using h
    refine ⟨rfl, by show decide _ = true; exact decide_eq_true h', rfl, Nat.zero_le _, ?_⟩
    have := PyProof.Rows.len_str_of_int i
    show (Str.ofString (toString i)).length ≤ i.natAbs + 2
    omega
  | n, .str l, h => by
    have h' : l.length ≤ sizeLine ∧ ∀ c ∈ l, c < 1114112 := by
      cases n <;> simpa [repOk] using h
    refine ⟨?_, rfl, rfl, Nat.zero_le _, ?_⟩
    · show (S l).cps.all _ = true
      rw [S_all]
      exact List.all_eq_true.mpr fun c hc => decide_eq_true (h'.2 c hc)
    · have := StrLaws.reprText_len (S l) (by
        rw [S_cps]
        exact fun c hc => Nat.lt_trans (h'.2 c hc) (by decide))
      rw [S_length] at this
      exact this
  | n + 1, .tup ds, h => by
    obtain ⟨h1, h2, h3, h4, h5⟩ := repAll_py (show repAll n ds = true by simpa [repOk] using h)
    refine ⟨h1, h2, h3, ?_, ?_⟩
    · show PyData.depthAll (toPyAll ds) + 1 ≤ n + 1
      omega
    · show (tupleText (PyData.shownAll (toPyAll ds))).length ≤ szAll ds + 3
      unfold tupleText
      rw [strLen_append, strLen_append]
      have e1 : ((("(" : String) : Str)).length = 1 := rfl
      have e3 : (((if (PyData.shownAll (toPyAll ds)).length == 1 then ",)" else ")" : String) : Str)).length ≤ 2 := by split <;> decide
      have := join_len_le (PyData.shownAll (toPyAll ds))
      omega
  | n + 1, .lst ds, h => by
    obtain ⟨h1, h2, h3, h4, h5⟩ := repAll_py (show repAll n ds = true by simpa [repOk] using h)
    refine ⟨h1, h2, h3, ?_, ?_⟩
    · show PyData.depthAll (toPyAll ds) + 1 ≤ n + 1
      omega
    · show (listText (PyData.shownAll (toPyAll ds))).length ≤ szAll ds + 3
      unfold listText
      rw [strLen_append]
      have e1 : ((("[" : String) : Str)).length = 1 := rfl
      have e2 : ((("]" : String) : Str)).length = 1 := rfl
      have := textFrom_le (PyData.shownAll (toPyAll ds)) 0 "["
      omega
  | 0, .tup ds, h => by simp [repOk] at h
  | 0, .lst ds, h => by simp [repOk] at h
  | 0, .dic _ _, h => by simp [repOk] at h
  | n + 1, .dic _ _, h => by simp [repOk] at h
  | 0, .obj _, h => by simp [repOk] at h
  | n + 1, .obj _, h => by simp [repOk] at h
  | 0, .ty _, h => by simp [repOk] at h
  | n + 1, .ty _, h => by simp [repOk] at h
theorem repAll_py : ∀ {n : Nat} {ds : List D}, repAll n ds = true → PyData.canLayAll0 (toPyAll ds) = true ∧ PyData.showableAll (toPyAll ds) = true ∧ PyData.hasDictAll (toPyAll ds) = false ∧ PyData.depthAll (toPyAll ds) ≤ n ∧ ((PyData.shownAll (toPyAll ds)).map fun t => t.length + 2).sum ≤ szAll ds
  | n, [], _ => ⟨rfl, rfl, rfl, Nat.zero_le _, Nat.le_refl _⟩
  | n, d :: ds, h => by
    have h' : repOk n d = true ∧ repAll n ds = true := by
      cases n <;> simpa [repAll] using h
    obtain ⟨a1, a2, a3, a4, a5⟩ := repOk_py h'.1
    obtain ⟨b1, b2, b3, b4, b5⟩ := repAll_py h'.2
    refine ⟨?_, ?_, ?_, ?_, ?_⟩
    · show ((toPy d).canLay0 && PyData.canLayAll0 (toPyAll ds)) = true
      rw [a1, b1]; rfl
    · show ((toPy d).showable && PyData.showableAll (toPyAll ds)) = true
      rw [a2, b2]; rfl
    · show ((toPy d).hasDict || PyData.hasDictAll (toPyAll ds)) = false
      rw [a3, b3]; rfl
    · show max (toPy d).depth (PyData.depthAll (toPyAll ds)) ≤ n
      omega
    · show (((toPy d).shown :: PyData.shownAll (toPyAll ds)).map fun t => t.length + 2).sum ≤ szD d + 2 + szAll ds
      rw [List.map_cons, List.sum_cons]
      omega
end
theorem shT_len {n : Nat} {d : D} (h : repOk n d = true) : (shT d).length ≤ szD d := by
  have := (repOk_py h).2.2.2.2
  unfold shT
  simpa [Str.length] using this
theorem gRepr_tup {n : Nat} {ds : List D} {P : D → Prop} (h : repOk n (.tup ds) = true) (hn : n ≤ 60) (hz : szD (.tup ds) ≤ sizeLine) (p : P (.str (shT (.tup ds)))) : gRepr [.tup ds] P := by
  obtain ⟨h1, h2, h3, h4, h5⟩ := repOk_py h
  exact ⟨trivial, h1, h2, h3, Nat.le_trans h4 hn, Nat.le_trans (shT_len h) hz, p⟩
theorem gRepr_lst {n : Nat} {ds : List D} {P : D → Prop} (h : repOk n (.lst ds) = true) (hn : n ≤ 60) (hz : szD (.lst ds) ≤ sizeLine) (p : P (.str (shT (.lst ds)))) : gRepr [.lst ds] P := by
  obtain ⟨h1, h2, h3, h4, h5⟩ := repOk_py h
  exact ⟨trivial, h1, h2, h3, Nat.le_trans h4 hn, Nat.le_trans (shT_len h) hz, p⟩
/-! ### lists of texts -/
theorem szAll_le {B : Nat} : ∀ {ds : List D}, (∀ d ∈ ds, szD d ≤ B) → szAll ds ≤ ds.length * (B + 2)
  | [], _ => Nat.zero_le _
  | d :: ds, h => by
    have h1 := h d List.mem_cons_self
    have h2 := szAll_le (B := B) fun x hx => h x (List.mem_cons_of_mem _ hx)
    simp only [szAll, List.length_cons, Nat.add_mul, Nat.one_mul]
    omega
theorem repAll_of {n : Nat} : ∀ {ds : List D}, (∀ d ∈ ds, repOk n d = true) → repAll n ds = true
  | [], _ => by cases n <;> rfl
  | d :: ds, h => by
    have h1 := h d List.mem_cons_self
    have h2 := repAll_of (n := n) fun x hx => h x (List.mem_cons_of_mem _ hx)
    cases n <;> simp [repAll, h1, h2]
end DL
/-! The layer DL: a law's end, where repr is called (the guards are known to be empty at the law's call). -/
namespace DL
open PySem PySem.Spec PyProof.Rows L2
section
variable [TapeI] {P : Program} {w : World} {K : PySem.W.Frag} {mg mb : Str → Option Value} {k : Nat} {fa a : Addr} {fd : FuncData} {x : Str} {s₁ : Shared} {vs : List Value} {ns : List Int}
/-- from an abstract heap that holds the script alone, or nothing -/
theorem coreG (KX : K.In s₁.heap) (hns : s₁.heap.Ns mainGlobals mg) (hb : s₁.heap.Ns builtinsNs mb) (hbb : ∀ x : Str, x ≠ "__name__" → mb x = bootBuiltins x) (hlim : s₁.heap.NoLimit) (hg : s₁.gens = #[])
    (ha : s₁.heap.get? a = some { cls := .type "list", data := .seq vs.toArray }) (hr : Room k callerA) {spec : GA}
    (F : ∀ base : Heap, K.In base → base.Ns mainGlobals mg → FnG P w K mg base CX0 k fa fd [x] (spD K 1 spec)) (hbind : ∀ (s : Shared) (u : Value), BindsTo s fd ⟨[u], []⟩ [(x, u)])
    (hsp : spec [.scr ns] fun d => d = .bl true) (H : Hp) (hS : SqL K H a (ns.map V.int)) (hok : HOk P w H s₁.heap) (hA : ∀ b, H b ≠ none → b = a) (hF : ∀ u, H a = some u → ∃ o y, u = .frz o y) (hK : H a ≠ none → K.lookup a = none) :
    codeAny (model P w) callerA (.call (.ref fa) ⟨[.ref a], []⟩) (fun r s' => r = .ok (.ret (.bool true)) ∧ OldK s₁.heap s'.heap ∧ s'.os = s₁.os ∧ AllBare s'.gens) s₁ := by
  have out : ∀ {b : Addr}, b ≠ a → H b = none := fun {b} n => by
    cases q : H b with
    | none => rfl
    | some u => exact absurd (hA b (by rw [q]; simp)) n
  have low : ∀ {b : Addr} {o : Obj}, s₁.heap.get? b = some o → H b = none → (hidT s₁.heap H).get? b = some o := fun e n => hidT_get e n
  have nsK : ∀ {b : Addr} {m : Str → Option Value}, s₁.heap.Ns b m → (hidT s₁.heap H).Ns b m := fun {b m} ⟨o, es, ep, e, d, r⟩ => ⟨o, es, ep, low e (out fun z => by
    rw [z, ha] at e
    cases e
    cases (show Data.seq vs.toArray _ = Data.dict es ep from d)), d, r⟩
  have M : Mod K mg (hidT s₁.heap H) := by
    refine ⟨fun b o e => low (KX b o e) ?_, nsK hns, ⟨mb, nsK hb, hbb⟩, ?_⟩
    · by_cases z : b = a
      · subst z
        cases q : H b with
        | none => rfl
        | some u => rw [hK (by rw [q]; simp)] at e; cases e
      · exact out z
    · obtain ⟨mc, h1, h2⟩ := hlim
      exact ⟨mc, nsK h1, h2⟩
  have e0 : Env0 P w K mg (hidT s₁.heap H) callerA [] s₁ H := ⟨rfl, M, fun b o e => of_hidT e, Nat.le_of_eq (hidT_size _ _), trivial, fun b hb => absurd (show b ∈ ([] : List Addr) from hb) (by simp), hok, .of_eq hg⟩
  have same : msk (fun _ : Addr => False) H = H := funext fun b => msk_of (O := fun _ => False) (H := H) (b := b) id
  have sp : spD K 1 spec [.ref a] H (fun v _ => v = .bl true) fun _ _ _ => False :=
    ⟨fun _ => False, [.scr ns], fun d => d = .bl true, rfl, fun b z => z.elim, by rw [same]; exact .cons (.scr hS) .nil, hsp, fun v H' d r _ e => by
      subst e
      cases r
      rfl⟩
  refine codeAny_mono ((F _ M.kin (nsK hns)).run callerA [] s₁ H ⟨[.ref a], []⟩ [.ref a] [.ref a] _ _ ⟨hr, rfl⟩ e0 (hbind s₁ (.ref a)) (.cons rfl .nil) sp) fun r s' h => ?_
  cases r with
  | error e => exact False.elim h
  | ok fl =>
    cases fl with
    | ret u =>
      obtain ⟨v, H', os, bare, un, hok', r', q⟩ := h
      obtain rfl : v = .bl true := q
      obtain rfl : u = Value.bool true := r'
      refine ⟨rfl, OldK.of_keep fun b o e => ?_, os, bare⟩
      cases q : H b with
      | none => exact un.keep b o e q (by intro z; exact absurd (show b ∈ ([] : List Addr) from z) (by simp)) (by simp)
      | some u =>
        obtain rfl := hA b (by rw [q]; simp)
        obtain ⟨ob, y, rfl⟩ := hF u q
        obtain ⟨e1, _⟩ := hok b _ q
        obtain ⟨e2, _⟩ := hok' b _ (un.frzs b ob y q)
        rw [e] at e1
        cases e1
        exact e2
    | _ => exact False.elim h
theorem callG (KX : K.In s₁.heap) (hns : s₁.heap.Ns mainGlobals mg) (hb : s₁.heap.Ns builtinsNs mb) (hbb : ∀ x : Str, x ≠ "__name__" → mb x = bootBuiltins x) (hlim : s₁.heap.NoLimit) (hg : s₁.gens = #[])
    (ha : s₁.heap.get? a = some { cls := .type "list", data := .seq vs.toArray }) (hi : IntsAre vs ns) (hl : ns.length ≤ sizeLine) (hr : Room k callerA) {spec : GA}
    (F : ∀ base : Heap, K.In base → base.Ns mainGlobals mg → FnG P w K mg base CX0 k fa fd [x] (spD K 1 spec)) (hbind : ∀ (s : Shared) (u : Value), BindsTo s fd ⟨[u], []⟩ [(x, u)])
    (hsp : spec [.scr ns] fun d => d = .bl true) :
    codeAny (model P w) callerA (.call (.ref fa) ⟨[.ref a], []⟩) (fun r s' => r = .ok (.ret (.bool true)) ∧ OldK s₁.heap s'.heap ∧ s'.os = s₁.os ∧ AllBare s'.gens) s₁ := by
  have rv := vals_ints hi
  by_cases hk : K.lookup a = none
  · let o0 : Obj := { cls := .type "list", data := .seq vs.toArray }
    have at_ : upd (fun _ => none) a (.frz o0 (.lst (ns.map V.int))) a = some (.frz o0 (.lst (ns.map V.int))) := if_pos rfl
    have ne : ∀ {b : Addr} {u : HO}, upd (fun _ => none) a (.frz o0 (.lst (ns.map V.int))) b = some u → b = a ∧ u = .frz o0 (.lst (ns.map V.int)) := fun {b u} z => by
      by_cases hb : b = a
      · subst hb
        rw [at_] at z
        exact ⟨rfl, (Option.some.inj z).symm⟩
      · rw [upd_ne hb] at z
        cases z
    refine coreG KX hns hb hbb hlim hg ha hr F hbind hsp (upd (fun _ => none) a (.frz o0 (.lst (ns.map V.int)))) (.inl (.inr ⟨_, at_⟩)) (fun b u z => ?_) (fun b z => ?_) (fun u z => ?_) fun _ => hk
    · obtain ⟨rfl, rfl⟩ := ne z
      exact ⟨ha, by rw [List.length_map]; exact hl, vs, _, rv, ha⟩
    · cases q : upd (fun _ => none) a (.frz o0 (.lst (ns.map V.int))) b with
      | none => exact absurd q z
      | some u => exact (ne q).1
    · obtain ⟨_, rfl⟩ := ne z
      exact ⟨_, _, rfl⟩
  · obtain ⟨o, hk⟩ := Option.ne_none_iff_exists'.mp hk
    have e := KX a o hk
    rw [ha] at e
    cases e
    refine coreG KX hns hb hbb hlim hg ha hr F hbind hsp (fun _ => none) (.inr ⟨_, vs.toArray, _, hk, rfl, rfl, rfl, by rw [List.size_toArray, hi.length]; exact hl, by simpa using rv⟩) (fun b u z => by cases z) (fun b z => absurd rfl z) (fun u z => by cases z) fun z => absurd rfl z
end
/-- a law: F gives the written part, the function object, the promise over every base -/
theorem walkG [TapeI] {l : PySem.W.OpenLaw} {n k : Nat} {q : Program} {loose : List Str} {XP : (Str → Option Value) → Heap → Prop} {YP : World → Heap → Prop} {d : DefRec} {x : Str} {spec : GA}
    (hn : l.most = some n) (hn2 : n ≤ sizeLine) (hdf : d.params.defaults = []) (hr : Room k callerA) (hsp : ∀ ns : List Int, spec [.scr ns] fun d => d = .bl true)
    (F : ∀ (w : World) (mg : Str → Option Value) (fa : Addr) (h : Heap), YP w h → h.Ns mainGlobals mg → mg d.name = some (.ref fa) →
      ∃ (K : PySem.W.Frag) (fd : FuncData), K.In h ∧ (∀ (s : Shared) (u : Value), BindsTo s fd ⟨[u], []⟩ [(x, u)]) ∧
        ∀ base : Heap, K.In base → base.Ns mainGlobals mg → FnG l.prog w K mg base CX0 k fa fd [x] (spD K 1 spec)) :
    PySem.W.WalkO q loose XP YP l.row.toRowW d [] (fun f vs => PySem.call f vs) := by
  refine Att.attach_call hn hdf fun w s₀ s₁ mg mb fa o pm cd doc a vs ns G Y ho hd hcd hmg hobj hints hlen hg => ?_
  obtain ⟨K, fd, KX, hb, hF⟩ := F w mg fa _ Y G.T.g hmg
  exact callG KX G.T.g G.T.b G.T.builtins G.T.nolimit hg hobj hints (Nat.le_trans hlen hn2) hr hF hb (hsp ns)
end DL
/-! The layer EL: readings that can be run. State, judgements, names, constants. -/
namespace EL
open PySem PySem.Spec PyProof.Rows L2 DL

instance (priority := low) tape0 : TapeI := ⟨fun _ _ _ _ => True, fun _ _ => trivial, fun _ _ => trivial⟩

/-! ### outcomes -/
inductive Tr (ε α : Type) where
  | ok (a : α) | ex (e : ε) | draw (n : Int) (k : Int → Tr ε α) | bad
namespace Tr
variable {ε α β γ : Type}
def bind : Tr ε α → (α → Tr ε β) → Tr ε β
  | .ok a, f => f a
  | .ex e, _ => .ex e
  | .draw n k, f => .draw n fun r => (k r).bind f
  | .bad, _ => .bad
/-- every way ends as wanted -/
def all : Tr ε α → (α → Prop) → (ε → Prop) → Prop
  | .ok a, P, _ => P a
  | .ex e, _, E => E e
  | .draw n k, P, E => ∀ r : Int, 0 ≤ r → r < n → (k r).all P E
  | .bad, _, _ => False
theorem all_bind {P : β → Prop} {E : ε → Prop} {f : α → Tr ε β} : ∀ {t : Tr ε α}, (t.bind f).all P E ↔ t.all (fun a => (f a).all P E) E
  | .ok _ => Iff.rfl
  | .ex _ => Iff.rfl
  | .draw _ k => ⟨fun h r h0 h1 => all_bind.1 (h r h0 h1), fun h r h0 h1 => all_bind.2 (h r h0 h1)⟩
  | .bad => Iff.rfl
theorem all_mono {P P' : α → Prop} {E E' : ε → Prop} (hp : ∀ a, P a → P' a) (he : ∀ e, E e → E' e) : ∀ {t : Tr ε α}, t.all P E → t.all P' E'
  | .ok _, h => hp _ h
  | .ex _, h => he _ h
  | .draw _ _, h => fun r h0 h1 => all_mono hp he (h r h0 h1)
  | .bad, h => h
/-- another kind of error -/
def mapE {ζ : Type} (f : ε → ζ) : Tr ε α → Tr ζ α
  | .ok a => .ok a
  | .ex e => .ex (f e)
  | .draw n k => .draw n fun r => (k r).mapE f
  | .bad => .bad
theorem all_mapE {ζ : Type} {f : ε → ζ} {P : α → Prop} {E : ζ → Prop} : ∀ {t : Tr ε α}, (t.mapE f).all P E ↔ t.all P fun e => E (f e)
  | .ok _ => Iff.rfl
  | .ex _ => Iff.rfl
  | .draw _ k => ⟨fun h r h0 h1 => all_mapE.1 (h r h0 h1), fun h r h0 h1 => all_mapE.2 (h r h0 h1)⟩
  | .bad => Iff.rfl
@[simp] theorem bind_ok {a : α} {f : α → Tr ε β} : (Tr.ok a).bind f = f a := (rfl)
@[simp] theorem bind_ex {e : ε} {f : α → Tr ε β} : (Tr.ex e).bind f = .ex e := (rfl)
@[simp] theorem bind_bad {f : α → Tr ε β} : (Tr.bad : Tr ε α).bind f = .bad := (rfl)
@[simp] theorem bind_draw {n : Int} {k : Int → Tr ε α} {f : α → Tr ε β} : (Tr.draw n k).bind f = .draw n fun r => (k r).bind f := (rfl)
@[simp] theorem all_ok {a : α} {P : α → Prop} {E : ε → Prop} : (Tr.ok a).all P E ↔ P a := Iff.rfl
@[simp] theorem all_ex {e : ε} {P : α → Prop} {E : ε → Prop} : (Tr.ex e : Tr ε α).all P E ↔ E e := Iff.rfl
@[simp] theorem all_bad {P : α → Prop} {E : ε → Prop} : (Tr.bad : Tr ε α).all P E ↔ False := Iff.rfl
@[simp] theorem all_draw {n : Int} {k : Int → Tr ε α} {P : α → Prop} {E : ε → Prop} : (Tr.draw n k).all P E ↔ ∀ r : Int, 0 ≤ r → r < n → (k r).all P E := Iff.rfl
@[simp] theorem mapE_ok {ζ : Type} {a : α} {f : ε → ζ} : (Tr.ok a : Tr ε α).mapE f = .ok a := (rfl)
@[simp] theorem mapE_ex {ζ : Type} {e : ε} {f : ε → ζ} : (Tr.ex e : Tr ε α).mapE f = .ex (f e) := (rfl)
@[simp] theorem mapE_bad {ζ : Type} {f : ε → ζ} : (Tr.bad : Tr ε α).mapE f = .bad := (rfl)
end Tr

/-! ### values, cells -/
/-- a value: plain data, or a thing of one's own (by its place among the cells) -/
inductive Vl where
  | d (x : D) | c (i : Nat)
deriving Inhabited
/-- a thing of one's own: a list, a dict (no other value leans on it); the draws' object, drawn from at most n times -/
inductive Cell where
  | own (x : D) | feed (n : Nat) | dead
deriving Inhabited
def Cell.live : Cell → Bool
  | .dead => false
  | _ => true
/-- an error: its class, its fields -/
structure Ex where
  cls : String
  fs : List (String × D)
abbrev St := L2.St
abbrev Rho := List (Option Vl)
abbrev Hh := List Cell

/-- what is promised of the draws' object, by its content -/
class FeedI where
  TD : Nat → D → Prop
  le : ∀ {n m : Nat} {d : D}, n ≤ m → TD n d → TD m d

section
variable (K : PySem.W.Frag)
def VlR (m : Hp) (A : List Addr) (v : V) : Vl → Prop
  | .d x => Rp K m v x
  | .c i => ∃ a, A[i]? = some a ∧ v = .ref a
def CellR [FeedI] (m H : Hp) (a : Addr) : Cell → Prop
  | .own d => ∃ o, H a = some o ∧ OR K m o d
  | .feed n => ∃ d o, H a = some o ∧ OR K m o d ∧ FeedI.TD n d
  | .dead => True
def Ow (O : Addr → Prop) (A : List Addr) (h : Hh) (b : Addr) : Prop := O b ∨ ∃ (i : Nat) (c : Cell), h[i]? = some c ∧ c.live = true ∧ A[i]? = some b
/-- the shared heap -/
noncomputable abbrev MM (O : Addr → Prop) (A : List Addr) (h : Hh) (H : Hp) : Hp := msk (Ow O A h) H
/-- the cells -/
structure TbR [FeedI] (O : Addr → Prop) (A : List Addr) (h : Hh) (H : Hp) : Prop where
  len : A.length = h.length
  cell : ∀ (i : Nat) (c : Cell) (a : Addr), h[i]? = some c → A[i]? = some a → CellR K (MM O A h H) H a c
  inj : ∀ (i j : Nat) (c e : Cell) (a : Addr), h[i]? = some c → h[j]? = some e → c.live = true → e.live = true → A[i]? = some a → A[j]? = some a → i = j
  dis : ∀ (i : Nat) (c : Cell) (a : Addr), h[i]? = some c → c.live = true → A[i]? = some a → ¬ O a
  dom : ∀ b, O b → H b ≠ none
/-- the slots -/
structure SlotR (m : Hp) (A : List Addr) (σ : St) (ρ : Rho) : Prop where
  len : ρ.length = σ.length
  slot : ∀ (i : Nat) (v : Vl), ρ[i]? = some (some v) → ∃ x, σ[i]? = some (some x) ∧ VlR K m A x v
/-- further on -/
structure Up [FeedI] (O : Addr → Prop) (A : List Addr) (h : Hh) (H : Hp) (A' : List Addr) (h' : Hh) (H' : Hp) : Prop where
  tb : TbR K O A' h' H'
  pre : ∃ t, A' = A ++ t
  sm : Same (MM O A h H) (MM O A' h' H')
  oo : ∀ b o, O b → H b = some o → H' b = some o
/-- the state of a body -/
structure EIn [FeedI] (O : Addr → Prop) (σ : St) (ρ : Rho) (A : List Addr) (h : Hh) (H : Hp) : Prop where
  sl : SlotR K (MM O A h H) A σ ρ
  tb : TbR K O A h H
end

section
variable [FeedI] {K : PySem.W.Frag} {O : Addr → Prop} {A A' A2 : List Addr} {h h' h2 : Hh} {H H' H2 : Hp} {σ : St} {ρ : Rho} {m m' : Hp}
omit [FeedI] in
theorem get_pre {α : Type} {A t : List α} {i : Nat} {a : α} (e : A[i]? = some a) : (A ++ t)[i]? = some a := by
  rw [List.getElem?_append_left (List.getElem?_eq_some_iff.mp e).1]; exact e
omit [FeedI] in
theorem VlR.mono {v : V} {u : Vl} (hm : Same m m') (hA : ∃ t, A' = A ++ t) (r : VlR K m A v u) : VlR K m' A' v u := by
  obtain ⟨t, rfl⟩ := hA
  cases u with
  | d x => exact Rp.mono hm r
  | c i => obtain ⟨a, e, q⟩ := r; exact ⟨a, get_pre e, q⟩
omit [FeedI] in
theorem SlotR.mono (hm : Same m m') (hA : ∃ t, A' = A ++ t) (r : SlotR K m A σ ρ) : SlotR K m' A' σ ρ :=
  ⟨r.len, fun i v e => let ⟨x, e1, q⟩ := r.slot i v e; ⟨x, e1, q.mono hm hA⟩⟩
theorem Up.refl (t : TbR K O A h H) : Up K O A h H A h H := ⟨t, ⟨[], by simp⟩, Same.refl _, fun _ _ _ e => e⟩
theorem Up.trans (a : Up K O A h H A' h' H') (b : Up K O A' h' H' A2 h2 H2) : Up K O A h H A2 h2 H2 := by
  obtain ⟨t1, e1⟩ := a.pre
  obtain ⟨t2, e2⟩ := b.pre
  exact ⟨b.tb, ⟨t1 ++ t2, by rw [e2, e1, List.append_assoc]⟩, a.sm.trans b.sm, fun x o ho e => b.oo x o ho (a.oo x o ho e)⟩
theorem EIn.up (I : EIn K O σ ρ A h H) (u : Up K O A h H A' h' H') : EIn K O σ ρ A' h' H' := ⟨I.sl.mono u.sm u.pre, u.tb⟩
theorem CellR.mono {a : Addr} {c : Cell} (hm : Same m m') (hH : c.live = true → ∀ o, H a = some o → H' a = some o) (r : CellR K m H a c) : CellR K m' H' a c := by
  cases c with
  | own d => obtain ⟨o, e, q⟩ := r; exact ⟨o, hH rfl _ e, OR.mono hm q⟩
  | feed n => obtain ⟨d, o, e, q, z⟩ := r; exact ⟨d, o, hH rfl _ e, OR.mono hm q, z⟩
  | dead => trivial
theorem CellR.there {a : Addr} {c : Cell} (l : c.live = true) (r : CellR K m H a c) : H a ≠ none := by
  cases c with
  | own d => obtain ⟨o, e, q⟩ := r; rw [e]; exact fun z => nomatch z
  | feed n => obtain ⟨d, o, e, q, z⟩ := r; rw [e]; exact fun z => nomatch z
  | dead => cases l
theorem TbR.own_some (t : TbR K O A h H) {b : Addr} (q : Ow O A h b) : H b ≠ none := by
  rcases q with q | ⟨i, c, h1, h2, h3⟩
  · exact t.dom b q
  · exact (t.cell i c b h1 h3).there h2
/-- the heap has grown -/
theorem TbR.grow (t : TbR K O A h H) (e : Same H H') : TbR K O A h H' where
  len := t.len
  cell := fun i c a h1 h2 => (t.cell i c a h1 h2).mono (msk_same e) fun _ o z => e a o z
  inj := t.inj
  dis := t.dis
  dom := fun b q z => by
    cases w : H b with
    | none => exact t.dom b q w
    | some o => rw [e b o w] at z; cases z
theorem Up.grow (t : TbR K O A h H) (e : Same H H') : Up K O A h H A h H' := ⟨t.grow e, ⟨[], by simp⟩, msk_same e, fun b o _ q => e b o q⟩
theorem TbR.newM (t : TbR K O A h H) {p : Addr} {o : HO} (q : H p = none) : MM O A h (upd H p o) p = some o := by
  show msk _ _ _ = _
  rw [msk_of (fun z => t.own_some z q), upd_same]
end

/-! ### judgements -/
abbrev XE := Rho → Hh → Tr (Ex × Hh) (Vl × Hh)
abbrev XT := Rho → Hh → Tr (Ex × Hh) (Bool × Hh)
abbrev XA := Rho → Hh → Tr (Ex × Hh) (List Vl × Hh)
inductive Fl where
  | nx | rt (v : Vl) | bk | ct
abbrev XS := Rho → Hh → Tr (Ex × Rho × Hh) (Fl × Rho × Hh)
/-- how an error lies in the heap -/
class ExI where
  ExR : PySem.W.Frag → Hp → Value → Option Addr → Ex → Prop
  mono : ∀ {K : PySem.W.Frag} {m m' : Hp} {cls : Value} {d : Option Addr} {e : Ex}, Same m m' → ExR K m cls d e → ExR K m' cls d e
def VlsR (K : PySem.W.Frag) (m : Hp) (A : List Addr) : List V → List Vl → Prop
  | [], [] => True
  | v :: vs, u :: us => VlR K m A v u ∧ VlsR K m A vs us
  | _, _ => False
theorem VlsR.mono {K : PySem.W.Frag} {m m' : Hp} {A A' : List Addr} (hm : Same m m') (hA : ∃ t, A' = A ++ t) : ∀ {vs : List V} {us : List Vl}, VlsR K m A vs us → VlsR K m' A' vs us
  | [], [], _ => trivial
  | _ :: _, _ :: _, r => ⟨r.1.mono hm hA, VlsR.mono hm hA r.2⟩
  | [], _ :: _, r => r.elim
  | _ :: _, [], r => r.elim
theorem VlsR.length {K : PySem.W.Frag} {m : Hp} {A : List Addr} : ∀ {vs : List V} {us : List Vl}, VlsR K m A vs us → vs.length = us.length
  | [], [], _ => rfl
  | _ :: _, _ :: _, r => by simp [VlsR.length r.2]
  | [], _ :: _, r => r.elim
  | _ :: _, [], r => r.elim
section
variable [FeedI] [ExI] (K : PySem.W.Frag) (W : WX)
/-- what an error that leaves owes -/
def ExO (O : Addr → Prop) (σ : St) (A : List Addr) (h : Hh) (H : Hp) (E : Ex × Hh → Prop) : Prop :=
  ∀ cls d H' e A' h', Up K O A h H A' h' H' → ExI.ExR K (MM O A' h' H') cls d e → E (e, h') → W cls d σ H'
def eOf (x : XE) : TE := fun σ H Q => ∃ O ρ A h P E, EIn K O σ ρ A h H ∧ (x ρ h).all P E ∧
  (∀ v H' u A' h', Up K O A h H A' h' H' → VlR K (MM O A' h' H') A' v u → P (u, h') → Q v H') ∧ ExO K W O σ A h H E
def bOf (x : XT) : TT := fun σ H Q => ∃ O ρ A h P E, EIn K O σ ρ A h H ∧ (x ρ h).all P E ∧
  (∀ b H' A' h', Up K O A h H A' h' H' → P (b, h') → Q b H') ∧ ExO K W O σ A h H E
def aOf (x : XA) : TA := fun σ H Q => ∃ O ρ A h P E, EIn K O σ ρ A h H ∧ (x ρ h).all P E ∧
  (∀ vs H' us A' h', Up K O A h H A' h' H' → VlsR K (MM O A' h' H') A' vs us → P (us, h') → Q vs H') ∧ ExO K W O σ A h H E
def sOf (x : XS) : TS := fun D σ H => ∃ O ρ A h P E, EIn K O σ ρ A h H ∧ (x ρ h).all P E ∧
  (∀ fl σ' H' ρ' A' h', Up K O A h H A' h' H' → SlotR K (MM O A' h' H') A' σ' ρ' → P (fl, ρ', h') → match fl with
    | .nx => D.nx σ' H'
    | .rt u => ∀ v, VlR K (MM O A' h' H') A' v u → D.rt v H'
    | .bk => D.bk σ' H'
    | .ct => D.ct σ' H') ∧
  (∀ cls d σ' H' e ρ' A' h', Up K O A h H A' h' H' → SlotR K (MM O A' h' H') A' σ' ρ' → ExI.ExR K (MM O A' h' H') cls d e → E (e, ρ', h') → W cls d σ' H')
structure JE (X : Cx) (e : Expr) (x : XE) : Prop where
  pe : X.K = K → PE X e (eOf K W x)
structure JT (X : Cx) (e : Expr) (x : XT) : Prop where
  pt : X.K = K → PT X e (bOf K W x)
structure JA (X : Cx) (es : List Expr) (x : XA) : Prop where
  pa : X.K = K → PA X es (aOf K W x)
structure JS (X : Cx) (st : Stmt) (x : XS) : Prop where
  ps : X.K = K → PS X st (sOf K W x)
structure JSs (X : Cx) (st : List Stmt) (x : XS) : Prop where
  ps : X.K = K → PSs X st (sOf K W x)
end

/-! ### names, constants -/
def xC (d : D) : XE := fun _ h => .ok (.d d, h)
def xVar (i : Nat) : XE := fun ρ h => match ρ[i]? with
  | some (some v) => .ok (v, h)
  | _ => .bad
section
variable [FeedI] [ExI] {K : PySem.W.Frag} {W : WX} {X : Cx} {pos : Pos}
theorem ExO.up {O : Addr → Prop} {σ : St} {A A' : List Addr} {h h' : Hh} {H H' : Hp} {E : Ex × Hh → Prop} (k : ExO K W O σ A h H E) (u : Up K O A h H A' h' H') : ExO K W O σ A' h' H' E :=
  fun cls d H2 e A2 h2 u2 r q => k cls d H2 e A2 h2 (u.trans u2) r q
theorem je_c {e : Expr} {v : V} {d : D} (h : PE X e (tC v)) (r : ∀ H, Rp K H v d) : JE K W X e (xC d) := ⟨fun _ => pe_imp h fun σ H Q q => by
  obtain ⟨O, ρ, A, h, P, E, I, f, k, _⟩ := q
  exact k v H (.d d) A h (.refl I.tb) (r _) f⟩
theorem je_int {i j} : JE K W X (.Constant (.int i) j pos) (xC (.int i)) := je_c pe_int fun _ => .int i
theorem je_bl {b j} : JE K W X (.Constant (.bool b) j pos) (xC (.bl b)) := je_c pe_bl fun _ => .bl b
theorem je_non {j} : JE K W X (.Constant .none j pos) (xC .non) := je_c pe_non fun _ => .non
theorem je_str (s : String) {j} (h : (T s).length ≤ 16777216 := by decide +kernel) : JE K W X (.Constant (.str (Str.ofString s)) j pos) (xC (.str (T s))) :=
  je_c pe_str fun _ => by
    have := Rp.str (K := K) (H := ‹Hp›) (T s) (by rw [sizeLine_eq]; exact h)
    rwa [S_T] at this
theorem je_var (i : Nat) {x : Str} (hN : X.N[i]? = some x := by rfl) (hv : Vis X.env.scope x := by first | exact Or.inl rfl | exact Or.inr (Or.inl rfl) | exact Or.inr (Or.inr rfl)) (hd : (x == ("__debug__" : Str)) = false := by decide)
    (hcd : (x == ("__classdict__" : Str)) = false := by decide) : JE K W X (.Name x pos) (xVar i) := ⟨fun _ => pe_imp (pe_var hN hv hd hcd) fun σ H Q q => by
  obtain ⟨O, ρ, A, h, P, E, I, f, k, _⟩ := q
  unfold xVar at f
  cases e : ρ[i]? with
  | none => rw [e] at f; exact f.elim
  | some s =>
    cases s with
    | none => rw [e] at f; exact f.elim
    | some v =>
      rw [e] at f
      obtain ⟨x, h1, h2⟩ := I.sl.slot i v e
      exact ⟨x, h1, k x H v A h (.refl I.tb) h2 f⟩⟩
theorem je_gstr (s : String) {x : Str} (hg : Gl X x) (hm : ∃ t, X.mg x = some (.str (Str.ofString s) t)) (hz : (T s).length ≤ 16777216 := by decide +kernel) (hd : (x == ("__debug__" : Str)) = false := by decide) : JE K W X (.Name x pos) (xC (.str (T s))) := by
  obtain ⟨t, hm⟩ := hm
  refine je_c (v := .str (Str.ofString s)) (pe_glob hg hm ⟨t, rfl⟩ hd) fun H => ?_
  have := Rp.str (K := K) (H := H) (T s) (by rw [sizeLine_eq]; exact hz)
  rwa [S_T] at this
theorem je_ty {x : Str} {n : String} (hg : Gl X x) (hm : X.mg x = none) (hv : bootBuiltins x = some (.type n)) (hn : x ≠ "__name__" := by decide) (hd : (x == ("__debug__" : Str)) = false := by decide) : JE K W X (.Name x pos) (xC (.ty n)) :=
  je_c (v := .ty n) (pe_bltn hg hm hv rfl hn hd) fun _ => .ty n
end
end EL
/-! The layer EL: operators, tests, displays, built-ins. -/
namespace EL
open PySem PySem.Spec PyProof.Rows L2 DL

/-! ### operators by plain data -/
def oEq : D → D → Option D
  | .str a, .str b => some (.bl (decide (a = b)))
  | .int a, .int b => some (.bl (decide (a = b)))
  | .bl a, .bl b => some (.bl (decide (a = b)))
  | d, e => if okE d && okE e && decide (min (depE d) (depE e) ≤ 64) then some (.bl (eqD d e)) else none
def notO : Option D → Option D
  | some (.bl b) => some (.bl (!b))
  | _ => none
def oNe : D → D → Option D := fun d e => notO (oEq d e)
def oAdd : D → D → Option D
  | .int a, .int b => some (.int (a + b))
  | .str a, .str b => if a.length + b.length ≤ 16777216 then some (.str (a ++ b)) else none
  | .tup a, .tup b => if a.length + b.length ≤ 16777216 then some (.tup (a ++ b)) else none
  | .lst a, .lst b => if a.length + b.length ≤ 16777216 then some (.lst (a ++ b)) else none
  | _, _ => none
def oSub : D → D → Option D
  | .int a, .int b => some (.int (a - b))
  | _, _ => none
def oMul : D → D → Option D
  | .int a, .int b => if (-18446744073709551616 < a ∧ a < 18446744073709551616) ∨ (-18446744073709551616 < b ∧ b < 18446744073709551616) then some (.int (a * b)) else none
  | _, _ => none
def oMod : D → D → Option D
  | .int a, .int b => if 0 < b then some (.int (a % b)) else none
  | _, _ => none
def oFdiv : D → D → Option D
  | .int a, .int b => if 0 < b ∧ b < 1073741824 then some (.int (a / b)) else none
  | _, _ => none
def oPow : D → D → Option D
  | .int a, .int b => if 0 ≤ b ∧ b ≤ 1000000 ∧ a.natAbs < 18446744073709551616 then some (.int (a ^ b.toNat)) else none
  | _, _ => none
def oCmp (gi : Int → Int → Bool) (gs : Tx → Tx → Bool) : D → D → Option D
  | .int a, .int b => some (.bl (gi a b))
  | .str a, .str b => some (.bl (gs a b))
  | _, _ => none
def oLt := oCmp (fun a b => decide (a < b)) fun a b => decide (a < b)
def oLe := oCmp (fun a b => decide (a ≤ b)) fun a b => !decide (b < a)
def oGt := oCmp (fun a b => decide (b < a)) fun a b => decide (b < a)
def oGe := oCmp (fun a b => decide (b ≤ a)) fun a b => !decide (a < b)
def oIs : D → D → Option D
  | d, .non => some (.bl (match d with | .non => true | _ => false))
  | _, _ => none
def oIsNot : D → D → Option D
  | d, .non => some (.bl (match d with | .non => false | _ => true))
  | _, _ => none
def oIn : D → D → Option D
  | .str [c], .str z => some (.bl (decide (c ∈ z)))
  | d, .tup ds => if flatD d && ds.all flatD then some (.bl (inD d ds)) else none
  | d, .lst ds => if flatD d && ds.all flatD then some (.bl (inD d ds)) else none
  | d, .dic ks _ => (keyD d).map fun k => .bl (memK k ks)
  | _, _ => none
def oNotIn : D → D → Option D := fun d e => notO (oIn d e)
def oIx : D → D → Option D
  | .tup ds, .int i => atI ds i
  | .lst ds, .int i => atI ds i
  | .str l, .int i => (atI l i).map fun c => .str [c]
  | .dic ks ds, d => (keyD d).bind (getK ks ds)
  | _, _ => none
/-- an operator's rule, and what it comes to -/
def JOp (K : PySem.W.Frag) (X : Cx) (f : Value → Value → Sem Value) (o : D → D → Option D) : Prop := ∃ g, DOp K X f g ∧ ∀ x y z, o x y = some z → g x y (fun w => w = z)
section
variable {K : PySem.W.Frag} {X : Cx}
theorem oEq_g {x y z : D} (h : oEq x y = some z) : gEq x y (fun w => w = z) := by
  unfold oEq at h
  split at h
  · cases h; rfl
  · cases h; rfl
  · cases h; rfl
  · rename_i n1 n2 n3
    split at h
    · rename_i q
      rw [Bool.and_eq_true, Bool.and_eq_true, decide_eq_true_eq] at q
      cases h
      unfold gEq
      split
      · exact (n1 _ _ rfl rfl).elim
      · exact (n2 _ _ rfl rfl).elim
      · exact (n3 _ _ rfl rfl).elim
      · exact ⟨q.1.1, q.1.2, q.2, rfl⟩
    · cases h
theorem g_mono2 {x y : D} {P Q : D → Prop} (i : ∀ d, P d → Q d) (h : gEq x y P) : gEq x y Q := by
  unfold gEq at h ⊢
  split at h <;> first | exact i _ h | exact ⟨h.1, h.2.1, h.2.2.1, i _ h.2.2.2⟩
theorem notO_some {o : Option D} {z : D} (h : notO o = some z) : ∃ b, o = some (.bl b) ∧ z = .bl !b := by
  unfold notO at h
  split at h
  · cases h; exact ⟨_, rfl, rfl⟩
  · cases h
theorem gIn_tup {x : D} {ds : List D} {P : D → Prop} (h1 : flatD x = true) (h2 : ds.all flatD = true) (p : P (.bl (inD x ds))) : gIn x (.tup ds) P := by
  cases x with
  | str l => rcases l with _ | ⟨c, _ | ⟨c', l⟩⟩ <;> exact ⟨h1, h2, p⟩
  | _ => exact ⟨h1, h2, p⟩
theorem gIn_lst {x : D} {ds : List D} {P : D → Prop} (h1 : flatD x = true) (h2 : ds.all flatD = true) (p : P (.bl (inD x ds))) : gIn x (.lst ds) P := by
  cases x with
  | str l => rcases l with _ | ⟨c, _ | ⟨c', l⟩⟩ <;> exact ⟨h1, h2, p⟩
  | _ => exact ⟨h1, h2, p⟩
theorem gIn_dic {x : D} {ks : List DK} {ds : List D} {k : DK} {P : D → Prop} (h1 : keyD x = some k) (p : P (.bl (memK k ks))) : gIn x (.dic ks ds) P := by
  cases x with
  | str l => rcases l with _ | ⟨c, _ | ⟨c', l⟩⟩ <;> exact ⟨k, h1, p⟩
  | _ => exact ⟨k, h1, p⟩
theorem oIn_g {x y z : D} (h : oIn x y = some z) : gIn x y (fun w => w = z) := by
  unfold oIn at h
  split at h
  · cases h; rfl
  · split at h
    · rename_i q
      rw [Bool.and_eq_true] at q
      cases h
      exact gIn_tup q.1 q.2 rfl
    · cases h
  · split at h
    · rename_i q
      rw [Bool.and_eq_true] at q
      cases h
      exact gIn_lst q.1 q.2 rfl
    · cases h
  · cases e : keyD x with
    | none => rw [e] at h; cases h
    | some k =>
      rw [e] at h; cases h
      exact gIn_dic e rfl
  · cases h
theorem gIn_mono {x y : D} {P Q : D → Prop} (i : ∀ d, P d → Q d) (h : gIn x y P) : gIn x y Q := by
  unfold gIn at h ⊢
  split at h <;> first | exact i _ h | exact ⟨h.1, h.2.1, i _ h.2.2⟩ | (obtain ⟨k, h1, h2⟩ := h; exact ⟨k, h1, i _ h2⟩) | exact h.elim
theorem jo_eq (hu : X.A.units + 64 < cLine) : JOp K X (compareOp .Eq) oEq := ⟨_, dop_eq hu, fun _ _ _ => oEq_g⟩
theorem jo_ne (hu : X.A.units + 64 < cLine) : JOp K X (compareOp .NotEq) oNe := ⟨_, dop_ne hu, fun x y z h => by
  obtain ⟨b, h1, rfl⟩ := notO_some h
  exact g_mono2 (fun d e => by subst e; rfl) (oEq_g h1)⟩
theorem jo_in (hu : X.A.units + 64 < cLine) : JOp K X (compareOp .In) oIn := ⟨_, dop_in hu, fun _ _ _ => oIn_g⟩
theorem jo_notIn (hu : X.A.units + 64 < cLine) : JOp K X (compareOp .NotIn) oNotIn := ⟨_, dop_notIn hu, fun x y z h => by
  obtain ⟨b, h1, rfl⟩ := notO_some h
  exact gIn_mono (fun d e => by subst e; rfl) (oIn_g h1)⟩
theorem jo_add : JOp K X (binaryOp .Add) oAdd := ⟨_, dop_add, fun x y z h => by
  unfold oAdd at h
  split at h
  · cases h; rfl
  all_goals first | (split at h <;> first | (cases h; exact ⟨by rw [sizeLine_eq]; assumption, rfl⟩) | cases h) | cases h⟩
theorem jo_sub : JOp K X (binaryOp .Sub) oSub := ⟨_, dop_sub, fun x y z h => by
  unfold oSub at h; split at h <;> cases h; exact ⟨trivial, rfl⟩⟩
theorem jo_mul : JOp K X (binaryOp .Mult) oMul := ⟨_, dop_mul, fun x y z h => by
  unfold oMul at h; split at h
  · split at h
    · cases h; rename_i q; exact ⟨q, rfl⟩
    · cases h
  · cases h⟩
theorem jo_mod : JOp K X (binaryOp .Mod) oMod := ⟨_, dop_mod, fun x y z h => by
  unfold oMod at h; split at h
  · split at h
    · cases h; rename_i q; exact ⟨q, rfl⟩
    · cases h
  · cases h⟩
theorem jo_fdiv : JOp K X (binaryOp .FloorDiv) oFdiv := ⟨_, dop_fdiv, fun x y z h => by
  unfold oFdiv at h; split at h
  · split at h
    · cases h; rename_i q; exact ⟨q, rfl⟩
    · cases h
  · cases h⟩
theorem jo_pow : JOp K X (binaryOp .Pow) oPow := ⟨_, dop_pow, fun x y z h => by
  unfold oPow at h; split at h
  · split at h
    · cases h; rename_i q; exact ⟨q, rfl⟩
    · cases h
  · cases h⟩
theorem jip_add : JOp K X (inplaceOp .Add) (fun x y => match x, y with | .int a, .int b => some (.int (a + b)) | _, _ => none) := ⟨_, dip_add, fun x y z h => by
  dsimp only at h; split at h <;> cases h; exact ⟨trivial, rfl⟩⟩
theorem jip_sub : JOp K X (inplaceOp .Sub) oSub := ⟨_, dip_sub, fun x y z h => by
  unfold oSub at h; split at h <;> cases h; exact ⟨trivial, rfl⟩⟩
theorem jip_mul : JOp K X (inplaceOp .Mult) oMul := ⟨_, dip_mul, fun x y z h => by
  unfold oMul at h; split at h
  · split at h
    · cases h; rename_i q; exact ⟨q, rfl⟩
    · cases h
  · cases h⟩
theorem jo_cmp {f : Value → Value → Sem Value} {gi : Int → Int → Bool} {gs : Tx → Tx → Bool} (h : DOp K X f (gCmp gi gs)) : JOp K X f (oCmp gi gs) := ⟨_, h, fun x y z h => by
  unfold oCmp at h; split at h <;> cases h <;> rfl⟩
theorem jo_lt : JOp K X (compareOp .Lt) oLt := jo_cmp dop_lt
theorem jo_le : JOp K X (compareOp .LtE) oLe := jo_cmp dop_le
theorem jo_gt : JOp K X (compareOp .Gt) oGt := jo_cmp dop_gt
theorem jo_ge : JOp K X (compareOp .GtE) oGe := jo_cmp dop_ge
theorem jo_is : JOp K X (compareOp .Is) oIs := ⟨_, dop_isN, fun x y z h => by
  unfold oIs at h; split at h <;> cases h; cases x <;> rfl⟩
theorem jo_isNot : JOp K X (compareOp .IsNot) oIsNot := ⟨_, dop_isNot, fun x y z h => by
  unfold oIsNot at h; split at h <;> cases h; cases x <;> rfl⟩
end

/-! ### two values -/
/-- what a value shows: a thing of one's own by its content -/
def vw (h : Hh) : Vl → Option D
  | .d x => some x
  | .c i => match h[i]? with
    | some (.own d) => some d
    | _ => none
def flatO : Option D → Option D
  | some z => if flatD z then some z else none
  | none => none
def ap2 (o : D → D → Option D) (h : Hh) : Vl → Vl → Option D
  | .d x, .d y => o x y
  | u, v => match vw h u, vw h v with
    | some x, some y => flatO (o x y)
    | _, _ => none
def lift (o : Option D) (h : Hh) : Tr (Ex × Hh) (Vl × Hh) := match o with
  | some z => .ok (.d z, h)
  | none => .bad
def xOp (o : D → D → Option D) (a b : XE) : XE := fun ρ h => (a ρ h).bind fun p => (b ρ p.2).bind fun q => lift (ap2 o q.2 p.1 q.1) q.2
theorem all_lift {o : Option D} {h : Hh} {P : Vl × Hh → Prop} {E : Ex × Hh → Prop} (f : (lift o h).all P E) : ∃ z, o = some z ∧ P (.d z, h) := by
  cases o with
  | none => exact f.elim
  | some z => exact ⟨z, rfl, f⟩
section
variable [FeedI] {K : PySem.W.Frag} {O : Addr → Prop} {A : List Addr} {h : Hh} {H : Hp}
omit [FeedI] in
theorem OR.rp {m m' : Hp} {a : Addr} {o : HO} {d : D} (r : OR K m o d) (e : m' a = some o) (hm : Same m m') : Rp K m' (.ref a) d := by
  cases d with
  | lst ds => obtain ⟨xs, rfl, q⟩ := r; exact .lst e (q.mono hm)
  | dic ks ds => obtain ⟨kvs, rfl, q1, q2, q3⟩ := r; exact .dic (.inl e) q1 q2 (q3.mono hm)
  | _ => exact r.elim
theorem same_mO (O : Addr → Prop) (A : List Addr) (h : Hh) (H : Hp) : Same (MM O A h H) (msk O H) := msk_le fun b z => .inl z
theorem view_rp (t : TbR K O A h H) {v : V} {u : Vl} {d : D} (r : VlR K (MM O A h H) A v u) (e : vw h u = some d) : Rp K (msk O H) v d := by
  cases u with
  | d x =>
    obtain rfl : x = d := Option.some.inj e
    exact Rp.mono (same_mO O A h H) r
  | c i =>
    obtain ⟨a, e1, rfl⟩ := r
    cases hc : h[i]? with
    | none => simp only [vw, hc] at e; cases e
    | some c =>
      simp only [vw, hc] at e
      cases c with
      | own d' =>
        cases e
        obtain ⟨o, h1, h2⟩ := t.cell i _ a hc e1
        exact OR.rp h2 (by rw [msk_of (t.dis i _ a hc rfl e1)]; exact h1) (same_mO O A h H)
      | _ => cases e
theorem flatO_some {o : Option D} {z : D} (e : flatO o = some z) : o = some z ∧ flatD z = true := by
  unfold flatO at e
  split at e
  · split at e
    · cases e; exact ⟨rfl, by assumption⟩
    · cases e
  · cases e
/-- a rule by values, at values -/
theorem ap2_ok (t : TbR K O A h H) {r : R2} {o : D → D → Option D} {g : G2} (hr : ∀ (O : Addr → Prop) (H : Hp) (x y : V) (dx dy : D) (P : D → Prop) (Q : VK), (∀ b, O b → H b ≠ none) → Rp K (msk O H) x dx → Rp K (msk O H) y dy → g dx dy P → Out K O H P Q → r x y H Q)
    (hg : ∀ x y z, o x y = some z → g x y (fun w => w = z)) {x y : V} {u v : Vl} {z : D} {Q : VK} (rx : VlR K (MM O A h H) A x u) (ry : VlR K (MM O A h H) A y v) (e : ap2 o h u v = some z)
    (k : ∀ w H', Same H H' → Rp K (MM O A h H') w z → Q w H') : r x y H Q := by
  have gen : (match vw h u, vw h v with
    | some x, some y => flatO (o x y)
    | _, _ => none) = some z → r x y H Q := fun e => by
    split at e
    · rename_i dx dy e1 e2
      obtain ⟨e3, e4⟩ := flatO_some e
      exact hr O H x y dx dy _ Q t.dom (view_rp t rx e1) (view_rp t ry e2) (hg _ _ _ e3) fun w H' d sm rw' q => by
        subst q
        exact k w H' sm (rw'.flatTo e4)
    · cases e
  cases u with
  | d dx =>
    cases v with
    | d dy => exact hr (Ow O A h) H x y dx dy _ Q (fun b => t.own_some) rx ry (hg _ _ _ e) fun w H' d sm rw' q => by subst q; exact k w H' sm rw'
    | c j => exact gen e
  | c i => exact gen e
end
section
variable [FeedI] [ExI] {K : PySem.W.Frag} {W : WX} {X : Cx} {pos : Pos} {a b : Expr} {xa xb : XE}
theorem e_bin {r : R2} {o : D → D → Option D} {g : G2} (hr : ∀ (O : Addr → Prop) (H : Hp) (x y : V) (dx dy : D) (P : D → Prop) (Q : VK), (∀ b, O b → H b ≠ none) → Rp K (msk O H) x dx → Rp K (msk O H) y dy → g dx dy P → Out K O H P Q → r x y H Q)
    (hg : ∀ x y z, o x y = some z → g x y (fun w => w = z)) (σ : St) (H : Hp) (Q : VK) (q : eOf K W (xOp o xa xb) σ H Q) : tOp r (eOf K W xa) (eOf K W xb) σ H Q := by
  obtain ⟨O, ρ, A, h, P, E, I, f, k, kx⟩ := q
  refine ⟨O, ρ, A, h, _, E, I, Tr.all_bind.1 f, fun v H1 u A1 h1 U1 r1 f1 => ?_, kx⟩
  refine ⟨O, ρ, A1, h1, _, E, I.up U1, Tr.all_bind.1 f1, fun w H2 u2 A2 h2 U2 r2 f2 => ?_, kx.up U1⟩
  obtain ⟨z, e, p⟩ := all_lift f2
  refine ap2_ok U2.tb hr hg (r1.mono U2.sm U2.pre) r2 e fun x H' sm rx => ?_
  exact k x H' (.d z) A2 h2 ((U1.trans U2).trans (.grow U2.tb sm)) rx p
theorem je_op {op : Operator} {o : D → D → Option D} (ho : JOp K X (binaryOp op) o) (ha : JE K W X a xa) (hb : JE K W X b xb) : JE K W X (.BinOp a op b pos) (xOp o xa xb) := ⟨fun hK => by
  obtain ⟨g, ⟨r, h1, h2⟩, hg⟩ := ho
  exact pe_imp (pe_op h1 (ha.pe hK) (hb.pe hK)) (e_bin (h2 hK) hg)⟩
theorem je_cmp {op : CmpOp} {o : D → D → Option D} (ho : JOp K X (compareOp op) o) (ha : JE K W X a xa) (hb : JE K W X b xb) (hm : behindInMarks op b = false := by first | exact nomark _ | rfl) : JE K W X (.Compare a [op] [b] pos) (xOp o xa xb) := ⟨fun hK => by
  obtain ⟨g, ⟨r, h1, h2⟩, hg⟩ := ho
  exact pe_imp (pe_cmpR h1 (ha.pe hK) (hb.pe hK) hm) (e_bin (h2 hK) hg)⟩
/-! tests -/
def asB : Vl → Option Bool
  | .d (.bl b) => some b
  | _ => none
def liftB (o : Option Bool) (h : Hh) : Tr (Ex × Hh) (Bool × Hh) := match o with
  | some z => .ok (z, h)
  | none => .bad
theorem all_liftB {o : Option Bool} {h : Hh} {P : Bool × Hh → Prop} {E : Ex × Hh → Prop} (f : (liftB o h).all P E) : ∃ z, o = some z ∧ P (z, h) := by
  cases o with
  | none => exact f.elim
  | some z => exact ⟨z, rfl, f⟩
theorem asB_some {u : Vl} {b : Bool} (e : asB u = some b) : u = .d (.bl b) := by
  unfold asB at e
  split at e
  · cases e; rfl
  · cases e
def xB (x : XE) : XT := fun ρ h => (x ρ h).bind fun p => liftB (asB p.1) p.2
theorem b_of {x : XE} {σ : St} {H : Hp} {Q : Bool → Hp → Prop} (q : bOf K W (xB x) σ H Q) : eOf K W x σ H fun v H1 => ∃ b, v = .bl b ∧ Q b H1 := by
  obtain ⟨O, ρ, A, h, P, E, I, f, k, kx⟩ := q
  refine ⟨O, ρ, A, h, _, E, I, Tr.all_bind.1 f, fun v H1 u A1 h1 U1 r1 f1 => ?_, kx⟩
  obtain ⟨b, e, p⟩ := all_liftB f1
  obtain rfl := asB_some e
  cases r1
  exact ⟨b, rfl, k b H1 A1 h1 U1 p⟩
theorem jt_cmp {op : CmpOp} {o : D → D → Option D} (ho : JOp K X (compareOp op) o) (ha : JE K W X a xa) (hb : JE K W X b xb) (hm : behindInMarks op b = false := by first | exact nomark _ | rfl) : JT K W X (.Compare a [op] [b] pos) (xB (xOp o xa xb)) := ⟨fun hK => by
  obtain ⟨g, ⟨r, h1, h2⟩, hg⟩ := ho
  refine pt_imp (pt_cmpR h1 (ha.pe hK) (hb.pe hK) hm) fun σ H Q q => ?_
  exact e_bin (h2 hK) hg σ H _ (b_of q)⟩
theorem jt_val {x : XE} (h : JE K W X a x) (he : ∀ whole, isTrue a X.env whole = (do let v ← whole; standAt a.pos; holding [v] (truthy v)) := by intro _; rfl) : JT K W X a (xB x) := ⟨fun hK => by
  refine pt_imp (pt_val (h.pe hK) he) fun σ H Q q => ?_
  exact b_of q⟩
structure JW (K : PySem.W.Frag) (W : WX) (X : Cx) (e : Expr) (x : XT) : Prop where
  pw : X.K = K → PW X e (bOf K W x)
def xAnd (f g : XT) : XT := fun ρ h => (f ρ h).bind fun p => if p.1 = true then g ρ p.2 else .ok (false, p.2)
def xOr (f g : XT) : XT := fun ρ h => (f ρ h).bind fun p => if p.1 = true then .ok (true, p.2) else g ρ p.2
def xNot (f : XT) : XT := fun ρ h => (f ρ h).bind fun p => .ok (!p.1, p.2)
variable {f g : XT} {rest : List Expr}
theorem JW.jt {e : Expr} {f : XT} (h : JW K W X e f) : JT K W X e f := ⟨fun hK => (h.pw hK).pt⟩
theorem jw_and1 (h : JT K W X a f) : JW K W X (.BoolOp .And [a] pos) f := ⟨fun hK => pw_and1 (h.pt hK)⟩
theorem jw_or1 (h : JT K W X a f) : JW K W X (.BoolOp .Or [a] pos) f := ⟨fun hK => pw_or1 (h.pt hK)⟩
theorem jw_and (h : JT K W X a f) (h2 : JW K W X (.BoolOp .And (b :: rest) pos) g) : JW K W X (.BoolOp .And (a :: b :: rest) pos) (xAnd f g) := ⟨fun hK => pw_imp (pw_and (h.pt hK) (h2.pw hK)) fun σ H Q q => by
  obtain ⟨O, ρ, A, h, P, E, I, f, k, kx⟩ := q
  refine ⟨O, ρ, A, h, _, E, I, Tr.all_bind.1 f, fun b H1 A1 h1 U1 f1 => ?_, kx⟩
  cases b with
  | true => exact ⟨O, ρ, A1, h1, P, E, I.up U1, f1, fun b H2 A2 h2 U2 p => k b H2 A2 h2 (U1.trans U2) p, kx.up U1⟩
  | false => exact k false H1 A1 h1 U1 f1⟩
theorem jw_or (h : JT K W X a f) (h2 : JW K W X (.BoolOp .Or (b :: rest) pos) g) : JW K W X (.BoolOp .Or (a :: b :: rest) pos) (xOr f g) := ⟨fun hK => pw_imp (pw_or (h.pt hK) (h2.pw hK)) fun σ H Q q => by
  obtain ⟨O, ρ, A, h, P, E, I, f, k, kx⟩ := q
  refine ⟨O, ρ, A, h, _, E, I, Tr.all_bind.1 f, fun b H1 A1 h1 U1 f1 => ?_, kx⟩
  cases b with
  | false => exact ⟨O, ρ, A1, h1, P, E, I.up U1, f1, fun b H2 A2 h2 U2 p => k b H2 A2 h2 (U1.trans U2) p, kx.up U1⟩
  | true => exact k true H1 A1 h1 U1 f1⟩
theorem jt_not (h : JT K W X a f) : JT K W X (.UnaryOp .Not a pos) (xNot f) := ⟨fun hK => pt_imp (pt_not (h.pt hK)) fun σ H Q q => by
  obtain ⟨O, ρ, A, h, P, E, I, f, k, kx⟩ := q
  exact ⟨O, ρ, A, h, _, E, I, Tr.all_bind.1 f, fun b H1 A1 h1 U1 f1 => k _ H1 A1 h1 U1 f1, kx⟩⟩
/-! as values -/
def bindB (p : Vl × Hh) (f : Bool → Hh → Tr (Ex × Hh) (Vl × Hh)) : Tr (Ex × Hh) (Vl × Hh) := match asB p.1 with
  | some b => f b p.2
  | none => .bad
theorem all_bindB {p : Vl × Hh} {f : Bool → Hh → Tr (Ex × Hh) (Vl × Hh)} {P : Vl × Hh → Prop} {E : Ex × Hh → Prop} (q : (bindB p f).all P E) : ∃ b, p.1 = .d (.bl b) ∧ (f b p.2).all P E := by
  unfold bindB at q
  cases e : asB p.1 with
  | none => rw [e] at q; exact q.elim
  | some b => rw [e] at q; exact ⟨b, asB_some e, q⟩
def xAndV (fa fb : XE) : XE := fun ρ h => (fa ρ h).bind fun p => bindB p fun b h1 => if b = true then fb ρ h1 else .ok (.d (.bl false), h1)
def xOrV (fa fb : XE) : XE := fun ρ h => (fa ρ h).bind fun p => bindB p fun b h1 => if b = true then .ok (.d (.bl true), h1) else fb ρ h1
def xNotV (fa : XE) : XE := fun ρ h => (fa ρ h).bind fun p => bindB p fun b h1 => .ok (.d (.bl !b), h1)
theorem je_one {op} (h : JE K W X a xa) : JE K W X (.BoolOp op [a] pos) xa := ⟨fun hK => pe_one (h.pe hK)⟩
theorem je_and (ha : JE K W X a xa) (hb : JE K W X (.BoolOp .And (b :: rest) pos) xb) : JE K W X (.BoolOp .And (a :: b :: rest) pos) (xAndV xa xb) := ⟨fun hK => pe_imp (L2.pe_and (ha.pe hK) (hb.pe hK)) fun σ H Q q => by
  obtain ⟨O, ρ, A, h, P, E, I, f, k, kx⟩ := q
  refine ⟨O, ρ, A, h, _, E, I, Tr.all_bind.1 f, fun v H1 u A1 h1 U1 r1 f1 => ?_, kx⟩
  obtain ⟨b, e, f2⟩ := all_bindB f1
  obtain rfl : u = .d (.bl b) := e
  cases r1
  refine ⟨b, rfl, ?_⟩
  cases b with
  | true => exact ⟨O, ρ, A1, h1, P, E, I.up U1, f2, fun v H2 u A2 h2 U2 r p => k v H2 u A2 h2 (U1.trans U2) r p, kx.up U1⟩
  | false => exact k _ H1 (.d (.bl false)) A1 h1 U1 (.bl false) f2⟩
theorem je_or (ha : JE K W X a xa) (hb : JE K W X (.BoolOp .Or (b :: rest) pos) xb) : JE K W X (.BoolOp .Or (a :: b :: rest) pos) (xOrV xa xb) := ⟨fun hK => pe_imp (L2.pe_or (ha.pe hK) (hb.pe hK)) fun σ H Q q => by
  obtain ⟨O, ρ, A, h, P, E, I, f, k, kx⟩ := q
  refine ⟨O, ρ, A, h, _, E, I, Tr.all_bind.1 f, fun v H1 u A1 h1 U1 r1 f1 => ?_, kx⟩
  obtain ⟨b, e, f2⟩ := all_bindB f1
  obtain rfl : u = .d (.bl b) := e
  cases r1
  refine ⟨b, rfl, ?_⟩
  cases b with
  | false => exact ⟨O, ρ, A1, h1, P, E, I.up U1, f2, fun v H2 u A2 h2 U2 r p => k v H2 u A2 h2 (U1.trans U2) r p, kx.up U1⟩
  | true => exact k _ H1 (.d (.bl true)) A1 h1 U1 (.bl true) f2⟩
theorem je_not (ha : JE K W X a xa) : JE K W X (.UnaryOp .Not a pos) (xNotV xa) := ⟨fun hK => pe_imp (L2.pe_not (ha.pe hK)) fun σ H Q q => by
  obtain ⟨O, ρ, A, h, P, E, I, f, k, kx⟩ := q
  refine ⟨O, ρ, A, h, _, E, I, Tr.all_bind.1 f, fun v H1 u A1 h1 U1 r1 f1 => ?_, kx⟩
  obtain ⟨b, e, f2⟩ := all_bindB f1
  obtain rfl : u = .d (.bl b) := e
  cases r1
  exact ⟨b, rfl, k _ H1 (.d (.bl !b)) A1 h1 U1 (.bl _) f2⟩⟩
def xIf (f : XT) (fa fb : XE) : XE := fun ρ h => (f ρ h).bind fun p => if p.1 = true then fa ρ p.2 else fb ρ p.2
theorem je_if {t : Expr} (ht : JT K W X t f) (ha : JE K W X a xa) (hb : JE K W X b xb) : JE K W X (.IfExp t a b pos) (xIf f xa xb) := ⟨fun hK => pe_imp (pe_ifExp (ht.pt hK) (ha.pe hK) (hb.pe hK)) fun σ H Q q => by
  obtain ⟨O, ρ, A, h, P, E, I, f, k, kx⟩ := q
  refine ⟨O, ρ, A, h, _, E, I, Tr.all_bind.1 f, fun b H1 A1 h1 U1 f1 => ?_, kx⟩
  cases b <;> exact ⟨O, ρ, A1, h1, P, E, I.up U1, f1, fun v H2 u A2 h2 U2 r p => k v H2 u A2 h2 (U1.trans U2) r p, kx.up U1⟩⟩
/-! ### argument lists, displays -/
variable {es : List Expr} {e : Expr} {xs : XA}
def xNil : XA := fun _ h => .ok ([], h)
def xCons (fe : XE) (fs : XA) : XA := fun ρ h => (fe ρ h).bind fun p => (fs ρ p.2).bind fun q => .ok (p.1 :: q.1, q.2)
theorem ja_nil : JA K W X [] xNil := ⟨fun hK => pa_imp pa_nil fun σ H Q q => by
  obtain ⟨O, ρ, A, h, P, E, I, f, k, kx⟩ := q
  exact k [] H [] A h (.refl I.tb) trivial f⟩
theorem ja_cons (he : JE K W X e xa) (hr : JA K W X es xs) (hs : starEach (e :: es) X.env = (false, eval e X.env) :: starEach es X.env := by rfl) : JA K W X (e :: es) (xCons xa xs) := ⟨fun hK => pa_imp (pa_cons (he.pe hK) (hr.pa hK) hs) fun σ H Q q => by
  obtain ⟨O, ρ, A, h, P, E, I, f, k, kx⟩ := q
  refine ⟨O, ρ, A, h, _, E, I, Tr.all_bind.1 f, fun v H1 u A1 h1 U1 r1 f1 => ?_, kx⟩
  exact ⟨O, ρ, A1, h1, _, E, I.up U1, Tr.all_bind.1 f1, fun vs H2 us A2 h2 U2 r2 f2 => k (v :: vs) H2 (u :: us) A2 h2 (U1.trans U2) ⟨r1.mono U2.sm U2.pre, r2⟩ f2, kx.up U1⟩⟩
def allD : List Vl → Option (List D)
  | [] => some []
  | .d x :: us => (allD us).map (x :: ·)
  | .c _ :: _ => none
theorem allD_rp {m : Hp} {A : List Addr} : ∀ {vs : List V} {us : List Vl} {ds : List D}, VlsR K m A vs us → allD us = some ds → RpAll K m vs ds
  | [], [], _, _, e => by cases e; exact .nil
  | v :: vs, .d x :: us, ds, r, e => by
    unfold allD at e
    cases q : allD us with
    | none => rw [q] at e; cases e
    | some es => rw [q] at e; cases e; exact .cons r.1 (allD_rp r.2 q)
  | _ :: _, .c _ :: _, _, _, e => by cases e
  | [], _ :: _, _, r, _ => r.elim
  | _ :: _, [], _, r, _ => r.elim
def liftA (o : Option (List D)) (h : Hh) (f : List D → Option D) : Tr (Ex × Hh) (Vl × Hh) := match o with
  | some ds => lift (f ds) h
  | none => .bad
theorem all_liftA {o : Option (List D)} {h : Hh} {f : List D → Option D} {P : Vl × Hh → Prop} {E : Ex × Hh → Prop} (q : (liftA o h f).all P E) : ∃ ds z, o = some ds ∧ f ds = some z ∧ P (.d z, h) := by
  cases o with
  | none => exact q.elim
  | some ds => obtain ⟨z, e, p⟩ := all_lift q; exact ⟨ds, z, rfl, e, p⟩
def oTup (ds : List D) : Option D := if ds.length ≤ 16777216 then some (.tup ds) else none
def oLst (ds : List D) : Option D := if ds.length ≤ 16777216 then some (.lst ds) else none
theorem oTup_some {ds : List D} {z : D} (e : oTup ds = some z) : ds.length ≤ sizeLine ∧ z = .tup ds := by
  unfold oTup at e; split at e
  · cases e; exact ⟨by rw [sizeLine_eq]; assumption, rfl⟩
  · cases e
theorem oLst_some {ds : List D} {z : D} (e : oLst ds = some z) : ds.length ≤ sizeLine ∧ z = .lst ds := by
  unfold oLst at e; split at e
  · cases e; exact ⟨by rw [sizeLine_eq]; assumption, rfl⟩
  · cases e
def xTup (fs : XA) : XE := fun ρ h => (fs ρ h).bind fun p => liftA (allD p.1) p.2 oTup
def xLst (fs : XA) : XE := fun ρ h => (fs ρ h).bind fun p => liftA (allD p.1) p.2 oLst
theorem je_tup {x1} (h : JA K W X es xs) : JE K W X (.Tuple es x1 pos) (xTup xs) := ⟨fun hK => pe_imp (pe_tup (h.pa hK)) fun σ H Q q => by
  obtain ⟨O, ρ, A, h, P, E, I, f, k, kx⟩ := q
  refine ⟨O, ρ, A, h, _, E, I, Tr.all_bind.1 f, fun vs H1 us A1 h1 U1 r1 f1 => ?_, kx⟩
  obtain ⟨ds, z, e1, e2, p⟩ := all_liftA f1
  obtain ⟨hl, rfl⟩ := oTup_some e2
  have r := allD_rp r1 e1
  refine ⟨by rw [r.length]; exact hl, fun a ha => ?_⟩
  have e := same_new (o := .tup vs) ha
  exact k (.ref a) _ (.d (.tup ds)) A1 h1 (U1.trans (.grow U1.tb e)) (.tup (.inl (.inl (U1.tb.newM ha))) (r.mono (msk_same e))) p⟩
theorem je_lst {x1} (h : JA K W X es xs) : JE K W X (.List es x1) (xLst xs) := ⟨fun hK => pe_imp (pe_lst (h.pa hK)) fun σ H Q q => by
  obtain ⟨O, ρ, A, h, P, E, I, f, k, kx⟩ := q
  refine ⟨O, ρ, A, h, _, E, I, Tr.all_bind.1 f, fun vs H1 us A1 h1 U1 r1 f1 => ?_, kx⟩
  obtain ⟨ds, z, e1, e2, p⟩ := all_liftA f1
  obtain ⟨hl, rfl⟩ := oLst_some e2
  have r := allD_rp r1 e1
  refine ⟨by rw [r.length]; exact hl, fun a ha => ?_⟩
  have e := same_new (o := .lst vs) ha
  exact k (.ref a) _ (.d (.lst ds)) A1 h1 (U1.trans (.grow U1.tb e)) (.lst (U1.tb.newM ha) (r.mono (msk_same e))) p⟩
end
end EL
/-! The layer EL: built-ins, subscripts, slices, texts, sources. -/
namespace EL
open PySem PySem.Spec PyProof.Rows L2 DL

/-! ### built-ins by plain data -/
def oLen : List D → Option D
  | [.str l] => some (.int l.length)
  | [.tup ds] => some (.int ds.length)
  | [.lst ds] => some (.int ds.length)
  | _ => none
def oTuple : List D → Option D
  | [.tup ds] => some (.tup ds)
  | [.lst ds] => some (.tup ds)
  | _ => none
def oList : List D → Option D
  | [.tup ds] => some (.lst ds)
  | [.lst ds] => some (.lst ds)
  | [.dic ks _] => some (.lst (ks.map kD))
  | _ => none
def oAll : List D → Option D
  | [.lst ds] => (bsOf ds).map fun bs => .bl (bs.all id)
  | _ => none
def oAny : List D → Option D
  | [.lst ds] => (bsOf ds).map fun bs => .bl (bs.any id)
  | _ => none
def oSum : List D → Option D
  | [.lst ds] => (isOf ds).map fun bs => .int bs.sum
  | _ => none
def maxI : List Int → Int
  | [] => 0
  | [i] => i
  | i :: is => if maxI is > i then maxI is else i
def minI : List Int → Int
  | [] => 0
  | [i] => i
  | i :: is => if minI is < i then minI is else i
def oMax : List D → Option D
  | [.int i, .int j] => some (.int (if j > i then j else i))
  | [.lst ds] => match isOf ds with
    | some (i :: is) => some (.int (maxI (i :: is)))
    | _ => none
  | _ => none
def oMin : List D → Option D
  | [.int i, .int j] => some (.int (if j < i then j else i))
  | [.lst ds] => match isOf ds with
    | some (i :: is) => some (.int (minI (i :: is)))
    | _ => none
  | _ => none
def oInt : List D → Option D
  | [.int i] => some (.int i)
  | [.str l] => if l.length ≤ 640 then (PySem.intText? (S l)).map .int else none
  | _ => none
def oIsi : List D → Option D
  | [d, .ty n] => (isB d n).map .bl
  | _ => none
def alikeB (ds : List PyData) : Bool := ds.all fun d => ds.all fun e => PySem.W.alike d e
def tupB : PyData → Bool
  | .tuple (_ :: _) => true
  | _ => false
def plainB : PyData → Bool
  | .none => false
  | .tuple _ => false
  | _ => true
def sortB (ds : List PyData) : Bool := ds.all tupB || ds.all plainB
def oSorted : List D → Option D
  | [.lst ds] => if ds.all okE && alikeB (ds.map toPy) && sortB (ds.map toPy) && ds.all (fun d => decide (depE d ≤ 60)) then some (.lst (ds.mergeSort leD)) else none
  | _ => none
def seqB : D → Bool
  | .tup _ => true
  | .lst _ => true
  | _ => false
def oRepr : List D → Option D
  | [d] => if seqB d && okE d && (toPy d).showable && !(toPy d).hasDict && decide (depE d ≤ 60) && decide ((shT d).length ≤ 16777216) then some (.str (shT d)) else none
  | _ => none
def oDictP : List D → Option D
  | [.lst ds] => (pairsOf ds).map fun ps => .dic (mrgD [] [] ps).1 (mrgD [] [] ps).2
  | _ => none
def JCall (K : PySem.W.Frag) (X : Cx) (f : Value) (o : List D → Option D) : Prop := ∃ g, DCall K X f g ∧ ∀ ds z, o ds = some z → g ds (fun w => w = z)
section
variable {K : PySem.W.Frag} {X : Cx}
theorem jc_len : JCall K X (.builtin "len") oLen := ⟨_, dc_len, fun ds z h => by
  unfold oLen at h
  split at h <;> cases h <;> exact ⟨_, rfl, (fun _ _ q => by cases q), rfl⟩⟩
theorem jc_tuple : JCall K X (.type "tuple") oTuple := ⟨_, dc_tuple, fun ds z h => by
  unfold oTuple at h
  split at h <;> cases h <;> rfl⟩
theorem jc_list (hc : X.calm = true) : JCall K X (.type "list") oList := ⟨_, dc_list hc, fun ds z h => by
  unfold oList at h
  split at h <;> cases h <;> rfl⟩
theorem jc_all (hc : X.calm = true) : JCall K X (.builtin "all") oAll := ⟨_, dc_all hc, fun ds z h => by
  unfold oAll at h
  split at h
  · obtain ⟨bs, h1, rfl⟩ := Option.map_eq_some_iff.mp h; exact ⟨bs, h1, rfl⟩
  · cases h⟩
theorem jc_any (hc : X.calm = true) : JCall K X (.builtin "any") oAny := ⟨_, dc_any hc, fun ds z h => by
  unfold oAny at h
  split at h
  · obtain ⟨bs, h1, rfl⟩ := Option.map_eq_some_iff.mp h; exact ⟨bs, h1, rfl⟩
  · cases h⟩
theorem jc_sum (hc : X.calm = true) : JCall K X (.builtin "sum") oSum := ⟨_, dc_sum hc, fun ds z h => by
  unfold oSum at h
  split at h
  · obtain ⟨bs, h1, rfl⟩ := Option.map_eq_some_iff.mp h; exact ⟨bs, h1, rfl⟩
  · cases h⟩
theorem maxI_max : ∀ {l : List Int}, l ≠ [] → maxI l ∈ l ∧ ∀ y ∈ l, y ≤ maxI l
  | [], h => (h rfl).elim
  | [i], _ => ⟨by simp [maxI], fun y hy => by simp at hy; subst hy; exact Int.le_refl _⟩
  | i :: j :: is, _ => by
    have ih := maxI_max (l := j :: is) (by simp)
    show (if maxI (j :: is) > i then maxI (j :: is) else i) ∈ _ ∧ ∀ y ∈ _, y ≤ (if maxI (j :: is) > i then maxI (j :: is) else i)
    split
    · refine ⟨List.mem_cons_of_mem _ ih.1, fun y hy => ?_⟩
      rcases List.mem_cons.mp hy with rfl | hy
      · omega
      · exact ih.2 y hy
    · refine ⟨List.mem_cons_self, fun y hy => ?_⟩
      rcases List.mem_cons.mp hy with rfl | hy
      · exact Int.le_refl _
      · have := ih.2 y hy; omega
theorem minI_min : ∀ {l : List Int}, l ≠ [] → minI l ∈ l ∧ ∀ y ∈ l, minI l ≤ y
  | [], h => (h rfl).elim
  | [i], _ => ⟨by simp [minI], fun y hy => by simp at hy; subst hy; exact Int.le_refl _⟩
  | i :: j :: is, _ => by
    have ih := minI_min (l := j :: is) (by simp)
    show (if minI (j :: is) < i then minI (j :: is) else i) ∈ _ ∧ ∀ y ∈ _, (if minI (j :: is) < i then minI (j :: is) else i) ≤ y
    split
    · refine ⟨List.mem_cons_of_mem _ ih.1, fun y hy => ?_⟩
      rcases List.mem_cons.mp hy with rfl | hy
      · omega
      · exact ih.2 y hy
    · refine ⟨List.mem_cons_self, fun y hy => ?_⟩
      rcases List.mem_cons.mp hy with rfl | hy
      · exact Int.le_refl _
      · have := ih.2 y hy; omega
theorem jc_max (hc : X.calm = true) : JCall K X (.builtin "max") oMax := ⟨_, dc_max hc, fun ds z h => by
  unfold oMax at h
  split at h
  · cases h; rfl
  · split at h
    · rename_i i is e
      cases h
      refine ⟨_, e, by simp, fun m h1 h2 => ?_⟩
      have := maxI_max (l := i :: is) (by simp)
      have e1 := this.2 m h1
      have e2 := h2 _ this.1
      rw [show m = maxI (i :: is) by omega]
    · cases h
  · cases h⟩
theorem jc_min (hc : X.calm = true) : JCall K X (.builtin "min") oMin := ⟨_, dc_min hc, fun ds z h => by
  unfold oMin at h
  split at h
  · cases h; rfl
  · split at h
    · rename_i i is e
      cases h
      refine ⟨_, e, by simp, fun m h1 h2 => ?_⟩
      have := minI_min (l := i :: is) (by simp)
      have e1 := this.2 m h1
      have e2 := h2 _ this.1
      rw [show m = minI (i :: is) by omega]
    · cases h
  · cases h⟩
theorem jc_int : JCall K X (.type "int") oInt := ⟨_, dc_int, fun ds z h => by
  unfold oInt at h
  split at h
  · cases h; rfl
  · split at h
    · obtain ⟨n, h1, rfl⟩ := Option.map_eq_some_iff.mp h; exact ⟨by assumption, n, h1, rfl⟩
    · cases h
  · cases h⟩
theorem jc_isi : JCall K X (.builtin "isinstance") oIsi := ⟨_, dc_isi, fun ds z h => by
  unfold oIsi at h
  split at h
  · obtain ⟨n, h1, rfl⟩ := Option.map_eq_some_iff.mp h; exact ⟨n, h1, rfl⟩
  · cases h⟩
theorem alikeB_iff {ds : List PyData} (h : alikeB ds = true) : PySem.W.AllAlike ds := fun d hd e he => List.all_eq_true.mp (List.all_eq_true.mp h d hd) e he
theorem sortB_iff {ds : List PyData} (h : sortB ds = true) : PySem.W.Sortable ds := by
  rcases Bool.or_eq_true_iff.mp h with h | h
  · refine .inl fun d hd => ?_
    have := List.all_eq_true.mp h d hd
    unfold tupB at this
    split at this
    · exact ⟨_, _, rfl⟩
    · cases this
  · refine .inr fun d hd => ?_
    have := List.all_eq_true.mp h d hd
    unfold plainB at this
    split at this
    · cases this
    · cases this
    · rename_i n1 n2; exact ⟨fun e => n1 e, fun xs e => n2 xs e⟩
theorem jc_sorted (hu : X.K = K → X.A.units + 64 < cLine) (hK : X.K = K) : JCall K X (.builtin "sorted") oSorted := ⟨_, dc_sorted hu hK, fun ds z h => by
  unfold oSorted at h
  split at h
  · split at h
    · rename_i q
      simp only [Bool.and_eq_true] at q
      cases h
      exact ⟨q.1.1.1, alikeB_iff q.1.1.2, sortB_iff q.1.2, fun d hd => of_decide_eq_true (List.all_eq_true.mp q.2 d hd), rfl⟩
    · cases h
  · cases h⟩
theorem jc_repr (hu : X.K = K → X.A.units + 64 < cLine) (hg : X.K = K → X.A.guards = some []) (hK : X.K = K) : JCall K X (.builtin "repr") oRepr := ⟨_, dc_repr hu hg hK, fun ds z h => by
  unfold oRepr at h
  split at h
  · rename_i d
    split at h
    · rename_i q
      simp only [Bool.and_eq_true, Bool.not_eq_true', decide_eq_true_eq] at q
      cases h
      obtain ⟨⟨⟨⟨⟨q0, q1⟩, q2⟩, q3⟩, q4⟩, q5⟩ := q
      exact ⟨(by cases d <;> first | trivial | cases q0), q1, q2, q3, q4, by rw [sizeLine_eq]; exact q5, rfl⟩
    · cases h
  · cases h⟩
theorem jc_dictP (hc : X.calm = true) : JCall K X (.type "dict") oDictP := ⟨_, dc_dictP hc, fun ds z h => by
  unfold oDictP at h
  split at h
  · obtain ⟨n, h1, rfl⟩ := Option.map_eq_some_iff.mp h; exact ⟨n, h1, rfl⟩
  · cases h⟩
end
/-! ### calls of built-ins -/
def vwAll (h : Hh) : List Vl → Option (List D)
  | [] => some []
  | u :: us => (vw h u).bind fun x => (vwAll h us).map (x :: ·)
def apN (o : List D → Option D) (h : Hh) (us : List Vl) : Option D := match allD us with
  | some ds => o ds
  | none => match vwAll h us with
    | some ds => flatO (o ds)
    | none => none
def xCallB (o : List D → Option D) (as : XA) : XE := fun ρ h => (as ρ h).bind fun p => lift (apN o p.2 p.1) p.2
section
variable [FeedI] [ExI] {K : PySem.W.Frag} {O : Addr → Prop} {A : List Addr} {h : Hh} {H : Hp}
theorem viewAll_rp (t : TbR K O A h H) : ∀ {vs : List V} {us : List Vl} {ds : List D}, VlsR K (MM O A h H) A vs us → vwAll h us = some ds → RpAll K (msk O H) vs ds
  | [], [], _, _, e => by cases e; exact .nil
  | v :: vs, u :: us, ds, r, e => by
    unfold vwAll at e
    cases q : vw h u with
    | none => rw [q] at e; cases e
    | some x =>
      rw [q] at e
      obtain ⟨es, e1, rfl⟩ := Option.map_eq_some_iff.mp e
      exact .cons (view_rp t r.1 q) (viewAll_rp t r.2 e1)
  | [], _ :: _, _, r, _ => r.elim
  | _ :: _, [], _, r, _ => r.elim
theorem apN_ok (t : TbR K O A h H) {r : List V → Hp → VK → Prop} {o : List D → Option D} {g : GA} (hr : ∀ (O : Addr → Prop) (H : Hp) (xs : List V) (ds : List D) (P : D → Prop) (Q : VK), (∀ b, O b → H b ≠ none) → RpAll K (msk O H) xs ds → g ds P → Out K O H P Q → r xs H Q)
    (hg : ∀ ds z, o ds = some z → g ds (fun w => w = z)) {vs : List V} {us : List Vl} {z : D} {Q : VK} (rx : VlsR K (MM O A h H) A vs us) (e : apN o h us = some z)
    (k : ∀ w H', Same H H' → Rp K (MM O A h H') w z → Q w H') : r vs H Q := by
  unfold apN at e
  cases q : allD us with
  | some ds =>
    rw [q] at e
    exact hr (Ow O A h) H vs ds _ Q (fun b => t.own_some) (allD_rp rx q) (hg _ _ e) fun w H' d sm rw' q => by subst q; exact k w H' sm rw'
  | none =>
    rw [q] at e
    cases q2 : vwAll h us with
    | none => rw [q2] at e; cases e
    | some ds =>
      rw [q2] at e
      obtain ⟨e3, e4⟩ := flatO_some e
      exact hr O H vs ds _ Q t.dom (viewAll_rp t rx q2) (hg _ _ e3) fun w H' d sm rw' q => by subst q; exact k w H' sm (rw'.flatTo e4)
end
section
variable [FeedI] [ExI] {K : PySem.W.Frag} {W : WX} {X : Cx} {pos : Pos} {a b e : Expr} {es : List Expr} {xa xb : XE} {xs : XA}
theorem e_callB {r : List V → Hp → VK → Prop} {o : List D → Option D} {g : GA} (hr : ∀ (O : Addr → Prop) (H : Hp) (xs : List V) (ds : List D) (P : D → Prop) (Q : VK), (∀ b, O b → H b ≠ none) → RpAll K (msk O H) xs ds → g ds P → Out K O H P Q → r xs H Q)
    (hg : ∀ ds z, o ds = some z → g ds (fun w => w = z)) (σ : St) (H : Hp) (Q : VK) (q : eOf K W (xCallB o xs) σ H Q) : tCB r (aOf K W xs) σ H Q := by
  obtain ⟨O, ρ, A, h, P, E, I, f, k, kx⟩ := q
  refine ⟨O, ρ, A, h, _, E, I, Tr.all_bind.1 f, fun vs H1 us A1 h1 U1 r1 f1 => ?_, kx⟩
  obtain ⟨z, e, p⟩ := all_lift f1
  exact apN_ok U1.tb hr hg r1 e fun x H' sm rx => k x H' (.d z) A1 h1 (U1.trans (.grow U1.tb sm)) rx p
theorem je_callB {id : String} {o : List D → Option D} {x : Str} {p : Pos} (hc : JCall K X (.builtin id) o) (hg : Gl X x) (hm : X.mg x = none) (hv : bootBuiltins x = some (.builtin id)) (ha : JA K W X (e :: es) xs) (hn : x ≠ "__name__" := by decide) (hdb : (x == ("__debug__" : Str)) = false := by decide)
    (he : starEach (e :: es) X.env = (false, eval e X.env) :: starEach es X.env := by rfl) (hpl : (backTo pos (starEach es X.env)).any (·.1) = false := by rfl) : JE K W X (.Call (.Name x p) (e :: es) [] pos) (xCallB o xs) := ⟨fun hK => by
  obtain ⟨g, ⟨r, h1, h2⟩, h3⟩ := hc
  exact pe_imp (pe_callB h1 hg hm hv (ha.pa hK) hn hdb he hpl) (e_callB (h2 hK) h3)⟩
theorem je_callBK {id : String} {o : List D → Option D} {x : Str} {p : Pos} (hc : X.K = K → JCall K X (.builtin id) o) (hg : Gl X x) (hm : X.mg x = none) (hv : bootBuiltins x = some (.builtin id)) (ha : JA K W X (e :: es) xs) (hn : x ≠ "__name__" := by decide) (hdb : (x == ("__debug__" : Str)) = false := by decide)
    (he : starEach (e :: es) X.env = (false, eval e X.env) :: starEach es X.env := by rfl) (hpl : (backTo pos (starEach es X.env)).any (·.1) = false := by rfl) : JE K W X (.Call (.Name x p) (e :: es) [] pos) (xCallB o xs) := ⟨fun hK => by
  obtain ⟨g, ⟨r, h1, h2⟩, h3⟩ := hc hK
  exact pe_imp (pe_callB h1 hg hm hv (ha.pa hK) hn hdb he hpl) (e_callB (h2 hK) h3)⟩
theorem je_callTy {n : String} {o : List D → Option D} {x : Str} {p : Pos} (hc : JCall K X (.type n) o) (hg : Gl X x) (hm : X.mg x = none) (hv : bootBuiltins x = some (.type n)) (ha : JA K W X (e :: es) xs) (hn : x ≠ "__name__" := by decide) (hdb : (x == ("__debug__" : Str)) = false := by decide)
    (he : starEach (e :: es) X.env = (false, eval e X.env) :: starEach es X.env := by rfl) (hpl : (backTo pos (starEach es X.env)).any (·.1) = false := by rfl) : JE K W X (.Call (.Name x p) (e :: es) [] pos) (xCallB o xs) := ⟨fun hK => by
  obtain ⟨g, ⟨r, h1, h2⟩, h3⟩ := hc
  exact pe_imp (pe_callTy h1 hg hm hv (ha.pa hK) hn hdb he hpl) (e_callB (h2 hK) h3)⟩
/-! ### subscripts -/
theorem oIx_g {x y z : D} (h : oIx x y = some z) : gIx x y (fun w => w = z) := by
  unfold oIx at h
  split at h
  · exact ⟨z, h, rfl⟩
  · exact ⟨z, h, rfl⟩
  · obtain ⟨c, h1, rfl⟩ := Option.map_eq_some_iff.mp h; exact ⟨c, h1, rfl⟩
  · obtain ⟨k, h1, h2⟩ := Option.bind_eq_some_iff.mp h; exact ⟨k, z, h1, h2, rfl⟩
  · cases h
theorem je_ix (hu : X.A.units + 64 < cLine) (ha : JE K W X a xa) (hb : JE K W X b xb) (hs : PlainIx b := by intro _ _; rfl) : JE K W X (.Subscript a b pos) (xOp oIx xa xb) := ⟨fun hK => by
  subst hK
  obtain ⟨r, h1, h2⟩ := ix_ok hu
  exact pe_imp (pe_ix h1 (ha.pe rfl) (hb.pe rfl) hs) (e_bin h2 fun _ _ _ => oIx_g)⟩
abbrev XO := Rho → Hh → Tr (Ex × Hh) (Option Int × Hh)
def oOf (K : PySem.W.Frag) (W : WX) (x : XO) : St → Hp → (Option Int → Hp → Prop) → Prop := fun σ H Q => ∃ O ρ A h P E, EIn K O σ ρ A h H ∧ (x ρ h).all P E ∧
  (∀ o H' A' h', Up K O A h H A' h' H' → P (o, h') → Q o H') ∧ ExO K W O σ A h H E
structure JO (K : PySem.W.Frag) (W : WX) (X : Cx) (e : Option Expr) (x : XO) : Prop where
  po : X.K = K → PO X e (oOf K W x)
def xoN : XO := fun _ h => .ok (none, h)
def asI : Vl → Option Int
  | .d (.int i) => some i
  | _ => none
def xoS (x : XE) : XO := fun ρ h => (x ρ h).bind fun p => match asI p.1 with
  | some i => .ok (some i, p.2)
  | none => .bad
theorem jo_none : JO K W X none xoN := ⟨fun _ => po_imp po_none fun σ H Q q => by
  obtain ⟨O, ρ, A, h, P, E, I, f, k, kx⟩ := q
  exact k none H A h (.refl I.tb) f⟩
theorem jo_some (h : JE K W X e xa) : JO K W X (some e) (xoS xa) := ⟨fun hK => po_imp (po_some (h.pe hK)) fun σ H Q q => by
  obtain ⟨O, ρ, A, h, P, E, I, f, k, kx⟩ := q
  refine ⟨O, ρ, A, h, _, E, I, Tr.all_bind.1 f, fun v H1 u A1 h1 U1 r1 f1 => ?_, kx⟩
  cases u with
  | c i => exact f1.elim
  | d x =>
    cases r1 with
    | int i => exact ⟨i, rfl, k (some i) H1 A1 h1 U1 f1⟩
    | _ => exact f1.elim⟩
def oSl (lo hi : Option Int) : D → Option D
  | .tup ds => some (.tup (cutL ds lo hi))
  | .lst ds => some (.lst (cutL ds lo hi))
  | .scr ns => some (.lst (cutL (ns.map .int) lo hi))
  | .str l => some (.str (cutL l lo hi))
  | _ => none
def unV (o : D → Option D) : Vl → Option D
  | .d x => o x
  | .c _ => none
def xSl (x : XE) (l u : XO) : XE := fun ρ h => (x ρ h).bind fun p => (l ρ p.2).bind fun q => (u ρ q.2).bind fun r => lift (unV (oSl q.1 r.1) p.1) r.2
theorem je_sl {lo hi : Option Expr} {xl xh : XO} {p2 : Pos} (he : JE K W X e xa) (hl : JO K W X lo xl) (hh : JO K W X hi xh) : JE K W X (.Subscript e (.Slice lo hi none p2) pos) (xSl xa xl xh) := ⟨fun hK => by
  subst hK
  refine pe_imp (pe_slice (SlR.or (SlR.or sl_tupA sl_list) sl_str) (he.pe rfl) (hl.po rfl) (hh.po rfl)) fun σ H Q q => ?_
  obtain ⟨O, ρ, A, h, P, E, I, f, k, kx⟩ := q
  refine ⟨O, ρ, A, h, _, E, I, Tr.all_bind.1 f, fun v H1 u A1 h1 U1 r1 f1 => ?_, kx⟩
  refine ⟨O, ρ, A1, h1, _, E, I.up U1, Tr.all_bind.1 f1, fun lo' H2 A2 h2 U2 f2 => ?_, kx.up U1⟩
  refine ⟨O, ρ, A2, h2, _, E, (I.up U1).up U2, Tr.all_bind.1 f2, fun hi' H3 A3 h3 U3 f3 => ?_, (kx.up U1).up U2⟩
  have U := (U1.trans U2).trans U3
  have r := (r1.mono U2.sm U2.pre).mono U3.sm U3.pre
  obtain ⟨z, e3, p3⟩ := all_lift f3
  cases u with
  | c i => cases e3
  | d x =>
    have o : Out X.K (Ow O A3 h3) H3 (fun w => w = z) Q := fun v H' d e rv p => by subst p; exact k v H' (.d d) A3 h3 (U.trans (.grow U3.tb e)) rv p3
    have hO : ∀ b, Ow O A3 h3 b → H3 b ≠ none := fun b => U3.tb.own_some
    have e3' : oSl lo' hi' x = some z := e3
    cases r with
    | @tup a xs ds h r =>
      cases e3'
      refine .inl (.inl ⟨a, xs, rfl, msk_sqT h, fun hw => ?_, fun _ p hp => o.tup hO (cutV_rp r lo' hi') rfl p hp⟩)
      rw [r.length] at hw
      exact o.ret (.tup h r) (by rw [cutL_whole hw])
    | @lst a xs ds h r => cases e3'; exact .inl (.inr ⟨a, xs, rfl, .inl (.inl (msk_some h).2), fun p hp => o.lst hO (cutV_rp r lo' hi') rfl p hp⟩)
    | @scr a ns h => cases e3'; exact .inl (.inr ⟨a, _, rfl, Same.sqL same_msk h, fun p hp => o.lst hO (cutV_rp (rp_ints ns) lo' hi') rfl p hp⟩)
    | str l hl =>
      cases e3'
      refine .inr ⟨S l, rfl, by rw [S_length]; exact hl, ?_⟩
      rw [cutS_S]
      exact o.str (Nat.le_trans (cutL_len l lo' hi') hl) rfl
    | _ => cases e3'⟩
def xUn (o : D → Option D) (x : XE) : XE := fun ρ h => (x ρ h).bind fun p => lift (unV o p.1) p.2
def oNeg : D → Option D
  | .int i => some (.int (-i))
  | _ => none
def oRev : D → Option D
  | .lst ds => some (.lst ds.reverse)
  | _ => none
theorem je_neg (h : JE K W X a xa) : JE K W X (.UnaryOp .USub a pos) (xUn oNeg xa) := ⟨fun hK => pe_imp (pe_un un_neg (h.pe hK)) fun σ H Q q => by
  obtain ⟨O, ρ, A, h, P, E, I, f, k, kx⟩ := q
  refine ⟨O, ρ, A, h, _, E, I, Tr.all_bind.1 f, fun v H1 u A1 h1 U1 r1 f1 => ?_, kx⟩
  obtain ⟨z, e, p⟩ := all_lift f1
  cases u with
  | c i => cases e
  | d x =>
    have e' : oNeg x = some z := e
    cases r1 with
    | int i => cases e'; exact ⟨i, rfl, k _ H1 (.d _) A1 h1 U1 (.int _) p⟩
    | _ => cases e'⟩
theorem je_revL {k : Nat} {p1 p2 p3 : Pos} (h : JE K W X e xa) : JE K W X (.Subscript e (.Slice none none (some (.UnaryOp .USub (.Constant (.int 1) k p1) p2)) p3) pos) (xUn oRev xa) := ⟨fun hK => by
  subst hK
  refine pe_imp (pe_revL (h.pe rfl)) fun σ H Q q => ?_
  obtain ⟨O, ρ, A, h, P, E, I, f, k, kx⟩ := q
  refine ⟨O, ρ, A, h, _, E, I, Tr.all_bind.1 f, fun v H1 u A1 h1 U1 r1 f1 => ?_, kx⟩
  obtain ⟨z, e, p⟩ := all_lift f1
  cases u with
  | c i => cases e
  | d x =>
    have e' : oRev x = some z := e
    cases r1 with
    | @lst a xs ds h r =>
      cases e'
      refine ⟨a, xs, rfl, .inl (.inl (msk_some h).2), fun q hq => ?_⟩
      have en := same_new (o := .lst xs.reverse) hq
      exact k _ _ (.d _) A1 h1 (U1.trans (.grow U1.tb en)) (.lst (U1.tb.newM hq) (r.reverse.mono (msk_same en))) p
    | _ => cases e'⟩
/-! ### methods of texts -/
def asS : Vl → Option Tx
  | .d (.str s) => some s
  | _ => none
def withS (p : Vl × Hh) (f : Tx → Hh → Tr (Ex × Hh) (Vl × Hh)) : Tr (Ex × Hh) (Vl × Hh) := match asS p.1 with
  | some s => f s p.2
  | none => .bad
theorem all_withS {p : Vl × Hh} {f : Tx → Hh → Tr (Ex × Hh) (Vl × Hh)} {P : Vl × Hh → Prop} {E : Ex × Hh → Prop} (q : (withS p f).all P E) : ∃ s, p.1 = .d (.str s) ∧ (f s p.2).all P E := by
  obtain ⟨u, h⟩ := p
  cases u with
  | c i => exact q.elim
  | d x => cases x <;> first | exact ⟨_, rfl, q⟩ | exact q.elim
def xMeth (o : Tx → D → Option D) (a b : XE) : XE := fun ρ h => (a ρ h).bind fun p => withS p fun s h1 => (b ρ h1).bind fun q => lift (unV (o s) q.1) q.2
def oJoin (a : Tx) (d : D) : Option D := match (match d with | .lst ds => ssOf ds | .tup ds => ssOf ds | _ => none) with
  | some ls => if (ls.map (·.length)).sum + ls.length * a.length ≤ 16777216 then some (.str (TL.joinL a ls)) else none
  | none => none
def oSplit (a : Tx) : D → Option D
  | .str b => if b ≠ [] ∧ b.all (· < 256) = true ∧ a.length + 2 ≤ 16777216 then some (.lst ((TL.spl b 0 [] a).map .str)) else none
  | _ => none
theorem je_join {o e : Expr} {apos pos : Pos} (ho : JE K W X o xa) (he : JE K W X e xb) (hs : starEach [e] X.env = [(false, eval e X.env)] := by rfl) (hbase : attributeBase o "join" X.env (eval o X.env) = eval o X.env := by rfl) (hline : (apos.endLine == pos.line) = true := by rfl) :
    JE K W X (.Call (.Attribute o "join" apos) [e] [] pos) (xMeth oJoin xa xb) := ⟨fun hK => by
  subst hK
  refine pe_imp (pe_join (ho.pe rfl) (he.pe rfl) hs hbase hline) fun σ H Q q => ?_
  obtain ⟨O, ρ, A, h, P, E, I, f, k, kx⟩ := q
  refine ⟨O, ρ, A, h, _, E, I, Tr.all_bind.1 f, fun v H1 u A1 h1 U1 r1 f1 => ?_, kx⟩
  obtain ⟨l, hu, f1⟩ := all_withS f1
  obtain rfl : u = .d (.str l) := hu
  cases r1 with
  | str l hl =>
    refine ⟨⟨S l, rfl⟩, O, ρ, A1, h1, _, E, I.up U1, Tr.all_bind.1 f1, fun w H2 u2 A2 h2 U2 r2 f2 => ?_, kx.up U1⟩
    obtain ⟨z, e2, p2⟩ := all_lift f2
    cases u2 with
    | c i => cases e2
    | d x =>
      have fin : ∀ (a : Addr) (xs : List V) (ds : List D), w = .ref a → RpAll X.K (MM O A2 h2 H2) xs ds → (SqL X.K H2 a xs ∨ SqT X.K H2 a xs) → (match ssOf ds with
          | some ls => if (ls.map (·.length)).sum + ls.length * l.length ≤ 16777216 then some (D.str (TL.joinL l ls)) else none
          | none => none) = some z →
          ∃ b p, ∃ ys : List Str, V.str (S l) = .str b ∧ [w] = [.ref p] ∧ (SqL X.K H2 p (ys.map V.str) ∨ SqT X.K H2 p (ys.map V.str)) ∧ (ys.map (·.length)).sum + ys.length * b.length ≤ 16777216 ∧ Q (.str (Txt.join b ys)) H2 := by
        intro a xs ds ew r hq e2
        subst ew
        cases hs2 : ssOf ds with
        | none => rw [hs2] at e2; cases e2
        | some ls =>
          rw [hs2] at e2
          dsimp only at e2
          split at e2
          · rename_i hz
            cases e2
            rw [ssOf_map hs2] at r
            have ex := RpAll.strs r
            subst ex
            have em : (ls.map fun l => V.str (S l)) = (ls.map S).map V.str := by rw [List.map_map]; rfl
            rw [em] at hq
            have e1 : ((ls.map S).map (·.length)) = ls.map (·.length) := by
              rw [List.map_map]
              exact List.map_congr_left fun l _ => S_length l
            refine ⟨S l, a, ls.map S, rfl, rfl, hq, by rw [e1, List.length_map, S_length]; exact hz, ?_⟩
            rw [join_S]
            exact k _ _ (.d _) A2 h2 (U1.trans U2) (.str _ (Nat.le_trans (joinL_len l ls) (by rw [sizeLine_eq]; exact hz))) p2
          · cases e2
      have e2' : oJoin l x = some z := e2
      cases r2 with
      | @lst a xs ds h r => exact fin a xs ds rfl r (.inl (.inl (.inl (msk_some h).2))) e2'
      | @tup a xs ds h r => exact fin a xs ds rfl r (.inr (Same.sqT same_msk h)) e2'
      | _ => cases e2'⟩
omit [FeedI] [ExI] in
theorem oSplit_some {a b : Tx} {z : D} (e : oSplit a (.str b) = some z) : b ≠ [] ∧ b.all (· < 256) = true ∧ a.length + 2 ≤ 16777216 ∧ z = .lst ((TL.spl b 0 [] a).map .str) := by
  simp only [oSplit] at e
  by_cases c : b ≠ [] ∧ b.all (· < 256) = true ∧ a.length + 2 ≤ 16777216
  · rw [if_pos c] at e; cases e; exact ⟨c.1, c.2.1, c.2.2, rfl⟩
  · rw [if_neg c] at e; cases e
theorem je_split {o e : Expr} {apos pos : Pos} (ho : JE K W X o xa) (he : JE K W X e xb) (hs : starEach [e] X.env = [(false, eval e X.env)] := by rfl) (hbase : attributeBase o "split" X.env (eval o X.env) = eval o X.env := by rfl) (hline : (apos.endLine == pos.line) = true := by rfl) :
    JE K W X (.Call (.Attribute o "split" apos) [e] [] pos) (xMeth oSplit xa xb) := ⟨fun hK => by
  subst hK
  refine pe_imp (pe_split (ho.pe rfl) (he.pe rfl) hs hbase hline) fun σ H Q q => ?_
  obtain ⟨O, ρ, A, h, P, E, I, f, k, kx⟩ := q
  refine ⟨O, ρ, A, h, _, E, I, Tr.all_bind.1 f, fun v H1 u A1 h1 U1 r1 f1 => ?_, kx⟩
  obtain ⟨l, hu, f1⟩ := all_withS f1
  obtain rfl : u = .d (.str l) := hu
  cases r1 with
  | str l hl =>
    refine ⟨⟨S l, rfl⟩, O, ρ, A1, h1, _, E, I.up U1, Tr.all_bind.1 f1, fun w H2 u2 A2 h2 U2 r2 f2 => ?_, kx.up U1⟩
    obtain ⟨z, e2, q4⟩ := all_lift f2
    cases u2 with
    | c i => cases e2
    | d x =>
      have e2' : oSplit l x = some z := e2
      cases r2 with
      | str b hb =>
        obtain ⟨p1, p2, p3, rfl⟩ := oSplit_some e2'
        refine ⟨S l, S b, rfl, rfl, by rw [S_length]; exact beq_eq_false_iff_ne.mpr fun z => p1 (List.length_eq_zero_iff.mp z), by rw [S_length, sizeLine_eq]; exact p3, fun q hq => ?_⟩
        rw [split_S p1 p2, List.map_map]
        have en := same_new (o := .lst ((TL.spl b 0 [] l).map (V.str ∘ S))) hq
        refine k _ _ (.d _) A2 h2 ((U1.trans U2).trans (.grow U2.tb en)) (.lst (U2.tb.newM hq) (RpAll.ofStrs fun z hz => ?_)) q4
        have := spl_len z hz
        simp only [List.length_nil] at this
        omega
      | _ => cases e2'⟩
end
end EL
/-! The layer EL: statements, targets, sources, loops. -/
namespace EL
open PySem PySem.Spec PyProof.Rows L2 DL
section
variable [FeedI] [ExI] {K : PySem.W.Frag} {W : WX} {X : Cx} {pos : Pos} {st : Stmt} {rest : List Stmt} {g h : XS} {e : Expr} {xa : XE} {xs : XA}

/-! ### statements -/
abbrev RS := Tr (Ex × Rho × Hh) (Fl × Rho × Hh)
def xNext : XS := fun ρ h => .ok (.nx, ρ, h)
def xSeq (a b : XS) : XS := fun ρ h => (a ρ h).bind fun p => match p.1 with
  | .nx => b p.2.1 p.2.2
  | f => .ok (f, p.2)
/-- an expression's error at the slots as they stand -/
def atS {α : Type} (ρ : Rho) (t : Tr (Ex × Hh) α) : Tr (Ex × Rho × Hh) α := t.mapE fun e => (e.1, ρ, e.2)
@[simp] theorem atS_ok {α : Type} {ρ : Rho} {a : α} : atS ρ (.ok a) = .ok a := (rfl)
@[simp] theorem atS_bad {α : Type} {ρ : Rho} : atS ρ (.bad : Tr (Ex × Hh) α) = .bad := (rfl)
@[simp] theorem atS_ex {α : Type} {ρ : Rho} {e : Ex × Hh} : atS ρ (.ex e : Tr (Ex × Hh) α) = .ex (e.1, ρ, e.2) := (rfl)
theorem jss_nil : JSs K W X [] xNext := ⟨fun hK => pss_imp pss_nil fun D σ H q => by
  obtain ⟨O, ρ, A, h, P, E, I, f, k, kx⟩ := q
  exact k .nx σ H ρ A h (.refl I.tb) I.sl f⟩
theorem jss_cons (h1 : JS K W X st g) (h2 : JSs K W X rest h) : JSs K W X (st :: rest) (xSeq g h) := ⟨fun hK => pss_imp (pss_cons (h1.ps hK) (h2.ps hK)) fun D σ H q => by
  obtain ⟨O, ρ, A, h0, P, E, I, f, k, kx⟩ := q
  refine ⟨O, ρ, A, h0, _, E, I, Tr.all_bind.1 f, fun fl σ1 H1 ρ1 A1 h1 U1 s1 f1 => ?_, kx⟩
  cases fl with
  | nx =>
    refine ⟨O, ρ1, A1, h1, P, E, ⟨s1, U1.tb⟩, f1, fun fl σ2 H2 ρ2 A2 h2 U2 s2 f2 => ?_, fun cls d σ' H' e ρ' A' h' U' s' r q => kx cls d σ' H' e ρ' A' h' (U1.trans U') s' r q⟩
    exact k fl σ2 H2 ρ2 A2 h2 (U1.trans U2) s2 f2
  | rt v => exact k (.rt v) σ1 H1 ρ1 A1 h1 U1 s1 f1
  | bk => exact k .bk σ1 H1 ρ1 A1 h1 U1 s1 f1
  | ct => exact k .ct σ1 H1 ρ1 A1 h1 U1 s1 f1⟩
theorem jss_one (h1 : JS K W X st g) : JSs K W X [st] g := ⟨fun hK => pss_one (h1.ps hK)⟩
/-- a slot is forgotten -/
def fgt (ρ : Rho) : List Nat → Rho
  | [] => ρ
  | i :: is => (fgt ρ is).set i none
omit [FeedI] [ExI] in
theorem fgt_len (ρ : Rho) : ∀ is, (fgt ρ is).length = ρ.length
  | [] => rfl
  | i :: is => by unfold fgt; rw [List.length_set, fgt_len ρ is]
omit [FeedI] [ExI] in
theorem fgt_some {ρ : Rho} {j : Nat} {v : Vl} : ∀ {is : List Nat}, (fgt ρ is)[j]? = some (some v) → ρ[j]? = some (some v) ∧ j ∉ is
  | [], e => ⟨e, by simp⟩
  | i :: is, e => by
    unfold fgt at e
    by_cases q : i = j
    · subst q
      rw [List.getElem?_set] at e
      simp only [if_true] at e
      split at e <;> cases e
    · rw [List.getElem?_set_ne q] at e
      obtain ⟨e1, e2⟩ := fgt_some e
      exact ⟨e1, fun z => (List.mem_cons.mp z).elim (fun z => q z.symm) e2⟩
omit [FeedI] [ExI] in
theorem SlotR.fgt {m : Hp} {A : List Addr} {σ : St} {ρ : Rho} (r : SlotR K m A σ ρ) (is : List Nat) : SlotR K m A σ (EL.fgt ρ is) := ⟨by rw [fgt_len]; exact r.len, fun i v e => r.slot i v (fgt_some e).1⟩
def xFgt (is : List Nat) (g : XS) : XS := fun ρ h => g (fgt ρ is) h
theorem jss_fgt {sts : List Stmt} (is : List Nat) (h : JSs K W X sts g) : JSs K W X sts (xFgt is g) := ⟨fun hK => pss_imp (h.ps hK) fun D σ H q => by
  obtain ⟨O, ρ, A, h0, P, E, I, f, k, kx⟩ := q
  exact ⟨O, fgt ρ is, A, h0, P, E, ⟨I.sl.fgt is, I.tb⟩, f, k, kx⟩⟩
def xNever : XS := fun _ _ => .bad
theorem js_never : JS K W X st xNever := ⟨fun hK => ps_imp (t := tNever) ps_never fun D σ H q => by obtain ⟨O, ρ, A, h0, P, E, I, f, _⟩ := q; exact f⟩
theorem js_pass : JS K W X (.Pass pos) xNext := ⟨fun hK => ps_imp ps_pass fun D σ H q => by
  obtain ⟨O, ρ, A, h, P, E, I, f, k, kx⟩ := q
  exact k .nx σ H ρ A h (.refl I.tb) I.sl f⟩
theorem js_doc {x : Str} {j} {p p' : Pos} : JS K W X (.Expr (.Constant (.str x) j p) p') xNext := ⟨fun hK => ps_imp ps_doc fun D σ H q => by
  obtain ⟨O, ρ, A, h, P, E, I, f, k, kx⟩ := q
  exact k .nx σ H ρ A h (.refl I.tb) I.sl f⟩
def xBreak : XS := fun ρ h => .ok (.bk, ρ, h)
def xCont : XS := fun ρ h => .ok (.ct, ρ, h)
theorem js_break : JS K W X (.Break pos) xBreak := ⟨fun hK => ps_imp ps_break fun D σ H q => by
  obtain ⟨O, ρ, A, h, P, E, I, f, k, kx⟩ := q
  exact k .bk σ H ρ A h (.refl I.tb) I.sl f⟩
theorem js_continue : JS K W X (.Continue pos) xCont := ⟨fun hK => ps_imp ps_continue fun D σ H q => by
  obtain ⟨O, ρ, A, h, P, E, I, f, k, kx⟩ := q
  exact k .ct σ H ρ A h (.refl I.tb) I.sl f⟩
/-- an expression's error, at a statement -/
theorem exS {O : Addr → Prop} {σ : St} {ρ : Rho} {A : List Addr} {h : Hh} {H : Hp} {E : Ex × Rho × Hh → Prop} (s : SlotR K (MM O A h H) A σ ρ)
    (kx : ∀ cls d σ' H' e ρ' A' h', Up K O A h H A' h' H' → SlotR K (MM O A' h' H') A' σ' ρ' → ExI.ExR K (MM O A' h' H') cls d e → E (e, ρ', h') → W cls d σ' H') : ExO K W O σ A h H fun e => E (e.1, ρ, e.2) :=
  fun cls d H' e A' h' U r q => kx cls d σ H' e ρ A' h' U (s.mono U.sm U.pre) r q
def xRet (x : XE) : XS := fun ρ h => (atS ρ (x ρ h)).bind fun p => .ok (.rt p.1, ρ, p.2)
theorem js_ret (he : JE K W X e xa) : JS K W X (.Return (some e) pos) (xRet xa) := ⟨fun hK => ps_imp (ps_ret (he.pe hK)) fun D σ H q => by
  obtain ⟨O, ρ, A, h, P, E, I, f, k, kx⟩ := q
  refine ⟨O, ρ, A, h, _, _, I, Tr.all_mapE.1 (Tr.all_bind.1 f), fun v H1 u A1 h1 U1 r1 f1 => ?_, exS I.sl kx⟩
  exact k (.rt u) σ H1 ρ A1 h1 U1 (I.sl.mono U1.sm U1.pre) f1 v r1⟩
def xRetN : XS := fun ρ h => .ok (.rt (.d .non), ρ, h)
theorem js_retN : JS K W X (.Return none pos) xRetN := ⟨fun hK => ps_imp ps_retN fun D σ H q => by
  obtain ⟨O, ρ, A, h, P, E, I, f, k, kx⟩ := q
  exact k (.rt (.d .non)) σ H ρ A h (.refl I.tb) I.sl f .non .non⟩
def xDrop (x : XE) : XS := fun ρ h => (atS ρ (x ρ h)).bind fun p => .ok (.nx, ρ, p.2)
theorem js_expr (he : JE K W X e xa) (hs : swapsWith e none pos.line X.env = pure false := by rfl) : JS K W X (.Expr e pos) (xDrop xa) := ⟨fun hK => ps_imp (ps_expr (he.pe hK) hs) fun D σ H q => by
  obtain ⟨O, ρ, A, h, P, E, I, f, k, kx⟩ := q
  refine ⟨O, ρ, A, h, _, _, I, Tr.all_mapE.1 (Tr.all_bind.1 f), fun v H1 u A1 h1 U1 r1 f1 => ?_, exS I.sl kx⟩
  exact k .nx σ H1 ρ A1 h1 U1 (I.sl.mono U1.sm U1.pre) f1⟩
def xIfS (t : XT) (g h : XS) : XS := fun ρ h0 => (atS ρ (t ρ h0)).bind fun p => if p.1 = true then g ρ p.2 else h ρ p.2
theorem js_if {t : Expr} {a b : List Stmt} {x : XT} (ht : JT K W X t x) (ha : JSs K W X a g) (hb : JSs K W X b h) : JS K W X (.If t a b pos) (xIfS x g h) := ⟨fun hK => ps_imp (ps_if (ht.pt hK) (ha.ps hK) (hb.ps hK)) fun D σ H q => by
  obtain ⟨O, ρ, A, h, P, E, I, f, k, kx⟩ := q
  refine ⟨O, ρ, A, h, _, _, I, Tr.all_mapE.1 (Tr.all_bind.1 f), fun b H1 A1 h1 U1 f1 => ?_, exS I.sl kx⟩
  cases b <;> exact ⟨O, ρ, A1, h1, P, E, I.up U1, f1, fun fl σ2 H2 ρ2 A2 h2 U2 s2 f2 => k fl σ2 H2 ρ2 A2 h2 (U1.trans U2) s2 f2, fun cls d σ' H' e ρ' A' h' U' s' r q => kx cls d σ' H' e ρ' A' h' (U1.trans U') s' r q⟩⟩
/-! ### stores -/
omit [FeedI] [ExI] in
theorem SlotR.set {m : Hp} {A : List Addr} {σ : St} {ρ : Rho} (s : SlotR K m A σ ρ) (i : Nat) {v : V} {u : Vl} (r : VlR K m A v u) : SlotR K m A (σ.set i (some v)) (ρ.set i (some u)) := by
  refine ⟨by rw [List.length_set, List.length_set, s.len], fun j w e => ?_⟩
  by_cases q : i = j
  · subst q
    rw [List.getElem?_set] at e
    simp only [if_true] at e
    split at e
    · rename_i hi
      cases e
      exact ⟨v, by rw [List.getElem?_set_self (by rw [← s.len]; exact hi)], r⟩
    · cases e
  · rw [List.getElem?_set_ne q] at e ⊢
    exact s.slot j w e
def xSet (i : Nat) (x : XE) : XS := fun ρ h => (atS ρ (x ρ h)).bind fun p => .ok (.nx, ρ.set i (some p.1), p.2)
theorem js_set {x : Str} {pos' : Pos} (i : Nat) (hN : X.N.Nodup) (he : JE K W X e xa) (hi : X.N[i]? = some x := by rfl) (hx : Loc X.env.scope x := by first | exact Or.inl rfl | exact Or.inr rfl) (hs : swapsWith e (some (.Name x pos')) pos.line X.env = pure false := by rfl)
    (hf : X.fn x = true ∨ X.env.scope.names.lookup x = some .local := by first | exact .inl rfl | exact .inr rfl) : JS K W X (.Assign [.Name x pos'] e pos) (xSet i xa) := ⟨fun hK => ps_imp (L2.ps_set hN hi hx (he.pe hK) hs hf) fun D σ H q => by
  obtain ⟨O, ρ, A, h, P, E, I, f, k, kx⟩ := q
  refine ⟨O, ρ, A, h, _, _, I, Tr.all_mapE.1 (Tr.all_bind.1 f), fun v H1 u A1 h1 U1 r1 f1 => ?_, exS I.sl kx⟩
  exact k .nx _ H1 _ A1 h1 U1 ((I.sl.mono U1.sm U1.pre).set i r1) f1⟩
/-! targets -/
abbrev XG := D → Rho → Option Rho
abbrev XGs := List D → Rho → Option Rho
/-- a target's way, at the heap m of the shared -/
def gOf (K : PySem.W.Frag) (vs : List Nat) (x : XG) : TG := fun v σ H Q => ∃ m A ρ d ρ', Same m H ∧ SlotR K m A σ ρ ∧ Rp K m v d ∧ x d ρ = some ρ' ∧ ∀ σ', SlotR K m A σ' ρ' → OffEq vs σ σ' → Q σ' H
def gsOf (K : PySem.W.Frag) (vs : List Nat) (x : XGs) : TGs := fun ws σ H Q => ∃ m A ρ ds ρ', Same m H ∧ SlotR K m A σ ρ ∧ RpAll K m ws ds ∧ x ds ρ = some ρ' ∧ ∀ σ', SlotR K m A σ' ρ' → OffEq vs σ σ' → Q σ' H
structure JG (K : PySem.W.Frag) (X : Cx) (tg : Expr) (vs : List Nat) (x : XG) : Prop where
  pg : X.K = K → PG X tg (gOf K vs x)
structure JGs (K : PySem.W.Frag) (X : Cx) (tg : List Expr) (vs : List Nat) (x : XGs) : Prop where
  pg : X.K = K → PGs X tg (gsOf K vs x)
def xgN (i : Nat) : XG := fun d ρ => some (ρ.set i (some (.d d)))
theorem jg_name {x : Str} (i : Nat) (hN : X.N.Nodup) (hi : X.N[i]? = some x := by rfl) (hx : Loc X.env.scope x := by first | exact Or.inl rfl | exact Or.inr rfl) (hf : X.fn x = true ∨ X.env.scope.names.lookup x = some .local := by first | exact .inl rfl | exact .inr rfl) : JG K X (.Name x pos) [i] (xgN i) :=
  ⟨fun hK => pg_imp (pg_name hN hi hx hf) fun v σ H Q q => by
    obtain ⟨m, A, ρ, d, ρ', sm, s0, r, f, k⟩ := q
    cases f
    exact k _ (s0.set i (u := .d d) r) ⟨List.length_set .., fun j hj => by rw [List.getElem?_set_ne]; rintro rfl; simp at hj⟩⟩
def xgNil : XGs := fun ds ρ => match ds with
  | [] => some ρ
  | _ => none
def xgCons (g : XG) (gs : XGs) : XGs := fun ds ρ => match ds with
  | d :: ds => (g d ρ).bind (gs ds)
  | [] => none
theorem jgs_nil : JGs K X [] [] xgNil := ⟨fun hK => pgs_imp pgs_nil fun ws σ H Q q => by
  obtain ⟨m, A, ρ, ds, ρ', sm, s0, r, f, k⟩ := q
  cases r with
  | nil => cases f; exact ⟨rfl, k σ s0 .refl⟩
  | cons _ _ => cases f⟩
theorem jgs_cons {es : List Expr} {vs ws : List Nat} {x : XG} {xs : XGs} (h1 : JG K X e vs x) (h2 : JGs K X es ws xs) (hs : (assignEach (e :: es) X.env).map (·.2) = assign e X.env :: (assignEach es X.env).map (·.2) := by rfl) : JGs K X (e :: es) (vs ++ ws) (xgCons x xs) :=
  ⟨fun hK => pgs_imp (pgs_cons (h1.pg hK) (h2.pg hK) hs) fun us σ H Q q => by
    obtain ⟨m, A, ρ, ds, ρ', sm, s0, r, f, k⟩ := q
    cases r with
    | nil => cases f
    | @cons v vs' d ds' r rr =>
      obtain ⟨ρ1, f1, f2⟩ := Option.bind_eq_some_iff.mp f
      exact ⟨v, vs', rfl, m, A, ρ, d, ρ1, sm, s0, r, f1, fun σ1 s1 o1 => ⟨m, A, ρ1, ds', ρ', sm, s1, rr, f2, fun σ2 s2 o2 => k σ2 s2 (o1.trans o2)⟩⟩⟩
def xgTup (n : Nat) (gs : XGs) : XG := fun d ρ => match d with
  | .tup ds => if ds.length = n then gs ds ρ else none
  | _ => none
theorem jg_tup {es : List Expr} {k n : Nat} {vs : List Nat} {xs : XGs} (hc : X.calm = true) (h : JGs K X es vs xs) (hn : (assignEach es X.env).length = n := by rfl) (hst : (assignEach es X.env).findIdx? (·.1) = none := by rfl) : JG K X (.Tuple es k pos) vs (xgTup n xs) := ⟨fun hK => by
  subst hK
  refine pg_imp (pg_tup hc (h.pg rfl) hn hst) fun v σ H Q q => ?_
  obtain ⟨m, A, ρ, d, ρ', sm, s0, r, f, k⟩ := q
  cases r with
  | @tup a ws ds h1 h2 =>
    have f' : (if ds.length = n then xs ds ρ else none) = some ρ' := f
    split at f'
    · rename_i hl
      exact ⟨a, ws, rfl, Same.sqT sm h1, h2.length.trans hl, m, A, ρ, ds, ρ', sm, s0, h2, f', k⟩
    · cases f'
  | _ => cases f⟩
def xgLst (n : Nat) (gs : XGs) : XG := fun d ρ => match d with
  | .lst ds => if ds.length = n then gs ds ρ else none
  | _ => none
theorem jg_lst {es : List Expr} {k n : Nat} {vs : List Nat} {xs : XGs} (hc : X.calm = true) (h : JGs K X es vs xs) (hn : (assignEach es X.env).length = n := by rfl) (hst : (assignEach es X.env).findIdx? (·.1) = none := by rfl) : JG K X (.Tuple es k pos) vs (xgLst n xs) := ⟨fun hK => by
  subst hK
  refine pg_imp (pg_lst hc (h.pg rfl) hn hst) fun v σ H Q q => ?_
  obtain ⟨m, A, ρ, d, ρ', sm, s0, r, f, k⟩ := q
  cases r with
  | @lst a ws ds h1 h2 =>
    have f' : (if ds.length = n then xs ds ρ else none) = some ρ' := f
    split at f'
    · rename_i hl
      exact ⟨a, ws, rfl, .inl (.inl (sm _ _ h1)), h2.length.trans hl, m, A, ρ, ds, ρ', sm, s0, h2, f', k⟩
    · cases f'
  | _ => cases f⟩
def unD : Vl → Option D
  | .d x => some x
  | .c _ => none
def goS (o : Option Rho) (h : Hh) : RS := match o with
  | some ρ => .ok (.nx, ρ, h)
  | none => .bad
def xAsg (x : XE) (g : XG) : XS := fun ρ h => (atS ρ (x ρ h)).bind fun p => goS ((unD p.1).bind fun d => g d ρ) p.2
theorem all_goS {o : Option Rho} {h : Hh} {P : Fl × Rho × Hh → Prop} {E : Ex × Rho × Hh → Prop} (f : (goS o h).all P E) : ∃ ρ, o = some ρ ∧ P (.nx, ρ, h) := by
  cases o with
  | none => exact f.elim
  | some ρ => exact ⟨ρ, rfl, f⟩
omit [FeedI] [ExI] in
theorem same_mH {O : Addr → Prop} {A : List Addr} {h : Hh} {H : Hp} : Same (MM O A h H) H := same_msk
theorem js_asg {tg : Expr} {vs : List Nat} {xg : XG} (he : JE K W X e xa) (hg : JG K X tg vs xg) (hs : swapsWithSole [tg] e pos.line X.env = pure false := by rfl) (hw : swappedStores [tg] e X.env = pure none := by rfl)
    (h1 : (assignEach [tg] X.env).map (·.2) = [assign tg X.env] := by rfl) : JS K W X (.Assign [tg] e pos) (xAsg xa xg) := ⟨fun hK => ps_imp (ps_asg (he.pe hK) (hg.pg hK) hs hw h1) fun D σ H q => by
  obtain ⟨O, ρ, A, h, P, E, I, f, k, kx⟩ := q
  refine ⟨O, ρ, A, h, _, _, I, Tr.all_mapE.1 (Tr.all_bind.1 f), fun v H1 u A1 h1 U1 r1 f1 => ?_, exS I.sl kx⟩
  obtain ⟨ρ', e1, p⟩ := all_goS f1
  obtain ⟨d, e2, e3⟩ := Option.bind_eq_some_iff.mp e1
  cases u with
  | c i => cases e2
  | d x =>
    have e2' := Option.some.inj e2
    subst e2'
    exact ⟨_, A1, ρ, x, ρ', same_mH, I.sl.mono U1.sm U1.pre, r1, e3, fun σ' s' _ => k .nx σ' H1 ρ' A1 h1 U1 s' p⟩⟩
/-- a, b = e, f -/
def par2 (i j : Nat) (ρ : Rho) : List Vl → Option Rho
  | [u, v] => some ((ρ.set i (some u)).set j (some v))
  | _ => none
def xPar (i j : Nat) (fs : XA) : XS := fun ρ h => (atS ρ (fs ρ h)).bind fun p => goS (par2 i j ρ p.1) p.2
theorem js_par {x y : Str} {a b : Expr} {px py pt : Pos} {kt k2 pt2} (i j : Nat) (hc : X.calm = true) (hN : X.N.Nodup) (ha : JA K W X [a, b] xs) (hij : i ≠ j := by decide) (hi : X.N[i]? = some x := by rfl) (hj : X.N[j]? = some y := by rfl)
    (hx : X.env.scope.names.lookup x = some .local := by rfl) (hy : X.env.scope.names.lookup y = some .local := by rfl)
    (hw : swappedStores [.Tuple [.Name x px, .Name y py] kt pt] (.Tuple [a, b] k2 pt2) X.env = pure (some [x, y]) := by rfl)
    (hs : swapsWithSole [.Tuple [.Name x px, .Name y py] kt pt] (.Tuple [a, b] k2 pt2) pos.line X.env = pure false := by rfl) :
    JS K W X (.Assign [.Tuple [.Name x px, .Name y py] kt pt] (.Tuple [a, b] k2 pt2) pos) (xPar i j xs) := ⟨fun hK => ps_imp (ps_par hc hN hi hj hij hx hy (ha.pa hK) hw hs) fun D σ H q => by
  obtain ⟨O, ρ, A, h, P, E, I, f, k, kx⟩ := q
  refine ⟨O, ρ, A, h, _, _, I, Tr.all_mapE.1 (Tr.all_bind.1 f), fun vs H1 us A1 h1 U1 r1 f1 => ?_, exS I.sl kx⟩
  obtain ⟨ρ', e1, p⟩ := all_goS f1
  rcases us with _ | ⟨u, _ | ⟨u', _ | ⟨u3, us⟩⟩⟩ <;> first | (exfalso; cases e1; done) | skip
  rcases vs with _ | ⟨v, _ | ⟨w, _ | ⟨v3, vs⟩⟩⟩ <;> first | (exfalso; first | exact r1.elim | exact r1.2.elim | exact r1.2.2.elim) | skip
  · obtain ⟨r, r', _⟩ := r1
    cases e1
    exact ⟨v, w, rfl, k .nx _ H1 _ A1 h1 U1 (((I.sl.mono U1.sm U1.pre).set i r).set j r') p⟩⟩
def par3 (i j l : Nat) (ρ : Rho) : List Vl → Option Rho
  | [u, v, w] => some (((ρ.set i (some u)).set j (some v)).set l (some w))
  | _ => none
def xPar3 (i j l : Nat) (fs : XA) : XS := fun ρ h => (atS ρ (fs ρ h)).bind fun p => goS (par3 i j l ρ p.1) p.2
theorem js_par3 {x y z : Str} {a b d : Expr} {px py pz pt : Pos} {kt k2 pt2} (i j l : Nat) (hc : X.calm = true) (hN : X.N.Nodup) (ha : JA K W X [a, b, d] xs) (hij : i ≠ j := by decide) (hil : i ≠ l := by decide) (hjl : j ≠ l := by decide) (hi : X.N[i]? = some x := by rfl) (hj : X.N[j]? = some y := by rfl) (hl : X.N[l]? = some z := by rfl)
    (hx : X.env.scope.names.lookup x = some .local := by rfl) (hy : X.env.scope.names.lookup y = some .local := by rfl) (hz : X.env.scope.names.lookup z = some .local := by rfl)
    (hw : swappedStores [.Tuple [.Name x px, .Name y py, .Name z pz] kt pt] (.Tuple [a, b, d] k2 pt2) X.env = pure (some [x, y, z]) := by rfl)
    (hs : swapsWithSole [.Tuple [.Name x px, .Name y py, .Name z pz] kt pt] (.Tuple [a, b, d] k2 pt2) pos.line X.env = pure false := by rfl) :
    JS K W X (.Assign [.Tuple [.Name x px, .Name y py, .Name z pz] kt pt] (.Tuple [a, b, d] k2 pt2) pos) (xPar3 i j l xs) := ⟨fun hK => ps_imp (ps_par3 hc hN hi hj hl hij hil hjl hx hy hz (ha.pa hK) hw hs) fun D σ H q => by
  obtain ⟨O, ρ, A, h, P, E, I, f, k, kx⟩ := q
  refine ⟨O, ρ, A, h, _, _, I, Tr.all_mapE.1 (Tr.all_bind.1 f), fun vs H1 us A1 h1 U1 r1 f1 => ?_, exS I.sl kx⟩
  obtain ⟨ρ', e1, p⟩ := all_goS f1
  rcases us with _ | ⟨u, _ | ⟨u', _ | ⟨u3, _ | ⟨u4, us⟩⟩⟩⟩ <;> first | (exfalso; cases e1; done) | skip
  rcases vs with _ | ⟨v, _ | ⟨w, _ | ⟨v3, _ | ⟨v4, vs⟩⟩⟩⟩ <;> first | (exfalso; first | exact r1.elim | exact r1.2.elim | exact r1.2.2.elim | exact r1.2.2.2.elim) | skip
  · obtain ⟨r, r', r3, _⟩ := r1
    cases e1
    exact ⟨v, w, v3, rfl, k .nx _ H1 _ A1 h1 U1 ((((I.sl.mono U1.sm U1.pre).set i r).set j r').set l r3) p⟩⟩
/-- a name op= e -/
def bin0 (o : D → D → Option D) : Vl → Vl → Option D
  | .d x, .d y => o x y
  | _, _ => none
def xAug (i : Nat) (o : D → D → Option D) (x : XE) : XS := fun ρ h => match ρ[i]? with
  | some (some v) => (atS ρ (x ρ h)).bind fun p => match bin0 o v p.1 with
    | some z => .ok (.nx, ρ.set i (some (.d z)), p.2)
    | none => .bad
  | _ => .bad
theorem js_aug {x : Str} {pos' : Pos} {op : Operator} {o : D → D → Option D} (i : Nat) (hN : X.N.Nodup) (ho : JOp K X (inplaceOp op) o) (he : JE K W X e xa) (hi : X.N[i]? = some x := by rfl) (hx : Loc X.env.scope x := by first | exact Or.inl rfl | exact Or.inr rfl)
    (hf : X.fn x = true ∨ X.env.scope.names.lookup x = some .local := by first | exact .inl rfl | exact .inr rfl) : JS K W X (.AugAssign (.Name x pos') op e pos) (xAug i o xa) := ⟨fun hK => by
  obtain ⟨g, ⟨r, h1, h2⟩, hg⟩ := ho
  refine ps_imp (L2.ps_aug (ti := r) hN hi hx (he.pe hK) (fun pins s σ H x y v u Q I rx ry q => h1 pins s σ H x y v u Q I rx ry q) hf) fun D σ H q => ?_
  obtain ⟨O, ρ, A, h, P, E, I, f, k, kx⟩ := q
  unfold xAug at f
  cases e1 : ρ[i]? with
  | none => rw [e1] at f; exact f.elim
  | some sl =>
    rw [e1] at f
    cases sl with
    | none => exact f.elim
    | some u0 =>
      obtain ⟨v, q1, q2⟩ := I.sl.slot i _ e1
      refine ⟨v, q1, O, ρ, A, h, _, _, I, Tr.all_mapE.1 (Tr.all_bind.1 f), fun y H1 u A1 h1 U1 r1 f1 => ?_, exS I.sl kx⟩
      cases u0 with
      | c j => cases u <;> exact f1.elim
      | d dx =>
        cases u with
        | c j => exact f1.elim
        | d dy =>
          cases ez : o dx dy with
          | none => have f2 : (match o dx dy with | some z => (Tr.ok (.nx, ρ.set i (some (.d z)), h1) : RS) | none => .bad).all P E := f1; rw [ez] at f2; exact f2.elim
          | some z =>
            have f2 : (match o dx dy with | some z => (Tr.ok (.nx, ρ.set i (some (.d z)), h1) : RS) | none => .bad).all P E := f1
            rw [ez] at f2
            refine h2 hK (Ow O A1 h1) H1 v y dx dy _ _ (fun b => U1.tb.own_some) (Rp.mono U1.sm q2) r1 (hg _ _ _ ez) fun w H2 d sm rw' q => ?_
            subst q
            have U2 := U1.trans (.grow U1.tb sm)
            exact k .nx _ H2 _ A1 h1 U2 ((I.sl.mono U2.sm U2.pre).set i (u := .d d) rw') f2⟩
end
end EL
/-! The layer EL: what is walked, loops. -/
namespace EL
open PySem PySem.Spec PyProof.Rows L2 DL

/-! ### trimming -/
def noRef (n : Nat) : Rho → Bool
  | [] => true
  | some (.c j) :: ρ => decide (j < n) && noRef n ρ
  | _ :: ρ => noRef n ρ
def trim (n : Nat) (ρ : Rho) (h : Hh) : Hh := if h.length ≤ n then h else if noRef n ρ then h.take n else h
theorem noRef_at {n : Nat} : ∀ {ρ : Rho} {i j : Nat}, noRef n ρ = true → ρ[i]? = some (some (.c j)) → j < n
  | [], _, _, _, e => by cases e
  | v :: ρ, 0, j, h, e => by
    cases e
    exact of_decide_eq_true (Bool.and_eq_true_iff.mp h).1
  | v :: ρ, i + 1, j, h, e => by
    refine noRef_at (ρ := ρ) (i := i) (j := j) ?_ (by simpa using e)
    match v, h with
    | none, h => exact h
    | some (.d _), h => exact h
    | some (.c _), h => exact (Bool.and_eq_true_iff.mp h).2
section
variable [FeedI] {K : PySem.W.Frag} {O : Addr → Prop} {A A' : List Addr} {h h' : Hh} {H H' : Hp} {σ : St} {ρ : Rho}
theorem TbR.take (t : TbR K O A h H) (n : Nat) : TbR K O (A.take n) (h.take n) H ∧ Same (MM O A h H) (MM O (A.take n) (h.take n) H) := by
  have g1 : ∀ {i : Nat} {c : Cell}, (h.take n)[i]? = some c → h[i]? = some c := fun {i c} e => by
    rw [List.getElem?_take] at e
    split at e
    · exact e
    · cases e
  have g2 : ∀ {i : Nat} {a : Addr}, (A.take n)[i]? = some a → A[i]? = some a := fun {i c} e => by
    rw [List.getElem?_take] at e
    split at e
    · exact e
    · cases e
  have sm : Same (MM O A h H) (MM O (A.take n) (h.take n) H) := msk_le fun b z => z.imp id fun ⟨i, c, h1, h2, h3⟩ => ⟨i, c, g1 h1, h2, g2 h3⟩
  refine ⟨⟨by rw [List.length_take, List.length_take, t.len], fun i c a h1 h2 => (t.cell i c a (g1 h1) (g2 h2)).mono sm fun _ o z => z, fun i j c e a h1 h2 l1 l2 e1 e2 => t.inj i j c e a (g1 h1) (g1 h2) l1 l2 (g2 e1) (g2 e2), fun i c a h1 l e => t.dis i c a (g1 h1) l (g2 e), t.dom⟩, sm⟩
/-- back to the cells at the entry -/
theorem trim_ok (t : TbR K O A h H) (u : Up K O A h H A' h' H') (s : SlotR K (MM O A' h' H') A' σ ρ) : ∃ A2, Up K O A h H A2 (trim h.length ρ h') H' ∧ SlotR K (MM O A2 (trim h.length ρ h') H') A2 σ ρ := by
  unfold trim
  split
  · exact ⟨A', u, s⟩
  · split
    · rename_i _ hn
      obtain ⟨t1, t2⟩ := u.tb.take h.length
      obtain ⟨x, e⟩ := u.pre
      have eA : A'.take h.length = A := by rw [e, ← t.len]; exact List.take_left
      refine ⟨A'.take h.length, ⟨t1, ⟨[], by rw [eA]; simp⟩, u.sm.trans t2, u.oo⟩, s.len, fun i v ev => ?_⟩
      obtain ⟨w, e1, e2⟩ := s.slot i v ev
      refine ⟨w, e1, ?_⟩
      cases v with
      | d d => exact Rp.mono t2 e2
      | c j =>
        obtain ⟨a, q1, q2⟩ := e2
        exact ⟨a, by rw [List.getElem?_take, if_pos (noRef_at hn ev)]; exact q1, q2⟩
    · exact ⟨A', u, s⟩
end

/-! ### what is walked -/
abbrev XI := Rho → Hh → Tr (Ex × Hh) (List D × Hh)
section
variable [FeedI] [ExI] {K : PySem.W.Frag} {W : WX} {X : Cx} {pos : Pos} {e tg iter : Expr} {es : List Expr} {xa : XE} {xs : XA}
def iOf (K : PySem.W.Frag) (W : WX) (x : XI) : TI := fun σ H R => ∃ O ρ A h P E, EIn K O σ ρ A h H ∧ (x ρ h).all P E ∧
  (∀ J H' ds A' h', Up K O A h H A' h' H' → Yl K J (MM O A' h' H') ds → P (ds, h') → R J H') ∧ ExO K W O σ A h H E
structure JI (K : PySem.W.Frag) (W : WX) (X : Cx) (tg iter : Expr) (x : XI) : Prop where
  pi : X.K = K → PI X tg iter (iOf K W x)
def liftI (o : Option (List D)) (h : Hh) : Tr (Ex × Hh) (List D × Hh) := match o with
  | some z => .ok (z, h)
  | none => .bad
theorem all_liftI {o : Option (List D)} {h : Hh} {P : List D × Hh → Prop} {E : Ex × Hh → Prop} (f : (liftI o h).all P E) : ∃ z, o = some z ∧ P (z, h) := by
  cases o with
  | none => exact f.elim
  | some z => exact ⟨z, rfl, f⟩
def asSq : Vl → Option (List D)
  | .d (.tup ds) => some ds
  | .d (.lst ds) => some ds
  | .d (.str l) => some (l.map chD)
  | _ => none
def xSq (x : XE) : XI := fun ρ h => (x ρ h).bind fun p => liftI (asSq p.1) p.2
theorem ji_seq (h : JE K W X e xa) : JI K W X tg e (xSq xa) := ⟨fun hK => by
  subst hK
  refine pi_imp (pi_seq (h.pe rfl)) fun σ H R q => ?_
  obtain ⟨O, ρ, A, h, P, E, I, f, k, kx⟩ := q
  refine ⟨O, ρ, A, h, _, E, I, Tr.all_bind.1 f, fun v H1 u A1 h1 U1 r1 f1 => ?_, kx⟩
  obtain ⟨z, e, p⟩ := all_liftI f1
  cases u with
  | c i => cases e
  | d x =>
    cases r1 with
    | @lst a xs ds h2 r => cases e; exact .inl ⟨a, xs, rfl, .inl (.inl (msk_some h2).2), k _ H1 _ A1 h1 U1 (yl_seqL h2 r) p⟩
    | @tup a xs ds h2 r => cases e; exact .inr (.inl ⟨a, xs, rfl, Same.sqT same_msk h2, k _ H1 _ A1 h1 U1 (yl_seqT h2 r) p⟩)
    | str l hl => cases e; exact .inr (.inr ⟨S l, rfl, k _ H1 _ A1 h1 U1 (yl_str l) p⟩)
    | _ => cases e⟩
def oRng1 : List D → Option (List D)
  | [.int j] => if -4611686018427387904 ≤ j ∧ j < 4611686018427387904 then some (rngD 0 1 j.toNat) else none
  | _ => none
def oRng2 : List D → Option (List D)
  | [.int i, .int j] => if -4611686018427387904 ≤ i ∧ i < 4611686018427387904 ∧ -4611686018427387904 ≤ j ∧ j < 4611686018427387904 then some (rngD i 1 (j - i).toNat) else none
  | _ => none
def xAI (o : List D → Option (List D)) (as : XA) : XI := fun ρ h => (as ρ h).bind fun p => liftI ((allD p.1).bind o) p.2
theorem all_xAI {o : List D → Option (List D)} {us : List Vl} {h : Hh} {P : List D × Hh → Prop} {E : Ex × Hh → Prop} (f : (liftI ((allD us).bind o) h).all P E) : ∃ ds z, allD us = some ds ∧ o ds = some z ∧ P (z, h) := by
  obtain ⟨z, e, p⟩ := all_liftI f
  obtain ⟨ds, e1, e2⟩ := Option.bind_eq_some_iff.mp e
  exact ⟨ds, z, e1, e2, p⟩
theorem ji_range1 {a : Expr} {p : Pos} (hg : Gl X "range") (hm : X.mg "range" = none) (ha : JA K W X [a] xs)
    (hs : starEach [a] X.env = [(false, eval a X.env)] := by rfl) : JI K W X tg (.Call (.Name "range" p) [a] [] pos) (xAI oRng1 xs) := ⟨fun hK => pi_imp (pi_range1 hg hm (ha.pa hK) hs) fun σ H R q => by
  obtain ⟨O, ρ, A, h, P, E, I, f, k, kx⟩ := q
  refine ⟨O, ρ, A, h, _, E, I, Tr.all_bind.1 f, fun vs H1 us A1 h1 U1 r1 f1 => ?_, kx⟩
  obtain ⟨ds, z, e1, e2, p⟩ := all_xAI f1
  have r := allD_rp r1 e1
  unfold oRng1 at e2
  split at e2
  · split at e2
    · rename_i j hj
      cases e2
      cases r with
      | cons r rr =>
        cases rr
        cases r
        exact ⟨j, rfl, hj.1, hj.2, k _ H1 _ A1 h1 U1 (yl_rng 0 j.toNat) p⟩
    · cases e2
  · cases e2⟩
theorem ji_range2 {a b : Expr} {p : Pos} (hg : Gl X "range") (hm : X.mg "range" = none) (ha : JA K W X [a, b] xs)
    (hs : starEach [a, b] X.env = [(false, eval a X.env), (false, eval b X.env)] := by rfl) (hs2 : starEach [b] X.env = [(false, eval b X.env)] := by rfl) : JI K W X tg (.Call (.Name "range" p) [a, b] [] pos) (xAI oRng2 xs) := ⟨fun hK => pi_imp (pi_range2 hg hm (ha.pa hK) hs hs2) fun σ H R q => by
  obtain ⟨O, ρ, A, h, P, E, I, f, k, kx⟩ := q
  refine ⟨O, ρ, A, h, _, E, I, Tr.all_bind.1 f, fun vs H1 us A1 h1 U1 r1 f1 => ?_, kx⟩
  obtain ⟨ds, z, e1, e2, p⟩ := all_xAI f1
  have r := allD_rp r1 e1
  unfold oRng2 at e2
  split at e2
  · split at e2
    · rename_i i j hj
      cases e2
      cases r with
      | cons r rr =>
        cases rr with
        | cons r2 rr =>
          cases rr
          cases r
          cases r2
          exact ⟨i, j, rfl, hj, k _ H1 _ A1 h1 U1 (yl_rng i (j - i).toNat) p⟩
    · cases e2
  · cases e2⟩
/-! zip, enumerate -/
def tupD (p : D × D) : D := .tup [p.1, p.2]
def oZip : List D → Option (List D)
  | [.lst a, .lst b] => some ((a.zip b).map tupD)
  | [.tup a, .tup b] => some ((a.zip b).map tupD)
  | _ => none
def enumD (n : Nat) : List D → List D
  | [] => []
  | d :: ds => .tup [.int n, d] :: enumD (n + 1) ds
def oEnum : List D → Option (List D)
  | [.lst a] => some (enumD 0 a)
  | _ => none
omit [FeedI] [ExI] in
theorem enumD_get : ∀ {ds : List D} {n i : Nat}, (enumD n ds)[i]? = ds[i]?.map fun d => .tup [.int ((n + i : Nat) : Int), d]
  | [], _, _ => rfl
  | d :: ds, n, 0 => by simp [enumD]
  | d :: ds, n, i + 1 => by
    simp only [enumD, List.getElem?_cons_succ]
    rw [enumD_get]
    congr 1
    funext x
    rw [show n + 1 + i = n + (i + 1) by omega]
omit [FeedI] [ExI] in
theorem enumD_len : ∀ {ds : List D} {n : Nat}, (enumD n ds).length = ds.length
  | [], _ => rfl
  | d :: ds, n => by simp [enumD, enumD_len]
omit [FeedI] [ExI] in
theorem yl_new {O : Addr → Prop} {m H : Hp} (hO : ∀ b, O b → H b ≠ none) (e : Same m (msk O H)) {T : Addr} (hT : H T = none) {vs : List V} {ds : List D} (r : RpAll K m vs ds) : Same H (upd H T (.tup vs)) ∧ Rp K (msk O (upd H T (.tup vs))) (.ref T) (.tup ds) := by
  have en := same_new (o := .tup vs) hT
  refine ⟨en, .tup (.inl (.inl ?_)) (r.mono (e.trans (msk_same en)))⟩
  rw [msk_of (fun z => hO T z hT), upd_same]
omit [FeedI] [ExI] in
theorem yl_enum {m : Hp} {a : Addr} {xs : List V} {ds : List D} (h : m a = some (.lst xs)) (r : RpAll K m xs ds) : Yl K (Ite K a) m (enumD 0 ds) := fun O H hO e i => by
  have ha : SqL K H a xs := .inl (.inl (msk_some (e _ _ h)).2)
  rw [enumD_len]
  refine ⟨fun hi => ?_, fun hi => ⟨xs, ha, by rw [r.length]; exact hi⟩, fun x H' hi ⟨T, y, e1, e2, e3, e4⟩ => ?_⟩
  · rw [← r.length] at hi
    exact ⟨xs, xs[i], ha, List.getElem?_eq_getElem hi⟩
  · subst e1 e3
    obtain ⟨d, q1, q2⟩ := r.getV (e4 xs ha)
    obtain ⟨s1, s2⟩ := yl_new hO e e2 (.cons (.int (i : Nat)) (.one q2))
    exact ⟨_, by rw [enumD_get, q1]; simp, s1, s2⟩
omit [FeedI] [ExI] in
theorem yl_zipG {m : Hp} {xs ys : List V} {ds es : List D} {J : It} (r : RpAll K m xs ds) (r2 : RpAll K m ys es)
    (hgo : ∀ (O : Addr → Prop) (H : Hp), Same m (msk O H) → ∀ i, (i < min xs.length ys.length → J.go i H) ∧ (min xs.length ys.length ≤ i → J.stop i H) ∧
      ∀ x H', J.yld i H x H' → ∃ T x1 y1, x = .ref T ∧ H T = none ∧ H' = upd H T (.tup [x1, y1]) ∧ xs[i]? = some x1 ∧ ys[i]? = some y1) : Yl K J m ((ds.zip es).map tupD) := fun O H hO e i => by
  obtain ⟨g1, g2, g3⟩ := hgo O H e i
  rw [List.length_map, List.length_zip, ← r.length, ← r2.length]
  refine ⟨g1, g2, fun x H' hi hy => ?_⟩
  obtain ⟨T, x1, y1, e1, e2, e3, e4, e5⟩ := g3 x H' hy
  subst e1 e3
  obtain ⟨d, q1, q2⟩ := r.getV e4
  obtain ⟨d', q3, q4⟩ := r2.getV e5
  obtain ⟨s1, s2⟩ := yl_new hO e e2 (.cons q2 (.one q4))
  refine ⟨_, ?_, s1, s2⟩
  have ez : (ds.zip es)[i]? = some (d, d') := List.getElem?_zip_eq_some.mpr ⟨q1, q3⟩
  rw [List.getElem?_map, ez]
  rfl
theorem ji_enum {a : Expr} {p tpos : Pos} {elts : List Expr} {kk : Nat} (hg : Gl X "enumerate") (hm : X.mg "enumerate" = none) (ha : JA K W X [a] xs)
    (hs : starEach [a] X.env = [(false, eval a X.env)] := by rfl) : JI K W X (.Tuple elts kk tpos) (.Call (.Name "enumerate" p) [a] [] pos) (xAI oEnum xs) := ⟨fun hK => by
  subst hK
  refine pi_imp (pi_enum hg hm (ha.pa rfl) hs) fun σ H R q => ?_
  obtain ⟨O, ρ, A, h, P, E, I, f, k, kx⟩ := q
  refine ⟨O, ρ, A, h, _, E, I, Tr.all_bind.1 f, fun vs H1 us A1 h1 U1 r1 f1 => ?_, kx⟩
  obtain ⟨ds, z, e1, e2, p⟩ := all_xAI f1
  have r := allD_rp r1 e1
  unfold oEnum at e2
  split at e2
  · cases e2
    cases r with
    | cons r rr =>
      cases rr
      cases r with
      | @lst a xs ds h2 r => exact ⟨a, xs, rfl, .inl (.inl (msk_some h2).2), k _ H1 _ A1 h1 U1 (yl_enum h2 r) p⟩
  · cases e2⟩
theorem ji_zip {a b : Expr} {p tpos : Pos} {elts : List Expr} {kk : Nat} (hg : Gl X "zip") (hm : X.mg "zip" = none) (ha : JA K W X [a, b] xs)
    (hs : starEach [a, b] X.env = (false, eval a X.env) :: starEach [b] X.env := by rfl) (hpl : (backTo pos (starEach [b] X.env)).any (·.1) = false := by rfl) : JI K W X (.Tuple elts kk tpos) (.Call (.Name "zip" p) [a, b] [] pos) (xAI oZip xs) := ⟨fun hK => by
  subst hK
  refine pi_imp (RZ.pi_zipA hg hm (ha.pa rfl) hs hpl) fun σ H R q => ?_
  obtain ⟨O, ρ, A, h, P, E, I, f, k, kx⟩ := q
  refine ⟨O, ρ, A, h, _, E, I, Tr.all_bind.1 f, fun vs H1 us A1 h1 U1 r1 f1 => ?_, kx⟩
  obtain ⟨ds, z, e1, e2, p⟩ := all_xAI f1
  have r := allD_rp r1 e1
  have at_ : ∀ {xs ys : List V} {i : Nat}, i < min xs.length ys.length → (∃ x y, xs[i]? = some x ∧ ys[i]? = some y) := fun {xs ys i} hi =>
    ⟨xs[i]'(by omega), ys[i]'(by omega), List.getElem?_eq_getElem (by omega), List.getElem?_eq_getElem (by omega)⟩
  unfold oZip at e2
  split at e2
  · cases e2
    cases r with
    | cons r rr =>
      cases rr with
      | cons r2 rr =>
        cases rr
        cases r with
        | @lst a xs ds h2 r =>
          cases r2 with
          | @lst b ys es h3 r2 =>
            refine ⟨a, b, xs, ys, rfl, .inl ⟨.inl (.inl (msk_some h2).2), .inl (.inl (msk_some h3).2), k _ H1 _ A1 h1 U1 (yl_zipG r r2 fun O H e i => ?_) p⟩⟩
            have ha : SqL X.K H a xs := .inl (.inl (msk_some (e _ _ h2)).2)
            have hb : SqL X.K H b ys := .inl (.inl (msk_some (e _ _ h3)).2)
            refine ⟨fun hi => ?_, fun hi => ⟨xs, ys, ha, hb, by omega⟩, fun x H' ⟨T, x1, y1, e1, e2, e3, e4, e5⟩ => ⟨T, x1, y1, e1, e2, e3, e4 xs ha, e5 ys hb⟩⟩
            obtain ⟨x, y, q1, q2⟩ := at_ hi
            exact ⟨xs, ys, x, y, ha, hb, q1, q2⟩
  · cases e2
    cases r with
    | cons r rr =>
      cases rr with
      | cons r2 rr =>
        cases rr
        cases r with
        | @tup a xs ds h2 r =>
          cases r2 with
          | @tup b ys es h3 r2 =>
            refine ⟨a, b, xs, ys, rfl, .inr ⟨Same.sqT same_msk h2, Same.sqT same_msk h3, k _ H1 _ A1 h1 U1 (yl_zipG r r2 fun O H e i => ?_) p⟩⟩
            have ha : SqT X.K H a xs := Same.sqT same_msk (Same.sqT e h2)
            have hb : SqT X.K H b ys := Same.sqT same_msk (Same.sqT e h3)
            refine ⟨fun hi => ?_, fun hi => ⟨xs, ys, ha, hb, by omega⟩, fun x H' ⟨T, x1, y1, e1, e2, e3, e4, e5⟩ => ⟨T, x1, y1, e1, e2, e3, e4 xs ha, e5 ys hb⟩⟩
            obtain ⟨x, y, q1, q2⟩ := at_ hi
            exact ⟨xs, ys, x, y, ha, hb, q1, q2⟩
  · cases e2⟩

/-! ### loops -/
/-- what a turn leaves: the names of the turn are forgotten, the cells made in it too -/
def afterTurn (fz : List Nat) (n : Nat) (next : Rho → Hh → RS) (p : Fl × Rho × Hh) : RS := match p.1 with
  | .nx => next (fgt p.2.1 fz) (trim n (fgt p.2.1 fz) p.2.2)
  | .ct => next (fgt p.2.1 fz) (trim n (fgt p.2.1 fz) p.2.2)
  | .bk => .ok (.nx, fgt p.2.1 fz, trim n (fgt p.2.1 fz) p.2.2)
  | .rt v => .ok (.rt v, p.2.1, p.2.2)
def goR (o : Option Rho) (f : Rho → RS) : RS := match o with
  | some ρ => f ρ
  | none => .bad
def forX (g : XG) (b : XS) (fz : List Nat) (n : Nat) : List D → XS
  | [] => fun ρ h => .ok (.nx, ρ, h)
  | d :: ds => fun ρ h => goR (g d ρ) fun ρ1 => (b ρ1 h).bind (afterTurn fz n (forX g b fz n ds))
def xFor (src : XI) (g : XG) (b : XS) (fz : List Nat) : XS := fun ρ h => (atS ρ (src ρ h)).bind fun p => forX g b fz p.2.length p.1 (fgt ρ fz) p.2
def whileX (t : XT) (b : XS) (fz : List Nat) (n : Nat) (fuel : Nat) : XS := fuel.rec (fun _ _ => .bad) fun _ ih ρ h => (atS ρ (t ρ h)).bind fun p => if p.1 = true then (b ρ p.2).bind (afterTurn fz n ih) else .ok (.nx, ρ, p.2)
theorem whileX_succ {t : XT} {b : XS} {fz : List Nat} {n k : Nat} {ρ : Rho} {h : Hh} : whileX t b fz n (k + 1) ρ h = (atS ρ (t ρ h)).bind fun p => if p.1 = true then (b ρ p.2).bind (afterTurn fz n (whileX t b fz n k)) else .ok (.nx, ρ, p.2) := rfl
def xWhile (t : XT) (b : XS) (fz : List Nat) : XS := fun ρ h => whileX t b fz h.length 1073741824 (fgt ρ fz) h
section
variable {g : XG} {b : XS} {body : List Stmt}
theorem afterTurn_ok {O : Addr → Prop} {A A1 : List Addr} {h h1 : Hh} {H H1 : Hp} {σ1 : St} {ρ1 : Rho} {fl : Fl} {fz : List Nat} {next : XS} {P : Fl × Rho × Hh → Prop} {E : Ex × Rho × Hh → Prop} {D : Ends} {Nx : St → Hp → Prop} (t : TbR K O A h H) (U1 : Up K O A h H A1 h1 H1) (s1 : SlotR K (MM O A1 h1 H1) A1 σ1 ρ1)
    (f : (afterTurn fz h.length next (fl, ρ1, h1)).all P E)
    (kn : ∀ ρ' A' h', Up K O A h H A' h' H1 → SlotR K (MM O A' h' H1) A' σ1 ρ' → (next ρ' h').all P E → Nx σ1 H1)
    (k : ∀ fl ρ' A' h', Up K O A h H A' h' H1 → SlotR K (MM O A' h' H1) A' σ1 ρ' → P (fl, ρ', h') → match fl with
      | .nx => D.nx σ1 H1
      | .rt u => ∀ v, VlR K (MM O A' h' H1) A' v u → D.rt v H1
      | .bk => D.bk σ1 H1
      | .ct => D.ct σ1 H1) : match fl with
      | .nx => Nx σ1 H1
      | .rt u => ∀ v, VlR K (MM O A1 h1 H1) A1 v u → D.rt v H1
      | .bk => D.nx σ1 H1
      | .ct => Nx σ1 H1 := by
  obtain ⟨A2, U2, s2⟩ := trim_ok t U1 (s1.fgt fz)
  cases fl with
  | nx => exact kn _ A2 _ U2 s2 f
  | ct => exact kn _ A2 _ U2 s2 f
  | bk => exact k .nx _ A2 _ U2 s2 f
  | rt v => exact k (.rt v) _ A1 _ U1 s1 f
theorem js_for {vs : List Nat} {fi : XI} (fz : List Nat) (hp : X.K = K → PassesOwn (model X.prog X.w) X.A X.env X.xe) (hc : X.calm = true) (hi : JI K W X tg iter fi) (hg : JG K X tg vs g) (hb : JSs K W X body b)
    (hs : ∀ x, foldedSetIterable iter X.env x = pure x := by intro _; rfl) : JS K W X (.For tg iter body [] pos) (xFor fi g b fz) := ⟨fun hK => ps_imp (ps_for (hp hK) hc (hi.pi hK) (hg.pg hK) (hb.ps hK) hs) fun D σ H q => by
  obtain ⟨O, ρ, A, h, P, E, I, f, k, kx⟩ := q
  refine ⟨O, ρ, A, h, _, _, I, Tr.all_mapE.1 (Tr.all_bind.1 f), fun J H1 ds A1 h1 U1 y f1 => ?_, exS I.sl kx⟩
  have s1 : SlotR K (MM O A1 h1 H1) A1 σ (fgt ρ fz) := (I.sl.mono U1.sm U1.pre).fgt fz
  refine ⟨fun i m σ2 H2 => m = ds.length - i ∧ i ≤ ds.length ∧ ∃ ρ2 A2 h2, Up K O A1 h1 H1 A2 h2 H2 ∧ SlotR K (MM O A2 h2 H2) A2 σ2 ρ2 ∧ (forX g b fz h1.length (ds.drop i) ρ2 h2).all P E, ⟨ds.length, rfl, Nat.zero_le _, _, A1, h1, .refl U1.tb, s1, f1⟩, fun i m σ2 H2 ⟨hm, hle, ρ2, A2, h2, U2, s2, w2⟩ => ?_⟩
  obtain ⟨y1, y2, y3⟩ := y (Ow O A2 h2) H2 (fun b => U2.tb.own_some) U2.sm i
  by_cases hlt : i < ds.length
  · refine .inr ⟨y1 hlt, fun σ' H' => ∃ ρ' A' h', Up K O A1 h1 H1 A' h' H' ∧ SlotR K (MM O A' h' H') A' σ' ρ' ∧ (forX g b fz h1.length (ds.drop (i + 1)) ρ' h').all P E, fun σ' H' q => ⟨ds.length - (i + 1), by omega, rfl, hlt, q⟩, fun x H3 hy => ?_⟩
    obtain ⟨d, e1, e2, e3⟩ := y3 x H3 hlt hy
    have ed : ds.drop i = d :: ds.drop (i + 1) := by
      rw [List.drop_eq_getElem_cons hlt]
      rw [List.getElem?_eq_getElem hlt] at e1
      rw [Option.some.inj e1]
    rw [ed] at w2
    have U3 : Up K O A2 h2 H2 A2 h2 H3 := .grow U2.tb e2
    have w3 : (goR (g d ρ2) fun ρ1 => (b ρ1 h2).bind (afterTurn fz h1.length (forX g b fz h1.length (ds.drop (i + 1))))).all P E := w2
    cases eg : g d ρ2 with
    | none => rw [eg] at w3; exact w3.elim
    | some ρ3 =>
      rw [eg] at w3
      refine ⟨_, A2, ρ2, d, ρ3, same_mH, s2.mono U3.sm U3.pre, e3, eg, fun σ3 s3 _ => ?_⟩
      have U23 := U2.trans U3
      refine ⟨O, ρ3, A2, h2, _, _, ⟨s3, U3.tb⟩, Tr.all_bind.1 w3, fun fl σ4 H4 ρ4 A4 h4 U4 s4 f4 => ?_, fun cls d σ' H' e ρ' A' h' U' s' r q => kx cls d σ' H' e ρ' A' h' (U1.trans (U23.trans U')) s' r q⟩
      have U14 := U23.trans U4
      have fin := afterTurn_ok (D := D) (Nx := fun σ' H' => ∃ ρ' A' h', Up K O A1 h1 H1 A' h' H' ∧ SlotR K (MM O A' h' H') A' σ' ρ' ∧ (forX g b fz h1.length (ds.drop (i + 1)) ρ' h').all P E) U1.tb U14 s4 f4 (fun ρ' A' h' U' s' q => ⟨ρ', A', h', U', s', q⟩) fun fl ρ' A' h' U' s' q => k fl σ4 H4 ρ' A' h' (U1.trans U') s' q
      cases fl <;> exact fin
  · have e : i = ds.length := by omega
    subst e
    rw [List.drop_length] at w2
    exact .inl ⟨y2 (Nat.le_refl _), k .nx σ2 H2 ρ2 A2 h2 (U1.trans U2) s2 w2⟩⟩
theorem js_while {t : Expr} {ft : XT} (fz : List Nat) (hp : X.K = K → PassesOwn (model X.prog X.w) X.A X.env X.xe) (ht : JT K W X t ft) (hb : JSs K W X body b) : JS K W X (.While t body [] pos) (xWhile ft b fz) := ⟨fun hK => ps_imp (ps_while (hp hK) (ht.pt hK) (hb.ps hK)) fun D σ H q => by
  obtain ⟨O, ρ, A, h, P, E, I, f, k, kx⟩ := q
  refine ⟨fun m σ2 H2 => ∃ ρ2 A2 h2, Up K O A h H A2 h2 H2 ∧ SlotR K (MM O A2 h2 H2) A2 σ2 ρ2 ∧ (whileX ft b fz h.length m ρ2 h2).all P E, ⟨1073741824, _, A, h, .refl I.tb, I.sl.fgt fz, f⟩, fun m σ2 H2 ⟨ρ2, A2, h2, U2, s2, w2⟩ => ?_⟩
  cases m with
  | zero => exact w2.elim
  | succ m =>
    rw [whileX_succ] at w2
    refine ⟨O, ρ2, A2, h2, _, _, ⟨s2, U2.tb⟩, Tr.all_mapE.1 (Tr.all_bind.1 w2), fun c H3 A3 h3 U3 f3 => ?_, exS s2 fun cls d σ' H' e ρ' A' h' U' s' r q => kx cls d σ' H' e ρ' A' h' (U2.trans U') s' r q⟩
    have U23 := U2.trans U3
    have s3 := s2.mono U3.sm U3.pre
    cases c with
    | false => exact k .nx σ2 H3 ρ2 A3 h3 U23 s3 f3
    | true =>
      refine ⟨fun σ' H' => ∃ ρ' A' h', Up K O A h H A' h' H' ∧ SlotR K (MM O A' h' H') A' σ' ρ' ∧ (whileX ft b fz h.length m ρ' h').all P E, fun σ' H' q => ⟨m, Nat.lt_succ_self m, q⟩, ?_⟩
      refine ⟨O, ρ2, A3, h3, _, _, ⟨s3, U3.tb⟩, Tr.all_bind.1 f3, fun fl σ4 H4 ρ4 A4 h4 U4 s4 f4 => ?_, fun cls d σ' H' e ρ' A' h' U' s' r q => kx cls d σ' H' e ρ' A' h' (U23.trans U') s' r q⟩
      have U14 := U23.trans U4
      have fin := afterTurn_ok (D := D) (Nx := fun σ' H' => ∃ ρ' A' h', Up K O A h H A' h' H' ∧ SlotR K (MM O A' h' H') A' σ' ρ' ∧ (whileX ft b fz h.length m ρ' h').all P E) I.tb U14 s4 f4 (fun ρ' A' h' U' s' q => ⟨ρ', A', h', U', s', q⟩) fun fl ρ' A' h' U' s' q => k fl σ4 H4 ρ' A' h' U' s' q
      cases fl <;> exact fin⟩
end
end
end EL
/-! The layer EL: new objects, comprehensions. -/
namespace EL
open PySem PySem.Spec PyProof.Rows L2 DL

/-! ### new objects -/
theorem or_lst {K : PySem.W.Frag} {m : Hp} {xs : List V} {ds : List D} (r : RpAll K m xs ds) : OR K m (.lst xs) (.lst ds) := ⟨xs, rfl, r⟩
theorem or_dic {K : PySem.W.Frag} {m : Hp} {kvs : List (Key × V)} {ks : List DK} {ds : List D} (h1 : kvs.map (·.1) = ks.map dkey) (h2 : KeysOk ks) (r : RpAll K m (kvs.map (·.2)) ds) : OR K m (.dK kvs) (.dic ks ds) := ⟨kvs, rfl, h1, h2, r⟩
abbrev OA (O : Addr → Prop) (a : Addr) : Addr → Prop := fun b => O b ∨ b = a
abbrev XN := Rho → Hh → Tr (Ex × Hh) (D × Hh)
section
variable [FeedI] (K : PySem.W.Frag)
structure NewR (O : Addr → Prop) (A : List Addr) (h : Hh) (H : Hp) (a : Addr) (A' : List Addr) (h' : Hh) (H' : Hp) (d : D) : Prop where
  tb : TbR K (OA O a) A' h' H'
  pre : ∃ t, A' = A ++ t
  sm : Same (MM O A h H) (MM (OA O a) A' h' H')
  oo : ∀ b o, O b → H b = some o → H' b = some o
  nO : ¬ O a
  at_ : ∃ o, H' a = some o ∧ OR K (MM (OA O a) A' h' H') o d
end
section
variable [FeedI] {K : PySem.W.Frag} {O : Addr → Prop} {A A' : List Addr} {h h' : Hh} {H H' : Hp} {σ : St} {ρ : Rho} {a : Addr} {d : D}
omit [FeedI] in
theorem ow_OA {b : Addr} : Ow (OA O a) A h b ↔ Ow O A h b ∨ b = a := by
  unfold Ow OA
  constructor
  · rintro ((q | q) | q)
    · exact .inl (.inl q)
    · exact .inr q
    · exact .inl (.inr q)
  · rintro ((q | q) | q)
    · exact .inl (.inl q)
    · exact .inr q
    · exact .inl (.inr q)
omit [FeedI] in
theorem same_OA : Same (MM (OA O a) A h H) (MM O A h H) := msk_le fun b z => ow_OA.2 (.inl z)
theorem TbR.unO (t : TbR K (OA O a) A h H) : TbR K O A h H :=
  ⟨t.len, fun i c b h1 h2 => (t.cell i c b h1 h2).mono same_OA fun _ o z => z, t.inj, fun i c b h1 l e z => t.dis i c b h1 l e (.inl z), fun b z => t.dom b (.inl z)⟩
theorem TbR.notOw (t : TbR K (OA O a) A h H) (n : ¬ O a) : ¬ Ow O A h a := fun z => z.elim n fun ⟨i, c, h1, l, e⟩ => t.dis i c a h1 l e (.inr rfl)
/-- it becomes shared -/
theorem NewR.share (n : NewR K O A h H a A' h' H' d) : Up K O A h H A' h' H' ∧ Rp K (MM O A' h' H') (.ref a) d := by
  obtain ⟨o, h1, h2⟩ := n.at_
  refine ⟨⟨n.tb.unO, n.pre, n.sm.trans same_OA, n.oo⟩, OR.rp h2 ?_ same_OA⟩
  show msk _ _ _ = _
  rw [msk_of (n.tb.notOw n.nO)]; exact h1
omit [FeedI] in
theorem Ow_snoc (hl : A.length = h.length) {c : Cell} (l : c.live = true) : Ow O (A ++ [a]) (h ++ [c]) = Ow (OA O a) A h := by
  funext b
  refine propext ⟨?_, ?_⟩
  · rintro (q | ⟨i, e, h1, l1, h2⟩)
    · exact .inl (.inl q)
    · by_cases hi : i < h.length
      · rw [List.getElem?_append_left hi] at h1
        rw [List.getElem?_append_left (by omega)] at h2
        exact .inr ⟨i, e, h1, l1, h2⟩
      · rw [List.getElem?_append_right (by omega)] at h2
        cases q : i - A.length with
        | zero => rw [q] at h2; cases h2; exact .inl (.inr rfl)
        | succ k => rw [q] at h2; cases h2
  · rintro ((q | q) | ⟨i, e, h1, l1, h2⟩)
    · exact .inl q
    · subst q
      exact .inr ⟨h.length, c, by simp, l, by rw [← hl]; simp⟩
    · exact .inr ⟨i, e, get_pre h1, l1, get_pre h2⟩
/-- it becomes a cell -/
theorem NewR.cell (n : NewR K O A h H a A' h' H' d) : Up K O A h H (A' ++ [a]) (h' ++ [.own d]) H' := by
  have t := n.tb
  have eO : Ow O (A' ++ [a]) (h' ++ [.own d]) = Ow (OA O a) A' h' := Ow_snoc t.len rfl
  have eM : MM O (A' ++ [a]) (h' ++ [.own d]) H' = MM (OA O a) A' h' H' := by show msk _ _ = msk _ _; rw [eO]
  have cases_ : ∀ {i : Nat} {c : Cell} {b : Addr}, (h' ++ [.own d])[i]? = some c → (A' ++ [a])[i]? = some b → (i < h'.length ∧ h'[i]? = some c ∧ A'[i]? = some b) ∨ (i = h'.length ∧ c = .own d ∧ b = a) := fun {i c b} h1 h2 => by
    by_cases hi : i < h'.length
    · rw [List.getElem?_append_left hi] at h1
      rw [List.getElem?_append_left (by rw [t.len]; exact hi)] at h2
      exact .inl ⟨hi, h1, h2⟩
    · rw [List.getElem?_append_right (by omega)] at h1
      rw [List.getElem?_append_right (by rw [t.len]; omega), t.len] at h2
      cases q : i - h'.length with
      | zero => rw [q] at h1 h2; cases h1; cases h2; exact .inr ⟨by omega, rfl, rfl⟩
      | succ k => rw [q] at h1; cases h1
  obtain ⟨tt, e⟩ := n.pre
  refine ⟨⟨by simp [t.len], fun i c b h1 h2 => ?_, fun i j c e b h1 h2 l1 l2 e1 e2 => ?_, fun i c b h1 l e => ?_, fun b z => t.dom b (.inl z)⟩, ⟨tt ++ [a], by rw [e, List.append_assoc]⟩, by rw [eM]; exact n.sm, n.oo⟩
  · rw [eM]
    rcases cases_ h1 h2 with ⟨_, q1, q2⟩ | ⟨_, q1, q2⟩
    · exact t.cell i c b q1 q2
    · subst q1 q2; exact n.at_
  · rcases cases_ h1 e1 with ⟨_, q1, q2⟩ | ⟨z1, q1, q2⟩
    · rcases cases_ h2 e2 with ⟨_, q3, q4⟩ | ⟨_, q3, q4⟩
      · exact t.inj i j c e b q1 q3 l1 l2 q2 q4
      · subst q4; exact (t.dis i c b q1 l1 q2 (.inr rfl)).elim
    · rcases cases_ h2 e2 with ⟨_, q3, q4⟩ | ⟨z2, q3, q4⟩
      · subst q2; exact (t.dis j e b q3 l2 q4 (.inr rfl)).elim
      · rw [z1, z2]
  · rcases cases_ h1 e with ⟨_, q1, q2⟩ | ⟨_, q1, q2⟩
    · exact fun z => t.dis i c b q1 l q2 (.inl z)
    · subst q2; exact n.nO
/-- a new object -/
theorem NewR.mk' (u : Up K O A h H A' h' H') (ha : H' a = none) {o : HO} (r : ∀ m, Same (MM O A' h' H') m → OR K m o d) : NewR K O A h H a A' h' (upd H' a o) d := by
  have nOw : ¬ Ow O A' h' a := fun z => u.tb.own_some z ha
  have sm : Same (MM O A' h' H') (MM (OA O a) A' h' (upd H' a o)) := fun b x e => by
    obtain ⟨h1, h2⟩ := msk_some e
    have ne : b ≠ a := ne_of_none h2 ha
    show msk _ _ _ = _
    rw [msk_of (fun z => (ow_OA.1 z).elim h1 ne), upd_ne ne]
    exact h2
  have keep : ∀ b x, H' b = some x → upd H' a o b = some x := same_new ha
  refine ⟨⟨u.tb.len, fun i c b h1 h2 => (u.tb.cell i c b h1 h2).mono sm fun _ o z => keep b o z, u.tb.inj, fun i c b h1 l e z => z.elim (u.tb.dis i c b h1 l e) fun z => ?_, fun b z => ?_⟩, u.pre, u.sm.trans sm, fun b x h1 h2 => keep b x (u.oo b x h1 h2), fun z => nOw (.inl z), ⟨o, upd_same, r _ sm⟩⟩
  · subst z; exact nOw (.inr ⟨i, c, h1, l, e⟩)
  · rcases z with z | rfl
    · cases e : H' b with
      | none => exact (u.tb.dom b z e).elim
      | some x => rw [keep b x e]; exact fun z => nomatch z
    · rw [upd_same]; exact fun z => nomatch z
/-- what is gathered is changed -/
theorem TbR.updA (t : TbR K (OA O a) A h H) {o : HO} : TbR K (OA O a) A h (upd H a o) ∧ MM (OA O a) A h (upd H a o) = MM (OA O a) A h H := by
  have eM : MM (OA O a) A h (upd H a o) = MM (OA O a) A h H := msk_upd (ow_OA.2 (.inr rfl))
  refine ⟨⟨t.len, fun i c b h1 h2 => ?_, t.inj, t.dis, fun b z => ?_⟩, eM⟩
  · rw [eM]
    exact (t.cell i c b h1 h2).mono (Same.refl _) fun l o e => by
      rw [upd_ne (fun z => t.dis i c b h1 l h2 (.inr z))]; exact e
  · by_cases q : b = a
    · subst q; rw [upd_same]; exact fun z => nomatch z
    · rw [upd_ne q]; exact t.dom b z
end
section
variable [FeedI] [ExI] {K : PySem.W.Frag} {W : WX} {X : Cx} {pos : Pos} {e : Expr} {es : List Expr} {xa : XE} {xs : XA} {xn : XN}
def nOf (K : PySem.W.Frag) (W : WX) (x : XN) : TE := fun σ H Q => ∃ O ρ A h P E, EIn K O σ ρ A h H ∧ (x ρ h).all P E ∧
  (∀ a H' d A' h', NewR K O A h H a A' h' H' d → P (d, h') → Q (.ref a) H') ∧ ExO K W O σ A h H E
structure JN (K : PySem.W.Frag) (W : WX) (X : Cx) (e : Expr) (x : XN) : Prop where
  pe : X.K = K → PE X e (nOf K W x)
def xFz (x : XN) : XE := fun ρ h => (x ρ h).bind fun p => .ok (.d p.1, p.2)
theorem n_frz {x : XN} (σ : St) (H : Hp) (Q : VK) (q : eOf K W (xFz x) σ H Q) : nOf K W x σ H Q := by
  obtain ⟨O, ρ, A, h, P, E, I, f, k, kx⟩ := q
  refine ⟨O, ρ, A, h, _, E, I, Tr.all_bind.1 f, fun a H' d A' h' n p => ?_, kx⟩
  obtain ⟨u, r⟩ := n.share
  exact k _ H' (.d d) A' h' u r p
theorem je_frz (h : JN K W X e xn) : JE K W X e (xFz xn) := ⟨fun hK => pe_imp (h.pe hK) n_frz⟩
def xSetN (i : Nat) (x : XN) : XS := fun ρ h => (atS ρ (x ρ h)).bind fun p => .ok (.nx, ρ.set i (some (.c p.2.length)), p.2 ++ [.own p.1])
theorem setN_ok {x : XN} {i : Nat} {D : Ends} {σ : St} {H : Hp} (q : sOf K W (xSetN i x) D σ H) : nOf K W x σ H fun v H' => D.nx (σ.set i (some v)) H' := by
  obtain ⟨O, ρ, A, h, P, E, I, f, k, kx⟩ := q
  refine ⟨O, ρ, A, h, _, _, I, Tr.all_mapE.1 (Tr.all_bind.1 f), fun a H' d A' h' n p => ?_, exS I.sl kx⟩
  have U := n.cell
  exact k .nx _ H' _ _ _ U ((I.sl.mono U.sm U.pre).set i (u := .c h'.length) ⟨a, by rw [← n.tb.len]; simp, rfl⟩) p
theorem js_setN {x : Str} {pos' : Pos} (i : Nat) (hN : X.N.Nodup) (he : JN K W X e xn) (hi : X.N[i]? = some x := by rfl) (hx : Loc X.env.scope x := by first | exact Or.inl rfl | exact Or.inr rfl) (hs : swapsWith e (some (.Name x pos')) pos.line X.env = pure false := by rfl)
    (hf : X.fn x = true ∨ X.env.scope.names.lookup x = some .local := by first | exact .inl rfl | exact .inr rfl) : JS K W X (.Assign [.Name x pos'] e pos) (xSetN i xn) := ⟨fun hK => ps_imp (L2.ps_set hN hi hx (he.pe hK) hs hf) fun D σ H q => setN_ok q⟩
def xnLst (fs : XA) : XN := fun ρ h => (fs ρ h).bind fun p => match allD p.1 with
  | some ds => if ds.length ≤ 16777216 then .ok (.lst ds, p.2) else .bad
  | none => .bad
theorem jn_lst {x1} (h : JA K W X es xs) : JN K W X (.List es x1) (xnLst xs) := ⟨fun hK => pe_imp (pe_lst (h.pa hK)) fun σ H Q q => by
  obtain ⟨O, ρ, A, h, P, E, I, f, k, kx⟩ := q
  refine ⟨O, ρ, A, h, _, E, I, Tr.all_bind.1 f, fun vs H1 us A1 h1 U1 r1 f1 => ?_, kx⟩
  cases e1 : allD us with
  | none => simp only [e1] at f1; exact f1.elim
  | some ds =>
    simp only [e1] at f1
    split at f1
    · rename_i hl
      have r := allD_rp r1 e1
      exact ⟨by rw [r.length, sizeLine_eq]; exact hl, fun a ha => k a _ _ A1 h1 (.mk' U1 ha fun m e => or_lst (r.mono e)) f1⟩
    · exact f1.elim⟩
def xnDnil : XN := fun _ h => .ok (.dic [] [], h)
theorem jn_dnil : JN K W X (.Dict [] [] pos) xnDnil := ⟨fun hK => pe_imp pe_dnewK fun σ H Q q => by
  obtain ⟨O, ρ, A, h, P, E, I, f, k, kx⟩ := q
  exact fun a ha => k a _ _ A h (.mk' (.refl I.tb) ha fun m e => or_dic (kvs := []) (ks := []) rfl (fun l z => by cases z) .nil) f⟩
/-! list(e) -/
def viewS (h : Hh) (u : Vl) : Option (List D) := match vw h u with
  | some (.lst ds) => some ds
  | some (.tup ds) => some ds
  | some (.dic ks _) => some (ks.map kD)
  | _ => none
def xnList (x : XA) : XN := fun ρ h => (x ρ h).bind fun p => match p.1 with
  | [u] => (match viewS p.2 u with
    | some ds => .ok (.lst ds, p.2)
    | none => .bad)
  | _ => .bad
omit [ExI] in
/-- what a value shows, as the elements of a sequence -/
theorem seq_rp {O : Addr → Prop} {A : List Addr} {h : Hh} {H : Hp} (t : TbR K O A h H) {v : V} {u : Vl} {ds : List D} (r : VlR K (MM O A h H) A v u) (e : viewS h u = some ds) :
    (∃ a xs, v = .ref a ∧ SqL K H a xs ∧ RpAll K (MM O A h H) xs ds) ∨ (∃ a xs, v = .ref a ∧ SqT K H a xs ∧ RpAll K (MM O A h H) xs ds) ∨ ∃ a kvs ks, v = .ref a ∧ Rd H a (.dK kvs) ∧ kvs.map (·.1) = ks.map dkey ∧ KeysOk ks ∧ ds = ks.map kD := by
  cases u with
  | d x =>
    cases r with
    | @lst a xs es h1 h2 => cases e; exact .inl ⟨a, xs, rfl, .inl (.inl (msk_some h1).2), h2⟩
    | @tup a xs es h1 h2 => cases e; exact .inr (.inl ⟨a, xs, rfl, Same.sqT same_msk h1, h2⟩)
    | @dic a kvs ks es h1 h2 h3 h4 => cases e; exact .inr (.inr ⟨a, kvs, ks, rfl, Same.rd same_msk h1, h2, h3, rfl⟩)
    | _ => cases e
  | c i =>
    obtain ⟨a, e1, rfl⟩ := r
    cases hc : h[i]? with
    | none => simp only [viewS, vw, hc] at e; cases e
    | some c =>
      cases c with
      | own d =>
        simp only [viewS, vw, hc] at e
        obtain ⟨o, h1, h2⟩ := t.cell i _ a hc e1
        cases d with
        | lst es => cases e; obtain ⟨xs, rfl, q⟩ := h2; exact .inl ⟨a, xs, rfl, .inl (.inl h1), q⟩
        | dic ks es => cases e; obtain ⟨kvs, rfl, q1, q2, q3⟩ := h2; exact .inr (.inr ⟨a, kvs, ks, rfl, .inl h1, q1, q2, rfl⟩)
        | _ => exact h2.elim
      | _ => simp only [viewS, vw, hc] at e; cases e
theorem jn_list {x : Str} {p : Pos} (hc : X.calm = true) (hg : Gl X x) (hm : X.mg x = none) (hv : bootBuiltins x = some (.type "list")) (ha : JA K W X (e :: es) xs) (hn : x ≠ "__name__" := by decide) (hdb : (x == ("__debug__" : Str)) = false := by decide)
    (he : starEach (e :: es) X.env = (false, eval e X.env) :: starEach es X.env := by rfl) (hpl : (backTo pos (starEach es X.env)).any (·.1) = false := by rfl) : JN K W X (.Call (.Name x p) (e :: es) [] pos) (xnList xs) := ⟨fun hK => by
  subst hK
  refine pe_imp (pe_callTy (call_list_of.or (call_listD hc)) hg hm hv (ha.pa rfl) hn hdb he hpl) fun σ H Q q => ?_
  obtain ⟨O, ρ, A, h, P, E, I, f, k, kx⟩ := q
  refine ⟨O, ρ, A, h, _, E, I, Tr.all_bind.1 f, fun vs H1 us A1 h1 U1 r1 f1 => ?_, kx⟩
  rcases us with _ | ⟨u, _ | ⟨u', us⟩⟩
  · exact f1.elim
  · rcases vs with _ | ⟨v, _ | ⟨v', vs⟩⟩
    · exact r1.elim
    · cases e1 : viewS h1 u with
      | none => simp only [e1] at f1; exact f1.elim
      | some ds =>
        simp only [e1] at f1
        rcases seq_rp U1.tb r1.1 e1 with ⟨a, xs, rfl, q1, q2⟩ | ⟨a, xs, rfl, q1, q2⟩ | ⟨a, kvs, ks, rfl, q1, q2, q3, rfl⟩
        · exact .inl ⟨a, xs, rfl, .inl q1, fun l hl => k l _ _ A1 h1 (.mk' U1 hl fun m e => or_lst (q2.mono e)) f1⟩
        · exact .inl ⟨a, xs, rfl, .inr q1, fun l hl => k l _ _ A1 h1 (.mk' U1 hl fun m e => or_lst (q2.mono e)) f1⟩
        · exact .inr ⟨a, kvs, rfl, q1, fun l hl => k l _ _ A1 h1 (.mk' U1 hl fun m e => or_lst (keys_rp q2 q3)) f1⟩
    · exact r1.2.elim
  · exact f1.elim⟩
end
end EL
/-! The layer EL: comprehensions, displays of dicts. -/
namespace EL
open PySem PySem.Spec PyProof.Rows L2 DL
/-- no error leaves -/
def noex {ε ζ α : Type} : Tr ε α → Tr ζ α
  | .ok a => .ok a
  | .ex _ => .bad
  | .draw n k => .draw n fun r => noex (k r)
  | .bad => .bad
theorem all_noex {ε ζ α : Type} {P : α → Prop} {E : ζ → Prop} : ∀ {t : Tr ε α}, (noex t : Tr ζ α).all P E ↔ t.all P fun _ => False
  | .ok _ => Iff.rfl
  | .ex _ => Iff.rfl
  | .draw _ k => ⟨fun h r h0 h1 => all_noex.1 (h r h0 h1), fun h r h0 h1 => all_noex.2 (h r h0 h1)⟩
  | .bad => Iff.rfl
@[simp] theorem noex_ok {ε ζ α : Type} {a : α} : (noex (.ok a : Tr ε α) : Tr ζ α) = .ok a := (rfl)
@[simp] theorem noex_bad {ε ζ α : Type} : (noex (.bad : Tr ε α) : Tr ζ α) = .bad := (rfl)
@[simp] theorem noex_ex {ε ζ α : Type} {e : ε} : (noex (.ex e : Tr ε α) : Tr ζ α) = .bad := (rfl)
/-- the wish of a block: nothing is raised -/
abbrev W0 : WX := fun _ _ _ _ => False
abbrev TI' (α : Type) := Tr (Ex × Hh) (α × Hh)
def goG {α : Type} (o : Option Rho) (f : Rho → TI' α) : TI' α := match o with
  | some ρ => f ρ
  | none => .bad
abbrev XBd := Rho → Nat → Hh → TI' (List D)
/-- the turns of a block; n: how many items are gathered so far -/
def blkGo (g : XG) (t : XT) (vs : List Nat) (b : XBd) (ρ : Rho) : List D → Nat → Hh → TI' (List D)
  | [], _, h => .ok ([], h)
  | d :: ds, n, h => goG (g d (fgt ρ vs)) fun ρ1 => (noex (t ρ1 h)).bind fun p =>
      if p.1 = true then (b ρ1 n p.2).bind fun q => (blkGo g t vs b ρ ds (n + q.1.length) q.2).bind fun r => .ok (q.1 ++ r.1, r.2)
      else blkGo g t vs b ρ ds n p.2
def bdE (e : XE) : XBd := fun ρ n h => (noex (e ρ h)).bind fun q => match unD q.1 with
  | some x => if n < 16777216 then .ok ([x], q.2) else .bad
  | none => .bad
def xYes : XT := fun _ h => .ok (true, h)
def xnLc (fi : XI) (g : XG) (t : XT) (e : XE) (vs : List Nat) : XN := fun ρ h => (fi ρ h).bind fun p => (noex (blkGo g t vs (bdE e) ρ p.1 0 p.2)).bind fun q => .ok (.lst q.1, q.2)
def bd2 (fi : XI) (g : XG) (t : XT) (e : XE) (vs : List Nat) : XBd := fun ρ n h => (noex (fi ρ h)).bind fun p => blkGo g t vs (bdE e) ρ p.1 n p.2
def xnLc2 (fi : XI) (g : XG) (t : XT) (fi1 : XI) (g1 : XG) (t1 : XT) (e : XE) (vs vs1 : List Nat) : XN := fun ρ h => (fi ρ h).bind fun p => (noex (blkGo g t vs (bd2 fi1 g1 t1 e vs1) ρ p.1 0 p.2)).bind fun q => .ok (.lst q.1, q.2)
section
variable [FeedI] [ExI] {K : PySem.W.Frag}
structure JTs (K : PySem.W.Frag) (X : Cx) (es : List Expr) (x : XT) : Prop where
  pt : X.K = K → PTs X es (bOf K W0 x)
theorem jts_nil {X : Cx} : JTs K X [] xYes := ⟨fun _ => pts_imp pts_nil fun σ H Q q => by
  obtain ⟨O, ρ, A, h, P, E, I, f, k, kx⟩ := q
  exact k true H A h (.refl I.tb) f⟩
theorem jts_one {X : Cx} {e : Expr} {x : XT} (h : JT K W0 X e x) : JTs K X [e] x := ⟨fun hK => pts_one (h.pt hK)⟩
omit [FeedI] [ExI] in
theorem wipe_slot {m : Hp} {A : List Addr} {σ : St} {ρ : Rho} (s : SlotR K m A σ ρ) (vs : List Nat) : SlotR K m A (wipe σ vs) (fgt ρ vs) := ⟨by rw [fgt_len, wipe_length]; exact s.len, fun i v e => by
  obtain ⟨e1, e2⟩ := fgt_some e
  obtain ⟨x, q1, q2⟩ := s.slot i v e1
  exact ⟨x, by rw [wipe_out e2]; exact q1, q2⟩⟩
/-- behind a body: the gathered object has changed alone -/
structure Bdy (K : PySem.W.Frag) (O : Addr → Prop) (a : Addr) (A : List Addr) (h : Hh) (H : Hp) (A' : List Addr) (h' : Hh) (H' : Hp) (es : List D) : Prop where
  tb : TbR K (OA O a) A' h' H'
  pre : ∃ t, A' = A ++ t
  sm : Same (MM (OA O a) A h H) (MM (OA O a) A' h' H')
  oo : ∀ b o, O b → H b = some o → H' b = some o
  at_ : ∃ acc, H' a = some (.lst acc) ∧ RpAll K (MM (OA O a) A' h' H') acc es
theorem Bdy.trans {O : Addr → Prop} {a : Addr} {A A1 A2 : List Addr} {h h1 h2 : Hh} {H H1 H2 : Hp} {es es2 : List D} (x : Bdy K O a A h H A1 h1 H1 es) (y : Bdy K O a A1 h1 H1 A2 h2 H2 es2) : Bdy K O a A h H A2 h2 H2 es2 := by
  obtain ⟨t1, e1⟩ := x.pre
  obtain ⟨t2, e2⟩ := y.pre
  exact ⟨y.tb, ⟨t1 ++ t2, by rw [e2, e1, List.append_assoc]⟩, x.sm.trans y.sm, fun b o h1 h2 => y.oo b o h1 (x.oo b o h1 h2), y.at_⟩
/-- a step that leaves the gathered object -/
theorem Bdy.step {O : Addr → Prop} {a : Addr} {A A1 A2 : List Addr} {h h1 h2 : Hh} {H H1 H2 : Hp} {es : List D} (x : Bdy K O a A h H A1 h1 H1 es) (u : Up K (OA O a) A1 h1 H1 A2 h2 H2) : Bdy K O a A h H A2 h2 H2 es := by
  obtain ⟨acc, e, r⟩ := x.at_
  exact x.trans ⟨u.tb, u.pre, u.sm, fun b o h1 h2 => u.oo b o (.inl h1) h2, acc, u.oo a _ (.inr rfl) e, r.mono u.sm⟩
def BodyOk (K : PySem.W.Frag) (O : Addr → Prop) (a : Addr) (body : St → Hp → (Hp → Prop) → Prop) (b : XBd) : Prop := ∀ (σ : St) (ρ : Rho) (A : List Addr) (h : Hh) (H : Hp) (acc : List V) (es : List D) (P : List D × Hh → Prop) (Nx : Hp → Prop),
  SlotR K (MM (OA O a) A h H) A σ ρ → TbR K (OA O a) A h H → H a = some (.lst acc) → RpAll K (MM (OA O a) A h H) acc es → (b ρ es.length h).all P (fun _ => False) →
  (∀ H' A' h' new, Bdy K O a A h H A' h' H' (es ++ new) → P (new, h') → Nx H') → body σ H Nx
theorem exo_none {W : WX} {O : Addr → Prop} {σ : St} {A : List Addr} {h : Hh} {H : Hp} : ExO K W O σ A h H fun _ => False := fun _ _ _ _ _ _ _ _ z => z.elim
theorem body_E {O : Addr → Prop} {a : Addr} {te : XE} (nO : ¬ O a) : BodyOk K O a (fun σ H Nx => eOf K W0 te σ H fun y H4 => ∃ acc, H4 a = some (.lst acc) ∧ acc.length < sizeLine ∧ Nx (upd H4 a (.lst (acc ++ [y])))) (bdE te) := fun σ ρ A h H acc es P Nx s t ha r f k => by
  refine ⟨OA O a, ρ, A, h, _, _, ⟨s, t⟩, all_noex.1 (Tr.all_bind.1 f), fun v H1 u A1 h1 U1 r1 f1 => ?_, exo_none⟩
  have ha1 := U1.oo a _ (.inr rfl) ha
  obtain ⟨t2, eM⟩ := U1.tb.updA (o := .lst (acc ++ [v]))
  cases u with
  | c i => exact f1.elim
  | d x =>
    have f2 : (if es.length < 16777216 then (Tr.ok ([x], h1) : TI' (List D)) else .bad).all P fun _ => False := f1
    split at f2
    · rename_i hl
      refine ⟨acc, ha1, by rw [r.length, sizeLine_eq]; exact hl, k _ A1 h1 [x] ⟨t2, U1.pre, by rw [eM]; exact U1.sm, fun b o hb e => ?_, acc ++ [v], upd_same, ?_⟩ f2⟩
      · rw [upd_ne (fun z => nO (by rw [← z]; exact hb))]; exact U1.oo b o (.inl hb) e
      · rw [eM]; exact (r.mono U1.sm).append (.one r1)
    · exact f2.elim
/-- the walk of a block -/
theorem blk_loop {O : Addr → Prop} {a : Addr} {g : XG} {t : XT} {vs : List Nat} {b : XBd} {body : St → Hp → (Hp → Prop) → Prop} {ws : List Nat} {σ : St} {ρ : Rho} {A1 : List Addr} {h1 : Hh} {H1 : Hp} {J : It} {ds es0 : List D} {acc0 : List V} {P : List D × Hh → Prop} {G : Hp → Prop}
    (hb : BodyOk K O a body b) (hw : ∀ i ∈ ws, i ∈ vs) (s1 : SlotR K (MM (OA O a) A1 h1 H1) A1 σ ρ) (t1 : TbR K (OA O a) A1 h1 H1) (y : Yl K J (MM (OA O a) A1 h1 H1) ds) (ha : H1 a = some (.lst acc0)) (r0 : RpAll K (MM (OA O a) A1 h1 H1) acc0 es0)
    (p : (blkGo g t vs b ρ ds es0.length h1).all P (fun _ => False)) (k : ∀ H' A' h' new, Bdy K O a A1 h1 H1 A' h' H' (es0 ++ new) → P (new, h') → G H') :
    ∃ Wf : Nat → Nat → Hp → Prop, (∃ m, Wf 0 m H1) ∧ ∀ i m H, Wf i m H → (J.stop i H ∧ G H) ∨ (J.go i H ∧ ∃ Nx : Hp → Prop, (∀ H', Nx H' → ∃ m', m' < m ∧ Wf (i + 1) m' H') ∧ ∀ x H', J.yld i H x H' → gOf K ws g x (wipe σ vs) H' fun σ2 H2 => wipe σ2 vs = wipe σ vs ∧ bOf K W0 t σ2 H2 fun c H3 =>
      if c = true then body σ2 H3 Nx else Nx H3) := by
  refine ⟨fun i m H2 => m = ds.length - i ∧ i ≤ ds.length ∧ ∃ A2 h2 new, Bdy K O a A1 h1 H1 A2 h2 H2 (es0 ++ new) ∧ (blkGo g t vs b ρ (ds.drop i) (es0 ++ new).length h2).all (fun r => P (new ++ r.1, r.2)) (fun _ => False),
    ⟨ds.length, rfl, Nat.zero_le _, A1, h1, [], ⟨t1, ⟨[], by simp⟩, Same.refl _, fun _ _ _ e => e, acc0, ha, by simpa using r0⟩, by simpa using p⟩, fun i m H2 ⟨hm, hle, A2, h2, new, B2, w2⟩ => ?_⟩
  obtain ⟨y1, y2, y3⟩ := y (Ow (OA O a) A2 h2) H2 (fun b => B2.tb.own_some) B2.sm i
  have sσ := s1.mono B2.sm B2.pre
  by_cases hlt : i < ds.length
  · refine .inr ⟨y1 hlt, fun H' => ∃ A' h' new, Bdy K O a A1 h1 H1 A' h' H' (es0 ++ new) ∧ (blkGo g t vs b ρ (ds.drop (i + 1)) (es0 ++ new).length h').all (fun r => P (new ++ r.1, r.2)) (fun _ => False), fun H' q => ⟨ds.length - (i + 1), by omega, rfl, hlt, q⟩, fun x H3 hy => ?_⟩
    obtain ⟨d, e1, e2, e3⟩ := y3 x H3 hlt hy
    have ed : ds.drop i = d :: ds.drop (i + 1) := by
      rw [List.drop_eq_getElem_cons hlt]
      rw [List.getElem?_eq_getElem hlt] at e1
      rw [Option.some.inj e1]
    rw [ed] at w2
    have U3 : Up K (OA O a) A2 h2 H2 A2 h2 H3 := .grow B2.tb e2
    have B3 := B2.step U3
    have s3 := wipe_slot (sσ.mono U3.sm U3.pre) vs
    cases eg : g d (fgt ρ vs) with
    | none =>
      have w3 : (goG (g d (fgt ρ vs)) _ : TI' (List D)).all _ _ := w2
      rw [eg] at w3; exact w3.elim
    | some ρ4 =>
      have w3 : (goG (g d (fgt ρ vs)) _ : TI' (List D)).all _ _ := w2
      rw [eg] at w3
      refine ⟨_, A2, fgt ρ vs, d, ρ4, same_mH, s3, e3, eg, fun σ4 s4 off => ⟨?_, ?_⟩⟩
      · have := wipe_off (ws := vs) off hw
        rw [this]
        apply List.ext_getElem?
        intro j
        by_cases hj : j ∈ vs
        · by_cases hl : j < σ.length
          · rw [wipe_in hj (by rw [wipe_length]; exact hl), wipe_in hj hl]
          · rw [List.getElem?_eq_none (by rw [wipe_length, wipe_length]; omega), List.getElem?_eq_none (by rw [wipe_length]; omega)]
        · rw [wipe_out hj]
      · refine ⟨OA O a, ρ4, A2, h2, _, _, ⟨s4, U3.tb⟩, all_noex.1 (Tr.all_bind.1 w3), fun c H5 A5 h5 U5 f5 => ?_, exo_none⟩
        have B5 := B3.step U5
        cases c with
        | false => exact ⟨A5, h5, new, B5, f5⟩
        | true =>
          obtain ⟨acc, ha5, r5⟩ := B5.at_
          refine hb σ4 ρ4 A5 h5 H5 acc _ _ _ (s4.mono U5.sm U5.pre) U5.tb ha5 r5 (Tr.all_bind.1 f5) fun H6 A6 h6 new2 B6 p6 => ?_
          refine ⟨A6, h6, new ++ new2, B5.trans (by rw [← List.append_assoc]; exact B6), ?_⟩
          have p7 := Tr.all_bind.1 p6
          rw [← List.append_assoc, List.length_append]
          refine Tr.all_mono (fun r q => ?_) (fun _ z => z) p7
          rw [List.append_assoc]; exact q
  · have e : i = ds.length := by omega
    subst e
    rw [List.drop_length] at w2
    exact .inl ⟨y2 (Nat.le_refl _), k H2 A2 h2 new B2 (by simpa [blkGo] using w2)⟩
section
variable {W : WX} {X : Cx} {pos : Pos} {elt tg iter tg1 iter1 : Expr} {ifs ifs1 : List Expr} {scope : Scope} {fi fi1 : XI} {g g1 : XG} {t t1 : XT} {te : XE} {ws ws1 : List Nat}
/-- the list is new -/
theorem new_list {O : Addr → Prop} {A : List Addr} {h : Hh} {H : Hp} (t : TbR K O A h H) {a : Addr} (ha : H a = none) : NewR K O A h H a A h (upd H a (.lst [])) (.lst []) := .mk' (.refl t) ha fun m e => or_lst .nil
theorem Bdy.new {O : Addr → Prop} {A A' : List Addr} {h h' : Hh} {H H' : Hp} {a : Addr} {es : List D} (n : NewR K O A h H a A h (upd H a (.lst [])) (.lst [])) (ha : H a = none) (b : Bdy K O a A h (upd H a (.lst [])) A' h' H' es) : NewR K O A h H a A' h' H' (.lst es) := by
  obtain ⟨acc, e, r⟩ := b.at_
  exact ⟨b.tb, b.pre, n.sm.trans b.sm, fun x o h1 h2 => b.oo x o h1 (same_new ha x o h2), n.nO, _, e, or_lst r⟩
theorem NewR.up {O : Addr → Prop} {A A1 A' : List Addr} {h h1 h' : Hh} {H H1 H' : Hp} {a : Addr} {d : D} (u : Up K O A h H A1 h1 H1) (n : NewR K O A1 h1 H1 a A' h' H' d) : NewR K O A h H a A' h' H' d := by
  obtain ⟨t1, e1⟩ := u.pre
  obtain ⟨t2, e2⟩ := n.pre
  exact ⟨n.tb, ⟨t1 ++ t2, by rw [e2, e1, List.append_assoc]⟩, u.sm.trans n.sm, fun b o h1 h2 => n.oo b o h1 (u.oo b o h1 h2), n.nO, n.at_⟩
theorem e_lc (hw : ∀ i ∈ ws, i ∈ vs) (σ : St) (H : Hp) (Q : VK) (q : nOf K W (xnLc fi g t te vs) σ H Q) : tLc (iOf K W fi) (gOf K ws g) (bOf K W0 t) (eOf K W0 te) vs σ H Q := by
  obtain ⟨O, ρ, A, h, P, E, I, f, k, kx⟩ := q
  refine ⟨O, ρ, A, h, _, E, I, Tr.all_bind.1 f, fun J H1 ds A1 h1 U1 y f1 => fun a ha => ?_, kx⟩
  have n := new_list (h := h1) U1.tb ha
  have f3 := all_noex.1 (Tr.all_bind.1 f1)
  exact blk_loop (P := fun q => P (.lst q.1, q.2)) (G := fun H' => Q (.ref a) H') (body_E n.nO) hw ((I.sl.mono U1.sm U1.pre).mono n.sm ⟨[], by simp⟩) n.tb (fun O2 H2 hO2 e2 i => y O2 H2 hO2 (n.sm.trans e2) i) upd_same .nil f3 fun H' A' h' new B p => k a H' _ A' h' ((Bdy.new n ha (by simpa using B)).up U1) p
theorem jn_lc (hc : X.calm = true) (hN : X.N.Nodup) (hi : JI K W X tg iter fi) (own : List (Str × Nat)) (ok : blkC X.N X.env.scope scope own = true) (hw : ∀ i ∈ ws, i ∈ own.map (·.2))
    (hg : AllB X scope fun X' => JG K X' tg ws g) (ht : AllB X scope fun X' => JTs K X' ifs t) (he : AllB X scope fun X' => JE K W0 X' elt te) (hs : ∀ x, foldedSetIterable iter X.env x = pure x := by intro _; rfl) :
    JN K W X (.ListComp elt [⟨tg, iter, ifs, 0⟩] scope pos) (xnLc fi g t te (own.map (·.2))) := ⟨fun hK =>
  pe_imp (pe_lc hc hN (hi.pi hK) (blkOk_by ok) (fun s H C cl fp => (hg s H C cl fp).pg hK) (fun s H C cl fp => (ht s H C cl fp).pt hK) (fun s H C cl fp => (he s H C cl fp).pe hK) hs) (e_lc hw)⟩
theorem body_2 {O : Addr → Prop} {a : Addr} (nO : ¬ O a) (hw : ∀ i ∈ ws1, i ∈ vs1) : BodyOk K O a (fun σ2 H3 Nx => iOf K W0 fi1 σ2 H3 fun J1 H4 => ∃ W1 : Nat → Nat → Hp → Prop, (∃ m, W1 0 m H4) ∧ ∀ j k H, W1 j k H →
      (J1.stop j H ∧ Nx H) ∨ (J1.go j H ∧ ∃ Nx1 : Hp → Prop, (∀ H', Nx1 H' → ∃ k', k' < k ∧ W1 (j + 1) k' H') ∧ ∀ x H', J1.yld j H x H' → gOf K ws1 g1 x (wipe σ2 vs1) H' fun σ3 H5 => wipe σ3 vs1 = wipe σ2 vs1 ∧ bOf K W0 t1 σ3 H5 fun b H6 =>
        if b = true then eOf K W0 te σ3 H6 fun y H7 => ∃ acc, H7 a = some (.lst acc) ∧ acc.length < sizeLine ∧ Nx1 (upd H7 a (.lst (acc ++ [y]))) else Nx1 H6)) (bd2 fi1 g1 t1 te vs1) := fun σ ρ A h H acc es P Nx s t ha r f k => by
  refine ⟨OA O a, ρ, A, h, _, _, ⟨s, t⟩, all_noex.1 (Tr.all_bind.1 f), fun J H1 ds A1 h1 U1 y f1 => ?_, exo_none⟩
  exact blk_loop (P := P) (G := Nx) (body_E nO) hw (s.mono U1.sm U1.pre) U1.tb y (U1.oo a _ (.inr rfl) ha) (r.mono U1.sm) f1 fun H' A' h' new B p => k H' A' h' new
    (Bdy.trans ⟨U1.tb, U1.pre, U1.sm, fun b o hb e => U1.oo b o (.inl hb) e, acc, U1.oo a _ (.inr rfl) ha, r.mono U1.sm⟩ B) p
theorem jn_lc2 (hc : X.calm = true) (hN : X.N.Nodup) (hi : JI K W X tg iter fi) (own : List (Str × Nat)) (vs1 : List Nat) (ok : blkC X.N X.env.scope scope own = true) (hv : ∀ i ∈ vs1, i ∈ own.map (·.2)) (hw : ∀ i ∈ ws, i ∈ own.map (·.2)) (hw1 : ∀ i ∈ ws1, i ∈ vs1)
    (hg : AllB X scope fun X' => JG K X' tg ws g) (ht : AllB X scope fun X' => JTs K X' ifs t) (hi1 : AllB X scope fun X' => JI K W0 X' tg1 iter1 fi1) (hg1 : AllB X scope fun X' => JG K X' tg1 ws1 g1) (ht1 : AllB X scope fun X' => JTs K X' ifs1 t1)
    (he : AllB X scope fun X' => JE K W0 X' elt te) (hs : ∀ x, foldedSetIterable iter X.env x = pure x := by intro _; rfl) (hs1 : ∀ env x, foldedSetIterable iter1 env x = pure x := by intro _ _; rfl) :
    JN K W X (.ListComp elt [⟨tg, iter, ifs, 0⟩, ⟨tg1, iter1, ifs1, 0⟩] scope pos) (xnLc2 fi g t fi1 g1 t1 te (own.map (·.2)) vs1) := ⟨fun hK => by
  refine pe_imp (pe_lc2 hc hN (hi.pi hK) (blkOk_by ok) hv (fun s H C cl fp => (hg s H C cl fp).pg hK) (fun s H C cl fp => (ht s H C cl fp).pt hK) (fun s H C cl fp => (hi1 s H C cl fp).pi hK) (fun s H C cl fp => (hg1 s H C cl fp).pg hK) (fun s H C cl fp => (ht1 s H C cl fp).pt hK) (fun s H C cl fp => (he s H C cl fp).pe hK) hs hs1) fun σ H Q q => ?_
  obtain ⟨O, ρ, A, h, P, E, I, f, k, kx⟩ := q
  refine ⟨O, ρ, A, h, _, E, I, Tr.all_bind.1 f, fun J H1 ds A1 h1 U1 y f1 => fun a ha => ?_, kx⟩
  have n := new_list (h := h1) U1.tb ha
  have f3 := all_noex.1 (Tr.all_bind.1 f1)
  exact blk_loop (P := fun q => P (.lst q.1, q.2)) (G := fun H' => Q (.ref a) H') (body_2 n.nO hw1) hw ((I.sl.mono U1.sm U1.pre).mono n.sm ⟨[], by simp⟩) n.tb (fun O2 H2 hO2 e2 i => y O2 H2 hO2 (n.sm.trans e2) i) upd_same .nil f3 fun H' A' h' new B p => k a H' _ A' h' ((Bdy.new n ha (by simpa using B)).up U1) p⟩
end
end
end EL
/-! The layer EL: new cells, dicts, methods that change. -/
namespace EL
open PySem PySem.Spec PyProof.Rows L2 DL
section
variable [FeedI] [ExI] {K : PySem.W.Frag} {W : WX} {X : Cx} {pos : Pos} {e : Expr} {es : List Expr} {xa xb : XE} {xs : XA} {xn : XN} {g : XS}
/-! ### a new object becomes a cell -/
def xNew (x : XN) : XE := fun ρ h => (x ρ h).bind fun p => .ok (.c p.2.length, p.2 ++ [.own p.1])
theorem n_new {x : XN} (σ : St) (H : Hp) (Q : VK) (q : eOf K W (xNew x) σ H Q) : nOf K W x σ H Q := by
  obtain ⟨O, ρ, A, h, P, E, I, f, k, kx⟩ := q
  refine ⟨O, ρ, A, h, _, E, I, Tr.all_bind.1 f, fun a H' d A' h' n p => ?_, kx⟩
  exact k _ H' (.c h'.length) _ _ n.cell ⟨a, by rw [← n.tb.len]; simp, rfl⟩ p
theorem je_new (h : JN K W X e xn) : JE K W X e (xNew xn) := ⟨fun hK => pe_imp (h.pe hK) n_new⟩
/-- a comprehension, also as the value of an assignment on its line -/
structure JNC (K : PySem.W.Frag) (W : WX) (X : Cx) (e : Expr) (x : XN) : Prop where
  jn : JN K W X e x
  ps : X.K = K → ∀ {i : Nat} {y : Str} {py spos : Pos}, X.N[i]? = some y → X.env.scope.names.lookup y = some .local → swapsWith e (some (.Name y py)) spos.line X.env = pure true → PS X (.Assign [.Name y py] e spos) (tAsg (nOf K W x) (gName i))
theorem set_eOf {x : XE} {i : Nat} {D : Ends} {σ : St} {H : Hp} (q : sOf K W (xSet i x) D σ H) : eOf K W x σ H fun v H' => D.nx (σ.set i (some v)) H' := by
  obtain ⟨O, ρ, A, h, P, E, I, f, k, kx⟩ := q
  refine ⟨O, ρ, A, h, _, _, I, Tr.all_mapE.1 (Tr.all_bind.1 f), fun v H1 u A1 h1 U1 r1 f1 => ?_, exS I.sl kx⟩
  exact k .nx _ H1 _ A1 h1 U1 ((I.sl.mono U1.sm U1.pre).set i r1) f1
theorem js_setC {y : Str} {py : Pos} (i : Nat) (h : JNC K W X e xn) (hsw : swapsWith e (some (.Name y py)) pos.line X.env = pure true) (hy : X.N[i]? = some y := by rfl) (hyl : X.env.scope.names.lookup y = some .local := by rfl) :
    JS K W X (.Assign [.Name y py] e pos) (xSet i (xNew xn)) := ⟨fun hK => ps_imp (h.ps hK hy hyl hsw) fun D σ H q => n_new σ H _ (set_eOf q)⟩
theorem js_setCs {y : Str} {py : Pos} (i : Nat) (h : JNC K W X e xn) (hsw : swapsWith e (some (.Name y py)) pos.line X.env = pure true) (hy : X.N[i]? = some y := by rfl) (hyl : X.env.scope.names.lookup y = some .local := by rfl) :
    JS K W X (.Assign [.Name y py] e pos) (xSet i (xFz xn)) := ⟨fun hK => ps_imp (h.ps hK hy hyl hsw) fun D σ H q => n_frz σ H _ (set_eOf q)⟩
section
variable {elt tg iter tg1 iter1 kx vx : Expr} {ifs ifs1 : List Expr} {scope : Scope} {fi fi1 : XI} {g g1 : XG} {t t1 : XT} {te tk tv : XE} {ws ws1 vs1 : List Nat}
theorem jnc_lc (hc : X.calm = true) (hN : X.N.Nodup) (hi : JI K W X tg iter fi) (own : List (Str × Nat)) (ok : blkC X.N X.env.scope scope own = true) (hw : ∀ i ∈ ws, i ∈ own.map (·.2))
    (hg : AllB X scope fun X' => JG K X' tg ws g) (ht : AllB X scope fun X' => JTs K X' ifs t) (he : AllB X scope fun X' => JE K W0 X' elt te) (hs : ∀ x, foldedSetIterable iter X.env x = pure x := by intro _; rfl) :
    JNC K W X (.ListComp elt [⟨tg, iter, ifs, 0⟩] scope pos) (xnLc fi g t te (own.map (·.2))) where
  jn := jn_lc hc hN hi own ok hw hg ht he hs
  ps := fun hK _ _ _ _ hy hyl hsw => ps_imp (L2.ps_setLc hc hN hy hyl hsw (hi.pi hK) (blkOk_by ok) (fun s H C cl fp => (hg s H C cl fp).pg hK) (fun s H C cl fp => (ht s H C cl fp).pt hK) (fun s H C cl fp => (he s H C cl fp).pe hK) hs) (tAsg_imp (e_lc hw))
theorem e_lc2 {vs : List Nat} (hw : ∀ i ∈ ws, i ∈ vs) (hw1 : ∀ i ∈ ws1, i ∈ vs1) (σ : St) (H : Hp) (Q : VK) (q : nOf K W (xnLc2 fi g t fi1 g1 t1 te vs vs1) σ H Q) : tLc2 (iOf K W fi) (gOf K ws g) (bOf K W0 t) (iOf K W0 fi1) (gOf K ws1 g1) (bOf K W0 t1) (eOf K W0 te) vs vs1 σ H Q := by
  obtain ⟨O, ρ, A, h, P, E, I, f, k, kx⟩ := q
  refine ⟨O, ρ, A, h, _, E, I, Tr.all_bind.1 f, fun J H1 ds A1 h1 U1 y f1 => fun a ha => ?_, kx⟩
  have n := new_list (h := h1) U1.tb ha
  have f3 := all_noex.1 (Tr.all_bind.1 f1)
  exact blk_loop (P := fun q => P (.lst q.1, q.2)) (G := fun H' => Q (.ref a) H') (body_2 n.nO hw1) hw ((I.sl.mono U1.sm U1.pre).mono n.sm ⟨[], by simp⟩) n.tb (fun O2 H2 hO2 e2 i => y O2 H2 hO2 (n.sm.trans e2) i) upd_same .nil f3 fun H' A' h' new B p => k a H' _ A' h' ((Bdy.new n ha (by simpa using B)).up U1) p
theorem jnc_lc2 (hc : X.calm = true) (hN : X.N.Nodup) (hi : JI K W X tg iter fi) (own : List (Str × Nat)) (vs1 : List Nat) (ok : blkC X.N X.env.scope scope own = true) (hv : ∀ i ∈ vs1, i ∈ own.map (·.2)) (hw : ∀ i ∈ ws, i ∈ own.map (·.2)) (hw1 : ∀ i ∈ ws1, i ∈ vs1)
    (hg : AllB X scope fun X' => JG K X' tg ws g) (ht : AllB X scope fun X' => JTs K X' ifs t) (hi1 : AllB X scope fun X' => JI K W0 X' tg1 iter1 fi1) (hg1 : AllB X scope fun X' => JG K X' tg1 ws1 g1) (ht1 : AllB X scope fun X' => JTs K X' ifs1 t1)
    (he : AllB X scope fun X' => JE K W0 X' elt te) (hs : ∀ x, foldedSetIterable iter X.env x = pure x := by intro _; rfl) (hs1 : ∀ env x, foldedSetIterable iter1 env x = pure x := by intro _ _; rfl) :
    JNC K W X (.ListComp elt [⟨tg, iter, ifs, 0⟩, ⟨tg1, iter1, ifs1, 0⟩] scope pos) (xnLc2 fi g t fi1 g1 t1 te (own.map (·.2)) vs1) where
  jn := jn_lc2 hc hN hi own vs1 ok hv hw hw1 hg ht hi1 hg1 ht1 he hs hs1
  ps := fun hK _ _ _ _ hy hyl hsw => ps_imp (L2.ps_setLc2 hc hN hy hyl hsw (hi.pi hK) (blkOk_by ok) hv (fun s H C cl fp => (hg s H C cl fp).pg hK) (fun s H C cl fp => (ht s H C cl fp).pt hK) (fun s H C cl fp => (hi1 s H C cl fp).pi hK) (fun s H C cl fp => (hg1 s H C cl fp).pg hK) (fun s H C cl fp => (ht1 s H C cl fp).pt hK) (fun s H C cl fp => (he s H C cl fp).pe hK) hs hs1) (tAsg_imp (e_lc2 hw hw1))
/-! ### comprehensions of dicts -/
/-- the turns; a: the keys and values gathered so far -/
def dcGo (g : XG) (t : XT) (vs : List Nat) (tk tv : XE) (ρ : Rho) : List D → List DK × List D → Hh → TI' (List DK × List D)
  | [], a, h => .ok (a, h)
  | d :: ds, a, h => goG (g d (fgt ρ vs)) fun ρ1 => (noex (t ρ1 h)).bind fun p =>
      if p.1 = true then (noex (tk ρ1 p.2)).bind fun q => (noex (tv ρ1 q.2)).bind fun r => match (unD q.1).bind keyD, unD r.1 with
        | some k, some v => if a.1.length < 16777216 then dcGo g t vs tk tv ρ ds (putKs a.1 k, putDs a.1 a.2 k v) r.2 else .bad
        | _, _ => .bad
      else dcGo g t vs tk tv ρ ds a p.2
def xnDc (fi : XI) (g : XG) (t : XT) (tk tv : XE) (vs : List Nat) : XN := fun ρ h => (fi ρ h).bind fun p => (noex (dcGo g t vs tk tv ρ p.1 ([], []) p.2)).bind fun q => .ok (.dic q.1.1 q.1.2, q.2)
theorem new_dict {O : Addr → Prop} {A : List Addr} {h : Hh} {H : Hp} (t : TbR K O A h H) {a : Addr} (ha : H a = none) : NewR K O A h H a A h (upd H a (.dK [])) (.dic [] []) := .mk' (.refl t) ha fun m e => or_dic (kvs := []) (ks := []) rfl (fun l z => by cases z) .nil
theorem e_dc {vs : List Nat} (hw : ∀ i ∈ ws, i ∈ vs) (σ : St) (H : Hp) (Q : VK) (q : nOf K W (xnDc fi g t tk tv vs) σ H Q) : tDc (iOf K W fi) (gOf K ws g) (bOf K W0 t) (eOf K W0 tk) (eOf K W0 tv) vs σ H Q := by
  obtain ⟨O, ρ, A, h, P, E, I, f, k, kx⟩ := q
  refine ⟨O, ρ, A, h, _, E, I, Tr.all_bind.1 f, fun J H1 ds A1 h1 U1 y f1 => fun a ha => ?_, kx⟩
  have n := new_dict (h := h1) U1.tb ha
  have f3 := all_noex.1 (Tr.all_bind.1 f1)
  have s1 := I.sl.mono U1.sm U1.pre
  refine ⟨fun i m H2 => m = ds.length - i ∧ i ≤ ds.length ∧ ∃ A2 h2 acc, NewR K O A1 h1 H1 a A2 h2 H2 (.dic acc.1 acc.2) ∧ (dcGo g t vs tk tv ρ (ds.drop i) acc h2).all (fun q => P (.dic q.1.1 q.1.2, q.2)) (fun _ => False),
    ⟨ds.length, rfl, Nat.zero_le _, A1, h1, ([], []), n, f3⟩, fun i m H2 ⟨hm, hle, A2, h2, acc, N2, w2⟩ => ?_⟩
  obtain ⟨y1, y2, y3⟩ := y (Ow (OA O a) A2 h2) H2 (fun b => N2.tb.own_some) N2.sm i
  have sσ := s1.mono N2.sm N2.pre
  by_cases hlt : i < ds.length
  · refine .inr ⟨y1 hlt, fun H' => ∃ A' h' acc, NewR K O A1 h1 H1 a A' h' H' (.dic acc.1 acc.2) ∧ (dcGo g t vs tk tv ρ (ds.drop (i + 1)) acc h').all (fun q => P (.dic q.1.1 q.1.2, q.2)) (fun _ => False), fun H' q => ⟨ds.length - (i + 1), by omega, rfl, hlt, q⟩, fun x H3 hy => ?_⟩
    obtain ⟨d, e1, e2, e3⟩ := y3 x H3 hlt hy
    have ed : ds.drop i = d :: ds.drop (i + 1) := by
      rw [List.drop_eq_getElem_cons hlt]
      rw [List.getElem?_eq_getElem hlt] at e1
      rw [Option.some.inj e1]
    rw [ed] at w2
    have U3 : Up K (OA O a) A2 h2 H2 A2 h2 H3 := .grow N2.tb e2
    have stepN : ∀ {A3 h3 H3}, Up K (OA O a) A2 h2 H2 A3 h3 H3 → NewR K O A1 h1 H1 a A3 h3 H3 (.dic acc.1 acc.2) := fun {A3 h3 H3} u => by
      obtain ⟨t1, q1⟩ := N2.pre
      obtain ⟨t2, q2⟩ := u.pre
      obtain ⟨o, z1, z2⟩ := N2.at_
      exact ⟨u.tb, ⟨t1 ++ t2, by rw [q2, q1, List.append_assoc]⟩, N2.sm.trans u.sm, fun b o h1 h2 => u.oo b o (.inl h1) (N2.oo b o h1 h2), N2.nO, o, u.oo a o (.inr rfl) z1, OR.mono u.sm z2⟩
    have s3 := wipe_slot (sσ.mono U3.sm U3.pre) vs
    cases eg : g d (fgt ρ vs) with
    | none =>
      have w3 : (goG (g d (fgt ρ vs)) _ : TI' (List DK × List D)).all _ _ := w2
      rw [eg] at w3; exact w3.elim
    | some ρ4 =>
      have w3 : (goG (g d (fgt ρ vs)) _ : TI' (List DK × List D)).all _ _ := w2
      rw [eg] at w3
      refine ⟨_, A2, fgt ρ vs, d, ρ4, same_mH, s3, e3, eg, fun σ4 s4 off => ⟨?_, ?_⟩⟩
      · have := wipe_off (ws := vs) off hw
        rw [this]
        apply List.ext_getElem?
        intro j
        by_cases hj : j ∈ vs
        · by_cases hl : j < σ.length
          · rw [wipe_in hj (by rw [wipe_length]; exact hl), wipe_in hj hl]
          · rw [List.getElem?_eq_none (by rw [wipe_length, wipe_length]; omega), List.getElem?_eq_none (by rw [wipe_length]; omega)]
        · rw [wipe_out hj]
      · refine ⟨OA O a, ρ4, A2, h2, _, _, ⟨s4, U3.tb⟩, all_noex.1 (Tr.all_bind.1 w3), fun c H5 A5 h5 U5 f5 => ?_, exo_none⟩
        have U35 := U3.trans U5
        cases c with
        | false => exact ⟨A5, h5, acc, stepN U35, f5⟩
        | true =>
          refine ⟨OA O a, ρ4, A5, h5, _, _, ⟨s4.mono U5.sm U5.pre, U5.tb⟩, all_noex.1 (Tr.all_bind.1 f5), fun yk H6 uk A6 h6 U6 r6 f6 => ?_, exo_none⟩
          refine ⟨OA O a, ρ4, A6, h6, _, _, ⟨(s4.mono U5.sm U5.pre).mono U6.sm U6.pre, U6.tb⟩, all_noex.1 (Tr.all_bind.1 f6), fun yv H7 uv A7 h7 U7 r7 f7 => ?_, exo_none⟩
          have U37 := (U35.trans U6).trans U7
          have N7 := stepN U37
          cases uk with
          | c j => exact f7.elim
          | d dk =>
            cases uv with
            | c j =>
              have f8 : (match keyD dk, (none : Option D) with
                | some k, some v => if acc.1.length < 16777216 then dcGo g t vs tk tv ρ (ds.drop (i + 1)) (putKs acc.1 k, putDs acc.1 acc.2 k v) h7 else .bad
                | _, _ => (.bad : TI' (List DK × List D))).all _ _ := f7
              cases ek : keyD dk <;> rw [ek] at f8 <;> exact f8.elim
            | d dv =>
              cases ek : keyD dk with
              | none =>
                have f8 : (match keyD dk, some dv with
                  | some k, some v => if acc.1.length < 16777216 then dcGo g t vs tk tv ρ (ds.drop (i + 1)) (putKs acc.1 k, putDs acc.1 acc.2 k v) h7 else .bad
                  | _, _ => (.bad : TI' (List DK × List D))).all _ _ := f7
                rw [ek] at f8; exact f8.elim
              | some key =>
                have f8 : (match keyD dk, some dv with
                  | some k, some v => if acc.1.length < 16777216 then dcGo g t vs tk tv ρ (ds.drop (i + 1)) (putKs acc.1 k, putDs acc.1 acc.2 k v) h7 else .bad
                  | _, _ => (.bad : TI' (List DK × List D))).all _ _ := f7
                rw [ek] at f8
                dsimp only at f8
                split at f8
                · rename_i hz
                  obtain ⟨o7, z1, z2⟩ := N7.at_
                  obtain ⟨kvs, rfl, k1, k2, k3⟩ := z2
                  have hl : kvs.length = acc.1.length := by simpa using congrArg List.length k1
                  have r6' : Rp K (MM (OA O a) A7 h7 H7) yk dk := Rp.mono U7.sm r6
                  obtain ⟨t8, eM⟩ := N7.tb.updA (o := .dK (putK kvs (dkey key) yv))
                  refine ⟨kvs, dkey key, keyD_rp r6' ek, z1, by rw [hl, sizeLine_eq]; exact hz, A7, h7, (putKs acc.1 key, putDs acc.1 acc.2 key dv), ?_, f8⟩
                  refine ⟨t8, N7.pre, by rw [eM]; exact N7.sm, fun b o hb e => ?_, N7.nO, _, upd_same, ?_⟩
                  · rw [upd_ne (fun z => N7.nO (by rw [← z]; exact hb))]; exact N7.oo b o hb e
                  · rw [eM]; exact or_dic (putK_keys k1) (keysOk_put k2 r6' ek) (putK_rp r7 k1 k3)
                · exact f8.elim
  · have e : i = ds.length := by omega
    subst e
    rw [List.drop_length] at w2
    exact .inl ⟨y2 (Nat.le_refl _), k a H2 _ A2 h2 (N2.up U1) w2⟩
theorem jnc_dc (hc : X.calm = true) (hN : X.N.Nodup) (hi : JI K W X tg iter fi) (own : List (Str × Nat)) (ok : blkC X.N X.env.scope scope own = true) (hw : ∀ i ∈ ws, i ∈ own.map (·.2))
    (hg : AllB X scope fun X' => JG K X' tg ws g) (ht : AllB X scope fun X' => JTs K X' ifs t) (hk : AllB X scope fun X' => JE K W0 X' kx tk) (he : AllB X scope fun X' => JE K W0 X' vx tv) (hs : ∀ x, foldedSetIterable iter X.env x = pure x := by intro _; rfl) :
    JNC K W X (.DictComp kx vx [⟨tg, iter, ifs, 0⟩] scope pos) (xnDc fi g t tk tv (own.map (·.2))) where
  jn := ⟨fun hK => pe_imp (pe_dc hc hN (hi.pi hK) (blkOk_by ok) (fun s H C cl fp => (hg s H C cl fp).pg hK) (fun s H C cl fp => (ht s H C cl fp).pt hK) (fun s H C cl fp => (hk s H C cl fp).pe hK) (fun s H C cl fp => (he s H C cl fp).pe hK) hs) (e_dc hw)⟩
  ps := fun hK _ _ _ _ hy hyl hsw => ps_imp (L2.ps_setDc hc hN hy hyl hsw (hi.pi hK) (blkOk_by ok) (fun s H C cl fp => (hg s H C cl fp).pg hK) (fun s H C cl fp => (ht s H C cl fp).pt hK) (fun s H C cl fp => (hk s H C cl fp).pe hK) (fun s H C cl fp => (he s H C cl fp).pe hK) hs) (tAsg_imp (e_dc hw))
end
/-! ### displays of dicts -/
abbrev XPs := Rho → Hh → Tr (Ex × Hh) (List (D × D) × Hh)
def xPairs : List (XE × XE) → XPs
  | [] => fun _ h => .ok ([], h)
  | (a, b) :: r => fun ρ h => (a ρ h).bind fun p => (b ρ p.2).bind fun q => match unD p.1, unD q.1 with
    | some x, some y => (xPairs r ρ q.2).bind fun s => .ok ((x, y) :: s.1, s.2)
    | _, _ => .bad
end
end EL
/-! The layer EL: displays of dicts, methods that change, items that are stored, freezing. -/
namespace EL
open PySem PySem.Spec PyProof.Rows L2 DL
section
variable [FeedI] [ExI] {K : PySem.W.Frag} {W : WX} {X : Cx} {pos : Pos} {e : Expr} {es : List Expr} {xa xb : XE} {xs : XA} {xn : XN} {g : XS}
/-! ### displays of dicts -/
structure JPs (K : PySem.W.Frag) (W : WX) (X : Cx) (pos : Pos) (keys : List (Option Expr)) (values : List Expr) (ps : List (XE × XE)) : Prop where
  pp : X.K = K → PPs X pos keys values (ps.map fun p => (eOf K W p.1, eOf K W p.2))
theorem jps_nil : JPs K W X pos [] [] [] := ⟨fun _ => pps_nil⟩
theorem jps_cons {k v : Expr} {ks : List (Option Expr)} {vs : List Expr} {ps : List (XE × XE)} (hk : JE K W X k xa) (hv : JE K W X v xb) (hr : JPs K W X pos ks vs ps) : JPs K W X pos (some k :: ks) (v :: vs) ((xa, xb) :: ps) := ⟨fun hK => pps_cons (hk.pe hK) (hv.pe hK) (hr.pp hK)⟩
theorem e_pairs {O : Addr → Prop} {σ : St} {ρ : Rho} {E : Ex × Hh → Prop} : ∀ {ps : List (XE × XE)} {A : List Addr} {h : Hh} {H : Hp} {Q : List (V × V) → Hp → Prop} {P : List (D × D) × Hh → Prop}, EIn K O σ ρ A h H → (xPairs ps ρ h).all P E → ExO K W O σ A h H E →
    (∀ vs H' qs A' h', Up K O A h H A' h' H' → RpAll K (MM O A' h' H') (vs.map (·.1)) (qs.map (·.1)) → RpAll K (MM O A' h' H') (vs.map (·.2)) (qs.map (·.2)) → P (qs, h') → Q vs H') → tPairs (ps.map fun p => (eOf K W p.1, eOf K W p.2)) σ H Q
  | [], A, h, H, Q, P, I, f, kx, k => k [] H [] A h (.refl I.tb) .nil .nil f
  | (a, b) :: ps, A, h, H, Q, P, I, f, kx, k => by
    refine ⟨O, ρ, A, h, _, E, I, Tr.all_bind.1 f, fun x H1 u A1 h1 U1 r1 f1 => ⟨O, ρ, A1, h1, _, E, I.up U1, Tr.all_bind.1 f1, fun y H2 w A2 h2 U2 r2 f2 => ?_, kx.up U1⟩, kx⟩
    cases u with
    | c i => exact f2.elim
    | d dx =>
      cases w with
      | c i => exact f2.elim
      | d dy =>
        have f3 : ((xPairs ps ρ h2).bind fun s => (.ok ((dx, dy) :: s.1, s.2) : Tr (Ex × Hh) (List (D × D) × Hh))).all P E := f2
        refine e_pairs ((I.up U1).up U2) (Tr.all_bind.1 f3) ((kx.up U1).up U2) fun vs H3 qs A3 h3 U3 ra rb p3 => ?_
        exact k ((x, y) :: vs) H3 ((dx, dy) :: qs) A3 h3 ((U1.trans U2).trans U3) (.cons (Rp.mono U3.sm (Rp.mono U2.sm r1)) ra) (.cons (Rp.mono U3.sm r2) rb) p3
def xnDisp (ps : List (XE × XE)) : XN := fun ρ h => (xPairs ps ρ h).bind fun p => match keysOf p.1 with
  | some ks => if ks.length ≤ 15 then .ok (.dic (mrgD [] [] ks).1 (mrgD [] [] ks).2, p.2) else .bad
  | none => .bad
theorem jn_disp {keys : List (Option Expr)} {values : List Expr} {ps : List (XE × XE)} (h : JPs K W X pos keys values ps) (hall : keys.all (·.isSome) = true := by rfl) (hl : keys.length = values.length := by rfl) (h0 : keys ≠ [] := by exact fun z => nomatch z) (h15 : keys.length ≤ 15 := by decide) :
    JN K W X (.Dict keys values pos) (xnDisp ps) := ⟨fun hK => pe_imp (pe_disp (h.pp hK) hall hl h0 h15) fun σ H Q q => by
  obtain ⟨O, ρ, A, h, P, E, I, f, k, kx⟩ := q
  intro a ha
  have n := new_dict (h := h) I.tb ha
  have out : ∀ {A' h' H'}, Up K (OA O a) A h (upd H a (.dK [])) A' h' H' → Up K O A h H A' h' H' := fun {A' h' H'} u => ⟨u.tb.unO, u.pre, n.sm.trans (u.sm.trans same_OA), fun b o h1 h2 => u.oo b o (.inl h1) (same_new ha b o h2)⟩
  refine e_pairs (O := OA O a) (E := E) ⟨I.sl.mono n.sm ⟨[], by simp⟩, n.tb⟩ (Tr.all_bind.1 f) (fun cls d H' e A' h' U r q => kx cls d H' e A' h' (out U) (ExI.mono same_OA r) q) fun vs H2 qs A2 h2 U ra rb f2 => ?_
  have ha2 := U.oo a _ (.inr rfl) upd_same
  cases e1 : keysOf qs with
  | none => simp only [e1] at f2; exact f2.elim
  | some ks =>
    simp only [e1] at f2
    split at f2
    · rename_i hz
      obtain ⟨kvs, k1, k2, k3, k4⟩ := keysOf_rp ra rb e1
      have hl : kvs.length = ks.length := by simpa using congrArg List.length k2
      refine ⟨ha2, kvs, k1, by rw [hl]; exact hz, ?_⟩
      obtain ⟨m1, m2, m3⟩ := mrgD_rp (kvs := []) (ks := []) (ds := []) k2 k3 k4 rfl (fun l hl => by simp at hl) .nil
      obtain ⟨t8, eM⟩ := U.tb.updA (o := .dK (mergeK [] kvs))
      refine k a _ _ A2 h2 ⟨t8, U.pre, by rw [eM]; exact n.sm.trans U.sm, fun b o hb e => ?_, n.nO, _, upd_same, ?_⟩ f2
      · rw [upd_ne (fun z => n.nO (by rw [← z]; exact hb))]; exact (out U).oo b o hb e
      · rw [eM]; exact or_dic m1 m2 m3
    · exact f2.elim⟩
/-! ### tuple(e), also of a thing of one's own -/
def tupV (h : Hh) : Vl → Option (List D)
  | .d (.tup ds) => some ds
  | .d (.lst ds) => some ds
  | .c i => match h[i]? with
    | some (.own (.lst ds)) => some ds
    | _ => none
  | _ => none
def xTuple (x : XA) : XE := fun ρ h => (x ρ h).bind fun p => match p.1 with
  | [u] => (match tupV p.2 u with
    | some ds => .ok (.d (.tup ds), p.2)
    | none => .bad)
  | _ => .bad
omit [ExI] in
theorem tup_rp {O : Addr → Prop} {A : List Addr} {h : Hh} {H : Hp} (t : TbR K O A h H) {v : V} {u : Vl} {ds : List D} (r : VlR K (MM O A h H) A v u) (e : tupV h u = some ds) :
    (∃ a xs, v = .ref a ∧ SqL K H a xs ∧ RpAll K (MM O A h H) xs ds) ∨ (∃ a xs, v = .ref a ∧ SqT K (MM O A h H) a xs ∧ RpAll K (MM O A h H) xs ds) := by
  cases u with
  | d x =>
    cases r with
    | @lst a xs es h1 h2 => cases e; exact .inl ⟨a, xs, rfl, .inl (.inl (msk_some h1).2), h2⟩
    | @tup a xs es h1 h2 => cases e; exact .inr ⟨a, xs, rfl, h1, h2⟩
    | _ => cases e
  | c i =>
    obtain ⟨a, e1, rfl⟩ := r
    cases hc : h[i]? with
    | none => simp only [tupV, hc] at e; cases e
    | some c =>
      cases c with
      | own d =>
        simp only [tupV, hc] at e
        obtain ⟨o, h1, h2⟩ := t.cell i _ a hc e1
        cases d with
        | lst es => cases e; obtain ⟨xs, rfl, q⟩ := h2; exact .inl ⟨a, xs, rfl, .inl (.inl h1), q⟩
        | _ => cases e
      | _ => simp only [tupV, hc] at e; cases e
theorem je_tuple {x : Str} {p : Pos} (hg : Gl X x) (hm : X.mg x = none) (hv : bootBuiltins x = some (.type "tuple")) (ha : JA K W X (e :: es) xs) (hn : x ≠ "__name__" := by decide) (hdb : (x == ("__debug__" : Str)) = false := by decide)
    (he : starEach (e :: es) X.env = (false, eval e X.env) :: starEach es X.env := by rfl) (hpl : (backTo pos (starEach es X.env)).any (·.1) = false := by rfl) : JE K W X (.Call (.Name x p) (e :: es) [] pos) (xTuple xs) := ⟨fun hK => by
  subst hK
  refine pe_imp (pe_callTy call_tuple_of hg hm hv (ha.pa rfl) hn hdb he hpl) fun σ H Q q => ?_
  obtain ⟨O, ρ, A, h, P, E, I, f, k, kx⟩ := q
  refine ⟨O, ρ, A, h, _, E, I, Tr.all_bind.1 f, fun vs H1 us A1 h1 U1 r1 f1 => ?_, kx⟩
  rcases us with _ | ⟨u, _ | ⟨u', us⟩⟩
  · exact f1.elim
  · rcases vs with _ | ⟨v, _ | ⟨v', vs⟩⟩
    · exact r1.elim
    · cases e1 : tupV h1 u with
      | none => simp only [e1] at f1; exact f1.elim
      | some ds =>
        simp only [e1] at f1
        rcases tup_rp U1.tb r1.1 e1 with ⟨a, xs, rfl, q1, q2⟩ | ⟨a, xs, rfl, q1, q2⟩
        · refine ⟨a, xs, rfl, .inl ⟨q1, fun l hl => ?_⟩⟩
          have en := same_new (o := .tup xs) hl
          exact k (.ref l) _ (.d (.tup ds)) A1 h1 (U1.trans (.grow U1.tb en)) (.tup (.inl (.inl (U1.tb.newM hl))) (q2.mono (msk_same en))) f1
        · exact ⟨a, xs, rfl, .inr ⟨Same.sqT same_msk q1, k (.ref a) _ (.d (.tup ds)) A1 h1 U1 (.tup q1 q2) f1⟩⟩
    · exact r1.2.elim
  · exact f1.elim⟩
/-! ### what changes a cell -/
omit [ExI] in
theorem TbR.setCell {O : Addr → Prop} {A : List Addr} {h : Hh} {H : Hp} (t : TbR K O A h H) {j : Nat} {c c' : Cell} {a : Addr} {o' : HO} (hj : h[j]? = some c) (l : c.live = true) (ej : A[j]? = some a) (l' : c'.live = true)
    (r : CellR K (MM O A h H) (upd H a o') a c') : Up K O A h H A (h.set j c') (upd H a o') := by
  have jl : j < h.length := (List.getElem?_eq_some_iff.mp hj).1
  have ow : Ow O A h a := .inr ⟨j, c, hj, l, ej⟩
  have get : ∀ {i : Nat} {e : Cell}, (h.set j c')[i]? = some e → (i = j ∧ e = c') ∨ (i ≠ j ∧ h[i]? = some e) := fun {i e} q => by
    by_cases z : j = i
    · subst z; rw [List.getElem?_set_self jl] at q; cases q; exact .inl ⟨rfl, rfl⟩
    · rw [List.getElem?_set_ne z] at q; exact .inr ⟨fun w => z w.symm, q⟩
  have lv : ∀ {i : Nat} {e : Cell}, (h.set j c')[i]? = some e → e.live = true → ∃ e', h[i]? = some e' ∧ e'.live = true := fun {i e} q le => by
    rcases get q with ⟨rfl, rfl⟩ | ⟨_, q⟩
    · exact ⟨c, hj, l⟩
    · exact ⟨e, q, le⟩
  have eO : Ow O A (h.set j c') = Ow O A h := by
    funext b
    refine propext ⟨fun z => z.imp id fun ⟨i, e, q1, q2, q3⟩ => ?_, fun z => z.imp id fun ⟨i, e, q1, q2, q3⟩ => ?_⟩
    · obtain ⟨e', w1, w2⟩ := lv q1 q2; exact ⟨i, e', w1, w2, q3⟩
    · by_cases z : j = i
      · subst z; exact ⟨j, c', List.getElem?_set_self jl, l', q3⟩
      · exact ⟨i, e, by rw [List.getElem?_set_ne z]; exact q1, q2, q3⟩
  have eM : MM O A (h.set j c') (upd H a o') = MM O A h H := by show msk _ _ = msk _ _; rw [eO]; exact msk_upd ow
  have nO : ¬ O a := t.dis j c a hj l ej
  refine ⟨⟨by rw [List.length_set]; exact t.len, fun i e b q1 q2 => ?_, fun i k e f b q1 q2 l1 l2 e1 e2 => ?_, fun i e b q1 le q2 => ?_, fun b z => ?_⟩, ⟨[], by simp⟩, by rw [eM]; exact Same.refl _, fun b o hb e => ?_⟩
  · rw [eM]
    rcases get q1 with ⟨rfl, rfl⟩ | ⟨n, q1⟩
    · rw [ej] at q2; cases q2; exact r
    · exact (t.cell i e b q1 q2).mono (Same.refl _) fun le o z => by
        rw [upd_ne (fun w => n (t.inj i j e c b q1 hj le l q2 (by rw [w]; exact ej)))]; exact z
  · obtain ⟨e', w1, w2⟩ := lv q1 l1
    obtain ⟨f', w3, w4⟩ := lv q2 l2
    exact t.inj i k e' f' b w1 w3 w2 w4 e1 e2
  · obtain ⟨e', w1, w2⟩ := lv q1 le
    exact t.dis i e' b w1 w2 q2
  · by_cases w : b = a
    · subst w; rw [upd_same]; exact fun z => nomatch z
    · rw [upd_ne w]; exact t.dom b z
  · rw [upd_ne (fun w => nO (by rw [← w]; exact hb))]; exact e
/-- a method of lists: what it hands back, what the list is then -/
abbrev FMt := List D → List D → Option (D × List D)
def JMt (K : PySem.W.Frag) (X : Cx) (id : String) (f : FMt) : Prop := ∃ r g, MtR X id r ∧ MOk K r g ∧ ∀ ds es z, f ds es = some z → g ds es (fun d x => (d, x) = z)
def oApp : FMt := fun ds es => match es with
  | [d] => if ds.length < 16777216 then some (.non, ds ++ [d]) else none
  | _ => none
def oExt : FMt := fun ds es => match es with
  | [.lst es] => if ds.length + es.length ≤ 16777216 then some (.non, ds ++ es) else none
  | [.tup es] => if ds.length + es.length ≤ 16777216 then some (.non, ds ++ es) else none
  | _ => none
def oPop : FMt := fun ds es => match es with
  | [] => (ds[ds.length - 1]?).map fun d => (d, ds.dropLast)
  | _ => none
def oPopAt : FMt := fun ds es => match es with
  | [.int i] => if -9223372036854775808 ≤ i ∧ i < 9223372036854775808 then (seqIndex? i ds.length).bind fun k => (ds[k]?).map fun d => (d, ds.eraseIdx k) else none
  | _ => none
theorem jm_app : JMt K X "list.append" oApp := ⟨_, _, mt_append, mok_app, fun ds es z h => by
  unfold oApp at h
  split at h
  · split at h
    · cases h; exact ⟨by rw [sizeLine_eq]; assumption, rfl⟩
    · cases h
  · cases h⟩
theorem jm_ext (hK : X.K = K) : JMt K X "list.extend" oExt := ⟨_, _, by rw [← hK]; exact mt_ext2, mok_ext, fun ds es z h => by
  unfold oExt at h
  split at h
  · split at h
    · cases h; exact ⟨by rw [sizeLine_eq]; assumption, rfl⟩
    · cases h
  · split at h
    · cases h; exact ⟨by rw [sizeLine_eq]; assumption, rfl⟩
    · cases h
  · cases h⟩
theorem jm_pop : JMt K X "list.pop" oPop := ⟨_, _, mt_pop, mok_pop, fun ds es z h => by
  unfold oPop at h
  split at h
  · obtain ⟨d, h1, rfl⟩ := Option.map_eq_some_iff.mp h; exact ⟨d, h1, rfl⟩
  · cases h⟩
theorem jm_popAt : JMt K X "list.pop" oPopAt := ⟨_, _, mt_popAt, mok_popAt, fun ds es z h => by
  unfold oPopAt at h
  split at h
  · split at h
    · rename_i hi
      obtain ⟨k, h1, h2⟩ := Option.bind_eq_some_iff.mp h
      obtain ⟨d, h3, rfl⟩ := Option.map_eq_some_iff.mp h2
      exact ⟨hi.1, hi.2, k, d, h1, h3, rfl⟩
    · cases h
  · cases h⟩
/-- the list at a value -/
def lstAt (h : Hh) : Vl → Option (Nat × List D)
  | .c j => match h[j]? with
    | some (.own (.lst ds)) => some (j, ds)
    | _ => none
  | _ => none
theorem lstAt_some {h : Hh} {u : Vl} {j : Nat} {ds : List D} (e : lstAt h u = some (j, ds)) : u = .c j ∧ h[j]? = some (.own (.lst ds)) := by
  unfold lstAt at e
  split at e
  · split at e
    · cases e; exact ⟨rfl, by assumption⟩
    · cases e
  · cases e
def xMut (f : FMt) (o : XE) (as : XA) : XE := fun ρ h => (o ρ h).bind fun p => match lstAt p.2 p.1 with
  | some _ => (as ρ p.2).bind fun q => match lstAt q.2 p.1, allD q.1 with
    | some (j, ds), some es => (match f ds es with
      | some (r, ds') => .ok (.d r, q.2.set j (.own (.lst ds')))
      | none => .bad)
    | _, _ => .bad
  | none => .bad
def xMut0 (f : FMt) (o : XE) : XE := fun ρ h => (o ρ h).bind fun p => match lstAt p.2 p.1 with
  | some (j, ds) => (match f ds [] with
    | some (r, ds') => .ok (.d r, p.2.set j (.own (.lst ds')))
    | none => .bad)
  | none => .bad
omit [ExI] in
theorem mut_ok {O : Addr → Prop} {A : List Addr} {h : Hh} {H : Hp} (t : TbR K O A h H) {r : V → List V → Hp → VK → Prop} {g : GM} (hr : MOk K r g) {f : FMt} (hg : ∀ ds es z, f ds es = some z → g ds es (fun d x => (d, x) = z)) {j : Nat} {ds es ds' : List D} {d : D} {a : Addr} {ys : List V} {Q : VK}
    (hj : h[j]? = some (.own (.lst ds))) (ej : A[j]? = some a) (ry : RpAll K (MM O A h H) ys es) (e : f ds es = some (d, ds'))
    (k : ∀ v H', Up K O A h H A (h.set j (.own (.lst ds'))) H' → Rp K (MM O A (h.set j (.own (.lst ds'))) H') v d → Q v H') : r (.ref a) ys H Q := by
  obtain ⟨o, h1, h2⟩ := t.cell j _ a hj ej
  obtain ⟨xs, rfl, rx⟩ := h2
  refine hr (MM O A h H) H a xs ys ds es _ Q h1 (fun b o z => (msk_some z).2) rx ry (hg _ _ _ e) fun v xs' d2 ds2 rv rx' q => ?_
  cases q
  have U := t.setCell (o' := .lst xs') hj rfl ej (c' := .own (.lst ds')) rfl ⟨_, upd_same, or_lst rx'⟩
  exact k v _ U (Rp.mono U.sm rv)
theorem je_mut {o : Expr} {id : String} {name : Str} {f : FMt} {apos cpos : Pos} (slot : Slot "list" name id) (hty : typeOf (.builtin id) = pure (.type "method_descriptor")) (hm : X.K = K → JMt K X id f) (ho : JE K W X o xa) (ha : JA K W X (e :: es) xs)
    (hbase : attributeBase o name X.env (eval o X.env) = eval o X.env := by rfl)
    (hfew : ((backTo cpos (starEach (e :: es) X.env)).all (fun x => !x.1) && (backToKw cpos (keywordEach [] X.env)).all (fun x => x.1.isSome) && decide ((e :: es).length + ([] : List Keyword).length + (if ([] : List Keyword).isEmpty then 0 else 1) < 30)) = true := by rfl)
    (hline : (apos.endLine == cpos.line) = true := by rfl) (hs : starEach (e :: es) X.env = (false, eval e X.env) :: starEach es X.env := by rfl) (hplain : (backTo cpos (starEach es X.env)).any (·.1) = false := by rfl) :
    JE K W X (.Call (.Attribute o name apos) (e :: es) [] cpos) (xMut f xa xs) := ⟨fun hK => by
  obtain ⟨r, g, m1, m2, m3⟩ := hm hK
  subst hK
  refine pe_imp (pe_bm PySem.F.plainAttrs_list slot hty m1 (ho.pe rfl) (ha.pa rfl) hbase hfew hline hs hplain) fun σ H Q q => ?_
  obtain ⟨O, ρ, A, h, P, E, I, f1, k, kx⟩ := q
  refine ⟨O, ρ, A, h, _, E, I, Tr.all_bind.1 f1, fun v H1 u A1 h1 U1 r1 f2 => ?_, kx⟩
  cases e1 : lstAt h1 u with
  | none => simp only [e1] at f2; exact f2.elim
  | some jd =>
    simp only [e1] at f2
    obtain ⟨j, ds0⟩ := jd
    obtain ⟨rfl, hj⟩ := lstAt_some e1
    obtain ⟨a, ej, rfl⟩ := r1
    obtain ⟨o0, w1, xs0, rfl, w2⟩ := U1.tb.cell j _ a hj ej
    refine ⟨.inl ⟨rfl, xs0, .inl (.inl w1)⟩, O, ρ, A1, h1, _, E, I.up U1, Tr.all_bind.1 f2, fun vs H2 us A2 h2 U2 r2 f3 => ?_, kx.up U1⟩
    obtain ⟨t2, eA⟩ := U2.pre
    cases e2 : lstAt h2 (.c j) with
    | none => simp only [e2] at f3; exact f3.elim
    | some jd =>
      obtain ⟨j', ds⟩ := jd
      obtain ⟨q1, hj2⟩ := lstAt_some e2
      cases q1
      cases e3 : allD us with
      | none => simp only [e2, e3] at f3; exact f3.elim
      | some es' =>
        simp only [e2, e3] at f3
        cases e4 : f ds es' with
        | none => simp only [e4] at f3; exact f3.elim
        | some z =>
          obtain ⟨d, ds'⟩ := z
          simp only [e4] at f3
          exact mut_ok U2.tb m2 m3 hj2 (by rw [eA]; exact get_pre ej) (allD_rp r2 e3) e4 fun v H' U3 rv => k v H' (.d d) A2 _ ((U1.trans U2).trans U3) rv f3⟩
theorem je_mut0 {o : Expr} {id : String} {name : Str} {f : FMt} {apos cpos : Pos} (slot : Slot "list" name id) (hty : typeOf (.builtin id) = pure (.type "method_descriptor")) (hm : X.K = K → JMt K X id f) (ho : JE K W X o xa)
    (hbase : attributeBase o name X.env (eval o X.env) = eval o X.env := by rfl) (hline : (apos.endLine == cpos.line) = true := by rfl) :
    JE K W X (.Call (.Attribute o name apos) [] [] cpos) (xMut0 f xa) := ⟨fun hK => by
  obtain ⟨r, g, h1, h2, h3⟩ := hm hK
  subst hK
  refine pe_imp (pe_bm0 PySem.F.plainAttrs_list slot hty h1 (ho.pe rfl) hbase hline) fun σ H Q q => ?_
  obtain ⟨O, ρ, A, h, P, E, I, f1, k, kx⟩ := q
  refine ⟨O, ρ, A, h, _, E, I, Tr.all_bind.1 f1, fun v H1 u A1 h1 U1 r1 f3 => ?_, kx⟩
  cases e1 : lstAt h1 u with
  | none => simp only [e1] at f3; exact f3.elim
  | some jd =>
    simp only [e1] at f3
    obtain ⟨j, ds⟩ := jd
    obtain ⟨rfl, hj⟩ := lstAt_some e1
    obtain ⟨a, ej, rfl⟩ := r1
    obtain ⟨o0, w1, xs0, rfl, w2⟩ := U1.tb.cell j _ a hj ej
    refine ⟨.inl ⟨rfl, xs0, .inl (.inl w1)⟩, ?_⟩
    cases e4 : f ds [] with
    | none => simp only [e4] at f3; exact f3.elim
    | some z =>
      obtain ⟨d, ds'⟩ := z
      simp only [e4] at f3
      exact mut_ok U1.tb h2 h3 hj ej .nil e4 fun v H' U3 rv => k v H' (.d d) A1 _ (U1.trans U3) rv f3⟩
/-! ### d[k] = v -/
def dicAt (h : Hh) : Vl → Option (Nat × List DK × List D)
  | .c j => match h[j]? with
    | some (.own (.dic ks ds)) => some (j, ks, ds)
    | _ => none
  | _ => none
theorem dicAt_some {h : Hh} {u : Vl} {j : Nat} {ks : List DK} {ds : List D} (e : dicAt h u = some (j, ks, ds)) : u = .c j ∧ h[j]? = some (.own (.dic ks ds)) := by
  unfold dicAt at e
  split at e
  · split at e
    · cases e; exact ⟨rfl, by assumption⟩
    · cases e
  · cases e
def xDput (o k v : XE) : XS := fun ρ h => (atS ρ (v ρ h)).bind fun p => (atS ρ (o ρ p.2)).bind fun q => (atS ρ (k ρ q.2)).bind fun r => match dicAt r.2 q.1, unD p.1, (unD r.1).bind keyD with
  | some (j, ks, ds), some d, some key => if ks.length < 16777216 then .ok (.nx, ρ, r.2.set j (.own (.dic (putKs ks key) (putDs ks ds key d)))) else .bad
  | _, _, _ => .bad
theorem js_dput {o ek ev : Expr} {xo xk xv : XE} {pos' : Pos} (hr : X.K = K → X.A.units + 64 < cLine) (ho : JE K W X o xo) (hk : JE K W X ek xk) (hv : JE K W X ev xv) (hs : swapsWith ev (some (.Subscript o ek pos')) pos.line X.env = pure false := by rfl) :
    JS K W X (.Assign [.Subscript o ek pos'] ev pos) (xDput xo xk xv) := ⟨fun hK => by
  have hu := hr hK
  refine ps_imp (ps_dput (by omega) (ho.pe hK) (hk.pe hK) (hv.pe hK) hs) fun D σ H q => ?_
  obtain ⟨O, ρ, A, h, P, E, I, f, k, kx⟩ := q
  have kx' := exS I.sl kx
  refine ⟨O, ρ, A, h, _, _, I, Tr.all_mapE.1 (Tr.all_bind.1 f), fun v H1 u A1 h1 U1 r1 f1 => ?_, kx'⟩
  refine ⟨O, ρ, A1, h1, _, _, I.up U1, Tr.all_mapE.1 (Tr.all_bind.1 f1), fun v2 H2 u2 A2 h2 U2 r2 f2 => ?_, kx'.up U1⟩
  refine ⟨O, ρ, A2, h2, _, _, (I.up U1).up U2, Tr.all_mapE.1 (Tr.all_bind.1 f2), fun y H3 u3 A3 h3 U3 r3 f3 => ?_, (kx'.up U1).up U2⟩
  have U := (U1.trans U2).trans U3
  cases e1 : dicAt h3 u2 with
  | none => simp only [e1] at f3; exact f3.elim
  | some jd =>
    obtain ⟨j, ks, ds⟩ := jd
    obtain ⟨rfl, hj⟩ := dicAt_some e1
    cases u with
    | c i => simp only [e1, unD] at f3; exact f3.elim
    | d dv =>
      cases u3 with
      | c i => simp only [e1, unD, Option.bind_none] at f3; exact f3.elim
      | d dk =>
        cases e2 : keyD dk with
        | none => simp only [e1, unD, Option.bind_some, e2] at f3; exact f3.elim
        | some key =>
          simp only [e1, unD, Option.bind_some, e2] at f3
          split at f3
          · rename_i hz
            obtain ⟨a, ej, rfl⟩ := r2
            obtain ⟨t3, eA⟩ := U3.pre
            have ej3 : A3[j]? = some a := by rw [eA]; exact get_pre ej
            obtain ⟨o, w1, kvs, rfl, w2, w3, w4⟩ := U.tb.cell j _ a hj ej3
            have hl : kvs.length = ks.length := by simpa using congrArg List.length w2
            have ry : Rp K (MM O A3 h3 H3) y dk := r3
            have ey := keyD_rp ry e2
            subst ey
            have rv : Rp K (MM O A3 h3 H3) v dv := Rp.mono U3.sm (Rp.mono U2.sm r1)
            have U4 := U.tb.setCell (o' := .dK (putK kvs (dkey key) v)) hj rfl ej3 (c' := .own (.dic (putKs ks key) (putDs ks ds key dv))) rfl ⟨_, upd_same, or_dic (putK_keys w2) (keysOk_put w3 ry e2) (putK_rp rv w2 w4)⟩
            have U5 := U.trans U4
            exact ⟨a, _, rfl, .k w1 (by rw [hl, sizeLine_eq]; exact hz), k .nx σ _ ρ A3 _ U5 (I.sl.mono U5.sm U5.pre) f3⟩
          · exact f3.elim⟩
/-! ### l[i] = v -/
def xLput (o k v : XE) : XS := fun ρ h => (atS ρ (v ρ h)).bind fun p => (atS ρ (o ρ p.2)).bind fun q => (atS ρ (k ρ q.2)).bind fun r => match lstAt r.2 q.1, unD p.1, (asI r.1) with
  | some (j, ds), some d, some i => (match ixN ds.length i with
    | some n => .ok (.nx, ρ, r.2.set j (.own (.lst (ds.set n d))))
    | none => .bad)
  | _, _, _ => .bad
/-! ### freezing: what one owns is shared from here on -/
omit [ExI] in
theorem TbR.kill {O : Addr → Prop} {A : List Addr} {h : Hh} {H : Hp} (t : TbR K O A h H) {j : Nat} {d : D} {a : Addr} (hj : h[j]? = some (.own d)) (ej : A[j]? = some a) : Up K O A h H A (h.set j .dead) H ∧ Rp K (MM O A (h.set j .dead) H) (.ref a) d := by
  have jl : j < h.length := (List.getElem?_eq_some_iff.mp hj).1
  have lv : ∀ {i : Nat} {e : Cell}, (h.set j .dead)[i]? = some e → e.live = true → i ≠ j ∧ h[i]? = some e := fun {i e} q le => by
    by_cases z : j = i
    · subst z; rw [List.getElem?_set_self jl] at q; cases q; cases le
    · rw [List.getElem?_set_ne z] at q; exact ⟨fun w => z w.symm, q⟩
  have sm : Same (MM O A h H) (MM O A (h.set j .dead) H) := msk_le fun b z => z.imp id fun ⟨i, e, q1, q2, q3⟩ => ⟨i, e, (lv q1 q2).2, q2, q3⟩
  obtain ⟨o, h1, h2⟩ := t.cell j _ a hj ej
  refine ⟨⟨⟨by rw [List.length_set]; exact t.len, fun i e b q1 q2 => ?_, fun i k e f b q1 q2 l1 l2 e1 e2 => t.inj i k e f b (lv q1 l1).2 (lv q2 l2).2 l1 l2 e1 e2, fun i e b q1 le q2 => t.dis i e b (lv q1 le).2 le q2, t.dom⟩, ⟨[], by simp⟩, sm, fun _ _ _ e => e⟩, OR.rp h2 ?_ sm⟩
  · cases le : e.live with
    | false => cases e <;> first | trivial | cases le
    | true => exact (t.cell i e b (lv q1 le).2 q2).mono sm fun _ o z => z
  · show msk _ _ _ = _
    rw [msk_of, h1]
    rintro (z | ⟨i, e, q1, q2, q3⟩)
    · exact t.dis j _ a hj rfl ej z
    · obtain ⟨n, w⟩ := lv q1 q2
      exact n (t.inj i j e _ a w hj q2 rfl q3 ej)
def xFrz (i : Nat) (g : XS) : XS := fun ρ h => match ρ[i]? with
  | some (some (.c j)) => (match h[j]? with
    | some (.own d) => g (ρ.set i (some (.d d))) (h.set j .dead)
    | _ => g ρ h)
  | _ => g ρ h
theorem jss_frz {sts : List Stmt} (i : Nat) (h : JSs K W X sts g) : JSs K W X sts (xFrz i g) := ⟨fun hK => pss_imp (h.ps hK) fun D σ H q => by
  obtain ⟨O, ρ, A, h0, P, E, I, f, k, kx⟩ := q
  unfold xFrz at f
  split at f
  · rename_i j e1
    split at f
    · rename_i d e2
      obtain ⟨v, w1, a, w2, rfl⟩ := I.sl.slot i _ e1
      obtain ⟨U, r⟩ := I.tb.kill e2 w2
      have s2 : SlotR K (MM O A (h0.set j .dead) H) A σ (ρ.set i (some (.d d))) := by
        have s0 := I.sl.mono U.sm U.pre
        refine ⟨by rw [List.length_set]; exact s0.len, fun l u e => ?_⟩
        by_cases z : i = l
        · subst z
          rw [List.getElem?_set] at e
          simp only [if_true] at e
          split at e
          · cases e; exact ⟨.ref a, w1, r⟩
          · cases e
        · rw [List.getElem?_set_ne z] at e; exact s0.slot l u e
      exact ⟨O, _, A, _, P, E, ⟨s2, U.tb⟩, f, fun fl σ' H' ρ' A' h' U' s' p => k fl σ' H' ρ' A' h' (U.trans U') s' p, fun cls d' σ' H' e ρ' A' h' U' s' r' q => kx cls d' σ' H' e ρ' A' h' (U.trans U') s' r' q⟩
    · exact ⟨O, ρ, A, h0, P, E, I, f, k, kx⟩
  · exact ⟨O, ρ, A, h0, P, E, I, f, k, kx⟩⟩
end
end EL
/-! The layer EL: defs and their calls. -/
namespace EL
open PySem PySem.Spec PyProof.Rows L2 DL

/-! ### what a def is -/
/-- what is handed back: plain data, or a new thing -/
inductive Rv where
  | d (x : D) | new (x : D)
deriving Inhabited
abbrev GX := List D → List Cell → Tr (Ex × List Cell) (Rv × List Cell)
/-- the slots at the entry: mask says which parameters are cells -/
def initV : List Bool → List D → Nat → Rho
  | [], _, _ => []
  | false :: ms, d :: ds, k => some (.d d) :: initV ms ds k
  | true :: ms, ds, k => some (.c k) :: initV ms ds (k + 1)
  | false :: ms, [], k => none :: initV ms [] k
def finF (n : Nat) (p : Fl × Rho × Hh) : Tr (Ex × List Cell) (Rv × List Cell) := match p.1 with
  | .nx => .ok (.d .non, p.2.2.take n)
  | .rt (.d x) => .ok (.d x, p.2.2.take n)
  | .rt (.c i) => if i < n then .bad else match p.2.2[i]? with
    | some (.own x) => .ok (.new x, p.2.2.take n)
    | _ => .bad
  | _ => .bad
def runF (N : Nat) (mask : List Bool) (b : XS) : GX := fun ds cs => ((b (initV mask ds 0 ++ List.replicate (N - mask.length) none) cs).mapE fun e => (e.1, e.2.2.take cs.length)).bind (finF cs.length)
section
variable [FeedI] [ExI] (K : PySem.W.Frag)
def ArgR (m : Hp) : List Bool → List V → List D → List Addr → Prop
  | [], [], [], [] => True
  | false :: ms, v :: vs, d :: ds, as => Rp K m v d ∧ ArgR m ms vs ds as
  | true :: ms, v :: vs, ds, a :: as => v = .ref a ∧ ArgR m ms vs ds as
  | _, _, _, _ => False
def RvR (O : Addr → Prop) (As : List Addr) (cs : List Cell) (H : Hp) (v : V) (H' : Hp) (cs' : List Cell) : Rv → Prop
  | .d x => Up K O As cs H As cs' H' ∧ Rp K (MM O As cs' H') v x
  | .new x => ∃ a, v = .ref a ∧ NewR K O As cs H a As cs' H' x
/-- a def's promise: it comes to the function f -/
def spX (mask : List Bool) (f : GX) : Sp := fun vs H Q E => ∃ (O : Addr → Prop) (ds : List D) (cs : List Cell) (As : List Addr) (P : Rv × List Cell → Prop) (PE : Ex × List Cell → Prop), ArgR K (MM O As cs H) mask vs ds As ∧ TbR K O As cs H ∧ (f ds cs).all P PE ∧
  (∀ v H' r cs', RvR K O As cs H v H' cs' r → P (r, cs') → Q v H') ∧
  (∀ cls d H' e cs', Up K O As cs H As cs' H' → ExI.ExR K (MM O As cs' H') cls d e → PE (e, cs') → E cls d H')
end
section
variable [FeedI] [ExI] {K : PySem.W.Frag}
theorem ArgR.length {m : Hp} : ∀ {mask : List Bool} {vs : List V} {ds : List D} {as : List Addr}, ArgR K m mask vs ds as → vs.length = mask.length
  | [], [], [], [], _ => rfl
  | false :: ms, v :: vs, d :: ds, as, h => by simp [ArgR.length h.2]
  | true :: ms, v :: vs, ds, a :: as, h => by
    have h' : v = .ref a ∧ ArgR K m ms vs ds as := by cases ds <;> exact h
    simp [ArgR.length h'.2]
  | [], [], [], _ :: _, h => h.elim
  | [], [], _ :: _, _, h => h.elim
  | [], _ :: _, _, _, h => h.elim
  | false :: _, [], _, _, h => h.elim
  | false :: _, _ :: _, [], _, h => h.elim
  | true :: _, [], _, _, h => h.elim
  | true :: _, _ :: _, ds, [], h => by cases ds <;> exact h.elim
theorem initV_len : ∀ {mask : List Bool} {ds : List D} {k : Nat}, (initV mask ds k).length = mask.length
  | [], _, _ => rfl
  | false :: ms, d :: ds, k => by simp [initV, initV_len]
  | true :: ms, ds, k => by cases ds <;> simp [initV, initV_len]
  | false :: ms, [], k => by simp [initV, initV_len]
theorem init_slots {m : Hp} : ∀ {mask : List Bool} {vs : List V} {ds : List D} {as A : List Addr} {k : Nat}, ArgR K m mask vs ds as → (∀ (j : Nat) (a : Addr), as[j]? = some a → A[k + j]? = some a) →
    ∀ (i : Nat) (u : Vl), (initV mask ds k)[i]? = some (some u) → ∃ x : V, vs[i]? = some x ∧ VlR K m A x u
  | [], [], [], [], _, _, _, _, i, u, e => by cases e
  | false :: ms, v :: vs, d :: ds, as, A, k, h, hA, i, u, e => by
    cases i with
    | zero => cases e; exact ⟨v, rfl, h.1⟩
    | succ i => exact init_slots h.2 hA i u (by simpa [initV] using e)
  | true :: ms, v :: vs, ds, a :: as, A, k, h, hA, i, u, e => by
    have h' : v = .ref a ∧ ArgR K m ms vs ds as := by cases ds <;> exact h
    cases i with
    | zero =>
      have e' : u = .c k := by cases ds <;> (cases e; rfl)
      subst e'
      exact ⟨v, rfl, a, by simpa using hA 0 a rfl, h'.1⟩
    | succ i =>
      refine init_slots (A := A) (k := k + 1) h'.2 (fun j b q => ?_) i u (by cases ds <;> simpa [initV] using e)
      have := hA (j + 1) b (by simpa using q)
      rwa [show k + (j + 1) = k + 1 + j by omega] at this
  | [], [], [], _ :: _, _, _, h, _, _, _, _ => h.elim
  | [], [], _ :: _, _, _, _, h, _, _, _, _ => h.elim
  | [], _ :: _, _, _, _, _, h, _, _, _, _ => h.elim
  | false :: _, [], _, _, _, _, h, _, _, _, _ => h.elim
  | false :: _, _ :: _, [], _, _, _, h, _, _, _, _ => h.elim
  | true :: _, [], _, _, _, _, h, _, _, _, _ => h.elim
  | true :: _, _ :: _, ds, [], _, _, h, _, _, _, _ => by cases ds <;> exact h.elim
theorem Up.take {O : Addr → Prop} {As A' : List Addr} {cs h' : List Cell} {H H' : Hp} (t : TbR K O As cs H) (u : Up K O As cs H A' h' H') : Up K O As cs H As (h'.take cs.length) H' ∧ Same (MM O A' h' H') (MM O As (h'.take cs.length) H') := by
  obtain ⟨t1, t2⟩ := u.tb.take cs.length
  obtain ⟨x, e⟩ := u.pre
  have eA : A'.take cs.length = As := by rw [e, ← t.len]; exact List.take_left
  rw [eA] at t1 t2
  exact ⟨⟨t1, ⟨[], by simp⟩, u.sm.trans t2, u.oo⟩, t2⟩
/-- a cell that nothing else names is handed back as a new thing -/
theorem NewR.out {O : Addr → Prop} {As A' : List Addr} {cs h' : List Cell} {H H' : Hp} (t : TbR K O As cs H) (u : Up K O As cs H A' h' H') {i : Nat} {x : D} {a : Addr} (hi : ¬ i < cs.length) (hc : h'[i]? = some (.own x)) (ha : A'[i]? = some a) : NewR K O As cs H a As (h'.take cs.length) H' x := by
  obtain ⟨v, _⟩ := Up.take t u
  obtain ⟨o, h1, h2⟩ := u.tb.cell i _ a hc ha
  have sm : Same (MM O A' h' H') (MM (OA O a) As (h'.take cs.length) H') := msk_le fun b z => by
    obtain ⟨y, e⟩ := u.pre
    rcases ow_OA.1 z with (z | ⟨j, c, q1, q2, q3⟩) | rfl
    · exact .inl z
    · rw [List.getElem?_take] at q1
      split at q1
      · exact .inr ⟨j, c, q1, q2, by rw [e]; exact get_pre q3⟩
      · cases q1
    · exact .inr ⟨i, _, hc, rfl, ha⟩
  have ne : ∀ (j : Nat) (c : Cell), (h'.take cs.length)[j]? = some c → c.live = true → As[j]? ≠ some a := fun j c q1 l q2 => by
    obtain ⟨y, e⟩ := u.pre
    rw [List.getElem?_take] at q1
    split at q1
    · have := u.tb.inj j i c _ a q1 hc l rfl (by rw [e]; exact get_pre q2) ha
      omega
    · cases q1
  refine ⟨⟨v.tb.len, fun j c b q1 q2 => ?_, v.tb.inj, fun j c b q1 l q2 z => ?_, fun b z => ?_⟩, v.pre, u.sm.trans sm, u.oo, u.tb.dis i _ a hc rfl ha, o, h1, OR.mono sm h2⟩
  · obtain ⟨y, e⟩ := u.pre
    rw [List.getElem?_take] at q1
    split at q1
    · exact (u.tb.cell j c b q1 (by rw [e]; exact get_pre q2)).mono sm fun _ o z => z
    · cases q1
  · rcases z with z | rfl
    · exact v.tb.dis j c b q1 l q2 z
    · exact ne j c q1 l q2
  · rcases z with z | rfl
    · exact v.tb.dom b z
    · rw [h1]; exact fun z => nomatch z
section
variable {P : Program} {w : World} {mg : Str → Option Value} {base : Heap} {x qual : Str} {params : Arguments} {body : List Stmt} {scope : Scope} {dvs : List V} {kws : List (Str × V)} {f : Addr} {fd : FuncData} {N ps : List Str} {k : Nat}
/-- from a body's reading -/
theorem run_body {W : WX} {mask : List Bool} {b : XS} {O : Addr → Prop} {ds : List D} {cs : List Cell} {As : List Addr} {vs : List V} {H : Hp} {P : Rv × List Cell → Prop} {PE : Ex × List Cell → Prop} {Q : VK} (hN : mask.length ≤ N.length) (h1 : ArgR K (MM O As cs H) mask vs ds As) (h2 : TbR K O As cs H) (h3 : (runF N.length mask b ds cs).all P PE)
    (h4 : ∀ v H' r cs', RvR K O As cs H v H' cs' r → P (r, cs') → Q v H') (h5 : ∀ cls d σ' H' e cs', Up K O As cs H As cs' H' → ExI.ExR K (MM O As cs' H') cls d e → PE (e, cs') → W cls d σ' H') :
    sOf K W b { nx := fun _ H' => Q .non H', rt := Q } (start N vs) H := by
  refine ⟨O, _, As, cs, _, _, ⟨⟨?_, fun i u e => ?_⟩, h2⟩, Tr.all_mapE.1 (Tr.all_bind.1 h3), fun fl σ' H' ρ' A' h' U s' p => ?_, fun cls d σ' H' e ρ' A' h' U s' r q => ?_⟩
  · rw [List.length_append, initV_len, List.length_replicate]
    simp only [L2.start, List.length_append, List.length_map, List.length_replicate]
    have := h1.length
    omega
  · by_cases hi : i < mask.length
    · rw [List.getElem?_append_left (by rw [initV_len]; exact hi)] at e
      obtain ⟨x, q1, q2⟩ := init_slots (A := As) (k := 0) h1 (fun j a q => by simpa using q) i u e
      exact ⟨x, start_get q1, q2⟩
    · rw [List.getElem?_append_right (by rw [initV_len]; omega), List.getElem?_replicate] at e
      split at e <;> cases e
  · obtain ⟨v, sm⟩ := Up.take h2 U
    cases fl with
    | nx => exact h4 .non H' (.d .non) _ ⟨v, .non⟩ p
    | rt u =>
      intro x hx
      cases u with
      | d y => exact h4 x H' (.d y) _ ⟨v, Rp.mono sm hx⟩ p
      | c i =>
        obtain ⟨a, ea, rfl⟩ := hx
        have p' : (if i < cs.length then (.bad : Tr (Ex × List Cell) (Rv × List Cell)) else match h'[i]? with
          | some (.own x) => .ok (.new x, h'.take cs.length)
          | _ => .bad).all P PE := p
        split at p'
        · exact p'.elim
        · rename_i hi
          split at p'
          · rename_i y hc
            exact h4 _ H' (.new y) _ ⟨a, rfl, NewR.out h2 U hi hc ea⟩ p'
          · exact p'.elim
    | bk => exact p.elim
    | ct => exact p.elim
  · obtain ⟨v, sm⟩ := Up.take h2 U
    exact h5 cls d σ' H' e _ v (ExI.mono sm r) q
/-- a def that raises nothing -/
def runF0 (N : Nat) (mask : List Bool) (b : XS) : GX := fun ds cs => noex (runF N mask b ds cs)
theorem fnX {CX : CXT} (F : FunD K x qual params body scope dvs kws f fd) (S : FnScope N ps scope) (hN : ps.length ≤ N.length) (mask : List Bool) (hm : mask.length = ps.length) (b : XS)
    (der : ∀ (cdv : Value) (A : Around) (outer : List Env) (s : Shared) (H : Hp) (E : XK), RoomG k (A.deeper (envOfC qual scope s.heap.objs.size f cdv)) → JSs K W0 (cxOf CX P w K mg base N qual scope f cdv A outer s H E).nox body b) : FnG P w K mg base CX (k + 1) f fd ps (spX K mask (runF0 N.length mask b)) := by
  obtain ⟨oc, od, dV, kV, doc, pm, an, cdv, ct, osl, rfl, lk, hcd, _, _⟩ := F.ex
  refine fnG_of lk hcd S (fun vs H Q E ⟨O, ds, cs, As, P0, PE, h1, _⟩ => by rw [h1.length, hm]) fun A outer s H vs Q E hr hsp => ?_
  obtain ⟨O, ds, cs, As, P0, PE, h1, h2, h3, h4, h5⟩ := hsp
  exact ⟨_, PSs.nox ((der cdv A outer s H E hr).ps rfl), run_body (by omega) h1 h2 (all_noex.1 h3) h4 fun _ _ _ _ _ _ _ _ z => z.elim⟩
/-- a def that may raise -/
theorem fnXr (F : FunD K x qual params body scope dvs kws f fd) (S : FnScope N ps scope) (hN : ps.length ≤ N.length) (mask : List Bool) (hm : mask.length = ps.length) (b : XS)
    (der : ∀ (cdv : Value) (A : Around) (outer : List Env) (s : Shared) (H : Hp) (E : XK), RoomG k (A.deeper (envOfC qual scope s.heap.objs.size f cdv)) → JSs K (fun cls d _ H => E cls d H) (cxOf (L2.CX P w) P w K mg base N qual scope f cdv A outer s H E) body b) : FnG P w K mg base (L2.CX P w) (k + 1) f fd ps (spX K mask (runF N.length mask b)) := by
  obtain ⟨oc, od, dV, kV, doc, pm, an, cdv, ct, osl, rfl, lk, hcd, _, _⟩ := F.ex
  refine fnG_of lk hcd S (fun vs H Q E ⟨O, ds, cs, As, P0, PE, h1, _⟩ => by rw [h1.length, hm]) fun A outer s H vs Q E hr hsp => ?_
  obtain ⟨O, ds, cs, As, P0, PE, h1, h2, h3, h4, h5⟩ := hsp
  exact ⟨_, (der cdv A outer s H E hr).ps rfl, run_body (by omega) h1 h2 h3 h4 fun cls d σ' H' e cs' U r q => h5 cls d H' e cs' U r q⟩
end
end
end EL
/-! The layer EL: calls. -/
namespace EL
open PySem PySem.Spec PyProof.Rows L2 DL

def splitA : List Bool → List Vl → Option (List D × List Nat)
  | [], [] => some ([], [])
  | false :: ms, .d d :: us => (splitA ms us).map fun p => (d :: p.1, p.2)
  | true :: ms, .c i :: us => (splitA ms us).map fun p => (p.1, i :: p.2)
  | _, _ => none
def getCs (h : Hh) : List Nat → Option (List Cell)
  | [] => some []
  | i :: is => match h[i]? with
    | some c => if c.live then (getCs h is).map (c :: ·) else none
    | none => none
def setCs (h : Hh) : List Nat → List Cell → Hh
  | i :: is, c :: cs => setCs (h.set i c) is cs
  | _, _ => h
def nodupB : List Nat → Bool
  | [] => true
  | i :: is => !is.contains i && nodupB is
def okCs : List Cell → List Cell → Bool
  | [], [] => true
  | _ :: cs, d :: ds => d.live && okCs cs ds
  | _, _ => false
namespace Tr
variable {ε ζ α β : Type}
def both (t : Tr ε α) (e : ε → Tr ζ β) (f : α → Tr ζ β) : Tr ζ β := match t with
  | .ok a => f a
  | .ex x => e x
  | .draw n k => .draw n fun r => both (k r) e f
  | .bad => .bad
theorem all_both {P : β → Prop} {E : ζ → Prop} {e : ε → Tr ζ β} {f : α → Tr ζ β} : ∀ {t : Tr ε α}, (t.both e f).all P E ↔ t.all (fun a => (f a).all P E) (fun x => (e x).all P E)
  | .ok _ => Iff.rfl
  | .ex _ => Iff.rfl
  | .draw _ k => ⟨fun h r h0 h1 => all_both.1 (h r h0 h1), fun h r h0 h1 => all_both.2 (h r h0 h1)⟩
  | .bad => Iff.rfl
@[simp] theorem both_ok {a : α} {e : ε → Tr ζ β} {f : α → Tr ζ β} : (Tr.ok a).both e f = f a := (rfl)
@[simp] theorem both_ex {x : ε} {e : ε → Tr ζ β} {f : α → Tr ζ β} : (Tr.ex x).both e f = e x := (rfl)
@[simp] theorem both_bad {e : ε → Tr ζ β} {f : α → Tr ζ β} : (Tr.bad : Tr ε α).both e f = .bad := (rfl)
end Tr
def callV (mask : List Bool) (f : GX) (us : List Vl) (h : Hh) : Tr (Ex × Hh) (Rv × Hh) := match splitA mask us with
  | some (ds, is) => if nodupB is = true then (match getCs h is with
    | some cs => (f ds cs).both (fun e => if okCs cs e.2 = true then .ex (e.1, setCs h is e.2) else .bad) fun r => if okCs cs r.2 = true then .ok (r.1, setCs h is r.2) else .bad
    | none => .bad) else .bad
  | none => .bad
section
variable [FeedI] [ExI] {K : PySem.W.Frag} {O : Addr → Prop} {A : List Addr} {h : Hh} {H : Hp}
/-- the cells that are handed down -/
structure Sub (A As : List Addr) (h : Hh) (cs : List Cell) (is : List Nat) : Prop where
  la : As.length = is.length
  lc : cs.length = is.length
  at_ : ∀ (k i : Nat), is[k]? = some i → ∃ (c : Cell) (a : Addr), cs[k]? = some c ∧ As[k]? = some a ∧ h[i]? = some c ∧ A[i]? = some a ∧ c.live = true
theorem split_rp {m : Hp} : ∀ {mask : List Bool} {vs : List V} {us : List Vl} {ds : List D} {is : List Nat}, VlsR K m A vs us → splitA mask us = some (ds, is) → ∃ As : List Addr, ArgR K m mask vs ds As ∧ As.length = is.length ∧ ∀ (k i : Nat), is[k]? = some i → ∃ a, As[k]? = some a ∧ A[i]? = some a
  | [], [], [], _, _, _, e => by cases e; exact ⟨[], trivial, rfl, fun k i q => by simp at q⟩
  | [], _, _ :: _, _, _, _, e => by cases e
  | [], _ :: _, [], _, _, r, _ => r.elim
  | false :: ms, v :: vs, .d d :: us, ds, is, r, e => by
    obtain ⟨⟨ds', is'⟩, e1, e2⟩ := Option.map_eq_some_iff.mp (show (splitA ms us).map _ = some (ds, is) from e)
    cases e2
    obtain ⟨As, h1, h2, h3⟩ := split_rp r.2 e1
    exact ⟨As, ⟨r.1, h1⟩, h2, h3⟩
  | true :: ms, v :: vs, .c i :: us, ds, is, r, e => by
    obtain ⟨⟨ds', is'⟩, e1, e2⟩ := Option.map_eq_some_iff.mp (show (splitA ms us).map _ = some (ds, is) from e)
    cases e2
    obtain ⟨As, h1, h2, h3⟩ := split_rp r.2 e1
    obtain ⟨a, q1, q2⟩ := r.1
    refine ⟨a :: As, by cases ds' <;> exact ⟨q2, h1⟩, by simp [h2], fun k j q => ?_⟩
    cases k with
    | zero => cases q; exact ⟨a, rfl, q1⟩
    | succ k => simpa using h3 k j (by simpa using q)
  | false :: _, _, .c _ :: _, _, _, _, e => by cases e
  | true :: _, _, .d _ :: _, _, _, _, e => by cases e
  | false :: _, _, [], _, _, _, e => by cases e
  | true :: _, _, [], _, _, _, e => by cases e
  | false :: _, [], .d _ :: _, _, _, r, _ => r.elim
  | true :: _, [], .c _ :: _, _, _, r, _ => r.elim
theorem getCs_at : ∀ {is : List Nat} {cs : List Cell}, getCs h is = some cs → cs.length = is.length ∧ ∀ (k i : Nat), is[k]? = some i → ∃ c : Cell, cs[k]? = some c ∧ h[i]? = some c ∧ c.live = true
  | [], cs, e => by cases e; exact ⟨rfl, fun k i q => by simp at q⟩
  | i :: is, cs, e => by
    unfold getCs at e
    split at e
    · rename_i c hc
      split at e
      · rename_i l
        obtain ⟨cs', e1, rfl⟩ := Option.map_eq_some_iff.mp e
        obtain ⟨h1, h2⟩ := getCs_at e1
        refine ⟨by simp [h1], fun k j q => ?_⟩
        cases k with
        | zero => cases q; exact ⟨c, rfl, hc, l⟩
        | succ k => simpa using h2 k j (by simpa using q)
      · cases e
    · cases e
theorem okCs_live : ∀ {cs ds : List Cell}, okCs cs ds = true → cs.length = ds.length ∧ ∀ (k : Nat) (c : Cell), ds[k]? = some c → c.live = true
  | [], [], _ => ⟨rfl, fun k c q => by simp at q⟩
  | _ :: cs, d :: ds, e => by
    have e' := Bool.and_eq_true_iff.mp (show (d.live && okCs cs ds) = true from e)
    obtain ⟨h1, h2⟩ := okCs_live e'.2
    refine ⟨by simp [h1], fun k c q => ?_⟩
    cases k with
    | zero => cases q; exact e'.1
    | succ k => exact h2 k c (by simpa using q)
  | [], _ :: _, e => by cases e
  | _ :: _, [], e => by cases e
theorem nodupB_iff : ∀ {is : List Nat}, nodupB is = true → ∀ (k l i : Nat), is[k]? = some i → is[l]? = some i → k = l
  | [], _, k, l, i, e, _ => by simp at e
  | j :: is, h, k, l, i, e1, e2 => by
    have h' := Bool.and_eq_true_iff.mp (show (!is.contains j && nodupB is) = true from h)
    have nj : j ∉ is := by have := h'.1; simpa using this
    cases k with
    | zero =>
      cases l with
      | zero => rfl
      | succ l => cases e1; exact (nj (List.mem_of_getElem? (by simpa using e2))).elim
    | succ k =>
      cases l with
      | zero => cases e2; exact (nj (List.mem_of_getElem? (by simpa using e1))).elim
      | succ l => rw [nodupB_iff h'.2 k l i (by simpa using e1) (by simpa using e2)]
theorem setCs_len : ∀ {is : List Nat} {cs : List Cell} {h : Hh}, (setCs h is cs).length = h.length
  | [], _, _ => by simp [setCs]
  | _ :: _, [], _ => by simp [setCs]
  | i :: is, c :: cs, h => by unfold setCs; rw [setCs_len, List.length_set]
theorem setCs_get : ∀ {is : List Nat} {cs : List Cell} {h : Hh}, nodupB is = true → cs.length = is.length → (∀ i ∈ is, i < h.length) → ∀ (i : Nat) (c : Cell), (setCs h is cs)[i]? = some c → (∃ k : Nat, is[k]? = some i ∧ cs[k]? = some c) ∨ (i ∉ is ∧ h[i]? = some c)
  | [], cs, h, _, _, _, i, c, e => .inr ⟨by simp, by simpa [setCs] using e⟩
  | j :: is, [], h, _, hl, _, i, c, e => by cases hl
  | j :: is, d :: cs, h, hn, hl, hb, i, c, e => by
    have h' := Bool.and_eq_true_iff.mp (show (!is.contains j && nodupB is) = true from hn)
    have nj : j ∉ is := by have := h'.1; simpa using this
    unfold setCs at e
    rcases setCs_get h'.2 (by simpa using hl) (fun i hi => by rw [List.length_set]; exact hb i (List.mem_cons_of_mem _ hi)) i c e with ⟨k, q1, q2⟩ | ⟨q1, q2⟩
    · exact .inl ⟨k + 1, by simpa using q1, by simpa using q2⟩
    · by_cases z : j = i
      · subst z
        rw [List.getElem?_set_self (hb j List.mem_cons_self)] at q2
        exact .inl ⟨0, rfl, by simpa using q2⟩
      · rw [List.getElem?_set_ne z] at q2
        exact .inr ⟨fun w => (List.mem_cons.mp w).elim (fun w => z w.symm) q1, q2⟩
/-- the callee's view -/
theorem sub_tb (t : TbR K O A h H) {As : List Addr} {cs : List Cell} {is : List Nat} (hn : nodupB is = true) (s : Sub A As h cs is) :
    TbR K (fun b => Ow O A h b ∧ b ∉ As) As cs H ∧ MM (fun b => Ow O A h b ∧ b ∉ As) As cs H = MM O A h H := by
  have up : ∀ {k : Nat} {c : Cell} {a : Addr}, cs[k]? = some c → As[k]? = some a → ∃ i, is[k]? = some i ∧ h[i]? = some c ∧ A[i]? = some a ∧ c.live = true := fun {k c a} q1 q2 => by
    have hk : k < is.length := by rw [← s.lc]; exact (List.getElem?_eq_some_iff.mp q1).1
    obtain ⟨c', a', w1, w2, w3, w4, w5⟩ := s.at_ k is[k] (List.getElem?_eq_getElem hk)
    rw [q1] at w1; cases w1
    rw [q2] at w2; cases w2
    exact ⟨is[k], List.getElem?_eq_getElem hk, w3, w4, w5⟩
  have eO : Ow (fun b => Ow O A h b ∧ b ∉ As) As cs = Ow O A h := by
    funext b
    refine propext ⟨?_, fun z => ?_⟩
    · rintro (⟨z, _⟩ | ⟨k, c, q1, _, q3⟩)
      · exact z
      · obtain ⟨i, _, w2, w3, w4⟩ := up q1 q3
        exact .inr ⟨i, c, w2, w4, w3⟩
    · by_cases m : b ∈ As
      · obtain ⟨k, hk⟩ := List.getElem?_of_mem m
        have hl : k < is.length := by rw [← s.la]; exact (List.getElem?_eq_some_iff.mp hk).1
        obtain ⟨c, a, w1, w2, w3, w4, w5⟩ := s.at_ k is[k] (List.getElem?_eq_getElem hl)
        rw [hk] at w2; cases w2
        exact .inr ⟨k, c, w1, w5, hk⟩
      · exact .inl ⟨z, m⟩
  have eM : MM (fun b => Ow O A h b ∧ b ∉ As) As cs H = MM O A h H := by show msk _ _ = msk _ _; rw [eO]
  refine ⟨⟨s.la.trans s.lc.symm, fun k c a q1 q2 => ?_, fun k l c e a q1 q2 l1 l2 e1 e2 => ?_, fun k c a q1 _ q2 z => z.2 (List.mem_of_getElem? q2), fun b z => t.own_some z.1⟩, eM⟩
  · rw [eM]
    obtain ⟨i, _, w2, w3, w4⟩ := up q1 q2
    exact t.cell i c a w2 w3
  · obtain ⟨i, x1, x2, x3, x4⟩ := up q1 e1
    obtain ⟨j, y1, y2, y3, y4⟩ := up q2 e2
    have := t.inj i j c e a x2 y2 x4 y4 x3 y3
    subst this
    exact nodupB_iff hn k l i x1 y1
/-- back at the caller -/
theorem sub_back (t : TbR K O A h H) {As : List Addr} {cs cs' : List Cell} {is : List Nat} (hn : nodupB is = true) (s : Sub A As h cs is) {OX : Addr → Prop} {H' : Hp} (hX : ∀ b, OX b → ¬ Ow O A h b ∧ H' b ≠ none) (u : TbR K (fun b => (Ow O A h b ∧ b ∉ As) ∨ OX b) As cs' H') (sm : Same (MM O A h H) (MM (fun b => (Ow O A h b ∧ b ∉ As) ∨ OX b) As cs' H'))
    (oo : ∀ b o, Ow O A h b ∧ b ∉ As → H b = some o → H' b = some o) (ok : okCs cs cs' = true) :
    TbR K (fun b => O b ∨ OX b) A (setCs h is cs') H' ∧ MM (fun b => O b ∨ OX b) A (setCs h is cs') H' = MM (fun b => (Ow O A h b ∧ b ∉ As) ∨ OX b) As cs' H' := by
  obtain ⟨l1, l2⟩ := okCs_live ok
  have il : ∀ i ∈ is, i < h.length := fun i hi => by
    obtain ⟨k, hk⟩ := List.getElem?_of_mem hi
    obtain ⟨c, a, _, _, w3, _⟩ := s.at_ k i hk
    exact (List.getElem?_eq_some_iff.mp w3).1
  have get := fun (i : Nat) (c : Cell) => setCs_get (h := h) (is := is) (cs := cs') hn (by rw [← l1]; exact s.lc) il i c
  -- an address of the caller's, by its place
  have nAs : ∀ {i : Nat} {c : Cell} {a : Addr}, i ∉ is → h[i]? = some c → c.live = true → A[i]? = some a → a ∉ As := fun {i c a} ni q1 l q2 m => by
    obtain ⟨k, hk⟩ := List.getElem?_of_mem m
    have hl : k < is.length := by rw [← s.la]; exact (List.getElem?_eq_some_iff.mp hk).1
    obtain ⟨c', a', w1, w2, w3, w4, w5⟩ := s.at_ k is[k] (List.getElem?_eq_getElem hl)
    rw [hk] at w2; cases w2
    have := t.inj i is[k] c c' a q1 w3 l w5 q2 w4
    exact ni (by rw [this]; exact List.getElem_mem hl)
  have asA : ∀ {k i : Nat} {a : Addr}, is[k]? = some i → A[i]? = some a → As[k]? = some a := fun {k i a} q1 q2 => by
    obtain ⟨c, a', w1, w2, w3, w4, w5⟩ := s.at_ k i q1
    rw [q2] at w4; cases w4; exact w2
  have nO : ∀ b ∈ As, ¬ O b := fun b m => by
    obtain ⟨k, hk⟩ := List.getElem?_of_mem m
    have hl : k < is.length := by rw [← s.la]; exact (List.getElem?_eq_some_iff.mp hk).1
    obtain ⟨c', a', w1, w2, w3, w4, w5⟩ := s.at_ k is[k] (List.getElem?_eq_getElem hl)
    rw [hk] at w2; cases w2
    exact t.dis _ _ _ w3 w5 w4
  have eO : Ow (fun b => O b ∨ OX b) A (setCs h is cs') = Ow (fun b => (Ow O A h b ∧ b ∉ As) ∨ OX b) As cs' := by
    funext b
    refine propext ⟨?_, ?_⟩
    · rintro ((z | z) | ⟨i, c, q1, q2, q3⟩)
      · exact .inl (.inl ⟨.inl z, fun m => nO b m z⟩)
      · exact .inl (.inr z)
      · rcases get i c q1 with ⟨k, w1, w2⟩ | ⟨w1, w2⟩
        · exact .inr ⟨k, c, w2, q2, asA w1 q3⟩
        · exact .inl (.inl ⟨.inr ⟨i, c, w2, q2, q3⟩, nAs w1 w2 q2 q3⟩)
    · rintro ((⟨z, m⟩ | z) | ⟨k, c, q1, q2, q3⟩)
      · rcases z with z | ⟨i, c, q1, q2, q3⟩
        · exact .inl (.inl z)
        · by_cases hi : i ∈ is
          · obtain ⟨k, hk⟩ := List.getElem?_of_mem hi
            exact (m (List.mem_of_getElem? (asA hk q3))).elim
          · cases e : (setCs h is cs')[i]? with
            | none =>
              have := List.getElem?_eq_none_iff.mp e
              rw [setCs_len] at this
              have := (List.getElem?_eq_some_iff.mp q1).1
              omega
            | some c2 =>
              rcases get i c2 e with ⟨k, w1, w2⟩ | ⟨w1, w2⟩
              · exact (hi (List.mem_of_getElem? w1)).elim
              · rw [q1] at w2; cases w2
                exact .inr ⟨i, c, e, q2, q3⟩
      · exact .inl (.inr z)
      · have hk : k < is.length := by rw [← s.la]; exact (List.getElem?_eq_some_iff.mp q3).1
        obtain ⟨c', a', w1, w2, w3, w4, w5⟩ := s.at_ k is[k] (List.getElem?_eq_getElem hk)
        rw [q3] at w2; cases w2
        have hi : is[k] < h.length := (List.getElem?_eq_some_iff.mp w3).1
        cases e : (setCs h is cs')[is[k]]? with
        | none =>
          have := List.getElem?_eq_none_iff.mp e
          rw [setCs_len] at this
          omega
        | some c2 =>
          rcases get is[k] c2 e with ⟨k2, x1, x2⟩ | ⟨x1, x2⟩
          · have := nodupB_iff hn k k2 is[k] (List.getElem?_eq_getElem hk) x1
            subst this
            rw [q1] at x2; cases x2
            exact .inr ⟨is[k], c, e, q2, w4⟩
          · exact (x1 (List.getElem_mem hk)).elim
  have eM : MM (fun b => O b ∨ OX b) A (setCs h is cs') H' = MM (fun b => (Ow O A h b ∧ b ∉ As) ∨ OX b) As cs' H' := by show msk _ _ = msk _ _; rw [eO]
  refine ⟨⟨by rw [setCs_len]; exact t.len, fun i c a q1 q2 => ?_, fun i j c e a q1 q2 l3 l4 e1 e2 => ?_, fun i c a q1 l q2 z => ?_, fun b z => ?_⟩, eM⟩
  · rw [eM]
    rcases get i c q1 with ⟨k, w1, w2⟩ | ⟨w1, w2⟩
    · exact u.cell k c a w2 (asA w1 q2)
    · exact (t.cell i c a w2 q2).mono sm fun l o z => oo a o ⟨.inr ⟨i, c, w2, l, q2⟩, nAs w1 w2 l q2⟩ z
  · rcases get i c q1 with ⟨k, w1, w2⟩ | ⟨w1, w2⟩
    · rcases get j e q2 with ⟨k2, x1, x2⟩ | ⟨x1, x2⟩
      · have := u.inj k k2 c e a w2 x2 l3 l4 (asA w1 e1) (asA x1 e2)
        subst this
        rw [w1] at x1; cases x1; rfl
      · exact (nAs x1 x2 l4 e2 (List.mem_of_getElem? (asA w1 e1))).elim
    · rcases get j e q2 with ⟨k2, x1, x2⟩ | ⟨x1, x2⟩
      · exact (nAs w1 w2 l3 e1 (List.mem_of_getElem? (asA x1 e2))).elim
      · exact t.inj i j c e a w2 x2 l3 l4 e1 e2
  · rcases get i c q1 with ⟨k, w1, w2⟩ | ⟨w1, w2⟩
    · rcases z with z | z
      · exact nO a (List.mem_of_getElem? (asA w1 q2)) z
      · exact u.dis k c a w2 l (asA w1 q2) (.inr z)
    · rcases z with z | z
      · exact t.dis i c a w2 l q2 z
      · exact (hX a z).1 (.inr ⟨i, c, w2, l, q2⟩)
  · rcases z with z | z
    · exact u.dom b (.inl ⟨.inl z, fun m => nO b m z⟩)
    · exact (hX b z).2
end
end EL
/-! The layer EL: calls as expressions. -/
namespace EL
open PySem PySem.Spec PyProof.Rows L2 DL
section
variable [FeedI] [ExI] {K : PySem.W.Frag} {O : Addr → Prop} {A : List Addr} {h : Hh} {H : Hp}
theorem callV_ok (t : TbR K O A h H) {mask : List Bool} {fx : GX} {vs : List V} {us : List Vl} {P : Rv × Hh → Prop} {E : Ex × Hh → Prop} {Q : VK} {XE : XK} (r : VlsR K (MM O A h H) A vs us) (f : (callV mask fx us h).all P E)
    (kP : ∀ v H' r h', RvR K O A h H v H' h' r → P (r, h') → Q v H') (kE : ∀ cls d H' e h', Up K O A h H A h' H' → ExI.ExR K (MM O A h' H') cls d e → E (e, h') → XE cls d H') : spX K mask fx vs H Q XE := by
  unfold callV at f
  cases e1 : splitA mask us with
  | none => rw [e1] at f; exact f.elim
  | some di =>
    obtain ⟨ds, is⟩ := di
    rw [e1] at f
    dsimp only at f
    split at f
    · rename_i hn
      cases e2 : getCs h is with
      | none => rw [e2] at f; exact f.elim
      | some cs =>
        rw [e2] at f
        dsimp only at f
        obtain ⟨As, ra, la, at1⟩ := split_rp r e1
        obtain ⟨lc, at2⟩ := getCs_at e2
        have s : Sub A As h cs is := ⟨la, lc, fun k i q => by
          obtain ⟨a, w1, w2⟩ := at1 k i q
          obtain ⟨c, x1, x2, x3⟩ := at2 k i q
          exact ⟨c, a, x1, w1, x2, w2, x3⟩⟩
        obtain ⟨t2, eM⟩ := sub_tb t hn s
        have eF : (fun b => (Ow O A h b ∧ b ∉ As) ∨ False) = fun b => Ow O A h b ∧ b ∉ As := funext fun b => by simp
        have eF2 : (fun b => O b ∨ False) = O := funext fun b => by simp
        have back : ∀ {cs' H'}, okCs cs cs' = true → Up K (fun b => Ow O A h b ∧ b ∉ As) As cs H As cs' H' → Up K O A h H A (setCs h is cs') H' ∧ MM O A (setCs h is cs') H' = MM (fun b => Ow O A h b ∧ b ∉ As) As cs' H' := fun {cs' H'} ok u => by
          have := sub_back (OX := fun _ => False) t hn s (fun _ z => z.elim) (by rw [eF]; exact u.tb) (by rw [eF, ← eM]; exact u.sm) u.oo ok
          rw [eF, eF2] at this
          obtain ⟨z1, z2⟩ := this
          refine ⟨⟨z1, ⟨[], by simp⟩, by rw [z2, ← eM]; exact u.sm, fun b o hb e => ?_⟩, z2⟩
          refine u.oo b o ⟨.inl hb, fun m => ?_⟩ e
          obtain ⟨k, hk⟩ := List.getElem?_of_mem m
          have hl : k < is.length := by rw [← s.la]; exact (List.getElem?_eq_some_iff.mp hk).1
          obtain ⟨c', a', w1, w2, w3, w4, w5⟩ := s.at_ k is[k] (List.getElem?_eq_getElem hl)
          rw [hk] at w2; cases w2
          exact t.dis _ _ _ w3 w5 w4 hb
        refine ⟨fun b => Ow O A h b ∧ b ∉ As, ds, cs, As, _, _, by rw [eM]; exact ra, t2, Tr.all_both.1 f, fun v H' rv cs' rr p => ?_, fun cls d H' e cs' u rr q => ?_⟩
        · split at p
          · rename_i ok
            cases rv with
            | d x =>
              obtain ⟨u, rx⟩ := rr
              obtain ⟨z1, z2⟩ := back ok u
              exact kP v H' (.d x) _ ⟨z1, by rw [z2]; exact rx⟩ p
            | new x =>
              obtain ⟨a, rfl, n⟩ := rr
              obtain ⟨l1, l2⟩ := okCs_live ok
              have nm : a ∉ As := fun m => by
                obtain ⟨k, hk⟩ := List.getElem?_of_mem m
                have hl : k < cs'.length := by rw [← l1, s.lc, ← s.la]; exact (List.getElem?_eq_some_iff.mp hk).1
                exact n.tb.dis k cs'[k] a (List.getElem?_eq_getElem hl) (l2 k _ (List.getElem?_eq_getElem hl)) hk (.inr rfl)
              have now : ¬ Ow O A h a := fun z => n.nO ⟨z, nm⟩
              obtain ⟨o, q1, q2⟩ := n.at_
              obtain ⟨z1, z2⟩ := sub_back (OX := fun b => b = a) t hn s (fun b z => by subst z; exact ⟨now, by rw [q1]; exact fun w => nomatch w⟩) n.tb (by rw [← eM]; exact n.sm) n.oo ok
              refine kP _ H' (.new x) _ ⟨a, rfl, z1, ⟨[], by simp⟩, by rw [z2, ← eM]; exact n.sm, fun b o hb e => ?_, fun z => now (.inl z), o, q1, by rw [z2]; exact q2⟩ p
              refine n.oo b o ⟨.inl hb, fun m => ?_⟩ e
              obtain ⟨k, hk⟩ := List.getElem?_of_mem m
              have hl : k < is.length := by rw [← s.la]; exact (List.getElem?_eq_some_iff.mp hk).1
              obtain ⟨c', a', w1, w2, w3, w4, w5⟩ := s.at_ k is[k] (List.getElem?_eq_getElem hl)
              rw [hk] at w2; cases w2
              exact t.dis _ _ _ w3 w5 w4 hb
          · exact p.elim
        · split at q
          · rename_i ok
            obtain ⟨z1, z2⟩ := back ok u
            exact kE cls d H' e _ z1 (by rw [z2]; exact rr) q
          · exact q.elim
    · exact f.elim
end
/-! ### the rules of calls, at the kit's level -/
section
variable {X : Cx} {CX : CXT} {k n : Nat} {f : Addr} {fd : FuncData} {ps ks : List Str} {sp : Sp} {E : St → XK} {x : Str} {p pos : Pos} {e : Expr} {es : List Expr} {kws : List Keyword} {t tk : TA} {g : List Value → List Value → List Value} {gV : List V → List V → List V}
theorem run_fnX {pins : List (Addr × Obj)} {σ : L2.St} {H : Hp} {s : Shared} {Q : VK} {us ws : List Value} {vs zs : List V} (F : FnG X.prog X.w X.K X.mg X.base CX k f fd ps sp) (hr : RoomG k X.A) (hb : KBn X.K fd ps n ks g gV) (hx : ∀ σ, PassesAt CX X σ (E σ))
    (I : Inv X pins σ H s) (r : Vals vs us) (rz : Vals zs ws) (l1 : vs.length = n) (l2 : zs.length = ks.length) (h : sp (gV vs zs) H Q (E σ)) : wpAny (model X.prog X.w) X.A (call (.ref f) us (ks.zip ws)) (EP X pins σ Q) X.xe s := by
  have r2 := hb.rel r rz
  refine wpAny_call (codeAny_mono (F.run X.A X.stack s H ⟨us, ks.zip ws⟩ (g us ws) (gV vs zs) Q (E σ) hr I.env0 (hb.to s us ws I.kIn (r.length.symm.trans l1) (rz.length.symm.trans l2)) r2 h) fun r s' hq => ?_)
  cases r with
  | error e => exact hx σ pins H s e s' I hq
  | ok fl =>
    cases fl with
    | ret u => exact I.after hq
    | next => exact False.elim hq
    | brk => exact False.elim hq
    | cont => exact False.elim hq
def tCallX (n m : Nat) (sp : Sp) (gV : List V → List V → List V) (E : St → XK) (t tk : TA) : TE := fun σ H Q => t σ H fun vs H1 => tk σ H1 fun zs H2 => vs.length = n ∧ zs.length = m ∧ sp (gV vs zs) H2 Q (E σ)
theorem pe_callX (F : FnG X.prog X.w X.K X.mg X.base CX k f fd ps sp) (hr : RoomG k X.A) (hg : Gl X x) (hm : X.mg x = some (.ref f)) (hk : PySem.W.keepIn X.K (.ref f) = true) (hb : KBn X.K fd ps n [] g gV) (hx : ∀ σ, PassesAt CX X σ (E σ))
    (ha : PA X (e :: es) t) (hdb : (x == ("__debug__" : Str)) = false := by decide) (he : starEach (e :: es) X.env = (false, eval e X.env) :: starEach es X.env := by rfl) (hpl : (backTo pos (starEach es X.env)).any (·.1) = false := by rfl) :
    PE X (.Call (.Name x p) (e :: es) [] pos) (tCallX n 0 sp gV E t tNil) := by
  refine ⟨fun pins s σ H Q I h => ?_⟩
  refine wpAny_Call_Name_kw (ld_glob I hg hm ?_ hdb)
  refine PySem.W.callWith_K (h₀ := X.base) I.ok.mod.kin hk (thn (ha.run pos pins s σ H _ I h) fun us s1 ⟨vs, H1, I1, r, l1, _, q⟩ => ⟨I1.kIn, ?_⟩) he hpl
  have := run_fnX (ws := []) (zs := []) F hr hb hx I1 r .nil l1 rfl q
  exact this
theorem pe_callX0 (F : FnG X.prog X.w X.K X.mg X.base CX k f fd ps sp) (hr : RoomG k X.A) (hg : Gl X x) (hm : X.mg x = some (.ref f)) (hk : PySem.W.keepIn X.K (.ref f) = true) (hb : KBn X.K fd ps 0 [] g gV) (hx : ∀ σ, PassesAt CX X σ (E σ))
    (hdb : (x == ("__debug__" : Str)) = false := by decide) : PE X (.Call (.Name x p) [] [] pos) (tCallX 0 0 sp gV E tNil tNil) := by
  refine ⟨fun pins s σ H Q I h => ?_⟩
  refine wpAny_Call_Name_kw (ld_glob I hg hm ?_ hdb)
  refine PySem.W.callWith_K0 I.kIn hk ?_
  obtain ⟨l1, _, q⟩ := h
  have := run_fnX (us := []) (vs := []) (ws := []) (zs := []) F hr hb hx I .nil .nil rfl rfl q
  exact this
theorem pe_callXK (F : FnG X.prog X.w X.K X.mg X.base CX k f fd ps sp) (hr : RoomG k X.A) (hg : Gl X x) (hm : X.mg x = some (.ref f)) (hk : PySem.W.keepIn X.K (.ref f) = true) (hb : KBn X.K fd ps n ks g gV) (hx : ∀ σ, PassesAt CX X σ (E σ))
    (ha : PA X (e :: es) t) (hkw : PK X kws tk) (hall : (backToKw pos (keywordEach kws X.env)).all (·.1.isSome) = true := by rfl) (hks : (backToKw pos (keywordEach kws X.env)).filterMap (·.1) = ks := by rfl)
    (hdb : (x == ("__debug__" : Str)) = false := by decide) (he : starEach (e :: es) X.env = (false, eval e X.env) :: starEach es X.env := by rfl)
    (hpl : ((backTo pos (starEach (e :: es) X.env)).any (·.1) || (backToKw pos (keywordEach kws X.env)).any (·.1.isNone)) = false := by rfl) :
    PE X (.Call (.Name x p) (e :: es) kws pos) (tCallX n ks.length sp gV E t tk) := by
  refine ⟨fun pins s σ H Q I h => ?_⟩
  refine wpAny_Call_Name_kw (ld_glob I hg hm ?_ hdb)
  refine PySem.W.callWith_KW (h₀ := X.base) I.ok.mod.kin hk hall (thn (ha.run pos pins s σ H _ I h) fun us s1 ⟨vs, H1, I1, r, q⟩ => ?_) hpl he
  refine thn (hkw.run pos pins s1 σ H1 _ I1 q) fun ws s2 ⟨zs, H2, I2, rz, l1, l2, q2⟩ => ⟨I2.kIn, ?_⟩
  rw [hks]
  exact run_fnX F hr hb hx I2 r rz l1 l2 q2
theorem pe_callXK0 (F : FnG X.prog X.w X.K X.mg X.base CX k f fd ps sp) (hr : RoomG k X.A) (hg : Gl X x) (hm : X.mg x = some (.ref f)) (hk : PySem.W.keepIn X.K (.ref f) = true) (hb : KBn X.K fd ps 0 ks g gV) (hx : ∀ σ, PassesAt CX X σ (E σ))
    (hkw : PK X kws tk) (hall : (backToKw pos (keywordEach kws X.env)).all (·.1.isSome) = true := by rfl) (hks : (backToKw pos (keywordEach kws X.env)).filterMap (·.1) = ks := by rfl)
    (hdb : (x == ("__debug__" : Str)) = false := by decide)
    (hpl : ((backTo pos (starEach [] X.env)).any (·.1) || (backToKw pos (keywordEach kws X.env)).any (·.1.isNone)) = false := by rfl) :
    PE X (.Call (.Name x p) [] kws pos) (tCallX 0 ks.length sp gV E tNil tk) := by
  refine ⟨fun pins s σ H Q I h => ?_⟩
  refine wpAny_Call_Name_kw (ld_glob I hg hm ?_ hdb)
  refine PySem.W.callWith_KW0 (h₀ := X.base) I.ok.mod.kin hk hall (thn (hkw.run pos pins s σ H _ I h) fun ws s2 ⟨zs, H2, I2, rz, l1, l2, q2⟩ => ⟨I2.kIn, ?_⟩) hpl
  rw [hks]
  have := run_fnX (us := []) (vs := []) F hr hb hx I2 .nil rz l1 l2 q2
  exact this
end
/-! ### calls -/
section
variable [FeedI] [ExI]
/-- the def that the module's name x holds, called with n values and the keywords ks; arr: the values in the parameters' order -/
def CalX (P : Program) (w : World) (K : PySem.W.Frag) (mg : Str → Option Value) (base : Heap) (k : Nat) (x : Str) (n : Nat) (ks : List Str) (mask : List Bool) (fx : GX) (arr : List Vl → List Vl → List Vl) : Prop :=
  ∃ (f : Addr) (fd : FuncData) (ps : List Str) (g : List Value → List Value → List Value) (gV : List V → List V → List V), mg x = some (.ref f) ∧ PySem.W.keepIn K (.ref f) = true ∧ FnG P w K mg base (L2.CX P w) k f fd ps (spX K mask fx) ∧
    KBn K fd ps n ks g gV ∧ ∀ (m : Hp) (A : List Addr) (vs zs : List V) (us ws : List Vl), VlsR K m A vs us → VlsR K m A zs ws → us.length = n → ws.length = ks.length → VlsR K m A (gV vs zs) (arr us ws)
def frzV : Rv → Vl
  | .d x => .d x
  | .new x => .d x
def newV : Rv → Option D
  | .d _ => none
  | .new x => some x
def callA (mask : List Bool) (fx : GX) (arr : List Vl → List Vl → List Vl) (n m : Nat) (us ws : List Vl) (h : Hh) : Tr (Ex × Hh) (Rv × Hh) := if us.length = n ∧ ws.length = m then callV mask fx (arr us ws) h else .bad
def xCallR (mask : List Bool) (fx : GX) (arr : List Vl → List Vl → List Vl) (n m : Nat) (as ks : XA) : Rho → Hh → Tr (Ex × Hh) (Rv × Hh) := fun ρ h => (as ρ h).bind fun p => (ks ρ p.2).bind fun q => callA mask fx arr n m p.1 q.1 q.2
def xCall (mask : List Bool) (fx : GX) (arr : List Vl → List Vl → List Vl) (n m : Nat) (as ks : XA) : XE := fun ρ h => (xCallR mask fx arr n m as ks ρ h).bind fun p => .ok (frzV p.1, p.2)
def xnCall (mask : List Bool) (fx : GX) (arr : List Vl → List Vl → List Vl) (n m : Nat) (as ks : XA) : XN := fun ρ h => (xCallR mask fx arr n m as ks ρ h).bind fun p => match newV p.1 with
  | some x => .ok (x, p.2)
  | none => .bad
section
variable {K : PySem.W.Frag} {W : WX} {X : Cx} {pos p : Pos} {x : Str} {e : Expr} {es : List Expr} {kws : List Keyword} {xs xk : XA} {k n : Nat} {ks : List Str} {mask : List Bool} {fx : GX} {arr : List Vl → List Vl → List Vl}
structure JK (K : PySem.W.Frag) (W : WX) (X : Cx) (kws : List Keyword) (f : XA) : Prop where
  pk : X.K = K → PK X kws (aOf K W f)
theorem jk_nil : JK K W X [] xNil := ⟨fun hK => pk_imp pk_nil fun σ H Q q => by
  obtain ⟨O, ρ, A, h, P, E, I, f, k, kx⟩ := q
  exact k [] H [] A h (.refl I.tb) trivial f⟩
theorem jk_cons {nm : Option Str} {kpos : Pos} {xa : XE} (he : JE K W X e xa) (hr : JK K W X kws xk) : JK K W X (⟨nm, e, kpos⟩ :: kws) (xCons xa xk) := ⟨fun hK => pk_imp (pk_cons (he.pe hK) (hr.pk hK)) fun σ H Q q => by
  obtain ⟨O, ρ, A, h, P, E, I, f, k, kx⟩ := q
  refine ⟨O, ρ, A, h, _, E, I, Tr.all_bind.1 f, fun v H1 u A1 h1 U1 r1 f1 => ?_, kx⟩
  exact ⟨O, ρ, A1, h1, _, E, I.up U1, Tr.all_bind.1 f1, fun vs H2 us A2 h2 U2 r2 f2 => k (v :: vs) H2 (u :: us) A2 h2 (U1.trans U2) ⟨r1.mono U2.sm U2.pre, r2⟩ f2, kx.up U1⟩⟩
/-- the reading of a call -/
def rOf (K : PySem.W.Frag) (W : WX) (x : Rho → Hh → Tr (Ex × Hh) (Rv × Hh)) : TE := fun σ H Q => ∃ O ρ A h P E, EIn K O σ ρ A h H ∧ (x ρ h).all P E ∧
  (∀ v H' r A' h', (∃ A1 h1 H1, Up K O A h H A1 h1 H1 ∧ A' = A1 ∧ RvR K O A1 h1 H1 v H' h' r) → P (r, h') → Q v H') ∧ ExO K W O σ A h H E
theorem r_e (σ : St) (H : Hp) (Q : VK) (q : eOf K W (xCall mask fx arr n k xs xk) σ H Q) : rOf K W (xCallR mask fx arr n k xs xk) σ H Q := by
  obtain ⟨O, ρ, A, h, P, E, I, f, k, kx⟩ := q
  refine ⟨O, ρ, A, h, _, E, I, Tr.all_bind.1 f, fun v H' r A' h' ⟨A1, h1, H1, U1, e, rr⟩ p => ?_, kx⟩
  subst e
  cases r with
  | d x => exact k v H' (.d x) _ h' (U1.trans rr.1) rr.2 p
  | new x =>
    obtain ⟨a, rfl, n⟩ := rr
    obtain ⟨u, r⟩ := n.share
    exact k _ H' (.d x) _ h' (U1.trans u) r p
theorem r_n (σ : St) (H : Hp) (Q : VK) (q : nOf K W (xnCall mask fx arr n k xs xk) σ H Q) : rOf K W (xCallR mask fx arr n k xs xk) σ H Q := by
  obtain ⟨O, ρ, A, h, P, E, I, f, k, kx⟩ := q
  refine ⟨O, ρ, A, h, _, E, I, Tr.all_bind.1 f, fun v H' r A' h' ⟨A1, h1, H1, U1, e, rr⟩ p => ?_, kx⟩
  subst e
  cases r with
  | d x => exact p.elim
  | new x =>
    obtain ⟨a, rfl, n⟩ := rr
    exact k a H' x _ h' (n.up U1) p
theorem call_run {ks' : Nat} {σ : St} {H : Hp} {Q : VK} {gV : List V → List V → List V} {ta tk : TA} (hta : ∀ σ H Q, aOf K W xs σ H Q → ta σ H Q) (htk : ∀ σ H Q, aOf K W xk σ H Q → tk σ H Q)
    (harr : ∀ (m : Hp) (A : List Addr) (vs zs : List V) (us ws : List Vl), VlsR K m A vs us → VlsR K m A zs ws → us.length = n → ws.length = ks' → VlsR K m A (gV vs zs) (arr us ws)) (q : rOf K W (xCallR mask fx arr n ks' xs xk) σ H Q) :
    tCallX n ks' (spX K mask fx) gV (WE W) ta tk σ H Q := by
  obtain ⟨O, ρ, A, h, P, E, I, f, k, kx⟩ := q
  refine hta _ _ _ ⟨O, ρ, A, h, _, E, I, Tr.all_bind.1 f, fun vs H1 us A1 h1 U1 r1 f1 => ?_, kx⟩
  refine htk _ _ _ ⟨O, ρ, A1, h1, _, E, I.up U1, Tr.all_bind.1 f1, fun zs H2 ws A2 h2 U2 r2 f2 => ?_, kx.up U1⟩
  unfold callA at f2
  split at f2
  · rename_i hl
    have U := U1.trans U2
    refine ⟨r1.length.trans hl.1, r2.length.trans hl.2, ?_⟩
    exact callV_ok U.tb (harr _ _ vs zs us ws (r1.mono U2.sm U2.pre) r2 hl.1 hl.2) f2 (fun v H' r h' rr p => k v H' r A2 h' ⟨A2, h2, H2, U, rfl, rr⟩ p) fun cls d H' e h' u rr q => kx cls d H' e A2 h' (U.trans u) rr q
  · exact f2.elim
theorem jr_call (C : CalX X.prog X.w X.K X.mg X.base k x n [] mask fx arr) (hr : RoomG k X.A) (tk : Takes X W) (hg : Gl X x) (ha : JA K W X (e :: es) xs) (hK : X.K = K) (hdb : (x == ("__debug__" : Str)) = false := by decide) (he : starEach (e :: es) X.env = (false, eval e X.env) :: starEach es X.env := by rfl) (hpl : (backTo pos (starEach es X.env)).any (·.1) = false := by rfl) :
    PE X (.Call (.Name x p) (e :: es) [] pos) (rOf K W (xCallR mask fx arr n 0 xs xNil)) := by
  subst hK
  obtain ⟨f, fd, ps, g, gV, h1, h2, h3, h4, h5⟩ := C
  refine pe_imp (pe_callX h3 hr hg h1 h2 h4 (fun σ => passAt tk σ) (ha.pa rfl) hdb he hpl) fun σ H Q q => ?_
  exact call_run (fun _ _ _ z => z) (fun σ H Q z => by
    obtain ⟨O, ρ, A, h, P, E, I, f, k, kx⟩ := z
    exact k [] H [] A h (.refl I.tb) trivial f) h5 q
theorem jr_call0 (C : CalX X.prog X.w X.K X.mg X.base k x 0 [] mask fx arr) (hr : RoomG k X.A) (tk : Takes X W) (hg : Gl X x) (hK : X.K = K) (hdb : (x == ("__debug__" : Str)) = false := by decide) :
    PE X (.Call (.Name x p) [] [] pos) (rOf K W (xCallR mask fx arr 0 0 xNil xNil)) := by
  subst hK
  obtain ⟨f, fd, ps, g, gV, h1, h2, h3, h4, h5⟩ := C
  refine pe_imp (pe_callX0 h3 hr hg h1 h2 h4 (fun σ => passAt tk σ) hdb) fun σ H Q q => ?_
  have nil : ∀ σ H Q, aOf X.K W xNil σ H Q → tNil σ H Q := fun σ H Q z => by
    obtain ⟨O, ρ, A, h, P, E, I, f, k, kx⟩ := z
    exact k [] H [] A h (.refl I.tb) trivial f
  exact call_run nil nil h5 q
theorem jr_callK (C : CalX X.prog X.w X.K X.mg X.base k x n ks mask fx arr) (hr : RoomG k X.A) (tk : Takes X W) (hg : Gl X x) (ha : JA K W X (e :: es) xs) (hkw : JK K W X kws xk) (hK : X.K = K) (hall : (backToKw pos (keywordEach kws X.env)).all (·.1.isSome) = true := by rfl) (hks : (backToKw pos (keywordEach kws X.env)).filterMap (·.1) = ks := by rfl)
    (hdb : (x == ("__debug__" : Str)) = false := by decide) (he : starEach (e :: es) X.env = (false, eval e X.env) :: starEach es X.env := by rfl)
    (hpl : ((backTo pos (starEach (e :: es) X.env)).any (·.1) || (backToKw pos (keywordEach kws X.env)).any (·.1.isNone)) = false := by rfl) : PE X (.Call (.Name x p) (e :: es) kws pos) (rOf K W (xCallR mask fx arr n ks.length xs xk)) := by
  subst hK
  obtain ⟨f, fd, ps, g, gV, h1, h2, h3, h4, h5⟩ := C
  refine pe_imp (pe_callXK h3 hr hg h1 h2 h4 (fun σ => passAt tk σ) (ha.pa rfl) (hkw.pk rfl) hall hks hdb he hpl) fun σ H Q q => ?_
  exact call_run (fun _ _ _ z => z) (fun _ _ _ z => z) h5 q
theorem jr_callK0 (C : CalX X.prog X.w X.K X.mg X.base k x 0 ks mask fx arr) (hr : RoomG k X.A) (tk : Takes X W) (hg : Gl X x) (hkw : JK K W X kws xk) (hK : X.K = K) (hall : (backToKw pos (keywordEach kws X.env)).all (·.1.isSome) = true := by rfl) (hks : (backToKw pos (keywordEach kws X.env)).filterMap (·.1) = ks := by rfl)
    (hdb : (x == ("__debug__" : Str)) = false := by decide)
    (hpl : ((backTo pos (starEach [] X.env)).any (·.1) || (backToKw pos (keywordEach kws X.env)).any (·.1.isNone)) = false := by rfl) : PE X (.Call (.Name x p) [] kws pos) (rOf K W (xCallR mask fx arr 0 ks.length xNil xk)) := by
  subst hK
  obtain ⟨f, fd, ps, g, gV, h1, h2, h3, h4, h5⟩ := C
  refine pe_imp (pe_callXK0 h3 hr hg h1 h2 h4 (fun σ => passAt tk σ) (hkw.pk rfl) hall hks hdb hpl) fun σ H Q q => ?_
  exact call_run (fun σ H Q z => by
    obtain ⟨O, ρ, A, h, P, E, I, f, k, kx⟩ := z
    exact k [] H [] A h (.refl I.tb) trivial f) (fun _ _ _ z => z) h5 q
/-- a call's reading, as an expression, as a new thing -/
structure JR (K : PySem.W.Frag) (W : WX) (X : Cx) (e : Expr) (mask : List Bool) (fx : GX) (arr : List Vl → List Vl → List Vl) (n m : Nat) (as ks : XA) : Prop where
  pe : X.K = K → PE X e (rOf K W (xCallR mask fx arr n m as ks))
theorem JR.je {m : Nat} (h : JR K W X e mask fx arr n m xs xk) : JE K W X e (xCall mask fx arr n m xs xk) := ⟨fun hK => pe_imp (h.pe hK) r_e⟩
theorem JR.jn {m : Nat} (h : JR K W X e mask fx arr n m xs xk) : JN K W X e (xnCall mask fx arr n m xs xk) := ⟨fun hK => pe_imp (h.pe hK) r_n⟩
end
end
end EL
/-! The layer EL: which def a call means. -/
namespace EL
open PySem PySem.Spec PyProof.Rows L2 DL
section
variable [FeedI] [ExI] {P : Program} {w : World} {K : PySem.W.Frag} {mg : Str → Option Value} {base : Heap} {k : Nat} {x : Str} {n : Nat} {mask : List Bool} {fx : GX} {qual : Str} {params : Arguments} {body : List Stmt} {scope : Scope} {f : Addr} {fd : FuncData} {ps : List Str} {arr : List Vl → List Vl → List Vl}
theorem CalX.mono {j : Nat} {ks : List Str} (h : CalX P w K mg base j x n ks mask fx arr) (hj : j ≤ k) : CalX P w K mg base k x n ks mask fx arr := by
  obtain ⟨f, fd, ps, g, gV, h1, h2, h3, h4, h5⟩ := h
  exact ⟨f, fd, ps, g, gV, h1, h2, h3.mono hj, h4, h5⟩
omit [FeedI] [ExI] in
theorem VlsR.getD {m : Hp} {A : List Addr} : ∀ {vs : List V} {us : List Vl} (_ : VlsR K m A vs us) (i : Nat), VlR K m A (vs.getD i .non) (us.getD i (.d .non))
  | [], [], _, i => (Rp.non : Rp K m .non .non)
  | v :: vs, u :: us, r, 0 => by simpa using r.1
  | v :: vs, u :: us, r, i + 1 => by simpa using VlsR.getD r.2 i
  | [], _ :: _, r, _ => r.elim
  | _ :: _, [], r, _ => r.elim
omit [FeedI] [ExI] in
theorem vls_src {m : Hp} {A : List Addr} {vs zs dv : List V} {us ws its : List Vl} (r1 : VlsR K m A vs us) (r2 : VlsR K m A zs ws) (r3 : VlsR K m A dv its) : ∀ src : List Src, VlsR K m A (src.map (Src.get vs zs dv .non)) (src.map (Src.get us ws its (.d .non)))
  | [] => trivial
  | s :: src => ⟨by cases s <;> first | exact VlsR.getD r1 _ | exact VlsR.getD r2 _ | exact VlsR.getD r3 _, vls_src r1 r2 r3 src⟩
omit [FeedI] [ExI] in
theorem vls_ds {m : Hp} {A : List Addr} : ∀ {vs : List V} {ds : List D}, RpAll K m vs ds → VlsR K m A vs (ds.map .d)
  | _, _, .nil => trivial
  | _, _, .cons a r => ⟨a, vls_ds r⟩
def arr0 : List Vl → List Vl → List Vl := fun us _ => us
def arrS (src : List Src) (dd : List D) : List Vl → List Vl → List Vl := fun us ws => src.map (Src.get us ws (dd.map .d) (.d .non))
/-- every parameter is written, in order -/
theorem CalX.pos {nm : Str} (F : FunD K nm qual params body scope [] [] f fd) (hm : mg x = some (.ref f)) (G : FnG P w K mg base (L2.CX P w) k f fd ps (spX K mask fx)) (n : Nat) (hn : n = ps.length)
    (h : ∀ (kV doc pm : Value) (an : Option Addr) (cdv ct : Value) (us : List Value), us.length = n → bindArgs (PySem.W.fnOf nm qual params body scope .none kV doc pm an cdv ct) ⟨us, []⟩ = pure (ps.zip us)) : CalX P w K mg base k x n [] mask fx arr0 := by
  subst hn
  have hb := FunD.bindsA F h
  refine ⟨f, fd, ps, fun us _ => us, fun vs _ => vs, hm, F.kp, G, ⟨fun s us ws _ h1 h2 => ?_, fun r _ => r⟩, fun m A vs zs us ws r1 r2 _ _ => r1⟩
  cases ws with
  | nil => exact hb s us h1
  | cons a b => cases h2
/-- keywords, no defaults -/
theorem CalX.kws {nm : Str} (F : FunD K nm qual params body scope [] [] f fd) (hm : mg x = some (.ref f)) (G : FnG P w K mg base (L2.CX P w) k f fd ps (spX K mask fx)) (n : Nat) (ks : List Str) (src : List Src)
    (h : ∀ (kV doc pm : Value) (an : Option Addr) (cdv ct : Value) (us ws : List Value), us.length = n → ws.length = ks.length → bindArgs (PySem.W.fnOf nm qual params body scope .none kV doc pm an cdv ct) ⟨us, ks.zip ws⟩ = pure (ps.zip (src.map (Src.get us ws [] .none)))) :
    CalX P w K mg base k x n ks mask fx (arrS src []) := by
  have hk := F.kp
  obtain ⟨oc, od, dV, kV, doc, pm, an, cdv, ct, osl, rfl, lk, hcd, hD, hK⟩ := F.ex
  have e : dV = .none := hD.elim (fun z => z.2) fun z => absurd rfl z.1
  subst e
  exact ⟨f, _, ps, fun us ws => src.map (Src.get us ws [] .none), fun vs zs => src.map (Src.get vs zs [] .non), hm, hk, G, ⟨fun s us ws _ h1 h2 => .of_eq (h kV doc pm an cdv ct us ws h1 h2), fun r1 r2 => vals_src r1 r2 .nil src⟩,
    fun m A vs zs us ws r1 r2 _ _ => vls_src r1 r2 (dv := []) (its := []) trivial src⟩
/-- with defaults -/
theorem CalX.dfl {nm : Str} {dvs : List V} {dd : List D} (F : FunD K nm qual params body scope dvs [] f fd) (hd : dvs ≠ []) (hdd : ∀ H, RpAll K H dvs dd) (hm : mg x = some (.ref f)) (G : FnG P w K mg base (L2.CX P w) k f fd ps (spX K mask fx)) (n : Nat) (ks : List Str) (src : List Src)
    (h : ∀ (T : Addr) (kV doc pm : Value) (an : Option Addr) (cdv ct : Value) (us its ws : List Value), us.length = n → its.length = dvs.length → ws.length = ks.length →
      ∃ k, bindArgs (PySem.W.fnOf nm qual params body scope (.ref T) kV doc pm an cdv ct) ⟨us, ks.zip ws⟩ = seqItems? (.ref T) >>= k ∧ k (some its.toArray) = pure (ps.zip (src.map (Src.get us ws its .none)))) :
    CalX P w K mg base k x n ks mask fx (arrS src dd) := by
  have hk := F.kp
  obtain ⟨oc, od, dV, kV, doc, pm, an, cdv, ct, osl, rfl, lk, hcd, hD, hK⟩ := F.ex
  rcases hD with ⟨e, _⟩ | ⟨_, T, o, its, m, rfl, lT, oT, rT⟩
  · exact absurd e hd
  · refine ⟨f, _, ps, fun us ws => src.map (Src.get us ws its .none), fun vs zs => src.map (Src.get vs zs dvs .non), hm, hk, G, ⟨fun s us ws X l1 l2 => ?_, fun r1 r2 => vals_src r1 r2 rT src⟩, fun m A vs zs us ws r1 r2 _ _ => vls_src r1 r2 (vls_ds (hdd m)) src⟩
    obtain ⟨k, e1, e2⟩ := h T kV doc pm an cdv ct us its ws l1 rT.length.symm l2
    refine BindsTo.of_looks fun M => ?_
    rw [e1]
    exact looks_items X lT oT (.of_pure e2)
end
end EL
/-! The layer EL: the draws' object. -/
namespace EL
open PySem PySem.Spec PyProof.Rows L2 DL
section
variable [FeedI] [ExI] {K : PySem.W.Frag} {O : Addr → Prop} {A : List Addr} {h : Hh} {H : Hp}
omit [FeedI] [ExI] in
theorem ow_swap {i : Nat} {c e : Cell} (hc : h[i]? = some c) (l : c.live = true) (l' : e.live = true) : Ow O A (h.set i e) = Ow O A h := by
  have hi := (List.getElem?_eq_some_iff.mp hc).1
  funext b
  refine propext ⟨?_, ?_⟩
  · rintro (z | ⟨j, d, q1, q2, q3⟩)
    · exact .inl z
    · by_cases e1 : i = j
      · subst e1; exact .inr ⟨i, c, hc, l, q3⟩
      · rw [List.getElem?_set_ne e1] at q1; exact .inr ⟨j, d, q1, q2, q3⟩
  · rintro (z | ⟨j, d, q1, q2, q3⟩)
    · exact .inl z
    · by_cases e1 : i = j
      · subst e1; exact .inr ⟨i, e, List.getElem?_set_self hi, l', q3⟩
      · exact .inr ⟨j, d, by rw [List.getElem?_set_ne e1]; exact q1, q2, q3⟩
omit [FeedI] [ExI] in
theorem mm_swap {i : Nat} {c e : Cell} (hc : h[i]? = some c) (l : c.live = true) (l' : e.live = true) : MM O A (h.set i e) H = MM O A h H := by
  show msk _ _ = msk _ _; rw [ow_swap hc l l']
omit [ExI] in
/-- a cell is looked at in another way -/
theorem TbR.swap (t : TbR K O A h H) {i : Nat} {c e : Cell} (hc : h[i]? = some c) (l : c.live = true) (l' : e.live = true) (r : ∀ a, A[i]? = some a → CellR K (MM O A h H) H a c → CellR K (MM O A h H) H a e) : TbR K O A (h.set i e) H := by
  have hi := (List.getElem?_eq_some_iff.mp hc).1
  have get : ∀ (j : Nat) (d : Cell), (h.set i e)[j]? = some d → (i = j ∧ d = e) ∨ (i ≠ j ∧ h[j]? = some d) := fun j d q => by
    by_cases e1 : i = j
    · subst e1; rw [List.getElem?_set_self hi] at q; cases q; exact .inl ⟨rfl, rfl⟩
    · rw [List.getElem?_set_ne e1] at q; exact .inr ⟨e1, q⟩
  refine ⟨by rw [List.length_set]; exact t.len, fun j d a q1 q2 => ?_, fun j k d d2 a q1 q2 l1 l2 e1 e2 => ?_, fun j d a q1 l1 q2 => ?_, t.dom⟩
  · rw [mm_swap hc l l']
    rcases get j d q1 with ⟨rfl, rfl⟩ | ⟨_, q1⟩
    · exact r a q2 (t.cell i c a hc q2)
    · exact t.cell j d a q1 q2
  · rcases get j d q1 with ⟨z, rfl⟩ | ⟨n1, q1⟩
    · rcases get k d2 q2 with ⟨z2, rfl⟩ | ⟨n2, q2⟩
      · exact z.symm.trans z2
      · subst z; exact t.inj i k c d2 a hc q2 l l2 e1 e2
    · rcases get k d2 q2 with ⟨z2, z3⟩ | ⟨n2, q2⟩
      · subst z2; subst z3; exact t.inj j _ d c a (by assumption) hc l1 l e1 e2
      · exact t.inj j k d d2 a (by assumption) q2 l1 l2 e1 e2
  · rcases get j d q1 with ⟨rfl, rfl⟩ | ⟨_, q1⟩
    · exact t.dis i c a hc l q2
    · exact t.dis j d a q1 l1 q2
end
section
variable {P : Program} {w : World} {K : PySem.W.Frag} {mg : Str → Option Value} {base : Heap} {CX : CXT} {k : Nat} {f : Addr} {fd : FuncData} {ps : List Str} {sp sp' : Sp}
theorem fnG_imp (F : FnG P w K mg base CX k f fd ps sp) (h : ∀ vs H Q E, sp' vs H Q E → sp vs H Q E) : FnG P w K mg base CX k f fd ps sp' := ⟨fun vs H Q E z => F.len vs H Q E (h _ _ _ _ z), fun A outer s H args us vs Q E hr e0 hb r z => F.run A outer s H args us vs Q E hr e0 hb r (h _ _ _ _ z)⟩
variable [FeedI] [ExI]
theorem arg_tf {m : Hp} {vs : List V} {d : D} {as : List Addr} (h : ArgR K m [true, false] vs [d] as) : ∃ v a, vs = [.ref a, v] ∧ as = [a] ∧ Rp K m v d := by
  cases vs with
  | nil => exact h.elim
  | cons v vs =>
    cases as with
    | nil => exact h.elim
    | cons a as =>
      obtain ⟨rfl, h⟩ := h
      cases vs with
      | nil => exact h.elim
      | cons v vs =>
        obtain ⟨r, h⟩ := h
        cases vs with
        | cons _ _ => cases as <;> exact h.elim
        | nil =>
          cases as with
          | nil => exact ⟨v, a, rfl, rfl, r⟩
          | cons _ _ => exact h.elim
/-- a draw: any number below n -/
def drawX : GX := fun ds cs => match ds, cs with
  | [.int n], [.feed k] => if 0 < n ∧ n < 1073741824 ∧ k + 1 ≤ 16777216 then .draw n fun r => .ok (.d (.int r), [.feed (k + 1)]) else .bad
  | _, _ => .bad
/-- what the def that draws must do -/
def DrawOk (f0 : GX) : Prop := ∀ (k : Nat) (n : Int) (d : D), 0 < n → n < 1073741824 → k + 1 ≤ 16777216 → FeedI.TD k d → (f0 [.int n] [.own d]).all (fun r => ∃ (r0 : Int) (d' : D), r = (.d (.int r0), [.own d']) ∧ 0 ≤ r0 ∧ r0 < n ∧ FeedI.TD (k + 1) d') fun _ => False
theorem fn_draw {f0 : GX} (F : FnG P w K mg base CX k f fd ps (spX K [true, false] f0)) (h : DrawOk f0) : FnG P w K mg base CX k f fd ps (spX K [true, false] drawX) := fnG_imp F fun vs H Q E ⟨O, ds, cs, As, P, PE, ha, tb, f, k1, k2⟩ => by
  unfold drawX at f
  split at f
  · rename_i n k
    split at f
    · rename_i hn
      obtain ⟨h1, h2, h3⟩ := hn
      obtain ⟨v, a, rfl, rfl, ha'⟩ := arg_tf ha
      · have ea : ([a] : List Addr)[0]? = some a := rfl
        obtain ⟨d, o, q1, q2, q3⟩ := tb.cell 0 (.feed k) a rfl ea
        have t2 : TbR K O [a] [.own d] H := tb.swap (i := 0) (c := .feed k) (e := .own d) rfl rfl rfl fun b eb _ => by cases eb; exact ⟨o, q1, q2⟩
        have eM : MM O [a] [.own d] H = MM O [a] [.feed k] H := mm_swap (h := [.feed k]) (i := 0) (c := .feed k) (e := .own d) rfl rfl rfl
        refine ⟨O, [.int n], [.own d], [a], _, _, by rw [eM]; exact ha, t2, h k n d h1 h2 h3 q3, fun v H' r cs' rr ⟨r0, d', e, hr0, hr1, ht⟩ => ?_, fun _ _ _ _ _ _ _ z => z.elim⟩
        cases e
        obtain ⟨U, rp⟩ := rr
        have eM2 : MM O [a] [.feed (k + 1)] H' = MM O [a] [.own d'] H' := mm_swap (h := [.own d']) (i := 0) (c := .own d') (e := .feed (k + 1)) rfl rfl rfl
        have t3 : TbR K O [a] [.feed (k + 1)] H' := U.tb.swap (i := 0) (c := .own d') (e := .feed (k + 1)) rfl rfl rfl fun b eb ⟨o2, z1, z2⟩ => ⟨d', o2, z1, z2, ht⟩
        refine k1 v H' (.d (.int r0)) [.feed (k + 1)] ⟨⟨t3, U.pre, by rw [eM2, ← eM]; exact U.sm, U.oo⟩, by rw [eM2]; exact rp⟩ (f r0 hr0 hr1)
    · exact f.elim
  · exact f.elim
/-- what the def that makes the object must do -/
def MakeOk (f0 : GX) : Prop := ∀ ns : List Int, (f0 [.scr ns] []).all (fun r => ∃ d, r = (.new d, []) ∧ FeedI.TD 0 d) fun _ => False
def xMk (as : XA) : XE := fun ρ h => (as ρ h).bind fun p => match p.1 with
  | [.d (.scr _)] => .ok (.c p.2.length, p.2 ++ [.feed 0])
  | _ => .bad
theorem je_mk {W : WX} {X : Cx} {e : Expr} {f0 : GX} {xs : XA} (hj : JR K W X e [false] f0 arr0 1 0 xs xNil) (hm : MakeOk f0) : JE K W X e (xMk xs) := ⟨fun hK => pe_imp (hj.pe hK) fun σ H Q q => by
  obtain ⟨O, ρ, A, h, P, E, I, f, k, kx⟩ := q
  refine ⟨O, ρ, A, h, fun q => ∃ d, q.1 = .new d ∧ FeedI.TD 0 d ∧ P (.c q.2.length, q.2 ++ [.feed 0]), E, I, Tr.all_bind.2 (Tr.all_mono (fun p f => ?_) (fun _ z => z) (Tr.all_bind.1 f)), fun v H' r A' h' rr p => ?_, kx⟩
  · obtain ⟨us, h1⟩ := p
    show ((xNil ρ h1).bind _).all _ _
    split at f
    · rename_i ns heq
      have heq : us = [.d (.scr ns)] := heq
      subst heq
      show (callV [false] f0 [.d (.scr ns)] h1).all _ _
      refine Tr.all_both.2 (Tr.all_mono (fun r z => ?_) (fun _ z => z.elim) (hm ns))
      obtain ⟨d, rfl, ht⟩ := z
      exact ⟨d, rfl, ht, f⟩
    · exact f.elim
  · obtain ⟨d, e1, ht, p⟩ := p
    obtain ⟨A1, h1, H1, U1, e2, rr⟩ := rr
    subst e2
    have e1 : r = .new d := e1
    subst e1
    obtain ⟨a, rfl, n⟩ := rr
    have U2 := n.cell
    have el : A'.length = h'.length := n.tb.len
    have hc : (h' ++ [Cell.own d])[h'.length]? = some (.own d) := by simp
    have es : (h' ++ [Cell.own d]).set h'.length (.feed 0) = h' ++ [.feed 0] := by simp
    have eM := mm_swap (O := O) (A := A' ++ [a]) (H := H') (e := .feed 0) hc rfl rfl
    have t3 := U2.tb.swap (e := .feed 0) hc rfl rfl fun b eb ⟨o2, z1, z2⟩ => ⟨d, o2, z1, z2, ht⟩
    rw [es] at t3 eM
    exact k (.ref a) H' (.c h'.length) (A' ++ [a]) _ (U1.trans ⟨t3, U2.pre, by rw [eM]; exact U2.sm, U2.oo⟩) ⟨a, by rw [← el]; simp, rfl⟩ p⟩
end
end EL
/-! The layer EL: a law's end. -/
namespace EL
open PySem PySem.Spec PyProof.Rows L2 DL
section
variable [FeedI] [ExI] {P : Program} {w : World} {K : PySem.W.Frag} {mg mb : Str → Option Value} {k : Nat} {fa a : Addr} {fd : FuncData} {x : Str} {s₁ : Shared} {vs : List Value} {ns : List Int}
theorem no_ex {outer : List Env} {H : Hp} {s : Shared} {e : Value} {s' : Shared} {q : Prop} (h : L2.CX P w outer H s (fun _ _ _ => False) e s') : q := by
  obtain ⟨_, _, _, h⟩ := h
  simp at h
/-- from an abstract heap that holds the script alone, or nothing -/
theorem coreX (KX : K.In s₁.heap) (hns : s₁.heap.Ns mainGlobals mg) (hb : s₁.heap.Ns builtinsNs mb) (hbb : ∀ x : Str, x ≠ "__name__" → mb x = bootBuiltins x) (hlim : s₁.heap.NoLimit) (hg : s₁.gens = #[])
    (ha : s₁.heap.get? a = some { cls := .type "list", data := .seq vs.toArray }) (hr : Room k callerA) {fx : GX}
    (F : ∀ base : Heap, K.In base → base.Ns mainGlobals mg → FnG P w K mg base (L2.CX P w) k fa fd [x] (spX K [false] fx)) (hbind : ∀ (s : Shared) (u : Value), BindsTo s fd ⟨[u], []⟩ [(x, u)])
    (hsp : (fx [.scr ns] []).all (fun r => r = (.d (.bl true), [])) fun _ => False) (H : Hp) (hS : SqL K H a (ns.map V.int)) (hok : HOk P w H s₁.heap) (hA : ∀ b, H b ≠ none → b = a) (hF : ∀ u, H a = some u → ∃ o y, u = .frz o y) (hK : H a ≠ none → K.lookup a = none) :
    codeAny (model P w) callerA (.call (.ref fa) ⟨[.ref a], []⟩) (fun r s' => r = .ok (.ret (.bool true)) ∧ OldK s₁.heap s'.heap ∧ s'.os = s₁.os ∧ AllBare s'.gens) s₁ := by
  have out : ∀ {b : Addr}, b ≠ a → H b = none := fun {b} n => by
    cases q : H b with
    | none => rfl
    | some u => exact absurd (hA b (by rw [q]; simp)) n
  have low : ∀ {b : Addr} {o : Obj}, s₁.heap.get? b = some o → H b = none → (hidT s₁.heap H).get? b = some o := fun e n => hidT_get e n
  have nsK : ∀ {b : Addr} {m : Str → Option Value}, s₁.heap.Ns b m → (hidT s₁.heap H).Ns b m := fun {b m} ⟨o, es, ep, e, d, r⟩ => ⟨o, es, ep, low e (out fun z => by
    rw [z, ha] at e
    cases e
    cases (show Data.seq vs.toArray _ = Data.dict es ep from d)), d, r⟩
  have M : Mod K mg (hidT s₁.heap H) := by
    refine ⟨fun b o e => low (KX b o e) ?_, nsK hns, ⟨mb, nsK hb, hbb⟩, ?_⟩
    · by_cases z : b = a
      · subst z
        cases q : H b with
        | none => rfl
        | some u => rw [hK (by rw [q]; simp)] at e; cases e
      · exact out z
    · obtain ⟨mc, h1, h2⟩ := hlim
      exact ⟨mc, nsK h1, h2⟩
  have e0 : Env0 P w K mg (hidT s₁.heap H) callerA [] s₁ H := ⟨rfl, M, fun b o e => of_hidT e, Nat.le_of_eq (hidT_size _ _), trivial, fun b hb => absurd (show b ∈ ([] : List Addr) from hb) (by simp), hok, .of_eq hg⟩
  have eo : Ow (fun _ : Addr => False) [] [] = fun _ => False := funext fun b => propext ⟨fun z => z.elim id fun ⟨i, c, h1, _⟩ => by simp at h1, False.elim⟩
  have same : MM (fun _ : Addr => False) [] [] H = H := by
    show msk _ _ = _
    rw [eo]
    exact funext fun b => msk_of (O := fun _ => False) (H := H) (b := b) id
  have sp : spX K [false] fx [.ref a] H (fun v _ => v = .bl true) fun _ _ _ => False :=
    ⟨fun _ => False, [.scr ns], [], [], _, _, by rw [same]; exact ⟨.scr hS, trivial⟩, ⟨rfl, fun i c a h1 => by simp at h1, fun i j c e a h1 => by simp at h1, fun i c a h1 => by simp at h1, fun b z => z.elim⟩, hsp, fun v H' r cs' rr e => by
      cases e
      obtain ⟨_, r⟩ := rr
      cases r
      rfl, fun _ _ _ _ _ _ _ z => z.elim⟩
  refine codeAny_mono ((F _ M.kin (nsK hns)).run callerA [] s₁ H ⟨[.ref a], []⟩ [.ref a] [.ref a] _ _ ⟨hr, rfl⟩ e0 (hbind s₁ (.ref a)) (.cons rfl .nil) sp) fun r s' h => ?_
  cases r with
  | error e => exact no_ex h
  | ok fl =>
    cases fl with
    | ret u =>
      obtain ⟨v, H', os, bare, un, hok', r', q⟩ := h
      obtain rfl : v = .bl true := q
      obtain rfl : u = Value.bool true := r'
      refine ⟨rfl, OldK.of_keep fun b o e => ?_, os, bare⟩
      cases q : H b with
      | none => exact un.keep b o e q (by intro z; exact absurd (show b ∈ ([] : List Addr) from z) (by simp)) (by simp)
      | some u =>
        obtain rfl := hA b (by rw [q]; simp)
        obtain ⟨ob, y, rfl⟩ := hF u q
        obtain ⟨e1, _⟩ := hok b _ q
        obtain ⟨e2, _⟩ := hok' b _ (un.frzs b ob y q)
        rw [e] at e1
        cases e1
        exact e2
    | _ => exact False.elim h
theorem callX (KX : K.In s₁.heap) (hns : s₁.heap.Ns mainGlobals mg) (hb : s₁.heap.Ns builtinsNs mb) (hbb : ∀ x : Str, x ≠ "__name__" → mb x = bootBuiltins x) (hlim : s₁.heap.NoLimit) (hg : s₁.gens = #[])
    (ha : s₁.heap.get? a = some { cls := .type "list", data := .seq vs.toArray }) (hi : IntsAre vs ns) (hl : ns.length ≤ sizeLine) (hr : Room k callerA) {fx : GX}
    (F : ∀ base : Heap, K.In base → base.Ns mainGlobals mg → FnG P w K mg base (L2.CX P w) k fa fd [x] (spX K [false] fx)) (hbind : ∀ (s : Shared) (u : Value), BindsTo s fd ⟨[u], []⟩ [(x, u)])
    (hsp : (fx [.scr ns] []).all (fun r => r = (.d (.bl true), [])) fun _ => False) :
    codeAny (model P w) callerA (.call (.ref fa) ⟨[.ref a], []⟩) (fun r s' => r = .ok (.ret (.bool true)) ∧ OldK s₁.heap s'.heap ∧ s'.os = s₁.os ∧ AllBare s'.gens) s₁ := by
  have rv := vals_ints hi
  by_cases hk : K.lookup a = none
  · let o0 : Obj := { cls := .type "list", data := .seq vs.toArray }
    have at_ : upd (fun _ => none) a (.frz o0 (.lst (ns.map V.int))) a = some (.frz o0 (.lst (ns.map V.int))) := if_pos rfl
    have ne : ∀ {b : Addr} {u : HO}, upd (fun _ => none) a (.frz o0 (.lst (ns.map V.int))) b = some u → b = a ∧ u = .frz o0 (.lst (ns.map V.int)) := fun {b u} z => by
      by_cases hb : b = a
      · subst hb
        rw [at_] at z
        exact ⟨rfl, (Option.some.inj z).symm⟩
      · rw [upd_ne hb] at z
        cases z
    refine coreX KX hns hb hbb hlim hg ha hr F hbind hsp (upd (fun _ => none) a (.frz o0 (.lst (ns.map V.int)))) (.inl (.inr ⟨_, at_⟩)) (fun b u z => ?_) (fun b z => ?_) (fun u z => ?_) fun _ => hk
    · obtain ⟨rfl, rfl⟩ := ne z
      exact ⟨ha, by rw [List.length_map]; exact hl, vs, _, rv, ha⟩
    · cases q : upd (fun _ => none) a (.frz o0 (.lst (ns.map V.int))) b with
      | none => exact absurd q z
      | some u => exact (ne q).1
    · obtain ⟨_, rfl⟩ := ne z
      exact ⟨_, _, rfl⟩
  · obtain ⟨o, hk⟩ := Option.ne_none_iff_exists'.mp hk
    have e := KX a o hk
    rw [ha] at e
    cases e
    refine coreX KX hns hb hbb hlim hg ha hr F hbind hsp (fun _ => none) (.inr ⟨_, vs.toArray, _, hk, rfl, rfl, rfl, by rw [List.size_toArray, hi.length]; exact hl, by simpa using rv⟩) (fun b u z => by cases z) (fun b z => absurd rfl z) (fun u z => by cases z) fun z => absurd rfl z
end
/-- a law: F gives the written part, the function object, the promise over every base -/
theorem walkX [FeedI] [ExI] {l : PySem.W.OpenLaw} {n k : Nat} {q : Program} {loose : List Str} {XP : (Str → Option Value) → Heap → Prop} {YP : World → Heap → Prop} {d : DefRec} {x : Str} {fx : GX}
    (hn : l.most = some n) (hn2 : n ≤ sizeLine) (hdf : d.params.defaults = []) (hr : Room k callerA) (hsp : ∀ ns : List Int, (fx [.scr ns] []).all (fun r => r = (.d (.bl true), [])) fun _ => False)
    (F : ∀ (w : World) (mg : Str → Option Value) (fa : Addr) (h : Heap), YP w h → h.Ns mainGlobals mg → mg d.name = some (.ref fa) →
      ∃ (K : PySem.W.Frag) (fd : FuncData), K.In h ∧ (∀ (s : Shared) (u : Value), BindsTo s fd ⟨[u], []⟩ [(x, u)]) ∧
        ∀ base : Heap, K.In base → base.Ns mainGlobals mg → FnG l.prog w K mg base (L2.CX l.prog w) k fa fd [x] (spX K [false] fx)) :
    PySem.W.WalkO q loose XP YP l.row.toRowW d [] (fun f vs => PySem.call f vs) := by
  refine Att.attach_call hn hdf fun w s₀ s₁ mg mb fa o pm cd doc a vs ns G Y ho hd hcd hmg hobj hints hlen hg => ?_
  obtain ⟨K, fd, KX, hb, hF⟩ := F w mg fa _ Y G.T.g hmg
  exact callX KX G.T.g G.T.b G.T.builtins G.T.nolimit hg hobj hints (Nat.le_trans hlen hn2) hr hF hb (hsp ns)
end EL
/-! The layer EL: what one owns is looked at as plain data while an expression is worked out. -/
namespace EL
open PySem PySem.Spec PyProof.Rows L2 DL
mutual
/-- no list, no dict within -/
def hardD : D → Bool
  | .tup ds => hardL ds
  | .lst _ => false
  | .dic _ _ => false
  | .scr _ => false
  | _ => true
def hardL : List D → Bool
  | [] => true
  | d :: ds => hardD d && hardL ds
end
section
variable {K : PySem.W.Frag} {m m' : Hp}
mutual
theorem hard_rp (hm : ∀ b o, m b = some o → m' b = some o ∨ (∃ xs, o = .lst xs) ∨ ∃ kvs, o = .dK kvs) {v : V} {d : D} : Rp K m v d → hardD d = true → Rp K m' v d
  | .non, _ => .non
  | .bl b, _ => .bl b
  | .int i, _ => .int i
  | .str l h, _ => .str l h
  | .tup h r, e => .tup (h.elim (fun z => .inl (z.elim (fun z => (hm _ _ z).elim .inl fun w => by rcases w with ⟨_, w⟩ | ⟨_, w⟩ <;> cases w) fun ⟨o, z⟩ => (hm _ _ z).elim (fun w => .inr ⟨o, w⟩) fun w => by rcases w with ⟨_, w⟩ | ⟨_, w⟩ <;> cases w)) .inr) (hard_rps hm r e)
  | .lst _ _, e => by cases e
  | .dic _ _ _ _, e => by cases e
  | .obj a, _ => .obj a
  | .ty n, _ => .ty n
  | .scr _, e => by cases e
theorem hard_rps (hm : ∀ b o, m b = some o → m' b = some o ∨ (∃ xs, o = .lst xs) ∨ ∃ kvs, o = .dK kvs) {vs : List V} {ds : List D} : RpAll K m vs ds → hardL ds = true → RpAll K m' vs ds
  | .nil, _ => .nil
  | .cons h r, e => by
    have e' := Bool.and_eq_true_iff.mp (show (hardD _ && hardL _) = true from e)
    exact .cons (hard_rp hm h e'.1) (hard_rps hm r e'.2)
end
end
theorem msk_in {O : Addr → Prop} {H : Hp} {b : Addr} (h : O b) : msk O H b = none := by
  unfold msk; exact if_pos h
def lockR (h : Hh) (ρ : Rho) : Rho := ρ.map fun s => match s with
  | some (.c j) => (match h[j]? with
    | some (.own d) => some (.d d)
    | _ => none)
  | s => s
section
variable [FeedI] [ExI] {K : PySem.W.Frag} {W : WX} {X : Cx} {O : Addr → Prop} {A : List Addr} {h : Hh} {H : Hp} {σ : St} {ρ : Rho} {e : Expr}
/-- the addresses that stay aside: what stood aside, the draws' object -/
def LkO (O : Addr → Prop) (A : List Addr) (h : Hh) (b : Addr) : Prop := O b ∨ ∃ (i : Nat) (n : Nat), h[i]? = some (.feed n) ∧ A[i]? = some b
omit [ExI] in
theorem lk_ow (b : Addr) : LkO O A h b → Ow O A h b := fun z => z.elim .inl fun ⟨i, n, h1, h2⟩ => .inr ⟨i, _, h1, rfl, h2⟩
omit [FeedI] [ExI] in
theorem ow_nil {O : Addr → Prop} : Ow O [] [] = O := funext fun b => propext ⟨fun z => z.elim id fun ⟨i, c, h1, _⟩ => by simp at h1, .inl⟩
omit [ExI] in
/-- what one owns: not aside, at its address -/
theorem own_at (t : TbR K O A h H) {i : Nat} {d : D} {a : Addr} (hc : h[i]? = some (.own d)) (ha : A[i]? = some a) : ¬ LkO O A h a := fun z => by
  rcases z with z | ⟨j, n, h1, h2⟩
  · exact t.dis i _ a hc rfl ha z
  · have := t.inj i j _ _ a hc h1 rfl rfl ha h2
    subst this
    rw [hc] at h1; cases h1
omit [ExI] in
theorem lk_same (t : TbR K O A h H) : Same (MM O A h H) (MM (LkO O A h) [] [] H) := msk_le fun b z => by rw [ow_nil] at z; exact lk_ow b z
omit [ExI] in
theorem lk_in (I : EIn K O σ ρ A h H) : EIn K (LkO O A h) σ (lockR h ρ) [] [] H := by
  refine ⟨⟨by simp [lockR, I.sl.len], fun i v e => ?_⟩, ⟨rfl, fun i c a h1 => by simp at h1, fun i j c e a h1 => by simp at h1, fun i c a h1 => by simp at h1, fun b z => I.tb.own_some (lk_ow b z)⟩⟩
  unfold lockR at e
  rw [List.getElem?_map] at e
  cases e1 : ρ[i]? with
  | none => rw [e1] at e; cases e
  | some s =>
    rw [e1] at e
    cases s with
    | none => cases e
    | some u =>
      obtain ⟨x, q1, q2⟩ := I.sl.slot i u e1
      cases u with
      | d y => cases e; exact ⟨x, q1, Rp.mono (lk_same I.tb) q2⟩
      | c j =>
        have e : (match h[j]? with
          | some (.own d) => some (Vl.d d)
          | _ => none) = some v := Option.some.inj e
        split at e
        · rename_i d hc
          cases e
          obtain ⟨a, q3, rfl⟩ := q2
          obtain ⟨o, z1, z2⟩ := I.tb.cell j _ a hc q3
          refine ⟨_, q1, OR.rp z2 ?_ (lk_same I.tb)⟩
          show msk _ _ _ = _
          rw [msk_of (by rw [ow_nil]; exact own_at I.tb hc q3), z1]
        · cases e
omit [ExI] in
/-- back from there -/
theorem lk_back (t : TbR K O A h H) {A1 : List Addr} {h1 : Hh} {H1 : Hp} (U : Up K (LkO O A h) [] [] H A1 h1 H1) : Up K O A h H A h H1 ∧
    ∀ b o, MM (LkO O A h) A1 h1 H1 b = some o → MM O A h H1 b = some o ∨ (∃ xs, o = .lst xs) ∨ ∃ kvs, o = .dK kvs := by
  have sm0 : Same (MM O A h H) (MM O A h H1) := fun b o e => by
    obtain ⟨e1, e2⟩ := msk_some e
    have e3 := (msk_some (U.sm b o (by
      show msk _ _ _ = _
      rw [msk_of (by rw [ow_nil]; exact fun z => e1 (lk_ow b z)), e2]))).2
    show msk _ _ _ = _
    rw [msk_of e1, e3]
  have own : ∀ {i : Nat} {d : D} {a : Addr}, h[i]? = some (.own d) → A[i]? = some a → ∀ o, H a = some o → H1 a = some o := fun {i d a} hc ha o e => by
    exact (msk_some (U.sm a o (by
      show msk _ _ _ = _
      rw [msk_of (by rw [ow_nil]; exact own_at t hc ha), e]))).2
  have cellH : ∀ (i : Nat) (c : Cell) (a : Addr), h[i]? = some c → A[i]? = some a → c.live = true → ∀ o, H a = some o → H1 a = some o := fun i c a hc ha l o e => by
    cases c with
    | own d => exact own hc ha o e
    | feed n => exact U.oo a o (.inr ⟨i, n, hc, ha⟩) e
    | dead => cases l
  have tb : TbR K O A h H1 := ⟨t.len, fun i c a hc ha => (t.cell i c a hc ha).mono sm0 fun l o e => cellH i c a hc ha l o e, t.inj, t.dis, fun b z => by
    cases e : H b with
    | none => exact absurd e (t.dom b z)
    | some o => rw [U.oo b o (.inl z) e]; exact fun w => nomatch w⟩
  refine ⟨⟨tb, ⟨[], by simp⟩, sm0, fun b o hb e => U.oo b o (.inl hb) e⟩, fun b o e => ?_⟩
  obtain ⟨e1, e2⟩ := msk_some e
  by_cases hb : Ow O A h b
  · rcases hb with hb | ⟨i, c, q1, q2, q3⟩
    · exact (e1 (.inl (.inl hb))).elim
    · cases c with
      | feed n => exact (e1 (.inl (.inr ⟨i, n, q1, q3⟩))).elim
      | dead => cases q2
      | own d =>
        obtain ⟨o', z1, z2⟩ := tb.cell i _ b q1 q3
        rw [e2] at z1; cases z1
        cases d with
        | lst ds => obtain ⟨xs, rfl, _⟩ := z2; exact .inr (.inl ⟨xs, rfl⟩)
        | dic ks ds => obtain ⟨kvs, rfl, _⟩ := z2; exact .inr (.inr ⟨kvs, rfl⟩)
        | _ => exact z2.elim
  · refine .inl ?_
    show msk _ _ _ = _
    rw [msk_of hb, e2]
def xLock (x : XE) : XE := fun ρ h => (noex (x (lockR h ρ) [])).bind fun p => match p.1 with
  | .d z => if hardD z then .ok (.d z, h) else .bad
  | _ => .bad
theorem je_lock {xa : XE} (hx : JE K W X e xa) : JE K W X e (xLock xa) := ⟨fun hK => pe_imp (hx.pe hK) fun σ H Q q => by
  obtain ⟨O, ρ, A, h, P, E, I, f, k, kx⟩ := q
  refine ⟨LkO O A h, lockR h ρ, [], [], _, _, lk_in I, all_noex.1 (Tr.all_bind.1 f), fun v H' u A' h' U r p => ?_, fun _ _ _ _ _ _ _ _ z => z.elim⟩
  obtain ⟨U2, hm⟩ := lk_back I.tb U
  cases u with
  | c i => exact p.elim
  | d z =>
    dsimp only at p
    split at p
    · rename_i hz
      exact k v H' (.d z) A h U2 (hard_rp hm r hz) p
    · exact p.elim⟩
def isHardO : D → Bool
  | .lst ds => hardL ds
  | .dic _ ds => hardL ds
  | _ => false
def nLock (x : XN) : XN := fun ρ h => (noex (x (lockR h ρ) [])).bind fun p => if isHardO p.1 then .ok (p.1, h) else .bad
theorem n_lock {xn : XN} (σ : St) (H : Hp) (Q : VK) (q : nOf K W (nLock xn) σ H Q) : nOf K W xn σ H Q := by
  obtain ⟨O, ρ, A, h, P, E, I, f, k, kx⟩ := q
  refine ⟨LkO O A h, lockR h ρ, [], [], _, _, lk_in I, all_noex.1 (Tr.all_bind.1 f), fun a H' d A' h' n p => ?_, fun _ _ _ _ _ _ _ _ z => z.elim⟩
  dsimp only at p
  split at p
  · rename_i hz
    obtain ⟨U, _⟩ := n.share
    obtain ⟨U2, hm⟩ := lk_back I.tb U
    obtain ⟨o, o1, o2⟩ := n.at_
    have na : ¬ Ow O A h a := fun z => by
      rcases z with z | ⟨i, c, q1, q2, q3⟩
      · exact n.nO (.inl z)
      · cases c with
        | feed m => exact n.nO (.inr ⟨i, m, q1, q3⟩)
        | dead => cases q2
        | own d' =>
          obtain ⟨o', z1, z2⟩ := I.tb.cell i _ a q1 q3
          have e3 := n.sm a o' (by
            show msk _ _ _ = _
            rw [msk_of (by rw [ow_nil]; exact own_at I.tb q1 q3), z1])
          exact (msk_some e3).1 (.inl (.inr rfl))
    have aH : H a = none := by
      cases e : H a with
      | none => rfl
      | some o' =>
        have e3 := n.sm a o' (by
          show msk _ _ _ = _
          rw [msk_of (by rw [ow_nil]; exact fun z => na (lk_ow a z)), e])
        exact ((msk_some e3).1 (.inl (.inr rfl))).elim
    have eq : ∀ b, b ≠ a → MM (OA O a) A h H' b = MM O A h H' b := fun b hb => by
      show msk _ _ _ = msk _ _ _
      by_cases z : Ow O A h b
      · rw [msk_in (ow_OA.2 (.inl z)), msk_in z]
      · rw [msk_of (fun w => (ow_OA.1 w).elim z hb), msk_of z]
    have hm2 : ∀ b o, MM (OA (LkO O A h) a) A' h' H' b = some o → MM (OA O a) A h H' b = some o ∨ (∃ xs, o = .lst xs) ∨ ∃ kvs, o = .dK kvs := fun b o e => by
      obtain ⟨e1, e2⟩ := msk_some e
      have hb : b ≠ a := fun z => e1 (.inl (.inr z))
      rw [eq b hb]
      exact hm b o (same_OA b o e)
    have t2 : TbR K (OA O a) A h H' := by
      refine ⟨U2.tb.len, fun i c b q1 q2 => ?_, U2.tb.inj, fun i c b q1 l q2 z => ?_, fun b z => ?_⟩
      · refine (I.tb.cell i c b q1 q2).mono (fun b' o' e' => ?_) fun l o' e' => ?_
        · have := U2.sm b' o' e'
          rw [eq b' (fun z => by have w := (msk_some e').2; rw [z, aH] at w; cases w)]
          exact this
        · cases c with
          | own d' => exact (msk_some (n.share.1.sm b o' (by
              show msk _ _ _ = _
              rw [msk_of (by rw [ow_nil]; exact own_at I.tb q1 q2), e']))).2
          | feed m => exact n.share.1.oo b o' (.inr ⟨i, m, q1, q2⟩) e'
          | dead => cases l
      · rcases z with z | z
        · exact U2.tb.dis i c b q1 l q2 z
        · subst z; exact na (.inr ⟨i, c, q1, l, q2⟩)
      · rcases z with z | z
        · exact U2.tb.dom b z
        · subst z; rw [o1]; exact fun w => nomatch w
    refine k a H' d A h ⟨t2, ⟨[], by simp⟩, fun b o' e' => ?_, U2.oo, fun z => na (.inl z), o, o1, ?_⟩ p
    · have := U2.sm b o' e'
      rw [eq b (fun z => by have w := (msk_some e').2; rw [z, aH] at w; cases w)]
      exact this
    · cases d with
      | lst ds => obtain ⟨xs, rfl, r⟩ := o2; exact ⟨xs, rfl, hard_rps hm2 r hz⟩
      | dic ks ds => obtain ⟨kvs, rfl, r1, r2, r⟩ := o2; exact ⟨kvs, rfl, r1, r2, hard_rps hm2 r hz⟩
      | _ => exact o2.elim
  · exact p.elim
theorem jn_lock {xn : XN} (hx : JN K W X e xn) : JN K W X e (nLock xn) := ⟨fun hK => pe_imp (hx.pe hK) n_lock⟩
theorem jnc_lock {xn : XN} (hx : JNC K W X e xn) : JNC K W X e (nLock xn) where
  jn := jn_lock hx.jn
  ps := fun hK _ _ _ _ hy hyl hsw => ps_imp (hx.ps hK hy hyl hsw) (tAsg_imp n_lock)
end
end EL
/-! The layer EL: the items of a dict of one's own, walked; an item of what one owns. -/
namespace EL
open PySem PySem.Spec PyProof.Rows L2 DL
section
variable {K : PySem.W.Frag} {m m' : Hp}
mutual
/-- a locked dict is set free -/
theorem sim_rp (hm : ∀ b o, m b = some o → m' b = some o ∨ ∃ od kvs, o = .frz od (.dK kvs) ∧ m' b = some (.dK kvs)) {v : V} {d : D} : Rp K m v d → Rp K m' v d
  | .non => .non
  | .bl b => .bl b
  | .int i => .int i
  | .str l h => .str l h
  | .tup h r => .tup (h.elim (fun z => .inl (z.elim (fun z => (hm _ _ z).elim .inl fun ⟨_, _, w, _⟩ => nomatch w) fun ⟨o, z⟩ => (hm _ _ z).elim (fun w => .inr ⟨o, w⟩) fun ⟨_, _, w, _⟩ => by cases w)) .inr) (sim_rps hm r)
  | .lst h r => .lst ((hm _ _ h).elim id fun ⟨_, _, w, _⟩ => nomatch w) (sim_rps hm r)
  | .dic h k z r => .dic (h.elim (fun z => (hm _ _ z).elim .inl fun ⟨_, _, w, _⟩ => nomatch w) fun ⟨o, z⟩ => (hm _ _ z).elim (fun w => .inr ⟨o, w⟩) fun ⟨_, _, w, e⟩ => by cases w; exact .inl e) k z (sim_rps hm r)
  | .obj a => .obj a
  | .ty n => .ty n
  | .scr h => .scr (h.elim (fun z => .inl (z.elim (fun z => (hm _ _ z).elim .inl fun ⟨_, _, w, _⟩ => nomatch w) fun ⟨o, z⟩ => (hm _ _ z).elim (fun w => .inr ⟨o, w⟩) fun ⟨_, _, w, _⟩ => by cases w)) .inr)
theorem sim_rps (hm : ∀ b o, m b = some o → m' b = some o ∨ ∃ od kvs, o = .frz od (.dK kvs) ∧ m' b = some (.dK kvs)) {vs : List V} {ds : List D} : RpAll K m vs ds → RpAll K m' vs ds
  | .nil => .nil
  | .cons h r => .cons (sim_rp hm h) (sim_rps hm r)
end
theorem sim_or (hm : ∀ b o, m b = some o → m' b = some o ∨ ∃ od kvs, o = .frz od (.dK kvs) ∧ m' b = some (.dK kvs)) {o : HO} {d : D} (r : OR K m o d) : OR K m' o d := by
  cases d with
  | lst ds => obtain ⟨xs, rfl, q⟩ := r; exact ⟨xs, rfl, sim_rps hm q⟩
  | dic ks ds => obtain ⟨kvs, rfl, q1, q2, q3⟩ := r; exact ⟨kvs, rfl, q1, q2, sim_rps hm q3⟩
  | _ => exact r.elim
end
section
variable [FeedI] [ExI] {K : PySem.W.Frag} {W : WX} {X : Cx} {O : Addr → Prop} {A : List Addr} {h : Hh} {H : Hp} {σ : St} {ρ : Rho} {e : Expr} {pos : Pos}
def xnItems (i : Nat) (g : XG) (t : XT) (e : XE) (vs : List Nat) : XN := fun ρ h => match ρ[i]? with
  | some (some (.c j)) => (match h[j]? with
    | some (.own (.dic ks ds)) => (noex (blkGo g t vs (bdE e) (ρ.set i (some (.d (.dic ks ds)))) (itemsD ks ds) 0 (h.set j .dead))).bind fun q => .ok (.lst q.1, q.2)
    | _ => .bad)
  | _ => .bad
/-- locked -/
theorem lock_in (I : EIn K O σ ρ A h H) {i j : Nat} {ks : List DK} {ds : List D} (e1 : ρ[i]? = some (some (.c j))) (e2 : h[j]? = some (.own (.dic ks ds))) : ∃ a kvs, σ[i]? = some (some (.ref a)) ∧ H a = some (.dK kvs) ∧ kvs.map (·.1) = ks.map dkey ∧ KeysOk ks ∧ A[j]? = some a ∧
    ∀ od, EIn K O σ (ρ.set i (some (.d (.dic ks ds)))) A (h.set j .dead) (upd H a (.frz od (.dK kvs))) ∧ Same (MM O A h H) (MM O A (h.set j .dead) (upd H a (.frz od (.dK kvs)))) ∧ RpAll K (MM O A (h.set j .dead) (upd H a (.frz od (.dK kvs)))) (kvs.map (·.2)) ds ∧ ¬ Ow O A (h.set j .dead) a := by
  obtain ⟨x, w1, a, w2, rfl⟩ := I.sl.slot i _ e1
  obtain ⟨o, q1, q2⟩ := I.tb.cell j _ a e2 w2
  obtain ⟨kvs, rfl, q3, q4, q5⟩ := q2
  refine ⟨a, kvs, w1, q1, q3, q4, w2, fun od => ?_⟩
  obtain ⟨U, r⟩ := I.tb.kill e2 w2
  have hoa : Ow O A h a := .inr ⟨j, _, e2, rfl, w2⟩
  have nO : ¬ Ow O A (h.set j .dead) a := fun z => by
    rcases z with z | ⟨l, c, z1, z2, z3⟩
    · exact I.tb.dis j _ a e2 rfl w2 z
    · by_cases e : j = l
      · subst e
        rw [List.getElem?_set] at z1
        simp only [if_true] at z1
        split at z1
        · cases z1; cases z2
        · cases z1
      · rw [List.getElem?_set_ne e] at z1
        exact e (I.tb.inj j l _ c a e2 z1 rfl z2 w2 z3)
  have sm : Same (MM O A h H) (MM O A (h.set j .dead) (upd H a (.frz od (.dK kvs)))) := fun b o e => by
    obtain ⟨z1, z2⟩ := msk_some e
    have e3 := (msk_some (U.sm b o e)).1
    show msk _ _ _ = _
    rw [msk_of e3, upd_ne (fun z => z1 (by rw [z]; exact hoa)), z2]
  have keep : ∀ b o, b ≠ a → H b = some o → upd H a (.frz od (.dK kvs)) b = some o := fun b o n e => by rw [upd_ne n]; exact e
  have aM : MM O A (h.set j .dead) (upd H a (.frz od (.dK kvs))) a = some (.frz od (.dK kvs)) := by
    show msk _ _ _ = _
    rw [msk_of nO, upd_same]
  have rAll := q5.mono sm
  refine ⟨⟨⟨by rw [List.length_set]; exact I.sl.len, fun l u e => ?_⟩, ⟨U.tb.len, fun l c b z1 z2 => ?_, U.tb.inj, U.tb.dis, fun b z => ?_⟩⟩, sm, rAll, nO⟩
  · by_cases z : i = l
    · subst z
      rw [List.getElem?_set] at e
      simp only [if_true] at e
      split at e
      · cases e; exact ⟨.ref a, w1, .dic (.inr ⟨od, aM⟩) q3 q4 rAll⟩
      · cases e
    · rw [List.getElem?_set_ne z] at e
      obtain ⟨x, y1, y2⟩ := I.sl.slot l u e
      exact ⟨x, y1, y2.mono sm ⟨[], by simp⟩⟩
  · by_cases z : j = l
    · subst z
      rw [List.getElem?_set] at z1
      simp only [if_true] at z1
      split at z1
      · cases z1; trivial
      · cases z1
    · have z1' := z1
      rw [List.getElem?_set_ne z] at z1'
      refine (I.tb.cell l c b z1' z2).mono sm fun lv o eo => keep b o (fun y => ?_) eo
      subst y
      exact nO (.inr ⟨l, c, z1, lv, z2⟩)
  · by_cases y : b = a
    · rw [y, upd_same]; exact fun w => nomatch w
    · rw [upd_ne y]; exact I.tb.dom b z
/-- set free -/
theorem lock_out {a T : Addr} {od : Obj} {kvs : List (Key × V)} {A' : List Addr} {h' : Hh} {h0 : Hh} {H0 H1 : Hp} {es : D} (I : TbR K O A h H) (sm0 : Same (MM O A h H) (MM O A h0 H0)) (oo0 : ∀ b o, O b → H b = some o → H0 b = some o) (hO : Ow O A h a) (nOa : ¬ O a) (hDn : H T = none) (n : NewR K O A h0 H0 T A' h' H1 es) (ha : MM O A h0 H0 a = some (.frz od (.dK kvs))) :
    H1 a = some (.frz od (.dK kvs)) ∧ NewR K O A h H T A' h' (upd H1 a (.dK kvs)) es := by
  have e1 := n.sm a _ ha
  obtain ⟨nz, eH1⟩ := msk_some e1
  have nD : T ≠ a := fun z => nz (.inl (.inr z.symm))
  refine ⟨eH1, ?_⟩
  have hm : ∀ b o, MM (OA O T) A' h' H1 b = some o → MM (OA O T) A' h' (upd H1 a (.dK kvs)) b = some o ∨ ∃ od2 k2, o = .frz od2 (.dK k2) ∧ MM (OA O T) A' h' (upd H1 a (.dK kvs)) b = some (.dK k2) := fun b o e => by
    by_cases z : b = a
    · subst z
      rw [e1] at e
      cases e
      refine .inr ⟨od, kvs, rfl, ?_⟩
      show msk _ _ _ = _
      rw [msk_of nz, upd_same]
    · obtain ⟨y1, y2⟩ := msk_some e
      refine .inl ?_
      show msk _ _ _ = _
      rw [msk_of y1, upd_ne z, y2]
  have keep : ∀ b o, b ≠ a → H1 b = some o → upd H1 a (.dK kvs) b = some o := fun b o n e => by rw [upd_ne n]; exact e
  refine ⟨⟨n.tb.len, fun l c b z1 z2 => ?_, n.tb.inj, n.tb.dis, fun b z => ?_⟩, n.pre, fun b o e => ?_, fun b o hb e => keep b o (fun z => nOa (z ▸ hb)) (n.oo b o hb (oo0 b o hb e)), n.nO, ?_⟩
  · have r := n.tb.cell l c b z1 z2
    cases c with
    | own d => obtain ⟨o, y1, y2⟩ := r; exact ⟨o, keep b o (fun z => nz (z ▸ .inr ⟨l, _, z1, rfl, z2⟩)) y1, sim_or hm y2⟩
    | feed k => obtain ⟨d, o, y1, y2, y3⟩ := r; exact ⟨d, o, keep b o (fun z => nz (z ▸ .inr ⟨l, _, z1, rfl, z2⟩)) y1, sim_or hm y2, y3⟩
    | dead => trivial
  · by_cases y : b = a
    · rw [y, upd_same]; exact fun w => nomatch w
    · rw [upd_ne y]; exact n.tb.dom b z
  · have ne : b ≠ a := fun z => (msk_some e).1 (z ▸ hO)
    obtain ⟨y1, y2⟩ := msk_some (n.sm b o (sm0 b o e))
    show msk _ _ _ = _
    rw [msk_of y1, upd_ne ne, y2]
  · obtain ⟨o, y1, y2⟩ := n.at_
    exact ⟨o, keep T o nD y1, sim_or hm y2⟩
section
variable {elt tg iter : Expr} {ifs : List Expr} {scope : Scope} {g : XG} {t : XT} {te : XE} {ws : List Nat} {x : Str} {p apos cpos tpos : Pos} {elts : List Expr} {kk : Nat}
/-- [elt for k, v in found.items() if ..], found one's own: it is given up -/
theorem jn_items (i : Nat) (hc : X.calm = true) (hNd : X.N.Nodup) (own : List (Str × Nat)) (ok : blkC X.N X.env.scope scope own = true) (hw : ∀ i ∈ ws, i ∈ own.map (·.2))
    (hg : AllB X scope fun X' => JG K X' (.Tuple elts kk tpos) ws g) (ht : AllB X scope fun X' => JTs K X' ifs t) (he : AllB X scope fun X' => JE K W0 X' elt te)
    (hN : X.N[i]? = some x := by rfl) (hv : Vis X.env.scope x := by first | exact Or.inl rfl | exact Or.inr (Or.inl rfl) | exact Or.inr (Or.inr rfl))
    (hd1 : (x == ("__debug__" : Str)) = false := by decide) (hcd : (x == ("__classdict__" : Str)) = false := by decide)
    (hs : ∀ y, foldedSetIterable (.Call (.Attribute (.Name x p) "items" apos) [] [] cpos) X.env y = pure y := by intro _; rfl)
    (hbase : attributeBase (.Name x p) "items" X.env (eval (.Name x p) X.env) = eval (.Name x p) X.env := by rfl) (hline : (apos.endLine == cpos.line) = true := by rfl) :
    JN K W X (.ListComp elt [⟨.Tuple elts kk tpos, .Call (.Attribute (.Name x p) "items" apos) [] [] cpos, ifs, 0⟩] scope pos) (xnItems i g t te (own.map (·.2))) := ⟨fun hK => by
  refine pe_imp (pe_lock (pe_lc hc hNd (pi_items (pe_var hN hv hd1 hcd) hbase hline) (blkOk_by ok) (fun s H C cl fp => (hg s H C cl fp).pg hK) (fun s H C cl fp => (ht s H C cl fp).pt hK) (fun s H C cl fp => (he s H C cl fp).pe hK) hs)) fun σ H Q q => ?_
  obtain ⟨O, ρ, A, h, P, E, I, f, k, kx⟩ := q
  unfold xnItems at f
  split at f
  · rename_i j e1
    split at f
    · rename_i ks ds e2
      obtain ⟨a, kvs, w1, w2, h3, h4, w3, hod⟩ := lock_in I e1 e2
      refine ⟨a, .dK kvs, w2, trivial, fun od => ⟨.ref a, w1, a, od, kvs, rfl, upd_same, ?_⟩⟩
      obtain ⟨I2, sm, rAll, nO⟩ := hod od
      intro T hD
      have nD : T ≠ a := fun z => by subst z; rw [upd_same] at hD; cases hD
      have aM : MM O A (h.set j .dead) (upd H a (.frz od (.dK kvs))) a = some (.frz od (.dK kvs)) := by
        show msk _ _ _ = _
        rw [msk_of nO, upd_same]
      have n := new_list (h := h.set j .dead) I2.tb hD
      refine blk_loop (P := fun q => P (.lst q.1, q.2)) (G := fun H' => H' a = some (.frz od (.dK kvs)) ∧ Q (.ref T) (upd H' a (.dK kvs))) (body_E n.nO) hw (I2.sl.mono n.sm ⟨[], by simp⟩) n.tb (fun O2 H2 hO2 e2 i => yl_items (a := a) (od := od) h3 h4 rAll O2 H2 hO2 (n.sm.trans e2) (msk_some (e2 a _ (n.sm a _ aM))).2 i) upd_same .nil (all_noex.1 (Tr.all_bind.1 f)) fun H' A' h' new B p => ?_
      have B2 := Bdy.new n hD (by simpa using B)
      obtain ⟨z1, z2⟩ := lock_out I.tb sm (fun b o hb e => by rw [upd_ne (fun z => nO (.inl (by rw [← z]; exact hb)))]; exact e) (.inr ⟨j, _, e2, rfl, w3⟩) (fun z => nO (.inl z)) (by rwa [upd_ne nD] at hD) B2 aM
      exact ⟨z1, k T _ _ A' h' z2 p⟩
    · exact f.elim
  · exact f.elim⟩
end
end
end EL
/-! The layer EL: an item of what one owns; a list's item stored. -/
namespace EL
open PySem PySem.Spec PyProof.Rows L2 DL
section
variable [FeedI] [ExI] {K : PySem.W.Frag} {W : WX} {X : Cx} {O : Addr → Prop} {A : List Addr} {h : Hh} {H : Hp} {σ : St} {ρ : Rho} {e a b ek ev : Expr} {pos pos' p : Pos} {xa xb xk xv : XE} {x : Str}
/-- what is subscripted, by content -/
def ixV (h : Hh) (u w : Vl) : Option D := match w with
  | .d y => (vw h u).bind fun z => oIx z y
  | .c _ => none
/-- x[i], x what one owns or data -/
def xIxo (a b : XE) : XE := fun ρ h => (a ρ h).bind fun p => (b ρ p.2).bind fun q => lift (ixV q.2 p.1 q.1) q.2
theorem je_ixo (hu : X.A.units + 64 < cLine) (ha : JE K W X a xa) (hb : JE K W X b xb) (hs : PlainIx b := by intro _ _; rfl) : JE K W X (.Subscript a b pos) (xIxo xa xb) := ⟨fun hK => by
  subst hK
  refine pe_imp (pe_ix (IxR.or ix_seq (ix_dict (by omega))) (ha.pe rfl) (hb.pe rfl) hs) fun σ H Q q => ?_
  obtain ⟨O, ρ, A, h, P, E, I, f, k, kx⟩ := q
  refine ⟨O, ρ, A, h, _, E, I, Tr.all_bind.1 f, fun v H1 u A1 h1 U1 r1 f1 => ?_, kx⟩
  refine ⟨O, ρ, A1, h1, _, E, I.up U1, Tr.all_bind.1 f1, fun y H2 w A2 h2 U2 r2 f2 => ?_, kx.up U1⟩
  obtain ⟨z, e1, pz⟩ := all_lift f2
  have U := U1.trans U2
  cases w with
  | c _ => cases e1
  | d dy =>
    obtain ⟨dx, e2, e3⟩ := Option.bind_eq_some_iff.mp e1
    have r1' := r1.mono U2.sm U2.pre
    have go : ∀ {w : V}, Rp X.K (MM O A2 h2 H2) w z → Q w H2 := fun {w} r => k w H2 (.d z) A2 h2 U r pz
    cases u with
    | d dx' =>
      cases e2
      have key := oIx_g e3
      cases r1' with
      | @tup p xs ds h r =>
        cases r2 with
        | int i =>
          obtain ⟨d, h1, h2⟩ := key
          obtain ⟨v, e11, e22⟩ := atI_rp r h1
          subst h2
          exact .inl (.inr (.inl ⟨p, xs, i, v, rfl, rfl, msk_sqT h, e11, go e22⟩))
        | _ => exact key.elim
      | @lst p xs ds h r =>
        cases r2 with
        | int i =>
          obtain ⟨d, h1, h2⟩ := key
          obtain ⟨v, e11, e22⟩ := atI_rp r h1
          subst h2
          exact .inl (.inl ⟨p, xs, i, v, rfl, rfl, .inl (.inl (msk_some h).2), e11, go e22⟩)
        | _ => exact key.elim
      | str l hl =>
        cases r2 with
        | int i =>
          obtain ⟨c, k1, k2⟩ := key
          refine .inl (.inr (.inr ⟨S l, i, c, rfl, rfl, by rw [S_length]; exact hl, by rw [S_cps]; exact k1, ?_⟩))
          have := Rp.str (K := X.K) (H := MM O A2 h2 H2) [c] (by rw [sizeLine_eq]; show 1 ≤ _; decide)
          rw [← k2] at pz
          exact k (.str (S [c])) H2 (.d (.str [c])) A2 _ U this pz
        | _ => exact key.elim
      | @dic a' kvs ks ds h q2 hz h3 =>
        obtain ⟨kk, ee, e11, e22, q⟩ := key
        obtain ⟨v, z1, z2⟩ := valV_getK q2 h3 e22
        subst q
        exact .inr ⟨a', v, rfl, .inl ⟨kvs, dkey kk, Same.rd same_msk h, keyD_rp r2 e11, z1.symm⟩, go z2⟩
      | _ => exact key.elim
    | c j =>
      obtain ⟨a0, ej, rfl⟩ := r1'
      have hc : h2[j]? = some (.own dx) := by
        unfold vw at e2
        dsimp only at e2
        split at e2
        · cases e2; assumption
        · cases e2
      obtain ⟨o, w1, w2⟩ := U.tb.cell j _ a0 hc ej
      have key := oIx_g e3
      cases dx with
      | lst ds =>
        obtain ⟨xs, rfl, r⟩ := w2
        cases r2 with
        | int i =>
          obtain ⟨d, h1, h2⟩ := key
          obtain ⟨v, e11, e22⟩ := atI_rp r h1
          subst h2
          exact .inl (.inl ⟨a0, xs, i, v, rfl, rfl, .inl (.inl w1), e11, go e22⟩)
        | _ => exact key.elim
      | dic ks ds =>
        obtain ⟨kvs, rfl, y2, hz, y3⟩ := w2
        obtain ⟨kk, ee, e11, e22, q⟩ := key
        obtain ⟨v, z1, z2⟩ := valV_getK y2 y3 e22
        subst q
        exact .inr ⟨a0, v, rfl, .inl ⟨kvs, dkey kk, .inl w1, keyD_rp r2 e11, z1.symm⟩, go z2⟩
      | _ => exact w2.elim⟩
theorem js_lput (ho : JE K W X (.Name x p) xa) (hk : JE K W X ek xk) (hv : JE K W X ev xv)
    (ha : ∀ v, assign (.Subscript (.Name x p) ek pos') X.env v = (do
      let ov ← holding [v] (eval (.Name x p) X.env)
      let iv ← holding [v, ov] (eval ek X.env)
      standAt pos'
      holding [v, ov, iv] (setItem ov iv v)
      release [v, ov, iv] []) := by intro _; rfl)
    (hs : swapsWithSole [.Subscript (.Name x p) ek pos'] ev pos.line X.env = pure false := by rfl) (hw : swappedStores [.Subscript (.Name x p) ek pos'] ev X.env = pure none := by rfl)
    (h1 : (assignEach [.Subscript (.Name x p) ek pos'] X.env).map (·.2) = [assign (.Subscript (.Name x p) ek pos') X.env] := by rfl) :
    JS K W X (.Assign [.Subscript (.Name x p) ek pos'] ev pos) (xLput xa xk xv) := ⟨fun hK => by
  refine ps_imp (ps_asg (hv.pe hK) (pg_sub (ho.pe hK) (hk.pe hK) set_list ha) hs hw h1) fun D σ H q => ?_
  obtain ⟨O, ρ, A, h, P, E, I, f, k, kx⟩ := q
  have kx' := exS I.sl kx
  refine ⟨O, ρ, A, h, _, _, I, Tr.all_mapE.1 (Tr.all_bind.1 f), fun v H1 u A1 h1 U1 r1 f1 => ?_, kx'⟩
  refine ⟨O, ρ, A1, h1, _, _, I.up U1, Tr.all_mapE.1 (Tr.all_bind.1 f1), fun v2 H2 u2 A2 h2 U2 r2 f2 => ?_, kx'.up U1⟩
  refine ⟨O, ρ, A2, h2, _, _, (I.up U1).up U2, Tr.all_mapE.1 (Tr.all_bind.1 f2), fun y H3 u3 A3 h3 U3 r3 f3 => ?_, (kx'.up U1).up U2⟩
  have U := (U1.trans U2).trans U3
  dsimp only at f3
  cases e1 : lstAt h3 u2 with
  | none => simp only [e1] at f3; exact f3.elim
  | some jd =>
    obtain ⟨j, ds⟩ := jd
    obtain ⟨rfl, hj⟩ := lstAt_some e1
    cases u with
    | c i => simp only [e1, unD] at f3; exact f3.elim
    | d dv =>
      cases e2 : asI u3 with
      | none => simp only [e1, unD, e2] at f3; exact f3.elim
      | some i =>
        have eu : u3 = .d (.int i) := by
          unfold asI at e2
          split at e2
          · cases e2; rfl
          · cases e2
        subst eu
        simp only [e1, unD, e2] at f3
        cases e3 : ixN ds.length i with
        | none => simp only [e3] at f3; exact f3.elim
        | some n =>
          simp only [e3] at f3
          obtain ⟨a, ej, rfl⟩ := r2
          obtain ⟨t3, eA⟩ := U3.pre
          have ej3 : A3[j]? = some a := by rw [eA]; exact get_pre ej
          obtain ⟨o, w1, xs, rfl, r⟩ := U.tb.cell j _ a hj ej3
          cases (show Rp K (MM O A3 h3 H3) y (.int i) from r3)
          have rv : Rp K (MM O A3 h3 H3) v dv := Rp.mono U3.sm (Rp.mono U2.sm r1)
          have U4 := U.tb.setCell (o' := .lst (xs.set n v)) hj rfl ej3 (c' := .own (.lst (ds.set n dv))) rfl ⟨_, upd_same, or_lst (RpAll.set rv n r)⟩
          have U5 := U.trans U4
          exact ⟨a, xs, i, n, rfl, rfl, w1, by rw [r.length]; exact e3, k .nx σ _ ρ A3 _ U5 (I.sl.mono U5.sm U5.pre) f3⟩⟩
end
end EL
/-! The layer EL: ranges with a step, lists of ranges. -/
namespace EL
open PySem PySem.Spec PyProof.Rows L2 DL
section
variable [FeedI] [ExI] {K : PySem.W.Frag} {W : WX} {X : Cx} {tg e : Expr} {pos : Pos} {xa xb : XE} {xs : XA}
def oRng3 : List D → Option (List D)
  | [.int i, .int j, .int c] => if c = -1 then (if -4611686018427387904 ≤ i ∧ i < 4611686018427387904 ∧ -4611686018427387904 ≤ j ∧ j < 4611686018427387904 then some (rngD i (-1) (i - j).toNat) else none)
      else if c ≠ 0 ∧ c.natAbs < 1073741824 ∧ Builtin.Range.small i j c = true ∧ 0 ≤ Builtin.Range.rangeSize i j c then some (rngD i c (Builtin.Range.rangeSize i j c).toNat) else none
  | _ => none
theorem oRng3_ok {ds z : List D} (h : oRng3 ds = some z) : ∃ i j c n, ds = [.int i, .int j, .int c] ∧ RgC i j c n ∧ z = rngD i c n := by
  unfold oRng3 at h
  split at h
  · rename_i i j c
    split at h
    · rename_i hc
      subst hc
      split at h
      · rename_i hb
        cases h
        exact ⟨i, j, -1, _, rfl, RgC.neg hb.1 hb.2.1 hb.2.2.1 hb.2.2.2, rfl⟩
      · cases h
    · split at h
      · rename_i hb
        cases h
        exact ⟨i, j, c, _, rfl, ⟨hb.1, hb.2.1, hb.2.2.1, by have := hb.2.2.2; omega⟩, rfl⟩
      · cases h
  · cases h
theorem rp_int3 {H : Hp} {vs : List V} {i j c : Int} (r : RpAll K H vs [.int i, .int j, .int c]) : vs = [.int i, .int j, .int c] := by
  cases r with
  | cons r rr =>
    cases rr with
    | cons r2 rr =>
      cases rr with
      | cons r3 rr =>
        cases rr
        cases r
        cases r2
        cases r3
        rfl
theorem ji_range3 {a b c : Expr} {p : Pos} (hg : Gl X "range") (hm : X.mg "range" = none) (ha : JA K W X [a, b, c] xs)
    (hs : starEach [a, b, c] X.env = (false, eval a X.env) :: starEach [b, c] X.env := by rfl) (hpl : (backTo pos (starEach [b, c] X.env)).any (·.1) = false := by rfl) : JI K W X tg (.Call (.Name "range" p) [a, b, c] [] pos) (xAI oRng3 xs) := ⟨fun hK => pi_imp (pi_range3 hg hm (ha.pa hK) hs hpl) fun σ H R q => by
  obtain ⟨O, ρ, A, h, P, E, I, f, k, kx⟩ := q
  refine ⟨O, ρ, A, h, _, E, I, Tr.all_bind.1 f, fun vs H1 us A1 h1 U1 r1 f1 => ?_, kx⟩
  obtain ⟨ds, z, e1, e2, p⟩ := all_xAI f1
  have r := allD_rp r1 e1
  obtain ⟨i, j, c, n, rfl, hr, rfl⟩ := oRng3_ok e2
  exact ⟨i, j, c, n, rp_int3 r, hr, k _ H1 _ A1 h1 U1 (yl_rngc i c n) p⟩⟩
def xnAI (o : List D → Option (List D)) (as : XA) : XN := fun ρ h => (as ρ h).bind fun p => match (allD p.1).bind o with
  | some z => .ok (.lst z, p.2)
  | none => .bad
theorem all_xnAI {o : List D → Option (List D)} {us : List Vl} {h : Hh} {P : D × Hh → Prop} {E : Ex × Hh → Prop} (f : (match (allD us).bind o with
    | some z => (.ok (.lst z, h) : Tr (Ex × Hh) (D × Hh))
    | none => .bad).all P E) : ∃ ds z, allD us = some ds ∧ o ds = some z ∧ P (.lst z, h) := by
  cases e : (allD us).bind o with
  | none => rw [e] at f; exact f.elim
  | some z =>
    rw [e] at f
    obtain ⟨ds, e1, e2⟩ := Option.bind_eq_some_iff.mp e
    exact ⟨ds, z, e1, e2, f⟩
def lim24 (o : List D → Option (List D)) : List D → Option (List D) := fun ds => match o ds with
  | some z => if z.length ≤ 16777216 then some z else none
  | none => none
theorem lim24_ok {o : List D → Option (List D)} {ds z : List D} (h : lim24 o ds = some z) : o ds = some z ∧ z.length ≤ 16777216 := by
  unfold lim24 at h
  split at h
  · rename_i y e
    split at h
    · cases h; exact ⟨e, by assumption⟩
    · cases h
  · cases h
theorem rngD_length (i c : Int) (n : Nat) : (rngD i c n).length = n := by simp [rngD]
/-- list(range(a, b, c)) -/
theorem jn_lstRg3 {a b c : Expr} {p pos p2 pos2 : Pos} (hc : X.calm = true) (hg : Gl X "list") (hm : X.mg "list" = none) (hg2 : Gl X "range") (hm2 : X.mg "range" = none) (ha : JA K W X [a, b, c] xs)
    (hs : starEach [a, b, c] X.env = (false, eval a X.env) :: starEach [b, c] X.env := by rfl) (hpl : (backTo pos2 (starEach [b, c] X.env)).any (·.1) = false := by rfl)
    (na : starEach [.Call (.Name "range" p2) [a, b, c] [] pos2] X.env = (false, eval (.Call (.Name "range" p2) [a, b, c] [] pos2) X.env) :: starEach [] X.env := by rfl) :
    JN K W X (.Call (.Name "list" p) [.Call (.Name "range" p2) [a, b, c] [] pos2] [] pos) (xnAI (lim24 oRng3) xs) := ⟨fun hK => pe_imp (pe_listRg3 hc hg hm hg2 hm2 (ha.pa hK) hs hpl na) fun σ H Q q => by
  obtain ⟨O, ρ, A, h, P, E, I, f, k, kx⟩ := q
  refine ⟨O, ρ, A, h, _, E, I, Tr.all_bind.1 f, fun vs H1 us A1 h1 U1 r1 f1 => ?_, kx⟩
  obtain ⟨ds, z, e1, e2, p⟩ := all_xnAI f1
  have r := allD_rp r1 e1
  obtain ⟨e3, hl⟩ := lim24_ok e2
  obtain ⟨i, j, c, n, rfl, hr, rfl⟩ := oRng3_ok e3
  rw [rngD_length] at hl
  exact ⟨i, j, c, n, rp_int3 r, hr, by omega, fun q hq => k q _ _ A1 h1 (.mk' U1 hq fun m e => or_lst (rngV_rp i c n)) p⟩⟩
def oRgE1 : List D → Option (List D)
  | [.int j] => if -4611686018427387904 ≤ j ∧ j < 4611686018427387904 ∧ j.toNat ≤ 16777216 then some (rngD 0 1 j.toNat) else none
  | _ => none
def oRgE2 : List D → Option (List D)
  | [.int i, .int j] => if -4611686018427387904 ≤ i ∧ i < 4611686018427387904 ∧ -4611686018427387904 ≤ j ∧ j < 4611686018427387904 ∧ (j - i).toNat ≤ 16777216 then some (rngD i 1 (j - i).toNat) else none
  | _ => none
theorem jn_lstRg1 {a : Expr} {p pos p2 pos2 : Pos} (hc : X.calm = true) (hg : Gl X "list") (hm : X.mg "list" = none) (hg2 : Gl X "range") (hm2 : X.mg "range" = none) (ha : JE K W X a xa)
    (na2 : starEach [a] X.env = (false, eval a X.env) :: starEach [] X.env := by rfl)
    (na : starEach [.Call (.Name "range" p2) [a] [] pos2] X.env = (false, eval (.Call (.Name "range" p2) [a] [] pos2) X.env) :: starEach [] X.env := by rfl) :
    JN K W X (.Call (.Name "list" p) [.Call (.Name "range" p2) [a] [] pos2] [] pos) (xnAI oRgE1 (xCons xa xNil)) := ⟨fun hK => pe_imp (pe_listRg hc hg hm (prg_1 hg2 hm2 (ha.pe hK) na2) na) fun σ H Q q => by
  obtain ⟨O, ρ, A, h, P, E, I, f, k, kx⟩ := q
  refine ⟨O, ρ, A, h, _, E, I, Tr.all_bind.1 (Tr.all_bind.1 f), fun v H1 u A1 h1 U1 r1 f1 => ?_, kx⟩
  have f2 : (match (allD [u]).bind oRgE1 with
    | some z => (.ok (.lst z, h1) : Tr (Ex × Hh) (D × Hh))
    | none => .bad).all P E := f1
  obtain ⟨ds, z, e1, e2, p⟩ := all_xnAI f2
  have r := allD_rp (show VlsR K (MM O A1 h1 H1) A1 [v] [u] from ⟨r1, trivial⟩) e1
  unfold oRgE1 at e2
  split at e2
  · split at e2
    · rename_i j hj
      cases e2
      cases r with
      | cons r rr =>
        cases rr
        cases r
        refine ⟨j, rfl, ⟨by decide, by decide, hj.1, hj.2.1, by rw [Int.sub_zero]; exact hj.2.2⟩, fun q hq => ?_⟩
        have e : (j - 0).toNat = j.toNat := by rw [Int.sub_zero]
        exact k q _ _ A1 h1 (.mk' U1 hq fun m _ => or_lst (by rw [← e]; exact rgV_rp 0 j)) p
    · cases e2
  · cases e2⟩
theorem jn_lstRg2 {a b : Expr} {p pos p2 pos2 : Pos} (hc : X.calm = true) (hg : Gl X "list") (hm : X.mg "list" = none) (hg2 : Gl X "range") (hm2 : X.mg "range" = none) (ha : JE K W X a xa) (hb : JE K W X b xb)
    (na3 : starEach [a, b] X.env = (false, eval a X.env) :: starEach [b] X.env := by rfl) (nb : starEach [b] X.env = (false, eval b X.env) :: starEach [] X.env := by rfl) (hp : (backTo pos2 (starEach [b] X.env)).any (·.1) = false := by rfl)
    (na : starEach [.Call (.Name "range" p2) [a, b] [] pos2] X.env = (false, eval (.Call (.Name "range" p2) [a, b] [] pos2) X.env) :: starEach [] X.env := by rfl) :
    JN K W X (.Call (.Name "list" p) [.Call (.Name "range" p2) [a, b] [] pos2] [] pos) (xnAI oRgE2 (xCons xa (xCons xb xNil))) := ⟨fun hK => pe_imp (pe_listRg hc hg hm (prg_2 hg2 hm2 (ha.pe hK) (hb.pe hK) na3 nb hp) na) fun σ H Q q => by
  obtain ⟨O, ρ, A, h, P, E, I, f, k, kx⟩ := q
  refine ⟨O, ρ, A, h, _, E, I, Tr.all_bind.1 (Tr.all_bind.1 f), fun v H1 u A1 h1 U1 r1 f1 => ?_, kx⟩
  refine ⟨O, ρ, A1, h1, _, E, I.up U1, Tr.all_bind.1 (Tr.all_bind.1 f1), fun v2 H2 u2 A2 h2 U2 r2 f2 => ?_, kx.up U1⟩
  have f3 : (match (allD [u, u2]).bind oRgE2 with
    | some z => (.ok (.lst z, h2) : Tr (Ex × Hh) (D × Hh))
    | none => .bad).all P E := f2
  obtain ⟨ds, z, e1, e2, p⟩ := all_xnAI f3
  have r := allD_rp (show VlsR K (MM O A2 h2 H2) A2 [v, v2] [u, u2] from ⟨r1.mono U2.sm U2.pre, r2, trivial⟩) e1
  unfold oRgE2 at e2
  split at e2
  · split at e2
    · rename_i i j hj
      cases e2
      cases r with
      | cons r rr =>
        cases rr with
        | cons r' rr =>
          cases rr
          cases r
          cases r'
          exact ⟨i, j, rfl, rfl, ⟨hj.1, hj.2.1, hj.2.2.1, hj.2.2.2.1, hj.2.2.2.2⟩, fun q hq => k q _ _ A2 h2 (.mk' (U1.trans U2) hq fun m _ => or_lst (rgV_rp i j)) p⟩
    · cases e2
  · cases e2⟩
end
end EL
/-! The layer EL: e[::-1] of lists and texts; += . -/
namespace EL
open PySem PySem.Spec PyProof.Rows L2 DL
def revS (z : Str) : Str := ⟨z.cps.toList.reverse.toArray⟩
def tRevA (K : PySem.W.Frag) (te : TE) : TE := fun σ H Q => te σ H fun x H1 => (∃ a xs, x = .ref a ∧ SqL K H1 a xs ∧ ∀ p, H1 p = none → Q (.ref p) (upd H1 p (.lst xs.reverse))) ∨ ∃ z, x = .str z ∧ z.length ≤ sizeLine ∧ Q (.str (revS z)) H1
theorem revMade (z : Str) (t tk : Tok) : PySem.sliceMade z t none none (some (-1, tk)) = .str (revS z) := by
  unfold PySem.sliceMade
  have e : PySem.slicePicked z none none (some (-1, tk)) = (List.range z.length).reverse := by
    unfold PySem.slicePicked
    show Builtin.Str.strSliceIndices none none (-1) z.length = _
    unfold Builtin.Str.strSliceIndices
    show sliceRange ((z.length : Int) - 1) (-1) (-1) = _
    rw [PySem.W.krv_sliceRange, PySem.W.krv_range]
  rw [e]
  have c : ((((some (-1, tk)).map (·.1) : Option Int).getD 1 == 1) && ((List.range z.length).reverse).length == z.length) = false := rfl
  rw [if_neg (by rw [c]; decide)]
  unfold revS
  rw [List.filterMap_reverse]
  have := PySem.W.krv_all z.cps
  rw [show z.length = z.cps.size from rfl, this]
theorem revS_length (z : Str) : (revS z).length = z.length := by
  show (z.cps.toList.reverse.toArray).size = z.cps.size
  simp
theorem pe_revA {X : Cx} {e : Expr} {te : TE} {k : Nat} {p1 p2 p3 pos : Pos} (he : PE X e te) : PE X (.Subscript e (.Slice none none (some (.UnaryOp .USub (.Constant (.int 1) k p1) p2)) p3) pos) (tRevA X.K te) := by
  refine ⟨fun pins s σ H Q I h => ?_⟩
  refine Subscript_ (thn (he.run pins s σ H _ I h) fun v s1 ⟨x, H1, I1, r1, q1⟩ => ?_)
  have hst : PO X (some (.UnaryOp .USub (.Constant (.int 1) k p1) p2)) (tPart (tUn (rU fun i => .int (-i)) (tC (.int 1)))) := po_some (pe_un un_neg pe_int)
  refine wpAny_Slice (thn (po_none.run pins s1 σ H1 (fun o H2 => o = none ∧ H2 = H1) I1 ⟨rfl, rfl⟩) fun vl s2 ⟨l, H2, I2, pl, el, e2⟩ => ?_)
  subst el e2
  refine thn (po_none.run pins s2 σ H2 (fun o H3 => o = none ∧ H3 = H2) I2 ⟨rfl, rfl⟩) fun vu s3 ⟨u, H3, I3, pu, eu, e3⟩ => ?_
  subst eu e3
  refine thn (hst.run pins s3 σ H3 (fun o H4 => o = some (-1) ∧ H4 = H3) I3 ⟨1, rfl, -1, rfl, rfl, rfl⟩) fun vs s4 ⟨o, H4, I4, ps, eo, e4⟩ => ?_
  subst eo e4
  have I5 : Inv X pins σ H4 { s4 with heap := s4.heap.push { cls := .type "slice", data := .fields #[vl, vu, vs] } } := I4.kept (t' := s4.toks) fun b ob q => Heap.get?_push_of_some _ q
  rcases q1 with ⟨a, xs, rfl, hx, q⟩ | ⟨z, rfl, hz, q⟩
  · cases r1
    obtain ⟨its, r, ht, hz⟩ := I5.list hx
    have hlen := r.length
    show wpAny (model X.prog X.w) X.A (subscriptTail e (.Slice none none (some (.UnaryOp .USub (.Constant (.int 1) k p1) p2)) p3) (.ref a) (.ref s4.heap.objs.size)) (EP X pins σ Q) X.xe { s4 with heap := s4.heap.push { cls := .type "slice", data := .fields #[vl, vu, vs] } }
    refine tail_any (ops := [.ref a, .ref s4.heap.objs.size]) ht.isList.typeIs (PySem.slot_list_getitem.lookup) ?_ (by with_unfolding_all rfl)
    refine wpAny_getItem_list_slice ht.isList (Heap.IsSliceOf.new _ vl vu vs) pl pu ps (by decide) ?_ (by rw [List.size_toArray]; omega)
    rw [PySem.W.krv_pick]
    refine ⟨.ref _, _, I5.laid (t' := s4.toks) (o := .lst xs.reverse) (fun b ob q => Heap.get?_push_of_some _ q) (Nat.le_refl _) ?_, rfl, q _ (I5.hok.fresh (Nat.le_refl _))⟩
    exact ⟨by rw [List.length_reverse]; exact hz, _, 0, r.reverse, Heap.get?_push_size _ rfl⟩
  · obtain ⟨t, rfl⟩ := r1
    show wpAny (model X.prog X.w) X.A (subscriptTail e (.Slice none none (some (.UnaryOp .USub (.Constant (.int 1) k p1) p2)) p3) (.str z t) (.ref s4.heap.objs.size)) (EP X pins σ Q) X.xe { s4 with heap := s4.heap.push { cls := .type "slice", data := .fields #[vl, vu, vs] } }
    obtain ⟨l, hl, hl2⟩ := IsPart.raw pl
    obtain ⟨u, hu, hu2⟩ := IsPart.raw pu
    obtain ⟨w, hw, hw2⟩ := IsPart.raw ps
    cases l with
    | some _ => cases hl2
    | none =>
      cases u with
      | some _ => cases hu2
      | none =>
        cases w with
        | none => cases hw2
        | some w =>
          obtain ⟨w1, w2⟩ := w
          cases hw2
          refine tail_any (ops := [.str z t, .ref s4.heap.objs.size]) (typeIs_str _ _ _) F.slot_str_getitem.lookup ?_ (by with_unfolding_all rfl)
          refine wpAny_getItem_str_slice (l := none) (u := none) (st := some (-1, w2)) ⟨_, Heap.get?_push_size _ rfl, rfl, by rw [hl, hu, hw] <;> rfl⟩ rfl ?_
          rw [revMade]
          exact ⟨by rw [revS_length]; exact hz, .str _, H4, I5.tok _, ⟨_, rfl⟩, q⟩
def oRevA : D → Option D
  | .lst ds => some (.lst ds.reverse)
  | .str l => some (.str l.reverse)
  | _ => none
theorem revS_S (l : Tx) : revS (S l) = S l.reverse := by
  unfold revS
  rw [S_cps]
  rfl
section
variable [FeedI] [ExI] {K : PySem.W.Frag} {W : WX} {X : Cx} {e : Expr} {pos : Pos} {xa : XE}
theorem je_rev {k : Nat} {p1 p2 p3 : Pos} (h : JE K W X e xa) : JE K W X (.Subscript e (.Slice none none (some (.UnaryOp .USub (.Constant (.int 1) k p1) p2)) p3) pos) (xUn oRevA xa) := ⟨fun hK => by
  subst hK
  refine pe_imp (pe_revA (h.pe rfl)) fun σ H Q q => ?_
  obtain ⟨O, ρ, A, h, P, E, I, f, k, kx⟩ := q
  refine ⟨O, ρ, A, h, _, E, I, Tr.all_bind.1 f, fun v H1 u A1 h1 U1 r1 f1 => ?_, kx⟩
  obtain ⟨z, e, p⟩ := all_lift f1
  cases u with
  | c i => cases e
  | d x =>
    have e' : oRevA x = some z := e
    cases r1 with
    | @lst a xs ds h r =>
      cases e'
      refine .inl ⟨a, xs, rfl, .inl (.inl (msk_some h).2), fun q hq => ?_⟩
      have en := same_new (o := .lst xs.reverse) hq
      exact k _ _ (.d _) A1 h1 (U1.trans (.grow U1.tb en)) (.lst (U1.tb.newM hq) (r.reverse.mono (msk_same en))) p
    | str l hl =>
      cases e'
      refine .inr ⟨S l, rfl, by rw [S_length]; exact hl, ?_⟩
      rw [revS_S]
      exact k (.str (S l.reverse)) H1 (.d (.str l.reverse)) A1 h1 U1 (Rp.str _ (by rw [List.length_reverse]; exact hl)) p
    | _ => cases e'⟩
end
def oIAdd : D → D → Option D
  | .int a, .int b => some (.int (a + b))
  | _, _ => none
section
variable [FeedI] [ExI] {K : PySem.W.Frag} {X : Cx}
theorem jip_addI : JOp K X (inplaceOp .Add) oIAdd := ⟨_, dip_add, fun x y z h => by
  unfold oIAdd at h; split at h <;> cases h; exact ⟨trivial, rfl⟩⟩
end
end EL
/-! The layer EL: plain laws: what readings come to. -/
namespace EL
open PySem PySem.Spec PyProof.Rows L2 DL
/-- go on with what is there -/
def optB {ε α β : Type} (o : Option α) (f : α → Tr ε β) : Tr ε β := match o with
  | some a => f a
  | none => .bad
@[simp] theorem optB_some {ε α β : Type} {a : α} {f : α → Tr ε β} : optB (some a) f = f a := (rfl)
@[simp] theorem optB_none {ε α β : Type} {f : α → Tr ε β} : optB (none : Option α) f = .bad := (rfl)
@[simp] theorem xC_ap (d : D) (_v0 : Rho) (h : Hh) : xC d _v0 h = .ok (.d d, h) := (rfl)
@[simp] theorem xVar_ap (i : Nat) (ρ : Rho) (h : Hh) : xVar i ρ h = match ρ[i]? with
  | some (some v) => .ok (v, h)
  | _ => .bad := (rfl)
@[simp] theorem oLt_int (a b : Int) : oLt (.int a) (.int b) = some (.bl (decide (a < b))) := (rfl)
@[simp] theorem oLt_str (a b : Tx) : oLt (.str a) (.str b) = some (.bl (decide (a < b))) := (rfl)
@[simp] theorem oLe_int (a b : Int) : oLe (.int a) (.int b) = some (.bl (decide (a ≤ b))) := (rfl)
@[simp] theorem oLe_str (a b : Tx) : oLe (.str a) (.str b) = some (.bl (!decide (b < a))) := (rfl)
@[simp] theorem oGt_int (a b : Int) : oGt (.int a) (.int b) = some (.bl (decide (b < a))) := (rfl)
@[simp] theorem oGt_str (a b : Tx) : oGt (.str a) (.str b) = some (.bl (decide (b < a))) := (rfl)
@[simp] theorem oGe_int (a b : Int) : oGe (.int a) (.int b) = some (.bl (decide (b ≤ a))) := (rfl)
@[simp] theorem oGe_str (a b : Tx) : oGe (.str a) (.str b) = some (.bl (!decide (a < b))) := (rfl)
@[simp] theorem xOp_ap (o : D → D → Option D) (a b : XE) (ρ : Rho) (h : Hh) : xOp o a b ρ h = (a ρ h).bind fun p => (b ρ p.2).bind fun q => lift (ap2 o q.2 p.1 q.1) q.2 := (rfl)
@[simp] theorem xB_ap (x : XE) (ρ : Rho) (h : Hh) : xB x ρ h = (x ρ h).bind fun p => liftB (asB p.1) p.2 := (rfl)
@[simp] theorem xAnd_ap (f g : XT) (ρ : Rho) (h : Hh) : xAnd f g ρ h = (f ρ h).bind fun p => if p.1 = true then g ρ p.2 else .ok (false, p.2) := (rfl)
@[simp] theorem xOr_ap (f g : XT) (ρ : Rho) (h : Hh) : xOr f g ρ h = (f ρ h).bind fun p => if p.1 = true then .ok (true, p.2) else g ρ p.2 := (rfl)
@[simp] theorem xNot_ap (f : XT) (ρ : Rho) (h : Hh) : xNot f ρ h = (f ρ h).bind fun p => .ok (!p.1, p.2) := (rfl)
@[simp] theorem xAndV_ap (fa fb : XE) (ρ : Rho) (h : Hh) : xAndV fa fb ρ h = (fa ρ h).bind fun p => bindB p fun b h1 => if b = true then fb ρ h1 else .ok (.d (.bl false), h1) := (rfl)
@[simp] theorem xOrV_ap (fa fb : XE) (ρ : Rho) (h : Hh) : xOrV fa fb ρ h = (fa ρ h).bind fun p => bindB p fun b h1 => if b = true then .ok (.d (.bl true), h1) else fb ρ h1 := (rfl)
@[simp] theorem xNotV_ap (fa : XE) (ρ : Rho) (h : Hh) : xNotV fa ρ h = (fa ρ h).bind fun p => bindB p fun b h1 => .ok (.d (.bl !b), h1) := (rfl)
@[simp] theorem xIf_ap (f : XT) (fa fb : XE) (ρ : Rho) (h : Hh) : xIf f fa fb ρ h = (f ρ h).bind fun p => if p.1 = true then fa ρ p.2 else fb ρ p.2 := (rfl)
@[simp] theorem xNil_ap (_v0 : Rho) (h : Hh) : xNil  _v0 h = .ok ([], h) := (rfl)
@[simp] theorem xCons_ap (fe : XE) (fs : XA) (ρ : Rho) (h : Hh) : xCons fe fs ρ h = (fe ρ h).bind fun p => (fs ρ p.2).bind fun q => .ok (p.1 :: q.1, q.2) := (rfl)
@[simp] theorem xTup_ap (fs : XA) (ρ : Rho) (h : Hh) : xTup fs ρ h = (fs ρ h).bind fun p => liftA (allD p.1) p.2 oTup := (rfl)
@[simp] theorem xLst_ap (fs : XA) (ρ : Rho) (h : Hh) : xLst fs ρ h = (fs ρ h).bind fun p => liftA (allD p.1) p.2 oLst := (rfl)
@[simp] theorem xCallB_ap (o : List D → Option D) (as : XA) (ρ : Rho) (h : Hh) : xCallB o as ρ h = (as ρ h).bind fun p => lift (apN o p.2 p.1) p.2 := (rfl)
@[simp] theorem xoN_ap (_v0 : Rho) (h : Hh) : xoN  _v0 h = .ok (none, h) := (rfl)
@[simp] theorem xoS_ap (x : XE) (ρ : Rho) (h : Hh) : xoS x ρ h = (x ρ h).bind fun p => optB (asI p.1) fun i => .ok (some i, p.2) := by
  unfold xoS
  congr 1; funext p
  cases asI p.1 <;> rfl
@[simp] theorem xSl_ap (x : XE) (l u : XO) (ρ : Rho) (h : Hh) : xSl x l u ρ h = (x ρ h).bind fun p => (l ρ p.2).bind fun q => (u ρ q.2).bind fun r => lift (unV (oSl q.1 r.1) p.1) r.2 := (rfl)
@[simp] theorem xUn_ap (o : D → Option D) (x : XE) (ρ : Rho) (h : Hh) : xUn o x ρ h = (x ρ h).bind fun p => lift (unV o p.1) p.2 := (rfl)
@[simp] theorem xMeth_ap (o : Tx → D → Option D) (a b : XE) (ρ : Rho) (h : Hh) : xMeth o a b ρ h = (a ρ h).bind fun p => withS p fun s h1 => (b ρ h1).bind fun q => lift (unV (o s) q.1) q.2 := (rfl)
@[simp] theorem xNext_ap (ρ : Rho) (h : Hh) : xNext  ρ h = .ok (.nx, ρ, h) := (rfl)
@[simp] theorem xSeq_ap (a b : XS) (ρ : Rho) (h : Hh) : xSeq a b ρ h = (a ρ h).bind fun p => match p.1 with
  | .nx => b p.2.1 p.2.2
  | f => .ok (f, p.2) := (rfl)
@[simp] theorem xFgt_ap (is : List Nat) (g : XS) (ρ : Rho) (h : Hh) : xFgt is g ρ h = g (fgt ρ is) h := (rfl)
@[simp] theorem xNever_ap (_v0 : Rho) (_v1 : Hh) : xNever  _v0 _v1 = .bad := (rfl)
@[simp] theorem xBreak_ap (ρ : Rho) (h : Hh) : xBreak  ρ h = .ok (.bk, ρ, h) := (rfl)
@[simp] theorem xCont_ap (ρ : Rho) (h : Hh) : xCont  ρ h = .ok (.ct, ρ, h) := (rfl)
@[simp] theorem xRet_ap (x : XE) (ρ : Rho) (h : Hh) : xRet x ρ h = (atS ρ (x ρ h)).bind fun p => .ok (.rt p.1, ρ, p.2) := (rfl)
@[simp] theorem xRetN_ap (ρ : Rho) (h : Hh) : xRetN  ρ h = .ok (.rt (.d .non), ρ, h) := (rfl)
@[simp] theorem xDrop_ap (x : XE) (ρ : Rho) (h : Hh) : xDrop x ρ h = (atS ρ (x ρ h)).bind fun p => .ok (.nx, ρ, p.2) := (rfl)
@[simp] theorem xIfS_ap (t : XT) (g h : XS) (ρ : Rho) (h0 : Hh) : xIfS t g h ρ h0 = (atS ρ (t ρ h0)).bind fun p => if p.1 = true then g ρ p.2 else h ρ p.2 := (rfl)
@[simp] theorem xSet_ap (i : Nat) (x : XE) (ρ : Rho) (h : Hh) : xSet i x ρ h = (atS ρ (x ρ h)).bind fun p => .ok (.nx, ρ.set i (some p.1), p.2) := (rfl)
@[simp] theorem xgN_ap (i : Nat) (d : D) (ρ : Rho) : xgN i d ρ = some (ρ.set i (some (.d d))) := (rfl)
@[simp] theorem xgCons_ap (g : XG) (gs : XGs) (ds : List D) (ρ : Rho) : xgCons g gs ds ρ = match ds with
  | d :: ds => (g d ρ).bind (gs ds)
  | [] => none := (rfl)
@[simp] theorem xgTup_ap (n : Nat) (gs : XGs) (d : D) (ρ : Rho) : xgTup n gs d ρ = match d with
  | .tup ds => if ds.length = n then gs ds ρ else none
  | _ => none := (rfl)
@[simp] theorem xgLst_ap (n : Nat) (gs : XGs) (d : D) (ρ : Rho) : xgLst n gs d ρ = match d with
  | .lst ds => if ds.length = n then gs ds ρ else none
  | _ => none := (rfl)
@[simp] theorem xAsg_ap (x : XE) (g : XG) (ρ : Rho) (h : Hh) : xAsg x g ρ h = (atS ρ (x ρ h)).bind fun p => goS ((unD p.1).bind fun d => g d ρ) p.2 := (rfl)
@[simp] theorem xPar_ap (i j : Nat) (fs : XA) (ρ : Rho) (h : Hh) : xPar i j fs ρ h = (atS ρ (fs ρ h)).bind fun p => goS (par2 i j ρ p.1) p.2 := (rfl)
@[simp] theorem xPar3_ap (i j l : Nat) (fs : XA) (ρ : Rho) (h : Hh) : xPar3 i j l fs ρ h = (atS ρ (fs ρ h)).bind fun p => goS (par3 i j l ρ p.1) p.2 := (rfl)
@[simp] theorem xAug_ap (i : Nat) (o : D → D → Option D) (x : XE) (ρ : Rho) (h : Hh) : xAug i o x ρ h = match ρ[i]? with
  | some (some v) => (atS ρ (x ρ h)).bind fun p => optB (bin0 o v p.1) fun z => .ok (.nx, ρ.set i (some (.d z)), p.2)
  | _ => .bad := by
  unfold xAug
  cases ρ[i]? with
  | none => rfl
  | some v =>
    cases v with
    | none => rfl
    | some v =>
      show (atS ρ (x ρ h)).bind _ = (atS ρ (x ρ h)).bind _
      congr 1; funext p
      cases bin0 o v p.1 <;> rfl
@[simp] theorem xSq_ap (x : XE) (ρ : Rho) (h : Hh) : xSq x ρ h = (x ρ h).bind fun p => liftI (asSq p.1) p.2 := (rfl)
@[simp] theorem xAI_ap (o : List D → Option (List D)) (as : XA) (ρ : Rho) (h : Hh) : xAI o as ρ h = (as ρ h).bind fun p => optB (allD p.1) fun ds => optB (o ds) fun z => .ok (z, p.2) := by
  unfold xAI
  congr 1; funext p
  cases allD p.1 with
  | none => rfl
  | some ds => cases e : o ds <;> simp [e, liftI]
@[simp] theorem xFor_ap (src : XI) (g : XG) (b : XS) (fz : List Nat) (ρ : Rho) (h : Hh) : xFor src g b fz ρ h = (atS ρ (src ρ h)).bind fun p => forX g b fz p.2.length p.1 (fgt ρ fz) p.2 := (rfl)
@[simp] theorem xFz_ap (x : XN) (ρ : Rho) (h : Hh) : xFz x ρ h = (x ρ h).bind fun p => .ok (.d p.1, p.2) := (rfl)
@[simp] theorem xSetN_ap (i : Nat) (x : XN) (ρ : Rho) (h : Hh) : xSetN i x ρ h = (atS ρ (x ρ h)).bind fun p => .ok (.nx, ρ.set i (some (.c p.2.length)), p.2 ++ [.own p.1]) := (rfl)
@[simp] theorem xnLst_ap (fs : XA) (ρ : Rho) (h : Hh) : xnLst fs ρ h = (fs ρ h).bind fun p => optB (allD p.1) fun ds => if ds.length ≤ 16777216 then .ok (.lst ds, p.2) else .bad := by
  unfold xnLst
  congr 1; funext p
  cases allD p.1 <;> rfl
@[simp] theorem xnDnil_ap (_v0 : Rho) (h : Hh) : xnDnil  _v0 h = .ok (.dic [] [], h) := (rfl)
def oneV {ε α : Type} (us : List Vl) (f : Vl → Tr ε α) : Tr ε α := match us with
  | [u] => f u
  | _ => .bad
@[simp] theorem oneV_one {ε α : Type} {u : Vl} {f : Vl → Tr ε α} : oneV [u] f = f u := (rfl)
@[simp] theorem xnList_ap (x : XA) (ρ : Rho) (h : Hh) : xnList x ρ h = (x ρ h).bind fun p => oneV p.1 fun u => optB (viewS p.2 u) fun ds => .ok (.lst ds, p.2) := by
  unfold xnList
  congr 1; funext p
  obtain ⟨us, h⟩ := p
  match us with
  | [] => rfl
  | [u] => show _ = optB _ _; cases e : viewS h u <;> simp [e]
  | _ :: _ :: _ => rfl
@[simp] theorem xYes_ap (_v0 : Rho) (h : Hh) : xYes  _v0 h = .ok (true, h) := (rfl)
@[simp] theorem xnLc_ap (fi : XI) (g : XG) (t : XT) (e : XE) (vs : List Nat) (ρ : Rho) (h : Hh) : xnLc fi g t e vs ρ h = (fi ρ h).bind fun p => (noex (blkGo g t vs (bdE e) ρ p.1 0 p.2)).bind fun q => .ok (.lst q.1, q.2) := (rfl)
@[simp] theorem xnLc2_ap (fi : XI) (g : XG) (t : XT) (fi1 : XI) (g1 : XG) (t1 : XT) (e : XE) (vs vs1 : List Nat) (ρ : Rho) (h : Hh) : xnLc2 fi g t fi1 g1 t1 e vs vs1 ρ h = (fi ρ h).bind fun p => (noex (blkGo g t vs (bd2 fi1 g1 t1 e vs1) ρ p.1 0 p.2)).bind fun q => .ok (.lst q.1, q.2) := (rfl)
@[simp] theorem xNew_ap (x : XN) (ρ : Rho) (h : Hh) : xNew x ρ h = (x ρ h).bind fun p => .ok (.c p.2.length, p.2 ++ [.own p.1]) := (rfl)
@[simp] theorem xnDc_ap (fi : XI) (g : XG) (t : XT) (tk tv : XE) (vs : List Nat) (ρ : Rho) (h : Hh) : xnDc fi g t tk tv vs ρ h = (fi ρ h).bind fun p => (noex (dcGo g t vs tk tv ρ p.1 ([], []) p.2)).bind fun q => .ok (.dic q.1.1 q.1.2, q.2) := (rfl)
@[simp] theorem xnDisp_ap (ps : List (XE × XE)) (ρ : Rho) (h : Hh) : xnDisp ps ρ h = (xPairs ps ρ h).bind fun p => optB (keysOf p.1) fun ks => if ks.length ≤ 15 then .ok (.dic (mrgD [] [] ks).1 (mrgD [] [] ks).2, p.2) else .bad := by
  unfold xnDisp
  congr 1; funext p
  cases keysOf p.1 <;> rfl
@[simp] theorem xTuple_ap (x : XA) (ρ : Rho) (h : Hh) : xTuple x ρ h = (x ρ h).bind fun p => oneV p.1 fun u => optB (tupV p.2 u) fun ds => .ok (.d (.tup ds), p.2) := by
  unfold xTuple
  congr 1; funext p
  obtain ⟨us, h⟩ := p
  match us with
  | [] => rfl
  | [u] => show _ = optB _ _; cases e : tupV h u <;> simp [e]
  | _ :: _ :: _ => rfl
@[simp] theorem xMut_ap (f : FMt) (o : XE) (as : XA) (ρ : Rho) (h : Hh) : xMut f o as ρ h = (o ρ h).bind fun p => optB (lstAt p.2 p.1) fun _ => (as ρ p.2).bind fun q => optB (lstAt q.2 p.1) fun jd => optB (allD q.1) fun es => optB (f jd.2 es) fun r => .ok (.d r.1, q.2.set jd.1 (.own (.lst r.2))) := by
  unfold xMut
  congr 1; funext p
  cases lstAt p.2 p.1 with
  | none => rfl
  | some jd =>
    show (as ρ p.2).bind _ = (as ρ p.2).bind _
    congr 1; funext q
    cases lstAt q.2 p.1 with
    | none => rfl
    | some jd =>
      cases allD q.1 with
      | none => rfl
      | some es =>
        show _ = optB _ _
        cases e : f jd.2 es <;> simp [e]
@[simp] theorem xMut0_ap (f : FMt) (o : XE) (ρ : Rho) (h : Hh) : xMut0 f o ρ h = (o ρ h).bind fun p => optB (lstAt p.2 p.1) fun jd => optB (f jd.2 []) fun r => .ok (.d r.1, p.2.set jd.1 (.own (.lst r.2))) := by
  unfold xMut0
  congr 1; funext p
  cases lstAt p.2 p.1 with
  | none => rfl
  | some jd =>
    show _ = optB _ _
    cases e : f jd.2 [] <;> simp [e]
@[simp] theorem xDput_ap (o k v : XE) (ρ : Rho) (h : Hh) : xDput o k v ρ h = (atS ρ (v ρ h)).bind fun p => (atS ρ (o ρ p.2)).bind fun q => (atS ρ (k ρ q.2)).bind fun r => optB (dicAt r.2 q.1) fun jd => optB (unD p.1) fun d => optB (unD r.1) fun y => optB (keyD y) fun key => if jd.2.1.length < 16777216 then .ok (.nx, ρ, r.2.set jd.1 (.own (.dic (putKs jd.2.1 key) (putDs jd.2.1 jd.2.2 key d)))) else .bad := by
  unfold xDput
  congr 1; funext p
  congr 1; funext q
  congr 1; funext r
  cases dicAt r.2 q.1 <;> cases unD p.1 <;> cases e : unD r.1 <;> simp [e]
  rename_i y
  cases keyD y <;> rfl
@[simp] theorem xLput_ap (o k v : XE) (ρ : Rho) (h : Hh) : xLput o k v ρ h = (atS ρ (v ρ h)).bind fun p => (atS ρ (o ρ p.2)).bind fun q => (atS ρ (k ρ q.2)).bind fun r => optB (lstAt r.2 q.1) fun jd => optB (unD p.1) fun d => optB (asI r.1) fun i => optB (ixN jd.2.length i) fun n => .ok (.nx, ρ, r.2.set jd.1 (.own (.lst (jd.2.set n d)))) := by
  unfold xLput
  congr 1; funext p
  congr 1; funext q
  congr 1; funext r
  cases lstAt r.2 q.1 with
  | none => rfl
  | some jd =>
    cases unD p.1 with
    | none => rfl
    | some d =>
      cases asI r.1 with
      | none => rfl
      | some i =>
        show _ = optB _ _
        cases e : ixN jd.2.length i <;> simp [e]
@[simp] theorem xFrz_ap (i : Nat) (g : XS) (ρ : Rho) (h : Hh) : xFrz i g ρ h = match ρ[i]? with
  | some (some (.c j)) => (match h[j]? with
    | some (.own d) => g (ρ.set i (some (.d d))) (h.set j .dead)
    | _ => g ρ h)
  | _ => g ρ h := (rfl)
@[simp] theorem runF_ap (N : Nat) (mask : List Bool) (b : XS) (ds : List D) (cs : List Cell) : runF N mask b ds cs = ((b (initV mask ds 0 ++ List.replicate (N - mask.length) none) cs).mapE fun e => (e.1, e.2.2.take cs.length)).bind (finF cs.length) := (rfl)
@[simp] theorem runF0_ap (N : Nat) (mask : List Bool) (b : XS) (ds : List D) (cs : List Cell) : runF0 N mask b ds cs = noex (runF N mask b ds cs) := (rfl)
@[simp] theorem callV_ap (mask : List Bool) (f : GX) (us : List Vl) (h : Hh) : callV mask f us h = match splitA mask us with
  | some (ds, is) => if nodupB is = true then (match getCs h is with
    | some cs => (f ds cs).both (fun e => if okCs cs e.2 = true then .ex (e.1, setCs h is e.2) else .bad) fun r => if okCs cs r.2 = true then .ok (r.1, setCs h is r.2) else .bad
    | none => .bad) else .bad
  | none => .bad := (rfl)
@[simp] theorem xCallR_ap (mask : List Bool) (fx : GX) (arr : List Vl → List Vl → List Vl) (n m : Nat) (as ks : XA) (ρ : Rho) (h : Hh) : xCallR mask fx arr n m as ks ρ h = (as ρ h).bind fun p => (ks ρ p.2).bind fun q => callA mask fx arr n m p.1 q.1 q.2 := (rfl)
@[simp] theorem xCall_ap (mask : List Bool) (fx : GX) (arr : List Vl → List Vl → List Vl) (n m : Nat) (as ks : XA) (ρ : Rho) (h : Hh) : xCall mask fx arr n m as ks ρ h = (xCallR mask fx arr n m as ks ρ h).bind fun p => .ok (frzV p.1, p.2) := (rfl)
@[simp] theorem xnCall_ap (mask : List Bool) (fx : GX) (arr : List Vl → List Vl → List Vl) (n m : Nat) (as ks : XA) (ρ : Rho) (h : Hh) : xnCall mask fx arr n m as ks ρ h = (xCallR mask fx arr n m as ks ρ h).bind fun p => optB (newV p.1) fun x => .ok (x, p.2) := by
  unfold xnCall
  congr 1; funext p
  cases newV p.1 <;> rfl
@[simp] theorem xMk_ap (as : XA) (ρ : Rho) (h : Hh) : xMk as ρ h = (as ρ h).bind fun p => match p.1 with
  | [.d (.scr _)] => .ok (.c p.2.length, p.2 ++ [.feed 0])
  | _ => .bad := (rfl)
@[simp] theorem xLock_ap (x : XE) (ρ : Rho) (h : Hh) : xLock x ρ h = (noex (x (lockR h ρ) [])).bind fun p => match p.1 with
  | .d z => if hardD z then .ok (.d z, h) else .bad
  | _ => .bad := (rfl)
@[simp] theorem nLock_ap (x : XN) (ρ : Rho) (h : Hh) : nLock x ρ h = (noex (x (lockR h ρ) [])).bind fun p => if isHardO p.1 then .ok (p.1, h) else .bad := (rfl)
@[simp] theorem xnItems_ap (i : Nat) (g : XG) (t : XT) (e : XE) (vs : List Nat) (ρ : Rho) (h : Hh) : xnItems i g t e vs ρ h = match ρ[i]? with
  | some (some (.c j)) => (match h[j]? with
    | some (.own (.dic ks ds)) => (noex (blkGo g t vs (bdE e) (ρ.set i (some (.d (.dic ks ds)))) (itemsD ks ds) 0 (h.set j .dead))).bind fun q => .ok (.lst q.1, q.2)
    | _ => .bad)
  | _ => .bad := (rfl)
@[simp] theorem xIxo_ap (a b : XE) (ρ : Rho) (h : Hh) : xIxo a b ρ h = (a ρ h).bind fun p => (b ρ p.2).bind fun q => lift (ixV q.2 p.1 q.1) q.2 := (rfl)
@[simp] theorem xnAI_ap (o : List D → Option (List D)) (as : XA) (ρ : Rho) (h : Hh) : xnAI o as ρ h = (as ρ h).bind fun p => optB (allD p.1) fun ds => optB (o ds) fun z => .ok (.lst z, p.2) := by
  unfold xnAI
  congr 1; funext p
  cases allD p.1 with
  | none => rfl
  | some ds => cases e : o ds <;> simp [e]
section
variable {h : Hh} {a b : Int} {x y : D} {s t : Tx} {ds es : List D} {p q : Bool} {u v : Vl} {us vs : List Vl} {i j n : Nat} {ρ : Rho} {α β : Type}
@[simp] theorem atS_k {c : α} : atS ρ (.ok c : Tr (Ex × Hh) α) = .ok c := (rfl)
@[simp] theorem atS_b : atS ρ (.bad : Tr (Ex × Hh) α) = .bad := (rfl)
@[simp] theorem atS_x {e : Ex × Hh} : atS ρ (.ex e : Tr (Ex × Hh) α) = .ex (e.1, ρ, e.2) := (rfl)
@[simp] theorem live_own : (Cell.own x).live = true := (rfl)
@[simp] theorem live_feed : (Cell.feed n).live = true := (rfl)
@[simp] theorem live_dead : Cell.dead.live = false := (rfl)
@[simp] theorem callA_ap {mask : List Bool} {fx : GX} {arr : List Vl → List Vl → List Vl} {n m : Nat} : callA mask fx arr n m us vs h = if us.length = n ∧ vs.length = m then callV mask fx (arr us vs) h else .bad := (rfl)
@[simp] theorem arr0_ap : arr0 us vs = us := (rfl)
@[simp] theorem arrS_ap {src : List Src} : arrS src ds us vs = src.map (Src.get us vs (ds.map .d) (.d .non)) := (rfl)
@[simp] theorem src_ps {l r k : List Vl} {d : Vl} : Src.get l r k d (.ps i) = l.getD i d := (rfl)
@[simp] theorem src_kw {l r k : List Vl} {d : Vl} : Src.get l r k d (.kw i) = r.getD i d := (rfl)
@[simp] theorem src_df {l r k : List Vl} {d : Vl} : Src.get l r k d (.df i) = k.getD i d := (rfl)
@[simp] theorem lockR_ap : lockR h ρ = ρ.map fun s => match s with
  | some (.c j) => (match h[j]? with
    | some (.own d) => some (.d d)
    | _ => none)
  | s => s := (rfl)
@[simp] theorem oNe_ap : oNe x y = notO (oEq x y) := (rfl)
@[simp] theorem oNotIn_ap : oNotIn x y = notO (oIn x y) := (rfl)
@[simp] theorem oTup_ap : oTup ds = if ds.length ≤ 16777216 then some (.tup ds) else none := (rfl)
@[simp] theorem oLst_ap : oLst ds = if ds.length ≤ 16777216 then some (.lst ds) else none := (rfl)
@[simp] theorem fgt_nil : fgt ρ [] = ρ := (rfl)
@[simp] theorem fgt_cons {is : List Nat} : fgt ρ (i :: is) = (fgt ρ is).set i none := (rfl)
@[simp] theorem xgNil_ap : xgNil [] ρ = some ρ := (rfl)
@[simp] theorem noRef_nil : noRef n [] = true := (rfl)
@[simp] theorem noRef_c : noRef n (some (.c j) :: ρ) = (decide (j < n) && noRef n ρ) := (rfl)
@[simp] theorem noRef_d : noRef n (some (.d x) :: ρ) = noRef n ρ := (rfl)
@[simp] theorem noRef_n : noRef n (none :: ρ) = noRef n ρ := (rfl)
@[simp] theorem trim_ap : trim n ρ h = if h.length ≤ n then h else if noRef n ρ then h.take n else h := (rfl)
@[simp] theorem tupD_ap {z : D × D} : tupD z = .tup [z.1, z.2] := (rfl)
@[simp] theorem lift_some : lift (some x) h = .ok (.d x, h) := (rfl)
@[simp] theorem ap2_d {o : D → D → Option D} : ap2 o h (.d x) (.d y) = o x y := (rfl)
theorem vw_d' : vw h (.d x) = some x := (rfl)
@[simp] theorem ap2_cd {o : D → D → Option D} (e : vw h (.c i) = some x) : ap2 o h (.c i) (.d y) = flatO (o x y) := by simp [ap2, e, vw_d']
@[simp] theorem ap2_dc {o : D → D → Option D} (e : vw h (.c i) = some y) : ap2 o h (.d x) (.c i) = flatO (o x y) := by simp [ap2, e, vw_d']
@[simp] theorem ap2_cc {o : D → D → Option D} (e : vw h (.c i) = some x) (e2 : vw h (.c j) = some y) : ap2 o h (.c i) (.c j) = flatO (o x y) := by simp [ap2, e, e2]
@[simp] theorem vw_d : vw h (.d x) = some x := (rfl)
theorem vw_c {d : D} (e : h[i]? = some (.own d)) : vw h (.c i) = some d := by unfold vw; simp [e]
@[simp] theorem vw_0 : vw (.own x :: h) (.c 0) = some x := (rfl)
@[simp] theorem vw_s {c : Cell} : vw (c :: h) (.c (i + 1)) = vw h (.c i) := by unfold vw; simp
@[simp] theorem vw_1 {c : Cell} : vw (c :: h) (.c 1) = vw h (.c 0) := by unfold vw; simp
@[simp] theorem vw_2 {c : Cell} : vw (c :: h) (.c 2) = vw h (.c 1) := by unfold vw; simp
@[simp] theorem vw_3 {c : Cell} : vw (c :: h) (.c 3) = vw h (.c 2) := by unfold vw; simp
@[simp] theorem flatO_bl : flatO (some (.bl p)) = some (.bl p) := (rfl)
@[simp] theorem flatO_int : flatO (some (.int a)) = some (.int a) := (rfl)
@[simp] theorem flatO_str : flatO (some (.str s)) = some (.str s) := (rfl)
@[simp] theorem flatO_non : flatO (some .non) = some .non := (rfl)
@[simp] theorem asB_bl : asB (.d (.bl p)) = some p := (rfl)
@[simp] theorem liftB_some : liftB (some p) h = .ok (p, h) := (rfl)
@[simp] theorem bindB_bl {f : Bool → Hh → Tr (Ex × Hh) (Vl × Hh)} : bindB (.d (.bl p), h) f = f p h := (rfl)
@[simp] theorem allD_nil : allD [] = some [] := (rfl)
@[simp] theorem allD_d : allD (.d x :: us) = (allD us).map (x :: ·) := (rfl)
@[simp] theorem allD_c : allD (.c i :: us) = none := (rfl)
@[simp] theorem liftA_some {f : List D → Option D} : liftA (some ds) h f = lift (f ds) h := (rfl)
@[simp] theorem apN_some {o : List D → Option D} (e : allD us = some ds) : apN o h us = o ds := by unfold apN; rw [e]
@[simp] theorem apN_d {o : List D → Option D} : apN o h [.d x] = o [x] := (rfl)
@[simp] theorem apN_dd {o : List D → Option D} : apN o h [.d x, .d y] = o [x, y] := (rfl)
@[simp] theorem apN_c {o : List D → Option D} (e : vw h (.c i) = some x) : apN o h [.c i] = flatO (o [x]) := by unfold apN vwAll; simp [vwAll, allD, e]
@[simp] theorem asI_int : asI (.d (.int a)) = some a := (rfl)
@[simp] theorem unV_d {o : D → Option D} : unV o (.d x) = o x := (rfl)
@[simp] theorem asS_str : asS (.d (.str s)) = some s := (rfl)
@[simp] theorem withS_str {f : Tx → Hh → Tr (Ex × Hh) (Vl × Hh)} : withS (.d (.str s), h) f = f s h := (rfl)
@[simp] theorem unD_d : unD (.d x) = some x := (rfl)
@[simp] theorem unD_c : unD (.c i) = none := (rfl)
@[simp] theorem goS_some : goS (some ρ) h = .ok (.nx, ρ, h) := (rfl)
@[simp] theorem goR_some {f : Rho → RS} : goR (some ρ) f = f ρ := (rfl)
@[simp] theorem goG_some {f : Rho → TI' α} : goG (some ρ) f = f ρ := (rfl)
@[simp] theorem liftI_some : liftI (some ds) h = .ok (ds, h) := (rfl)
@[simp] theorem asSq_tup : asSq (.d (.tup ds)) = some ds := (rfl)
@[simp] theorem asSq_lst : asSq (.d (.lst ds)) = some ds := (rfl)
@[simp] theorem asSq_str : asSq (.d (.str s)) = some (s.map chD) := (rfl)
@[simp] theorem par2_ : par2 i j ρ [u, v] = some ((ρ.set i (some u)).set j (some v)) := (rfl)
@[simp] theorem par3_ {w : Vl} : par3 i j n ρ [u, v, w] = some (((ρ.set i (some u)).set j (some v)).set n (some w)) := (rfl)
@[simp] theorem bin0_d {o : D → D → Option D} : bin0 o (.d x) (.d y) = o x y := (rfl)
@[simp] theorem frzV_d : frzV (.d x) = .d x := (rfl)
@[simp] theorem frzV_new : frzV (.new x) = .d x := (rfl)
@[simp] theorem newV_new : newV (.new x) = some x := (rfl)
@[simp] theorem viewS_lst : viewS h (.d (.lst ds)) = some ds := (rfl)
@[simp] theorem viewS_tup : viewS h (.d (.tup ds)) = some ds := (rfl)
@[simp] theorem viewS_dic {ks : List DK} : viewS h (.d (.dic ks ds)) = some (ks.map kD) := (rfl)
theorem viewS_c {d : List D} (e : h[i]? = some (.own (.lst d))) : viewS h (.c i) = some d := by unfold viewS vw; simp [e]
@[simp] theorem tupV_lst : tupV h (.d (.lst ds)) = some ds := (rfl)
@[simp] theorem tupV_tup : tupV h (.d (.tup ds)) = some ds := (rfl)
@[simp] theorem lstAt_0 : lstAt (.own (.lst ds) :: h) (.c 0) = some (0, ds) := (rfl)
@[simp] theorem lstAt_1 {c : Cell} : lstAt (c :: .own (.lst ds) :: h) (.c 1) = some (1, ds) := (rfl)
@[simp] theorem lstAt_2 {c d : Cell} : lstAt (c :: d :: .own (.lst ds) :: h) (.c 2) = some (2, ds) := (rfl)
@[simp] theorem lstAt_3 {c d e : Cell} : lstAt (c :: d :: e :: .own (.lst ds) :: h) (.c 3) = some (3, ds) := (rfl)
@[simp] theorem dicAt_0 {ks : List DK} : dicAt (.own (.dic ks ds) :: h) (.c 0) = some (0, ks, ds) := (rfl)
@[simp] theorem dicAt_1 {ks : List DK} {c : Cell} : dicAt (c :: .own (.dic ks ds) :: h) (.c 1) = some (1, ks, ds) := (rfl)
@[simp] theorem dicAt_2 {ks : List DK} {c d : Cell} : dicAt (c :: d :: .own (.dic ks ds) :: h) (.c 2) = some (2, ks, ds) := (rfl)
@[simp] theorem ixV_d (e : vw h u = some x) : ixV h u (.d y) = oIx x y := by unfold ixV; simp [e]
@[simp] theorem finF_nx {m : Nat} : finF m (.nx, ρ, h) = .ok (.d .non, h.take m) := (rfl)
@[simp] theorem finF_d {m : Nat} : finF m (.rt (.d x), ρ, h) = .ok (.d x, h.take m) := (rfl)
theorem finF_c {m : Nat} (hi : ¬ i < m) (e : h[i]? = some (.own x)) : finF m (.rt (.c i), ρ, h) = .ok (.new x, h.take m) := by
  unfold finF; simp [hi, e]
@[simp] theorem finF_c0 : finF 0 (.rt (.c 0), ρ, .own x :: h) = .ok (.new x, []) := (rfl)
@[simp] theorem finF_c1 : finF 1 (.rt (.c 1), ρ, c0 :: .own x :: h) = .ok (.new x, [c0]) := (rfl)
@[simp] theorem finF_c01 : finF 0 (.rt (.c 1), ρ, c0 :: .own x :: h) = .ok (.new x, []) := (rfl)
@[simp] theorem finF_c02 : finF 0 (.rt (.c 2), ρ, c0 :: c1 :: .own x :: h) = .ok (.new x, []) := (rfl)
@[simp] theorem initV_nil {ds : List D} {k : Nat} : initV [] ds k = [] := (rfl)
@[simp] theorem initV_f {ms : List Bool} {k : Nat} : initV (false :: ms) (x :: ds) k = some (.d x) :: initV ms ds k := (rfl)
@[simp] theorem initV_t {ms : List Bool} {k : Nat} : initV (true :: ms) ds k = some (.c k) :: initV ms ds (k + 1) := by cases ds <;> rfl
@[simp] theorem splitA_nil : splitA [] [] = some ([], []) := (rfl)
@[simp] theorem splitA_f {ms : List Bool} : splitA (false :: ms) (.d x :: us) = (splitA ms us).map fun p => (x :: p.1, p.2) := (rfl)
@[simp] theorem splitA_t {ms : List Bool} : splitA (true :: ms) (.c i :: us) = (splitA ms us).map fun p => (p.1, i :: p.2) := (rfl)
@[simp] theorem getCs_nil : getCs h [] = some [] := (rfl)
@[simp] theorem setCs_nil {cs : List Cell} : setCs h [] cs = h := by unfold setCs; rfl
@[simp] theorem setCs_cons {c : Cell} {cs : List Cell} {is : List Nat} : setCs h (i :: is) (c :: cs) = setCs (h.set i c) is cs := (rfl)
@[simp] theorem getCs_own {is : List Nat} : getCs (.own x :: h) (0 :: is) = (getCs (.own x :: h) is).map (.own x :: ·) := (rfl)
@[simp] theorem getCs_feed {is : List Nat} : getCs (.feed n :: h) (0 :: is) = (getCs (.feed n :: h) is).map (.feed n :: ·) := (rfl)
@[simp] theorem nodupB_nil : nodupB [] = true := (rfl)
@[simp] theorem nodupB_one : nodupB [i] = true := (rfl)
@[simp] theorem okCs_nil : okCs [] [] = true := (rfl)
@[simp] theorem okCs_own {c : Cell} {cs ds : List Cell} : okCs (c :: cs) (.own x :: ds) = okCs cs ds := (rfl)
@[simp] theorem okCs_feed {c : Cell} {cs ds : List Cell} : okCs (c :: cs) (.feed n :: ds) = okCs cs ds := (rfl)
/-! operators -/
@[simp] theorem notO_bl : notO (some (.bl p)) = some (.bl (!p)) := (rfl)
@[simp] theorem oEq_str : oEq (.str s) (.str t) = some (.bl (decide (s = t))) := (rfl)
@[simp] theorem oEq_int : oEq (.int a) (.int b) = some (.bl (decide (a = b))) := (rfl)
@[simp] theorem oEq_bl : oEq (.bl p) (.bl q) = some (.bl (decide (p = q))) := (rfl)
@[simp] theorem oAdd_int : oAdd (.int a) (.int b) = some (.int (a + b)) := (rfl)
@[simp] theorem oAdd_str : oAdd (.str s) (.str t) = if s.length + t.length ≤ 16777216 then some (.str (s ++ t)) else none := (rfl)
@[simp] theorem oAdd_tup : oAdd (.tup ds) (.tup es) = if ds.length + es.length ≤ 16777216 then some (.tup (ds ++ es)) else none := (rfl)
@[simp] theorem oAdd_lst : oAdd (.lst ds) (.lst es) = if ds.length + es.length ≤ 16777216 then some (.lst (ds ++ es)) else none := (rfl)
@[simp] theorem oIAdd_int : oIAdd (.int a) (.int b) = some (.int (a + b)) := (rfl)
@[simp] theorem oSub_int : oSub (.int a) (.int b) = some (.int (a - b)) := (rfl)
@[simp] theorem oMul_int : oMul (.int a) (.int b) = if (-18446744073709551616 < a ∧ a < 18446744073709551616) ∨ (-18446744073709551616 < b ∧ b < 18446744073709551616) then some (.int (a * b)) else none := (rfl)
@[simp] theorem oMod_int : oMod (.int a) (.int b) = if 0 < b then some (.int (a % b)) else none := (rfl)
@[simp] theorem oFdiv_int : oFdiv (.int a) (.int b) = if 0 < b ∧ b < 1073741824 then some (.int (a / b)) else none := (rfl)
@[simp] theorem oPow_int : oPow (.int a) (.int b) = if 0 ≤ b ∧ b ≤ 1000000 ∧ a.natAbs < 18446744073709551616 then some (.int (a ^ b.toNat)) else none := (rfl)
@[simp] theorem oIn_ch {c : Nat} : oIn (.str [c]) (.str s) = some (.bl (decide (c ∈ s))) := (rfl)
@[simp] theorem oIn_str_tup : oIn (.str s) (.tup ds) = if ds.all flatD then some (.bl (inD (.str s) ds)) else none := by
  match s with
  | [] => simp [oIn, flatD]
  | [c] => simp [oIn, flatD]
  | c :: d :: r => simp [oIn, flatD]
@[simp] theorem oIn_str_lst : oIn (.str s) (.lst ds) = if ds.all flatD then some (.bl (inD (.str s) ds)) else none := by
  match s with
  | [] => simp [oIn, flatD]
  | [c] => simp [oIn, flatD]
  | c :: d :: r => simp [oIn, flatD]
@[simp] theorem oIn_int_tup : oIn (.int a) (.tup ds) = if ds.all flatD then some (.bl (inD (.int a) ds)) else none := by simp [oIn, flatD]
@[simp] theorem oIn_int_lst : oIn (.int a) (.lst ds) = if ds.all flatD then some (.bl (inD (.int a) ds)) else none := by simp [oIn, flatD]
@[simp] theorem oIn_str_dic {ks : List DK} : oIn (.str s) (.dic ks ds) = some (.bl (memK (.inr s) ks)) := by
  match s with
  | [] => rfl
  | [c] => rfl
  | c :: d :: r => rfl
@[simp] theorem oIx_tup : oIx (.tup ds) (.int a) = atI ds a := (rfl)
@[simp] theorem oIx_lst : oIx (.lst ds) (.int a) = atI ds a := (rfl)
@[simp] theorem oIx_str : oIx (.str s) (.int a) = (atI s a).map fun c => .str [c] := (rfl)
@[simp] theorem oIx_dic_s {ks : List DK} : oIx (.dic ks ds) (.str s) = getK ks ds (.inr s) := (rfl)
@[simp] theorem oIx_dic_i {ks : List DK} : oIx (.dic ks ds) (.int a) = getK ks ds (.inl a) := (rfl)
theorem atI_nat' (l : List α) (k : Nat) (h : k < l.length) : atI l (k : Int) = l[k]? := by
  unfold atI
  have : ixN l.length (k : Int) = some k := by
    unfold ixN
    rw [if_pos (by omega), if_pos (by omega), Int.toNat_natCast]
  rw [this]; rfl
@[simp] theorem atI_0 {l : List α} {c : α} : atI (c :: l) 0 = some c := by simp [atI, ixN]
@[simp] theorem atI_1 {l : List α} {c d : α} : atI (c :: d :: l) 1 = some d := atI_nat' (c :: d :: l) 1 (by simp)
@[simp] theorem atI_2 {l : List α} {c d e : α} : atI (c :: d :: e :: l) 2 = some e := atI_nat' (c :: d :: e :: l) 2 (by simp)
@[simp] theorem atI_3 {l : List α} {c d e f : α} : atI (c :: d :: e :: f :: l) 3 = some f := atI_nat' (c :: d :: e :: f :: l) 3 (by simp)
@[simp] theorem oLen_str : oLen [.str s] = some (.int s.length) := (rfl)
@[simp] theorem oLen_tup : oLen [.tup ds] = some (.int ds.length) := (rfl)
@[simp] theorem oLen_lst : oLen [.lst ds] = some (.int ds.length) := (rfl)
@[simp] theorem oTuple_tup : oTuple [.tup ds] = some (.tup ds) := (rfl)
@[simp] theorem oTuple_lst : oTuple [.lst ds] = some (.tup ds) := (rfl)
@[simp] theorem oList_tup : oList [.tup ds] = some (.lst ds) := (rfl)
@[simp] theorem oList_lst : oList [.lst ds] = some (.lst ds) := (rfl)
@[simp] theorem oList_dic {ks : List DK} : oList [.dic ks ds] = some (.lst (ks.map kD)) := (rfl)
@[simp] theorem oAll_lst : oAll [.lst ds] = (bsOf ds).map fun bs => .bl (bs.all id) := (rfl)
@[simp] theorem oAny_lst : oAny [.lst ds] = (bsOf ds).map fun bs => .bl (bs.any id) := (rfl)
@[simp] theorem oSum_lst : oSum [.lst ds] = (isOf ds).map fun bs => .int bs.sum := (rfl)
@[simp] theorem oMax_2 : oMax [.int a, .int b] = some (.int (if b > a then b else a)) := (rfl)
@[simp] theorem oMin_2 : oMin [.int a, .int b] = some (.int (if b < a then b else a)) := (rfl)
@[simp] theorem oInt_int : oInt [.int a] = some (.int a) := (rfl)
@[simp] theorem oDictP_lst : oDictP [.lst ds] = (pairsOf ds).map fun ps => .dic (mrgD [] [] ps).1 (mrgD [] [] ps).2 := (rfl)
@[simp] theorem oIsi_int : oIsi [.int a, .ty "int"] = some (.bl true) := (rfl)
@[simp] theorem oIsi_intb : oIsi [.int a, .ty "bool"] = some (.bl false) := (rfl)
@[simp] theorem oIsi_ints : oIsi [.int a, .ty "str"] = some (.bl false) := (rfl)
@[simp] theorem oIsi_intt : oIsi [.int a, .ty "tuple"] = some (.bl false) := (rfl)
@[simp] theorem oIsi_strs : oIsi [.str s, .ty "str"] = some (.bl true) := (rfl)
@[simp] theorem oIsi_stri : oIsi [.str s, .ty "int"] = some (.bl false) := (rfl)
@[simp] theorem oIsi_strb : oIsi [.str s, .ty "bool"] = some (.bl false) := (rfl)
@[simp] theorem oIsi_strt : oIsi [.str s, .ty "tuple"] = some (.bl false) := (rfl)
@[simp] theorem oIsi_tupt : oIsi [.tup ds, .ty "tuple"] = some (.bl true) := (rfl)
@[simp] theorem oIsi_tups : oIsi [.tup ds, .ty "str"] = some (.bl false) := (rfl)
@[simp] theorem oIsi_tupi : oIsi [.tup ds, .ty "int"] = some (.bl false) := (rfl)
@[simp] theorem oIsi_blb : oIsi [.bl p, .ty "bool"] = some (.bl true) := (rfl)
@[simp] theorem oIsi_bli : oIsi [.bl p, .ty "int"] = some (.bl true) := (rfl)
@[simp] theorem oSl_tup {lo hi : Option Int} : oSl lo hi (.tup ds) = some (.tup (cutL ds lo hi)) := (rfl)
@[simp] theorem oSl_lst {lo hi : Option Int} : oSl lo hi (.lst ds) = some (.lst (cutL ds lo hi)) := (rfl)
@[simp] theorem oSl_str {lo hi : Option Int} : oSl lo hi (.str s) = some (.str (cutL s lo hi)) := (rfl)
@[simp] theorem oSl_scr {lo hi : Option Int} {ns : List Int} : oSl lo hi (.scr ns) = some (.lst (cutL (ns.map .int) lo hi)) := (rfl)
@[simp] theorem oNeg_int : oNeg (.int a) = some (.int (-a)) := (rfl)
@[simp] theorem oRevA_lst : oRevA (.lst ds) = some (.lst ds.reverse) := (rfl)
@[simp] theorem oRevA_str : oRevA (.str s) = some (.str s.reverse) := (rfl)
@[simp] theorem oApp_1 : oApp ds [x] = if ds.length < 16777216 then some (.non, ds ++ [x]) else none := (rfl)
@[simp] theorem oExt_lst : oExt ds [.lst es] = if ds.length + es.length ≤ 16777216 then some (.non, ds ++ es) else none := (rfl)
@[simp] theorem oExt_tup : oExt ds [.tup es] = if ds.length + es.length ≤ 16777216 then some (.non, ds ++ es) else none := (rfl)
theorem bsOf_mapB {l : List α} {f : α → Bool} : bsOf (l.map fun c => .bl (f c)) = some (l.map f) := by
  have := bsOf_bl (l.map f)
  rwa [List.map_map] at this
@[simp] theorem bsOf_mapB' {l : List α} {f : α → Bool} : bsOf (l.map fun c => .bl (f c)) = some (l.map f) := bsOf_mapB
@[simp] theorem ssOf_mapS {l : List α} {f : α → Tx} : ssOf (l.map fun c => .str (f c)) = some (l.map f) := by
  have := ssOf_str (l.map f)
  rwa [List.map_map] at this
@[simp] theorem ssOf_mapS' {l : List Tx} : ssOf (l.map .str) = some l := ssOf_str l
@[simp] theorem after_nx {fz : List Nat} {n : Nat} {f : Rho → Hh → RS} : afterTurn fz n f (.nx, ρ, h) = f (fgt ρ fz) (trim n (fgt ρ fz) h) := (rfl)
@[simp] theorem after_ct' {fz : List Nat} {n : Nat} {f : Rho → Hh → RS} : afterTurn fz n f (.ct, ρ, h) = f (fgt ρ fz) (trim n (fgt ρ fz) h) := (rfl)
@[simp] theorem after_rt {fz : List Nat} {n : Nat} {f : Rho → Hh → RS} : afterTurn fz n f (.rt u, ρ, h) = .ok (.rt u, ρ, h) := (rfl)
end
section
variable {α : Type}
theorem bind_pair {ε β γ : Type} : ∀ t : Tr ε (β × γ), (t.bind fun r => .ok (r.1, r.2)) = t
  | .ok _ => rfl
  | .ex _ => rfl
  | .draw _ k => by
    show Tr.draw _ _ = Tr.draw _ _
    congr 1
    funext r
    exact bind_pair (k r)
  | .bad => rfl
/-- one element's turn -/
def turnE (g : XG) (t : XT) (vs : List Nat) (e : XE) (ρ : Rho) (h : Hh) (d : D) : TI' (Option D) := goG (g d (fgt ρ vs)) fun ρ1 => (noex (t ρ1 h)).bind fun p => if p.1 = true then (noex (e ρ1 p.2)).bind fun q => match unD q.1 with
  | some x => .ok (some x, q.2)
  | none => .bad
  else .ok (none, p.2)
theorem blk_cons {g : XG} {t : XT} {vs : List Nat} {e : XE} {ρ : Rho} {h h' : Hh} {d : D} {ds : List D} {n : Nat} {o : Option D} (ht : turnE g t vs e ρ h d = .ok (o, h')) (hn : n < 16777216) :
    blkGo g t vs (bdE e) ρ (d :: ds) n h = (blkGo g t vs (bdE e) ρ ds (n + o.toList.length) h').bind fun r => .ok (o.toList ++ r.1, r.2) := by
  unfold turnE at ht
  show goG (g d (fgt ρ vs)) _ = _
  cases e1 : g d (fgt ρ vs) with
  | none => rw [e1] at ht; cases ht
  | some ρ1 =>
    rw [e1] at ht
    simp only [goG] at ht ⊢
    cases e2 : (noex (t ρ1 h) : TI' Bool) with
    | ok p =>
      obtain ⟨b, h1⟩ := p
      rw [e2] at ht
      cases b with
      | false =>
        simp only [Tr.bind_ok, Bool.false_eq_true, if_false] at ht ⊢
        cases ht
        simp only [Option.toList, List.length_nil, Nat.add_zero, List.nil_append]
        exact (bind_pair _).symm
      | true =>
        simp only [Tr.bind_ok, if_true] at ht ⊢
        unfold bdE
        cases e3 : (noex (e ρ1 h1) : TI' Vl) with
        | ok q =>
          obtain ⟨u, h2⟩ := q
          rw [e3] at ht
          simp only [Tr.bind_ok] at ht ⊢
          cases u with
          | c i => cases ht
          | d x =>
            cases ht
            simp only [unD, hn, if_true, Tr.bind_ok]
            rfl
        | ex _ => rw [e3] at ht; cases ht
        | draw _ _ => rw [e3] at ht; cases ht
        | bad => rw [e3] at ht; cases ht
    | ex _ => rw [e2] at ht; cases ht
    | draw _ _ => rw [e2] at ht; cases ht
    | bad => rw [e2] at ht; cases ht
/-- a comprehension: every element's turn is known -/
theorem blk_filter {g : XG} {t : XT} {vs : List Nat} {e : XE} {ρ : Rho} {h : Hh} (F : α → D) (v : α → Option D) : ∀ (l : List α) (n : Nat), (∀ a ∈ l, turnE g t vs e ρ h (F a) = .ok (v a, h)) → n + l.length ≤ 16777216 →
    blkGo g t vs (bdE e) ρ (l.map F) n h = .ok (l.filterMap v, h)
  | [], n, _, _ => rfl
  | a :: l, n, H, hn => by
    simp only [List.length_cons] at hn
    rw [List.map_cons, blk_cons (H a List.mem_cons_self) (by omega), blk_filter F v l _ (fun b hb => H b (List.mem_cons_of_mem _ hb)) (by cases v a <;> simp <;> omega)]
    cases e1 : v a <;> simp [List.filterMap_cons, e1]
theorem blk_all {g : XG} {t : XT} {vs : List Nat} {e : XE} {ρ : Rho} {h : Hh} (F : α → D) (v : α → D) (l : List α) (n : Nat) (H : ∀ a ∈ l, turnE g t vs e ρ h (F a) = .ok (some (v a), h)) (hn : n + l.length ≤ 16777216) :
    blkGo g t vs (bdE e) ρ (l.map F) n h = .ok (l.map v, h) := by
  rw [blk_filter F (fun a => some (v a)) l n H hn]
  simp
/-- two clauses -/
def turnI (g : XG) (t : XT) (vs : List Nat) (fi : XI) (ρ : Rho) (h : Hh) (d : D) : TI' (Rho × List D) := goG (g d (fgt ρ vs)) fun ρ1 => (noex (t ρ1 h)).bind fun p => if p.1 = true then (noex (fi ρ1 p.2)).bind fun q => .ok ((ρ1, q.1), q.2) else .bad
theorem blk_flat {g g1 : XG} {t t1 : XT} {vs vs1 : List Nat} {fi : XI} {e : XE} {ρ : Rho} {h : Hh} (F : α → D) (v : α → List D) : ∀ (l : List α) (n : Nat) (N : Nat), (∀ a ∈ l, (v a).length ≤ N ∧ ∃ ρ1 ds, turnI g t vs fi ρ h (F a) = .ok ((ρ1, ds), h) ∧ ∀ m, m + N ≤ 16777216 → blkGo g1 t1 vs1 (bdE e) ρ1 ds m h = .ok (v a, h)) → n + l.length * N ≤ 16777216 →
    blkGo g t vs (bd2 fi g1 t1 e vs1) ρ (l.map F) n h = .ok (l.flatMap v, h)
  | [], n, N, _, _ => rfl
  | a :: l, n, N, H, hn => by
    obtain ⟨hl, ρ1, ds, h1, h2⟩ := H a List.mem_cons_self
    simp only [List.length_cons, Nat.add_mul, Nat.one_mul] at hn
    rw [List.map_cons]
    show goG (g (F a) (fgt ρ vs)) _ = _
    unfold turnI at h1
    cases e1 : g (F a) (fgt ρ vs) with
    | none => rw [e1] at h1; cases h1
    | some ρ2 =>
      rw [e1] at h1
      simp only [goG] at h1 ⊢
      cases e2 : (noex (t ρ2 h) : TI' Bool) with
      | ok p =>
        obtain ⟨b, h3⟩ := p
        rw [e2] at h1
        cases b with
        | false => simp only [Tr.bind_ok, Bool.false_eq_true, if_false] at h1; cases h1
        | true =>
          simp only [Tr.bind_ok, if_true] at h1 ⊢
          unfold bd2
          cases e3 : (noex (fi ρ2 h3) : TI' (List D)) with
          | ok q =>
            obtain ⟨ds', h4⟩ := q
            rw [e3] at h1
            cases h1
            simp only [Tr.bind_ok]
            rw [h2 n (by omega)]
            simp only [Tr.bind_ok]
            have IH := blk_flat (g := g) (t := t) (vs := vs) (fi := fi) (g1 := g1) (t1 := t1) (vs1 := vs1) (e := e) (ρ := ρ) (h := h4) F v l (n + (v a).length) N (fun b hb => H b (List.mem_cons_of_mem _ hb)) (by omega)
            unfold bd2 at IH
            rw [IH]
            simp only [Tr.bind_ok, List.flatMap_cons]
          | ex _ => rw [e3] at h1; cases h1
          | draw _ _ => rw [e3] at h1; cases h1
          | bad => rw [e3] at h1; cases h1
      | ex _ => rw [e2] at h1; cases h1
      | draw _ _ => rw [e2] at h1; cases h1
      | bad => rw [e2] at h1; cases h1
/-- a comprehension of a dict -/
def turnD (g : XG) (t : XT) (vs : List Nat) (tk tv : XE) (ρ : Rho) (h : Hh) (d : D) : TI' (Option (DK × D)) := goG (g d (fgt ρ vs)) fun ρ1 => (noex (t ρ1 h)).bind fun p => if p.1 = true then (noex (tk ρ1 p.2)).bind fun q => (noex (tv ρ1 q.2)).bind fun r => match (unD q.1).bind keyD, unD r.1 with
  | some k, some v => .ok (some (k, v), r.2)
  | _, _ => .bad
  else .ok (none, p.2)
theorem put_len (ks : List DK) (k : DK) : (putKs ks k).length ≤ ks.length + 1 := by unfold putKs; split <;> simp
theorem dc_filter {g : XG} {t : XT} {vs : List Nat} {tk tv : XE} {ρ : Rho} {h : Hh} (F : α → D) (v : α → Option (DK × D)) : ∀ (l : List α) (ks : List DK) (ds : List D), (∀ a ∈ l, turnD g t vs tk tv ρ h (F a) = .ok (v a, h)) → ks.length + l.length ≤ 16777216 →
    dcGo g t vs tk tv ρ (l.map F) (ks, ds) h = .ok (mrgD ks ds (l.filterMap v), h)
  | [], ks, ds, _, _ => rfl
  | a :: l, ks, ds, H, hn => by
    have h1 := H a List.mem_cons_self
    simp only [List.length_cons] at hn
    rw [List.map_cons]
    show goG (g (F a) (fgt ρ vs)) _ = _
    unfold turnD at h1
    have IH := fun ks' ds' (z : ks'.length + l.length ≤ 16777216) => dc_filter (g := g) (t := t) (vs := vs) (tk := tk) (tv := tv) (ρ := ρ) (h := h) F v l ks' ds' (fun b hb => H b (List.mem_cons_of_mem _ hb)) z
    cases e1 : g (F a) (fgt ρ vs) with
    | none => rw [e1] at h1; cases h1
    | some ρ2 =>
      rw [e1] at h1
      simp only [goG] at h1 ⊢
      cases e2 : (noex (t ρ2 h) : TI' Bool) with
      | ok p =>
        obtain ⟨b, h3⟩ := p
        rw [e2] at h1
        cases b with
        | false =>
          simp only [Tr.bind_ok, Bool.false_eq_true, if_false] at h1 ⊢
          injection h1 with h1
          injection h1 with h1 h1'
          subst h1'
          rw [List.filterMap_cons_none h1.symm]
          exact IH ks ds (by omega)
        | true =>
          simp only [Tr.bind_ok, if_true] at h1 ⊢
          cases e3 : (noex (tk ρ2 h3) : TI' Vl) with
          | ok q =>
            obtain ⟨u, h4⟩ := q
            rw [e3] at h1
            simp only [Tr.bind_ok] at h1 ⊢
            cases e4 : (noex (tv ρ2 h4) : TI' Vl) with
            | ok q2 =>
              obtain ⟨u2, h5⟩ := q2
              rw [e4] at h1
              simp only [Tr.bind_ok] at h1 ⊢
              cases e5 : (unD u).bind keyD with
              | none => rw [e5] at h1; cases h1
              | some k =>
                cases e6 : unD u2 with
                | none => rw [e5, e6] at h1; cases h1
                | some x =>
                  rw [e5, e6] at h1
                  simp only at h1 ⊢
                  injection h1 with h1
                  injection h1 with h1 h1'
                  subst h1'
                  rw [List.filterMap_cons_some h1.symm, if_pos (by omega)]
                  have := put_len ks k
                  exact IH _ _ (by omega)
            | ex _ => rw [e4] at h1; cases h1
            | draw _ _ => rw [e4] at h1; cases h1
            | bad => rw [e4] at h1; cases h1
          | ex _ => rw [e3] at h1; cases h1
          | draw _ _ => rw [e3] at h1; cases h1
          | bad => rw [e3] at h1; cases h1
      | ex _ => rw [e2] at h1; cases h1
      | draw _ _ => rw [e2] at h1; cases h1
      | bad => rw [e2] at h1; cases h1
/-! ### loops -/
def nextCt : Rho → Hh → RS := fun ρ h => .ok (.ct, ρ, h)
/-- a turn; .ct: it goes on -/
def turnF (g : XG) (b : XS) (fz : List Nat) (n : Nat) (d : D) (ρ : Rho) (h : Hh) : RS := goR (g d ρ) fun ρ1 => (b ρ1 h).bind (afterTurn fz n nextCt)
def onCt (next : Rho → Hh → RS) (r : Fl × Rho × Hh) : RS := match r.1 with
  | .ct => next r.2.1 r.2.2
  | _ => .ok r
theorem after_ct (fz : List Nat) (n : Nat) (next : Rho → Hh → RS) (p : Fl × Rho × Hh) : afterTurn fz n next p = (afterTurn fz n nextCt p).bind (onCt next) := by
  obtain ⟨fl, ρ, h⟩ := p
  cases fl <;> rfl
theorem bind_assoc {ε β γ : Type} {f : α → Tr ε β} {g : β → Tr ε γ} : ∀ t : Tr ε α, (t.bind f).bind g = t.bind fun a => (f a).bind g
  | .ok _ => rfl
  | .ex _ => rfl
  | .draw _ k => by
    show Tr.draw _ _ = Tr.draw _ _
    congr 1
    funext r
    exact bind_assoc (k r)
  | .bad => rfl
theorem for_cons (g : XG) (b : XS) (fz : List Nat) (n : Nat) (d : D) (ds : List D) (ρ : Rho) (h : Hh) : forX g b fz n (d :: ds) ρ h = (turnF g b fz n d ρ h).bind (onCt (forX g b fz n ds)) := by
  show goR (g d ρ) _ = (goR (g d ρ) _).bind _
  cases g d ρ with
  | none => rfl
  | some ρ1 =>
    show (b ρ1 h).bind _ = ((b ρ1 h).bind _).bind _
    rw [bind_assoc]
    congr 1
    funext p
    exact after_ct fz n _ p
theorem for_step {g : XG} {b : XS} {fz : List Nat} {n : Nat} {d : D} {ds : List D} {ρ ρ' : Rho} {h h' : Hh} (e : turnF g b fz n d ρ h = .ok (.ct, ρ', h')) : forX g b fz n (d :: ds) ρ h = forX g b fz n ds ρ' h' := by
  rw [for_cons, e]; rfl
/-- a loop that folds -/
theorem for_fold {β : Type} {g : XG} {b : XS} {fz : List Nat} {n : Nat} (F : α → D) (R : β → Rho) (S : β → Hh) (st : β → α → β) (inv : Nat → β → Prop) : ∀ (l : List α) (k : Nat) (s : β), inv k s → (∀ k a s, a ∈ l → inv k s → turnF g b fz n (F a) (R s) (S s) = .ok (.ct, R (st s a), S (st s a)) ∧ inv (k + 1) (st s a)) →
    forX g b fz n (l.map F) (R s) (S s) = .ok (.nx, R (l.foldl st s), S (l.foldl st s)) ∧ inv (k + l.length) (l.foldl st s)
  | [], k, s, hi, _ => ⟨rfl, hi⟩
  | a :: l, k, s, hi, H => by
    obtain ⟨h1, h2⟩ := H k a s List.mem_cons_self hi
    rw [List.map_cons, for_step h1]
    have := for_fold F R S st inv l (k + 1) (st s a) h2 fun k b s hb => H k b s (List.mem_cons_of_mem _ hb)
    rw [List.foldl_cons, List.length_cons, show k + (l.length + 1) = k + 1 + l.length by omega]
    exact this
/-- a loop, every way -/
theorem for_all {g : XG} {b : XS} {fz : List Nat} {n : Nat} {P : Fl × Rho × Hh → Prop} {E : Ex × Rho × Hh → Prop} (F : α → D) (I : List α → Rho → Hh → Prop) : ∀ (l : List α) (ρ : Rho) (hh : Hh), I l ρ hh →
    (∀ a l ρ h, I (a :: l) ρ h → (turnF g b fz n (F a) ρ h).all (fun r => match r.1 with | .ct => I l r.2.1 r.2.2 | _ => P r) E) → (∀ ρ h, I [] ρ h → P (.nx, ρ, h)) → (forX g b fz n (l.map F) ρ hh).all P E
  | [], ρ, hh, i, _, k => k ρ hh i
  | a :: l, ρ, hh, i, H, k => by
    rw [List.map_cons, for_cons, Tr.all_bind]
    refine Tr.all_mono (fun r z => ?_) (fun _ z => z) (H a l ρ hh i)
    obtain ⟨fl, ρ', h'⟩ := r
    cases fl with
    | ct => exact for_all F I l ρ' h' z H k
    | nx => exact z
    | rt v => exact z
    | bk => exact z
end
end EL
/-! Draws: every way. -/
namespace EL
open PySem PySem.Spec PyProof.Rows L2 DL EL
/-- every way ends as wanted (closed: no tactic evaluates it) -/
@[irreducible] def Als {ε α : Type} (t : Tr ε α) (P : α → Prop) (E : ε → Prop) : Prop := t.all P E
section
variable {ε ζ α β : Type} {P : α → Prop} {E : ε → Prop}
theorem als_eq {t : Tr ε α} : t.all P E = Als t P E := by unfold Als; rfl
theorem Als.out {t : Tr ε α} (h : Als t P E) : t.all P E := by unfold Als at h; exact h
theorem Als.mk {t : Tr ε α} (h : t.all P E) : Als t P E := by unfold Als; exact h
@[simp] theorem als_ok {a : α} : Als (.ok a : Tr ε α) P E ↔ P a := by unfold Als; exact Iff.rfl
@[simp] theorem als_ex {e : ε} : Als (.ex e : Tr ε α) P E ↔ E e := by unfold Als; exact Iff.rfl
@[simp] theorem als_bad : Als (.bad : Tr ε α) P E ↔ False := by unfold Als; exact Iff.rfl
@[simp] theorem als_draw {n : Int} {k : Int → Tr ε α} : Als (.draw n k : Tr ε α) P E ↔ ∀ r : Int, 0 ≤ r → r < n → Als (k r) P E := by unfold Als; exact Iff.rfl
theorem als_bind {P : β → Prop} {t : Tr ε α} {f : α → Tr ε β} : Als (t.bind f) P E ↔ Als t (fun a => Als (f a) P E) E := by unfold Als; exact Tr.all_bind
theorem als_both {P : β → Prop} {E : ζ → Prop} {t : Tr ε α} {e : ε → Tr ζ β} {f : α → Tr ζ β} : Als (t.both e f) P E ↔ Als t (fun a => Als (f a) P E) fun x => Als (e x) P E := by unfold Als; exact Tr.all_both
theorem als_mapE {E : ζ → Prop} {t : Tr ε α} {f : ε → ζ} : Als (t.mapE f) P E ↔ Als t P fun x => E (f x) := by unfold Als; exact Tr.all_mapE
theorem als_noex {E : ζ → Prop} {t : Tr ε α} : Als (noex t : Tr ζ α) P E ↔ Als t P fun _ => False := by unfold Als; exact all_noex
theorem Als.mono {P' : α → Prop} {E' : ε → Prop} {t : Tr ε α} (h : Als t P E) (hp : ∀ a, P a → P' a) (he : ∀ e, E e → E' e) : Als t P' E' := by unfold Als at h ⊢; exact Tr.all_mono hp he h
theorem als_atS {ρ : EL.Rho} {t : Tr (Ex × Hh) α} {E : Ex × EL.Rho × Hh → Prop} : Als (EL.atS ρ t) P E ↔ Als t P fun e => E (e.1, ρ, e.2) := als_mapE
theorem als_eqv {t t' : Tr ε α} (e : t = t') (h : Als t' P E) : Als t P E := e ▸ h
end
section
variable {ε ζ α β : Type} {n : Int}
@[simp] theorem both_draw {k : Int → Tr ε α} {e : ε → Tr ζ β} {f : α → Tr ζ β} : (Tr.draw n k : Tr ε α).both e f = .draw n fun r => (k r).both e f := (rfl)
@[simp] theorem mapE_draw {k : Int → Tr ε α} {f : ε → ζ} : (Tr.draw n k : Tr ε α).mapE f = .draw n fun r => (k r).mapE f := (rfl)
@[simp] theorem noex_draw {k : Int → Tr ε α} : (noex (.draw n k : Tr ε α) : Tr ζ α) = .draw n fun r => noex (k r) := (rfl)
@[simp] theorem atS_draw {ρ : EL.Rho} {k : Int → Tr (Ex × Hh) α} : EL.atS ρ (.draw n k) = .draw n fun r => EL.atS ρ (k r) := (rfl)
@[simp] theorem lift_none {h : Hh} : lift none h = .bad := (rfl)
end
section
variable {α : Type} {g : XG} {b : XS} {fz : List Nat} {n : Nat}
/-- a turn goes on, or the loop ends here -/
def goOn (I : EL.Rho → Hh → Prop) (P : Fl × EL.Rho × Hh → Prop) (r : Fl × EL.Rho × Hh) : Prop := match r.1 with
  | .ct => I r.2.1 r.2.2
  | _ => P r
@[simp] theorem goOn_ct {I : EL.Rho → Hh → Prop} {P : Fl × EL.Rho × Hh → Prop} {ρ : EL.Rho} {h : Hh} : goOn I P (.ct, ρ, h) = I ρ h := (rfl)
@[simp] theorem goOn_rt {I : EL.Rho → Hh → Prop} {P : Fl × EL.Rho × Hh → Prop} {ρ : EL.Rho} {h : Hh} {v : Vl} : goOn I P (.rt v, ρ, h) = P (.rt v, ρ, h) := (rfl)
@[simp] theorem goOn_bk {I : EL.Rho → Hh → Prop} {P : Fl × EL.Rho × Hh → Prop} {ρ : EL.Rho} {h : Hh} : goOn I P (.bk, ρ, h) = P (.bk, ρ, h) := (rfl)
@[simp] theorem nextCt_ap {ρ : EL.Rho} {h : Hh} : nextCt ρ h = .ok (.ct, ρ, h) := (rfl)
/-- a turn, every way -/
abbrev TrnOk (g : XG) (b : XS) (fz : List Nat) (n : Nat) (d : D) (ρ : EL.Rho) (h : Hh) (I : EL.Rho → Hh → Prop) (P : Fl × EL.Rho × Hh → Prop) (E : Ex × EL.Rho × Hh → Prop) : Prop := Als (turnF g b fz n d ρ h) (goOn I P) E
abbrev LpOk (g : XG) (b : XS) (fz : List Nat) (n : Nat) (ds : List D) (ρ : EL.Rho) (h : Hh) (P : Fl × EL.Rho × Hh → Prop) (E : Ex × EL.Rho × Hh → Prop) : Prop := Als (forX g b fz n ds ρ h) P E
/-- in a state -/
def InSt {S : Type} (R : S → EL.Rho) (C : S → Hh) (I : S → Prop) (ρ : EL.Rho) (h : Hh) : Prop := ∃ s, ρ = R s ∧ h = C s ∧ I s
theorem loop_st {S : Type} {P : Fl × EL.Rho × Hh → Prop} {E : Ex × EL.Rho × Hh → Prop} (R : S → EL.Rho) (C : S → Hh) (F : α → D) (I : List α → S → Prop) : ∀ (l : List α) (s : S), I l s →
    (∀ a l s, I (a :: l) s → TrnOk g b fz n (F a) (R s) (C s) (InSt R C (I l)) P E) → (∀ s, I [] s → P (.nx, R s, C s)) → LpOk g b fz n (l.map F) (R s) (C s) P E
  | [], s, i, _, k => als_ok.2 (k s i)
  | a :: l, s, i, H, k => by
    have H1 := H a l s i
    unfold LpOk
    rw [List.map_cons, for_cons, als_bind]
    refine H1.mono (fun r z => ?_) (fun _ z => z)
    obtain ⟨fl, ρ', h'⟩ := r
    cases fl with
    | ct =>
      obtain ⟨s', rfl, rfl, i'⟩ := z
      exact loop_st R C F I l s' i' H k
    | nx => exact als_ok.2 z
    | rt v => exact als_ok.2 z
    | bk => exact als_ok.2 z
end
end EL
namespace EL
open PySem PySem.Spec PyProof.Rows L2 DL EL
/-- a law, its promise closed -/
theorem walkA [FeedI] [ExI] {l : PySem.W.OpenLaw} {n k : Nat} {q : Program} {loose : List Str} {XP : (Str → Option Value) → Heap → Prop} {YP : World → Heap → Prop} {d : DefRec} {x : Str} {fx : GX}
    (hn : l.most = some n) (hn2 : n ≤ sizeLine) (hdf : d.params.defaults = []) (hr : Room k callerA) (hsp : ∀ ns : List Int, Als (fx [.scr ns] []) (fun r => r = (.d (.bl true), [])) fun _ => False)
    (F : ∀ (w : World) (mg : Str → Option Value) (fa : Addr) (h : Heap), YP w h → h.Ns mainGlobals mg → mg d.name = some (.ref fa) →
      ∃ (K : PySem.W.Frag) (fd : FuncData), K.In h ∧ (∀ (s : Shared) (u : Value), BindsTo s fd ⟨[u], []⟩ [(x, u)]) ∧
        ∀ base : Heap, K.In base → base.Ns mainGlobals mg → FnG l.prog w K mg base (L2.CX l.prog w) k fa fd [x] (spX K [false] fx)) :
    PySem.W.WalkO q loose XP YP l.row.toRowW d [] (fun f vs => PySem.call f vs) := walkX hn hn2 hdf hr (fun ns => (hsp ns).out) F
end EL
/-! Books, rules, their results: plain data. -/
namespace LW
open PySem PySem.Spec PyProof.Rows L2 DL EL
abbrev Ent := Tx × List Tx
inductive Rl where
  | drop (n : Nat) (l : Bool) | put (a b : Tx) (l : Bool) | empty | half (l : Bool) | lower (l : Bool)
def side (l : Bool) : D := .str (if l then T "left" else T "right")
def entD (e : Ent) : D := .tup [.str e.1, .tup (e.2.map .str)]
def ruleD : Rl → D
  | .drop n l => .tup [.str (T "drop"), .int n, side l]
  | .put a b l => .tup [.str (T "put"), .str a, .str b, side l]
  | .empty => .tup [.str (T "empty")]
  | .half l => .tup [.str (T "half"), side l]
  | .lower l => .tup [.str (T "lower"), side l]
def bookD (E : List Ent) (R : List Rl) : D := .tup [.tup (E.map entD), .tup (R.map ruleD)]
def low (c : Nat) : Prop := 97 ≤ c ∧ c ≤ 122
def isL (s : Tx) : Prop := ∃ c, s = [c] ∧ low c
def RlOk : Rl → Prop
  | .drop n _ => 1 ≤ n ∧ n ≤ 9
  | .put a b _ => isL a ∧ b.length ≤ 9 ∧ ∀ c ∈ b, low c
  | _ => True
structure Wf (E : List Ent) (R : List Rl) : Prop where
  ents : ∀ e ∈ E, isL e.1 ∧ e.2.length ≤ 9 ∧ ∀ s ∈ e.2, isL s
  rules : ∀ r ∈ R, RlOk r
  nE : E.length ≤ 9
  nR : R.length ≤ 9
structure Wd (E : List Ent) (x : Tx) : Prop where
  lt : ∀ c ∈ x, [c] ∈ E.map (·.1)
  len : x.length ≤ 9
theorem low_mem {c : Nat} (h : low c) : c ∈ T "abcdefghijklmnopqrstuvwxyz" := by
  have e : T "abcdefghijklmnopqrstuvwxyz" = (List.range 26).map (· + 97) := by decide +kernel
  rw [e, List.mem_map]
  exact ⟨c - 97, List.mem_range.mpr (by have := h.2; omega), by have := h.1; omega⟩
theorem low_of {E : List Ent} {R : List Rl} {x : Tx} (w : Wf E R) (h : Wd E x) : ∀ c ∈ x, low c := fun c hc => by
  obtain ⟨e, he, e1⟩ := List.mem_map.mp (h.lt c hc)
  obtain ⟨k, h1, h2⟩ := (w.ents e he).1
  rw [h1] at e1
  cases e1
  exact h2
theorem inD_strs (c : Nat) (ls : List Tx) (h : [c] ∈ ls) : inD (.str [c]) (ls.map .str) = true := by
  unfold inD
  rw [List.any_map, List.any_eq_true]
  exact ⟨[c], h, by simp [eqF]⟩
theorem strs_flat (ls : List Tx) : (ls.map D.str).all flatD = true := by
  rw [List.all_map, List.all_eq_true]
  intro _ _; rfl
def places (m : Nat) (l : Bool) : List Nat := if l then List.range m else (List.range m).reverse
def natsD (l : List Nat) : List D := l.map fun k : Nat => D.int (k : Int)
theorem rngD_up (m : Nat) : rngD 0 1 ((m : Int).toNat) = natsD (List.range m) := by
  unfold rngD natsD
  simp
theorem rngD_down (m : Nat) : rngD ((m : Int) - 1) (-1) m = natsD (List.range m).reverse := by
  unfold rngD natsD
  apply List.ext_getElem
  · simp
  · intro i h1 h2
    simp only [List.length_map, List.length_range] at h1
    simp only [List.getElem_map, List.getElem_range, List.getElem_reverse, List.length_range]
    congr 1
    omega
theorem cut_take {α : Type} (l : List α) (k : Nat) : cutL l none (some (k : Int)) = l.take k := by
  unfold cutL
  rw [HT.sIx_none, HT.sIx_nat, Nat.sub_zero, List.drop_zero]
  rcases Nat.le_total k l.length with h | h
  · rw [Nat.min_eq_left h]
  · rw [Nat.min_eq_right h, List.take_of_length_le h, List.take_of_length_le (Nat.le_refl _)]
theorem cut_drop {α : Type} (l : List α) (k : Nat) : cutL l (some (k : Int)) none = l.drop k := by
  unfold cutL
  rw [HT.sIx_none, HT.sIx_nat]
  rcases Nat.le_total k l.length with h | h
  · rw [Nat.min_eq_left h, List.take_of_length_le (by rw [List.length_drop]; exact Nat.le_refl _)]
  · rw [Nat.min_eq_right h, List.drop_of_length_le h, List.drop_of_length_le (Nat.le_refl _), List.take_nil]
def lessOf (E : List Ent) (c : Tx) : List Tx := match getK (mrgD [] [] (E.map fun e => ((.inr e.1 : DK), D.tup (e.2.map .str)))).1 (mrgD [] [] (E.map fun e => ((.inr e.1 : DK), D.tup (e.2.map .str)))).2 (.inr c) with
  | some (.tup ds) => (ssOf ds).getD []
  | _ => []
def res (E : List Ent) (r : Rl) (x : Tx) : List Tx := match r with
  | .drop n l => (places (x.length + 1 - n) l).map fun k => x.take k ++ x.drop (k + n)
  | .put a b l => (places x.length l).filterMap fun k => if (x.drop k).take 1 = a then some (x.take k ++ b ++ x.drop (k + 1)) else none
  | .empty => [[]]
  | .half l => [if l then x.take (x.length / 2) else x.drop (x.length - x.length / 2)]
  | .lower l => (places x.length l).flatMap fun k => (lessOf E ((x.drop k).take 1)).map fun s => x.take k ++ s ++ x.drop (k + 1)
def txs (l : List Tx) : D := .lst (l.map .str)
theorem places_len (m : Nat) (l : Bool) : (places m l).length = m := by cases l <;> simp [places]
theorem places_lt {m k : Nat} {l : Bool} (h : k ∈ places m l) : k < m := by cases l <;> simpa [places] using h
theorem if_side {α : Type} {p q : α} (l : Bool) : (if decide ((if l then T "left" else T "right") = T "left") = true then p else q) = if l then p else q := by
  cases l with
  | true => rfl
  | false => rw [if_neg (by decide +kernel)]; rfl
def dKs (E : List Ent) : List DK := (mrgD [] [] (E.map fun e => ((.inr e.1 : DK), D.tup (e.2.map .str)))).1
def dDs (E : List Ent) : List D := (mrgD [] [] (E.map fun e => ((.inr e.1 : DK), D.tup (e.2.map .str)))).2
def dicD (E : List Ent) : D := .dic (dKs E) (dDs E)
/-- the dict's values are entries' lessers -/
theorem mrg_get (p : D → Prop) : ∀ (ps : List (DK × D)) (ks : List DK) (ds : List D), ks.length = ds.length → (∀ d ∈ ds, p d) → (∀ q ∈ ps, p q.2) → (mrgD ks ds ps).1.length = (mrgD ks ds ps).2.length ∧ (∀ d ∈ (mrgD ks ds ps).2, p d) ∧ (∀ k, k ∈ ks ∨ k ∈ ps.map (·.1) → k ∈ (mrgD ks ds ps).1)
  | [], ks, ds, hl, h1, _ => ⟨hl, h1, fun k hk => hk.elim id fun z => by cases z⟩
  | (k, d) :: ps, ks, ds, hl, h1, h2 => by
    have hd := h2 (k, d) List.mem_cons_self
    have hl' : (putKs ks k).length = (putDs ks ds k d).length := by
      unfold putKs putDs
      split
      · simp [hl]
      · simp [hl]
    have h1' : ∀ e ∈ putDs ks ds k d, p e := fun e he => by
      unfold putDs at he
      split at he
      · obtain ⟨q, hq, rfl⟩ := List.mem_map.mp he
        split
        · exact hd
        · exact h1 _ (List.of_mem_zip hq).2
      · rcases List.mem_append.mp he with he | he
        · exact h1 e he
        · rw [List.mem_singleton.mp he]; exact hd
    obtain ⟨r1, r2, r3⟩ := mrg_get p ps (putKs ks k) (putDs ks ds k d) hl' h1' fun q hq => h2 q (List.mem_cons_of_mem _ hq)
    refine ⟨r1, r2, fun j hj => r3 j ?_⟩
    have mem : ∀ j, j ∈ ks ∨ j = k → j ∈ putKs ks k := fun j hj => by
      unfold putKs
      split
      · rename_i hm
        rcases hj with hj | rfl
        · exact hj
        · obtain ⟨y, hy, e⟩ := List.any_eq_true.mp hm
          rwa [of_decide_eq_true e] at hy
      · exact List.mem_append.mpr (hj.imp id fun z => by rw [z]; exact List.mem_singleton.mpr rfl)
    rcases hj with hj | hj
    · exact .inl (mem j (.inl hj))
    · rcases List.mem_cons.mp hj with rfl | hj
      · exact .inl (mem _ (.inr rfl))
      · exact .inr hj
theorem getK_of {k : DK} : ∀ {ks : List DK} {ds : List D}, ks.length = ds.length → k ∈ ks → ∃ d, getK ks ds k = some d ∧ d ∈ ds
  | [], _, _, h => by cases h
  | j :: ks, [], h, _ => by simp at h
  | j :: ks, d :: ds, hl, h => by
    unfold getK
    by_cases e : j = k
    · rw [if_pos e]; exact ⟨d, rfl, List.mem_cons_self⟩
    · rw [if_neg e]
      obtain ⟨d', h1, h2⟩ := getK_of (by simpa using hl) ((List.mem_cons.mp h).resolve_left fun z => e z.symm)
      exact ⟨d', h1, List.mem_cons_of_mem _ h2⟩
theorem less_get {E : List Ent} {R : List Rl} (w : Wf E R) {c : Tx} (h : c ∈ E.map (·.1)) : getK (dKs E) (dDs E) (.inr c) = some (.tup ((lessOf E c).map .str)) ∧ (lessOf E c).length ≤ 9 ∧ ∀ s ∈ lessOf E c, isL s := by
  obtain ⟨r1, r2, r3⟩ := mrg_get (fun d => ∃ ls : List Tx, d = .tup (ls.map .str) ∧ ls.length ≤ 9 ∧ ∀ s ∈ ls, isL s) (E.map fun e => ((.inr e.1 : DK), D.tup (e.2.map .str))) [] [] rfl (fun d hd => by cases hd) fun q hq => by
    obtain ⟨e, he, rfl⟩ := List.mem_map.mp hq
    exact ⟨e.2, rfl, (w.ents e he).2⟩
  have hk : (.inr c : DK) ∈ dKs E := r3 _ (.inr (by
    rw [List.map_map]
    obtain ⟨e, he, rfl⟩ := List.mem_map.mp h
    exact List.mem_map.mpr ⟨e, he, rfl⟩))
  obtain ⟨d, h1, h2⟩ := getK_of r1 hk
  obtain ⟨ls, rfl, h3, h4⟩ := r2 d h2
  have e : lessOf E c = ls := by
    unfold lessOf
    have h1' : getK (mrgD [] [] (E.map fun e => ((.inr e.1 : DK), D.tup (e.2.map .str)))).1 (mrgD [] [] (E.map fun e => ((.inr e.1 : DK), D.tup (e.2.map .str)))).2 (.inr c) = some (.tup (ls.map .str)) := h1
    rw [h1']
    show (ssOf (ls.map .str)).getD [] = ls
    rw [ssOf_str]; rfl
  rw [e]
  exact ⟨h1, h3, h4⟩
theorem atI_nat {α : Type} (l : List α) (k : Nat) (h : k < l.length) : atI l (k : Int) = l[k]? := by
  unfold atI
  have : ixN l.length (k : Int) = some k := by
    unfold ixN
    rw [if_pos (by omega), if_pos (by omega), Int.toNat_natCast]
  rw [this]; rfl
theorem natsD_mem {l : List Nat} {d : D} (h : d ∈ natsD l) : ∃ k ∈ l, d = .int (k : Int) := by
  obtain ⟨k, hk, rfl⟩ := List.mem_map.mp h
  exact ⟨k, hk, rfl⟩
theorem drop_take1 {x : Tx} {k c : Nat} (h : x[k]? = some c) : (x.drop k).take 1 = [c] := by
  have hk := (List.getElem?_eq_some_iff.mp h).1
  have he := (List.getElem?_eq_some_iff.mp h).2
  rw [List.drop_eq_getElem_cons hk, he]; rfl
theorem atI_map (R : List Rl) (k : Nat) (r : Rl) (h : R[k]? = some r) : atI (R.map ruleD) (k : Int) = some (ruleD r) := by
  have hk := (List.getElem?_eq_some_iff.mp h).1
  rw [atI_nat _ _ (by rw [List.length_map]; exact hk), List.getElem?_map, h]; rfl
theorem dict_of (E : List Ent) : ((E.map entD).filterMap fun d => match d with | .tup [.str l, t] => some ((.inr l : DK), t) | _ => none) = E.map fun e => ((.inr e.1 : DK), D.tup (e.2.map .str)) := by
  rw [List.filterMap_map]
  exact congrFun (List.filterMap_eq_map (f := fun e : Ent => ((.inr e.1 : DK), D.tup (e.2.map .str)))) E
def add1 (x : Tx) (L : List Tx) (s : Tx) : List Tx := if s ∈ x :: L then L else L ++ [s]
def once (x : Tx) (ls : List Tx) : List Tx := ls.foldl (add1 x) []
theorem add1_len (x : Tx) (L : List Tx) (s : Tx) : (add1 x L s).length ≤ L.length + 1 := by unfold add1; split <;> simp
theorem fold_len (x : Tx) : ∀ (ls L : List Tx), (ls.foldl (add1 x) L).length ≤ L.length + ls.length
  | [], L => Nat.le_refl _
  | s :: ls, L => by
    have h1 := fold_len x ls (add1 x L s)
    have h2 := add1_len x L s
    rw [List.foldl_cons, List.length_cons]
    omega
theorem memK_str (s : Tx) (L : List Tx) : memK (.inr s) (L.map Sum.inr) = decide (s ∈ L) := by
  unfold memK
  rw [List.any_map]
  by_cases h : s ∈ L
  · rw [decide_eq_true h, List.any_eq_true]
    exact ⟨s, h, by simp⟩
  · rw [decide_eq_false h, List.any_eq_false]
    intro y hy
    simp only [Function.comp, decide_eq_true_eq]
    intro e
    cases e
    exact h hy
theorem getK_mem {k : DK} {d : D} : ∀ {ks : List DK} {ds : List D}, getK ks ds k = some d → k ∈ ks
  | [], _, h => by simp [getK] at h
  | j :: ks, [], h => by simp [getK] at h
  | j :: ks, e :: ds, h => by
    unfold getK at h
    by_cases z : j = k
    · rw [z]; exact List.mem_cons_self
    · rw [if_neg z] at h
      exact List.mem_cons_of_mem _ (getK_mem h)
theorem mrg_keys : ∀ (ps : List (DK × D)) (ks : List DK) (ds : List D) (k : DK), k ∈ (mrgD ks ds ps).1 → k ∈ ks ∨ k ∈ ps.map (·.1)
  | [], ks, ds, k, h => .inl h
  | (j, d) :: ps, ks, ds, k, h => by
    rcases mrg_keys ps _ _ k h with h | h
    · unfold putKs at h
      split at h
      · exact .inl h
      · rcases List.mem_append.mp h with h | h
        · exact .inl h
        · exact .inr (by rw [List.mem_singleton.mp h]; exact List.mem_cons_self)
    · exact .inr (List.mem_cons_of_mem _ h)
theorem less_len {E : List Ent} {R : List Rl} (w : Wf E R) (c : Tx) : (lessOf E c).length ≤ 9 := by
  by_cases h : c ∈ E.map (·.1)
  · exact (less_get w h).2.1
  · have : getK (dKs E) (dDs E) (.inr c) = none := by
      cases e : getK (dKs E) (dDs E) (.inr c) with
      | none => rfl
      | some d =>
        exfalso
        refine h ?_
        have hm : (.inr c : DK) ∈ dKs E := getK_mem e
        have := mrg_keys (E.map fun e => ((.inr e.1 : DK), D.tup (e.2.map .str))) [] [] _ hm
        rcases this with z | z
        · cases z
        · rw [List.map_map] at z
          obtain ⟨e', he', e2⟩ := List.mem_map.mp z
          cases e2
          exact List.mem_map_of_mem he'
    unfold lessOf
    have this' : getK (mrgD [] [] (E.map fun e => ((.inr e.1 : DK), D.tup (e.2.map .str)))).1 (mrgD [] [] (E.map fun e => ((.inr e.1 : DK), D.tup (e.2.map .str)))).2 (.inr c) = none := this
    rw [this']
    exact Nat.zero_le _
theorem flat_len {α β : Type} (f : α → List β) (B : Nat) : ∀ l : List α, (∀ a ∈ l, (f a).length ≤ B) → (l.flatMap f).length ≤ l.length * B
  | [], _ => Nat.zero_le _
  | a :: l, h => by
    have h1 := flat_len f B l fun x hx => h x (List.mem_cons_of_mem _ hx)
    have h2 := h a List.mem_cons_self
    rw [List.flatMap_cons, List.length_append, List.length_cons, Nat.add_mul, Nat.one_mul]
    omega
theorem res_len {E : List Ent} {R : List Rl} {x : Tx} (w : Wf E R) (hx : Wd E x) (r : Rl) : (res E r x).length ≤ 100 := by
  have hl := hx.len
  cases r with
  | drop n l => unfold res; rw [List.length_map, places_len]; omega
  | put a b l => unfold res; exact Nat.le_trans (List.length_filterMap_le _ _) (by rw [places_len]; omega)
  | empty => exact Nat.le_trans (Nat.le_refl 1) (by omega)
  | half l => exact Nat.le_trans (Nat.le_refl 1) (by omega)
  | lower l =>
    unfold res
    refine Nat.le_trans (flat_len _ 9 _ fun k hk => ?_) (by rw [places_len]; omega)
    rw [List.length_map]
    exact less_len w _
/-- all results of the rules at these places -/
def allRes (E : List Ent) (R : List Rl) (x : Tx) (ks : List Nat) : List Tx := ks.flatMap fun k => match R[k]? with
  | some r => res E r x
  | none => []
theorem add1_ne {x : Tx} : ∀ (ls L : List Tx), (∀ s ∈ L, s ≠ x) → ∀ s ∈ ls.foldl (add1 x) L, s ≠ x
  | [], L, h => h
  | t :: ls, L, h => add1_ne ls (add1 x L t) fun s hs => by
    unfold add1 at hs
    split at hs
    · exact h s hs
    · rename_i ht
      rcases List.mem_append.mp hs with hs | hs
      · exact h s hs
      · rw [List.mem_singleton.mp hs]
        intro e
        exact ht (by rw [e]; exact List.mem_cons_self)
theorem all_len {E : List Ent} {R : List Rl} {x : Tx} (w : Wf E R) (hx : Wd E x) (ks : List Nat) : (allRes E R x ks).length ≤ ks.length * 100 := flat_len _ 100 ks fun k _ => by
  show (match R[k]? with | some r => res E r x | none => []).length ≤ 100
  cases R[k]? with
  | some r => exact res_len w hx r
  | none => exact Nat.zero_le _
theorem once_len {E : List Ent} {R : List Rl} {x : Tx} (w : Wf E R) (hx : Wd E x) : (once x (allRes E R x (List.range R.length))).length ≤ 900 := by
  have h1 := fold_len x (allRes E R x (List.range R.length)) []
  have h2 := all_len w hx (List.range R.length)
  have h3 := w.nR
  rw [List.length_range] at h2
  unfold once
  simp only [List.length_nil] at h1
  omega
def pairsD (is : List Int) (L : List Tx) : List D := (is.zip L).map fun p => .tup [.int p.1, .str p.2]
theorem items_of (x : Tx) (L : List Tx) (is : List Int) : itemsD ((x :: L).map Sum.inr) (.int (-1) :: is.map .int) = .tup [.str x, .int (-1)] :: (L.zip is).map fun p => .tup [.str p.1, .int p.2] := by
  unfold itemsD
  rw [List.map_cons, List.zip_cons_cons, List.map_cons]
  congr 1
  rw [List.zip_map, List.map_map]
  rfl
theorem filt (x : Tx) : ∀ (L : List Tx) (is : List Int), (∀ s ∈ L, s ≠ x) → ((L.zip is).map fun p => D.tup [.str p.1, .int p.2]).filterMap (fun d => match d with | .tup [.str s, .int i] => if s = x then none else some (.tup [.int i, .str s]) | _ => none) = pairsD is L
  | [], is, _ => by simp [pairsD]
  | s :: L, [], _ => by simp [pairsD]
  | s :: L, i :: is, h => by
    have ih := filt x L is fun t ht => h t (List.mem_cons_of_mem _ ht)
    rw [List.zip_cons_cons, List.map_cons]
    rw [List.filterMap_cons_some (b := .tup [.int i, .str s]) (by show (if s = x then none else some _) = _; rw [if_neg (h s List.mem_cons_self)]), ih]
    rfl
theorem put_add (s : Tx) (L : List Tx) : putKs (L.map Sum.inr) (.inr s) = (if s ∈ L then L else L ++ [s]).map Sum.inr := by
  unfold putKs
  rw [memK_str]
  by_cases h : s ∈ L
  · rw [if_pos (decide_eq_true h), if_pos h]
  · rw [if_neg (by simp [h]), if_neg h]; simp
theorem mrg_once (x : Tx) : ∀ (ls L : List Tx) (ds : List D), (mrgD (L.map Sum.inr) ds ((ls.map D.str).filterMap fun d => match d with | .str s => if s = x then none else some ((.inr s : DK), D.bl true) | _ => none)).1 = (ls.foldl (add1 x) L).map Sum.inr
  | [], L, ds => rfl
  | s :: ls, L, ds => by
    rw [List.map_cons, List.foldl_cons]
    by_cases e : s = x
    · rw [List.filterMap_cons_none (by show (if s = x then none else some _) = _; rw [if_pos e])]
      have : add1 x L s = L := by unfold add1; rw [if_pos (by rw [e]; exact List.mem_cons_self)]
      rw [this]
      exact mrg_once x ls L ds
    · rw [List.filterMap_cons_some (b := (.inr s, .bl true)) (by show (if s = x then none else some _) = _; rw [if_neg e])]
      have e2 : add1 x L s = if s ∈ L then L else L ++ [s] := by
        unfold add1
        by_cases h : s ∈ L
        · rw [if_pos h, if_pos (List.mem_cons_of_mem _ h)]
        · rw [if_neg h, if_neg (by rw [List.mem_cons]; exact fun z => z.elim e h)]
      have := mrg_once x ls (add1 x L s) (putDs (L.map Sum.inr) ds (.inr s) (.bl true))
      rw [e2, ← put_add, ← e2] at this
      exact this
end LW
/-! Signs, words, texts of books: plain data. -/
namespace LW
open PySem PySem.Spec PyProof.Rows L2 DL EL
instance (c : Nat) : Decidable (low c) := by unfold low; infer_instance
def nmD (c0 c1 c2 c3 : Nat) : D := .dic [.inr (T "a"), .inr (T "b"), .inr (T "c"), .inr (T "d")] [.str [c0], .str [c1], .str [c2], .str [c3]]
structure Lows (c0 c1 c2 c3 : Nat) : Prop where
  l0 : low c0
  l1 : low c1
  l2 : low c2
  l3 : low c3
def ab (c : Nat) : Bool := decide (97 ≤ c) && decide (c ≤ 100)
def nmOf (c0 c1 c2 c3 : Nat) (a : Nat) : Nat := if a = 97 then c0 else if a = 98 then c1 else if a = 99 then c2 else c3
theorem nm_low {c0 c1 c2 c3 a : Nat} (l : Lows c0 c1 c2 c3) : low (nmOf c0 c1 c2 c3 a) := by
  unfold nmOf
  split
  · exact l.l0
  · split
    · exact l.l1
    · split
      · exact l.l2
      · exact l.l3
theorem nm_get (c0 c1 c2 c3 : Nat) {a : Nat} (h : ab a = true) : getK [.inr (T "a"), .inr (T "b"), .inr (T "c"), .inr (T "d")] [.str [c0], .str [c1], .str [c2], .str [c3]] (.inr [a]) = some (.str [nmOf c0 c1 c2 c3 a]) := by
  rw [show T "a" = [97] by decide +kernel, show T "b" = [98] by decide +kernel, show T "c" = [99] by decide +kernel, show T "d" = [100] by decide +kernel]
  unfold ab at h
  rw [Bool.and_eq_true, decide_eq_true_eq, decide_eq_true_eq] at h
  have : a = 97 ∨ a = 98 ∨ a = 99 ∨ a = 100 := by omega
  rcases this with rfl | rfl | rfl | rfl <;> rfl
/-- a rule's sign -/
def sgOk : Tx → Bool
  | [100, c, _] => decide (49 ≤ c) && decide (c ≤ 52)
  | [101] => true
  | [104, _] => true
  | [108, _] => true
  | 112 :: a :: 58 :: r => ab a && decide (2 ≤ r.length) && decide (r.length ≤ 9) && (r.take (r.length - 2)).all ab
  | _ => false
def plainT (s : Tx) : Bool := s.all fun c => decide (c ≠ 32) && decide (c ≠ 59) && decide (c < 1000)
def wdOk : Tx → Bool
  | [a] => ab a
  | a :: 62 :: r => ab a && r.all ab && decide (r.length ≤ 9)
  | _ => false
def TextOk (z : Tx) : Prop := ∃ ws sgs : List Tx, z = TL.joinL [32] ws ++ 59 :: TL.joinL [32] sgs ∧ (ws.all fun w => wdOk w && plainT w) = true ∧ (sgs.all fun s => sgOk s && plainT s) = true ∧ ws.length ≤ 9 ∧ sgs.length ≤ 9
def scenes : List Tx := [T "a b>a c;d1l ll", T "a b>a c;d1r ll", T "a b c;hl d1l", T "a b>a c;hl pb:a.l", T "a b c;d1l", T "a b;e d1l", T "a b;d2l d1r", T "a b c;pa:.l pb:.l pc:.r", T "a b;pa:bb.l d1l", T "a b>a;lr d1r hl", T "a b>a c>ab;lr d1l", T "a b>a c;pc:.l lr d2l", T "a b c d;hl hr d1l", T "a b>a;pb:aa.l ll e", T "a;d3r hl d1l", T ";", T "a b>a c;", T "a b;pa:b.l pa:.r", T "a b>a c>b;hr lr d1r e"]
theorem scenes_ok : ∀ z ∈ scenes, TextOk z := by
  intro z hz
  simp only [scenes, List.mem_cons, List.not_mem_nil, or_false] at hz
  rcases hz with rfl | rfl | rfl | rfl | rfl | rfl | rfl | rfl | rfl | rfl | rfl | rfl | rfl | rfl | rfl | rfl | rfl | rfl | rfl
  · exact ⟨[T "a", T "b>a", T "c"], [T "d1l", T "ll"], by decide +kernel, by decide +kernel, by decide +kernel, by decide, by decide⟩
  · exact ⟨[T "a", T "b>a", T "c"], [T "d1r", T "ll"], by decide +kernel, by decide +kernel, by decide +kernel, by decide, by decide⟩
  · exact ⟨[T "a", T "b", T "c"], [T "hl", T "d1l"], by decide +kernel, by decide +kernel, by decide +kernel, by decide, by decide⟩
  · exact ⟨[T "a", T "b>a", T "c"], [T "hl", T "pb:a.l"], by decide +kernel, by decide +kernel, by decide +kernel, by decide, by decide⟩
  · exact ⟨[T "a", T "b", T "c"], [T "d1l"], by decide +kernel, by decide +kernel, by decide +kernel, by decide, by decide⟩
  · exact ⟨[T "a", T "b"], [T "e", T "d1l"], by decide +kernel, by decide +kernel, by decide +kernel, by decide, by decide⟩
  · exact ⟨[T "a", T "b"], [T "d2l", T "d1r"], by decide +kernel, by decide +kernel, by decide +kernel, by decide, by decide⟩
  · exact ⟨[T "a", T "b", T "c"], [T "pa:.l", T "pb:.l", T "pc:.r"], by decide +kernel, by decide +kernel, by decide +kernel, by decide, by decide⟩
  · exact ⟨[T "a", T "b"], [T "pa:bb.l", T "d1l"], by decide +kernel, by decide +kernel, by decide +kernel, by decide, by decide⟩
  · exact ⟨[T "a", T "b>a"], [T "lr", T "d1r", T "hl"], by decide +kernel, by decide +kernel, by decide +kernel, by decide, by decide⟩
  · exact ⟨[T "a", T "b>a", T "c>ab"], [T "lr", T "d1l"], by decide +kernel, by decide +kernel, by decide +kernel, by decide, by decide⟩
  · exact ⟨[T "a", T "b>a", T "c"], [T "pc:.l", T "lr", T "d2l"], by decide +kernel, by decide +kernel, by decide +kernel, by decide, by decide⟩
  · exact ⟨[T "a", T "b", T "c", T "d"], [T "hl", T "hr", T "d1l"], by decide +kernel, by decide +kernel, by decide +kernel, by decide, by decide⟩
  · exact ⟨[T "a", T "b>a"], [T "pb:aa.l", T "ll", T "e"], by decide +kernel, by decide +kernel, by decide +kernel, by decide, by decide⟩
  · exact ⟨[T "a"], [T "d3r", T "hl", T "d1l"], by decide +kernel, by decide +kernel, by decide +kernel, by decide, by decide⟩
  · exact ⟨[], [], by decide +kernel, by decide +kernel, by decide +kernel, by decide, by decide⟩
  · exact ⟨[T "a", T "b>a", T "c"], [], by decide +kernel, by decide +kernel, by decide +kernel, by decide, by decide⟩
  · exact ⟨[T "a", T "b"], [T "pa:b.l", T "pa:.r"], by decide +kernel, by decide +kernel, by decide +kernel, by decide, by decide⟩
  · exact ⟨[T "a", T "b>a", T "c>b"], [T "hr", T "lr", T "d1r", T "e"], by decide +kernel, by decide +kernel, by decide +kernel, by decide, by decide⟩
def menu : List Tx := [T "d1l", T "d1r", T "d2l", T "d2r", T "d3l", T "d4r", T "hl", T "hr", T "e", T "ll", T "lr", T "pa:.l", T "pb:.r", T "pb:a.l", T "pc:a.r", T "pc:ab.l", T "pb:aa.l", T "pa:b.l", T "pc:.l", T "pa:bb.r", T "pc:abb.l", T "pb:aaa.r"]
theorem menu_ok : ∀ s ∈ menu, (sgOk s && plainT s) = true := by
  have : menu.all (fun s => sgOk s && plainT s) = true := by decide +kernel
  exact fun s hs => List.all_eq_true.mp this s hs
theorem atI_last {α : Type} (l : List α) (x : α) : atI (l ++ [x]) (-1) = some x := by
  unfold atI ixN
  rw [if_neg (by decide), if_pos (by simp only [List.length_append, List.length_cons, List.length_nil]; omega)]
  show (l ++ [x])[(-1 + ((l ++ [x]).length : Int)).toNat]? = some x
  rw [show (-1 + ((l ++ [x]).length : Int)).toNat = l.length by simp only [List.length_append, List.length_cons, List.length_nil]; omega]
  simp
theorem digit_int {c : Nat} (h1 : 49 ≤ c) (h2 : c ≤ 52) : PySem.intText? (S [c]) = some ((c - 48 : Nat) : Int) := by
  have : c = 49 ∨ c = 50 ∨ c = 51 ∨ c = 52 := by omega
  rcases this with rfl | rfl | rfl | rfl <;> decide +kernel
end LW
namespace LW
open PySem PySem.Spec PyProof.Rows L2 DL EL
/-! ### the text: where the defs stand -/
def top (i : Nat) : Stmt := PySem.Challenge.pw_firstfailing_k17_whole_steps_of_short_th.main.body.getD i (.Pass ⟨0, 0, 0, 0⟩)
abbrev s_is_integer : Stmt := top 6
abbrev s_is_number : Stmt := top 7
abbrev s_is_thing : Stmt := top 8
abbrev s_want : Stmt := top 10
abbrev s_known_letters : Stmt := top 11
abbrev s_is_thing_of : Stmt := top 12
abbrev s_want_thing : Stmt := top 13
abbrev s_places_of : Stmt := top 15
abbrev s_dropped : Stmt := top 16
abbrev s_halved : Stmt := top 17
abbrev s_lowered : Stmt := top 18
abbrev s_put_results : Stmt := top 19
abbrev s_results_of : Stmt := top 20
abbrev s_steps_from : Stmt := top 21
abbrev s_plain_steps : Stmt := top 22
abbrev s_steps_of : Stmt := top 23
abbrev s_rule_steps : Stmt := top 24
abbrev s_L_spring : Stmt := top 26
abbrev s_L_dip : Stmt := top 27
abbrev s_L_pick : Stmt := top 28
abbrev s_L_rule : Stmt := top 29
abbrev s_L_read : Stmt := top 30
abbrev s_L_names : Stmt := top 31
abbrev s_L_drawn : Stmt := top 32
abbrev s_L_book : Stmt := top 33
abbrev s_L_scenes : Stmt := top 34
abbrev s_L_menu : Stmt := top 35
abbrev s_L_left : Stmt := top 36
abbrev s_L_turned : Stmt := top 37
abbrev s_L_short : Stmt := top 38
abbrev s_L_once : Stmt := top 39
abbrev s_law : Stmt := top 40
section
variable [FeedI] [ExI]
/-! ### is_integer -/
abbrev N_is_integer : List Str := ["thing"]
abbrev P_is_integer : List Str := ["thing"]
def b_is_integer : XS :=
  (xRet (xAndV (xCallB oIsi (xCons (xVar 0) (xCons (xC (.ty "int")) xNil))) (xNotV (xCallB oIsi (xCons (xVar 0) (xCons (xC (.ty "bool")) xNil))))))
def f_is_integer : GX := runF0 1 [false] b_is_integer
theorem sc_is_integer : FnScope N_is_integer P_is_integer (defScope s_is_integer) := C8.fnScope_by (by decide +kernel)
theorem dv_is_integer {P : Program} {w : World} {K : PySem.W.Frag} {mg : Str → Option Value} {base : Heap} {k : Nat} {qual : Str} {f : Addr} (g_bool : mg "bool" = none) (g_int : mg "int" = none) (g_isinstance : mg "isinstance" = none)
    (cdv : Value) (A : Around) (outer : List Env) (s : Shared) (H : Hp) (E : XK) (hr : RoomG k (A.deeper (envOfC qual (defScope s_is_integer) s.heap.objs.size f cdv))) :
    JSs K W0 (cxOf (L2.CX P w) P w K mg base N_is_integer qual (defScope s_is_integer) f cdv A outer s H E).nox (defBody s_is_integer) b_is_integer :=
  have nd := (sc_is_integer).nd
  (jss_one (js_ret (je_and (je_callB jc_isi (by rfl) g_isinstance B_isinstance (ja_cons (je_var 0) (ja_cons (je_ty (by rfl) g_int B_int) ja_nil))) (je_one (je_not (je_callB jc_isi (by rfl) g_isinstance B_isinstance (ja_cons (je_var 0) (ja_cons (je_ty (by rfl) g_bool B_bool) ja_nil))))))))
/-! ### is_number -/
abbrev N_is_number : List Str := ["thing"]
abbrev P_is_number : List Str := ["thing"]
def b_is_number : XS :=
  (xRet (xAndV (xCall [false] f_is_integer arr0 1 0 (xCons (xVar 0) xNil) xNil) (xOp oGe (xVar 0) (xC (.int 0)))))
def f_is_number : GX := runF0 1 [false] b_is_number
theorem sc_is_number : FnScope N_is_number P_is_number (defScope s_is_number) := C8.fnScope_by (by decide +kernel)
theorem dv_is_number {P : Program} {w : World} {K : PySem.W.Frag} {mg : Str → Option Value} {base : Heap} {k : Nat} {qual : Str} {f : Addr}
    (Cc_is_integer : CalX P w K mg base k "is_integer" 1 [] [false] f_is_integer arr0)
    (cdv : Value) (A : Around) (outer : List Env) (s : Shared) (H : Hp) (E : XK) (hr : RoomG k (A.deeper (envOfC qual (defScope s_is_number) s.heap.objs.size f cdv))) :
    JSs K W0 (cxOf (L2.CX P w) P w K mg base N_is_number qual (defScope s_is_number) f cdv A outer s H E).nox (defBody s_is_number) b_is_number :=
  have nd := (sc_is_number).nd
  (jss_one (js_ret (je_and (JR.je (JR.mk fun hK => jr_call Cc_is_integer hr takes0 (by rfl) (ja_cons (je_var 0) ja_nil) hK)) (je_one (je_cmp jo_ge (je_var 0) je_int)))))
/-! ### is_thing -/
abbrev N_is_thing : List Str := ["thing", "sign"]
abbrev P_is_thing : List Str := ["thing"]
def b_is_thing : XS :=
  (xRet (xAndV (xCallB oIsi (xCons (xVar 0) (xCons (xC (.ty "str")) xNil))) (xCallB oAll (xCons (xFz (xnLc (xSq (xVar 0)) (xgN 1) xYes (xOp oIn (xVar 1) (xC (.str (T "abcdefghijklmnopqrstuvwxyz")))) [1])) xNil))))
def f_is_thing : GX := runF0 2 [false] b_is_thing
theorem sc_is_thing : FnScope N_is_thing P_is_thing (defScope s_is_thing) := C8.fnScope_by (by decide +kernel)
theorem dv_is_thing {P : Program} {w : World} {K : PySem.W.Frag} {mg : Str → Option Value} {base : Heap} {k : Nat} {qual : Str} {f : Addr} (g_all : mg "all" = none) (g_isinstance : mg "isinstance" = none) (g_str : mg "str" = none) (k_LOWERCASE : ∃ t, mg "LOWERCASE" = some (.str (Str.ofString "abcdefghijklmnopqrstuvwxyz") t))
    (cdv : Value) (A : Around) (outer : List Env) (s : Shared) (H : Hp) (E : XK) (hr : RoomG k (A.deeper (envOfC qual (defScope s_is_thing) s.heap.objs.size f cdv))) :
    JSs K W0 (cxOf (L2.CX P w) P w K mg base N_is_thing qual (defScope s_is_thing) f cdv A outer s H E).nox (defBody s_is_thing) b_is_thing :=
  have nd := (sc_is_thing).nd
  (jss_one (js_ret (je_and (je_callB jc_isi (by rfl) g_isinstance B_isinstance (ja_cons (je_var 0) (ja_cons (je_ty (by rfl) g_str B_str) ja_nil))) (je_one (je_callB (jc_all rfl) (by rfl) g_all B_all (ja_cons (je_frz (JNC.jn (jnc_lc rfl nd (ji_seq (je_var 0)) [("sign", 1)] (by rfl) (by decide) (fun _ _ _ _ _ => (jg_name 1 nd)) (fun _ _ _ _ _ => jts_nil) (fun _ _ _ _ _ => (je_cmp (jo_in hr.hu) (je_var 1) (je_gstr "abcdefghijklmnopqrstuvwxyz" (by rfl) k_LOWERCASE)))))) ja_nil))))))
/-! ### want -/
abbrev N_want : List Str := ["is_right", "name", "at"]
abbrev P_want : List Str := ["is_right", "name", "at"]
def b_want : XS :=
  (xIfS (xNot (xB (xVar 0)))
  xNever
  xNext)
def f_want : GX := runF0 3 [false, false, false] b_want
theorem sc_want : FnScope N_want P_want (defScope s_want) := C8.fnScope_by (by decide +kernel)
theorem dv_want {P : Program} {w : World} {K : PySem.W.Frag} {mg : Str → Option Value} {base : Heap} {k : Nat} {qual : Str} {f : Addr}
    (cdv : Value) (A : Around) (outer : List Env) (s : Shared) (H : Hp) (E : XK) (hr : RoomG k (A.deeper (envOfC qual (defScope s_want) s.heap.objs.size f cdv))) :
    JSs K W0 (cxOf (L2.CX P w) P w K mg base N_want qual (defScope s_want) f cdv A outer s H E).nox (defBody s_want) b_want :=
  have nd := (sc_want).nd
  (jss_one (js_if (jt_not (jt_val (je_var 0)))
      (jss_one js_never)
      jss_nil))
/-! ### known_letters -/
abbrev N_known_letters : List Str := ["book", "letter", "lessers"]
abbrev P_known_letters : List Str := ["book"]
def b_known_letters : XS :=
  (xRet (xCallB oTuple (xCons (xFz (xnLc (xSq (xOp oIx (xVar 0) (xC (.int 0)))) (xgTup 2 (xgCons (xgN 1) (xgCons (xgN 2) xgNil))) xYes (xVar 1) [1, 2])) xNil)))
def f_known_letters : GX := runF0 3 [false] b_known_letters
theorem sc_known_letters : FnScope N_known_letters P_known_letters (defScope s_known_letters) := C8.fnScope_by (by decide +kernel)
theorem dv_known_letters {P : Program} {w : World} {K : PySem.W.Frag} {mg : Str → Option Value} {base : Heap} {k : Nat} {qual : Str} {f : Addr} (g_tuple : mg "tuple" = none)
    (cdv : Value) (A : Around) (outer : List Env) (s : Shared) (H : Hp) (E : XK) (hr : RoomG k (A.deeper (envOfC qual (defScope s_known_letters) s.heap.objs.size f cdv))) :
    JSs K W0 (cxOf (L2.CX P w) P w K mg base N_known_letters qual (defScope s_known_letters) f cdv A outer s H E).nox (defBody s_known_letters) b_known_letters :=
  have nd := (sc_known_letters).nd
  (jss_one (js_ret (je_callTy jc_tuple (by rfl) g_tuple B_tuple (ja_cons (je_frz (JNC.jn (jnc_lc rfl nd (ji_seq (je_ix hr.hu (je_var 0) je_int)) [("letter", 1), ("lessers", 2)] (by rfl) (by decide) (fun _ _ _ _ _ => (jg_tup rfl (jgs_cons (jg_name 1 nd) (jgs_cons (jg_name 2 nd) jgs_nil)) (n := 2))) (fun _ _ _ _ _ => jts_nil) (fun _ _ _ _ _ => (je_var 1))))) ja_nil))))
/-! ### is_thing_of -/
abbrev N_is_thing_of : List Str := ["book", "thing", "known", "sign"]
abbrev P_is_thing_of : List Str := ["book", "thing"]
def b_is_thing_of : XS :=
  (xSeq (xSet 2 (xCall [false] f_known_letters arr0 1 0 (xCons (xVar 0) xNil) xNil))
  (xRet (xAndV (xCall [false] f_is_thing arr0 1 0 (xCons (xVar 1) xNil) xNil) (xCallB oAll (xCons (xFz (xnLc (xSq (xVar 1)) (xgN 3) xYes (xOp oIn (xVar 3) (xVar 2)) [3])) xNil)))))
def f_is_thing_of : GX := runF0 4 [false, false] b_is_thing_of
theorem sc_is_thing_of : FnScope N_is_thing_of P_is_thing_of (defScope s_is_thing_of) := C8.fnScope_by (by decide +kernel)
theorem dv_is_thing_of {P : Program} {w : World} {K : PySem.W.Frag} {mg : Str → Option Value} {base : Heap} {k : Nat} {qual : Str} {f : Addr} (g_all : mg "all" = none)
    (Cc_is_thing : CalX P w K mg base k "is_thing" 1 [] [false] f_is_thing arr0)
    (Cc_known_letters : CalX P w K mg base k "known_letters" 1 [] [false] f_known_letters arr0)
    (cdv : Value) (A : Around) (outer : List Env) (s : Shared) (H : Hp) (E : XK) (hr : RoomG k (A.deeper (envOfC qual (defScope s_is_thing_of) s.heap.objs.size f cdv))) :
    JSs K W0 (cxOf (L2.CX P w) P w K mg base N_is_thing_of qual (defScope s_is_thing_of) f cdv A outer s H E).nox (defBody s_is_thing_of) b_is_thing_of :=
  have nd := (sc_is_thing_of).nd
  (jss_cons (js_set 2 nd (JR.je (JR.mk fun hK => jr_call Cc_known_letters hr takes0 (by rfl) (ja_cons (je_var 0) ja_nil) hK)))
      (jss_one (js_ret (je_and (JR.je (JR.mk fun hK => jr_call Cc_is_thing hr takes0 (by rfl) (ja_cons (je_var 1) ja_nil) hK)) (je_one (je_callB (jc_all rfl) (by rfl) g_all B_all (ja_cons (je_frz (JNC.jn (jnc_lc rfl nd (ji_seq (je_var 1)) [("sign", 3)] (by rfl) (by decide) (fun _ _ _ _ _ => (jg_name 3 nd)) (fun _ _ _ _ _ => jts_nil) (fun _ _ _ _ _ => (je_cmp (jo_in hr.hu) (je_var 3) (je_var 2)))))) ja_nil)))))))
/-! ### want_thing -/
abbrev N_want_thing : List Str := ["book", "name", "thing"]
abbrev P_want_thing : List Str := ["book", "name", "thing"]
def b_want_thing : XS :=
  (xDrop (xCall [false, false, false] f_want (arrS [.ps 0, .ps 1, .df 0] [.int (-1)]) 2 0 (xCons (xCall [false, false] f_is_thing_of arr0 2 0 (xCons (xVar 0) (xCons (xVar 2) xNil)) xNil) (xCons (xVar 1) xNil)) xNil))
def f_want_thing : GX := runF0 3 [false, false, false] b_want_thing
theorem sc_want_thing : FnScope N_want_thing P_want_thing (defScope s_want_thing) := C8.fnScope_by (by decide +kernel)
theorem dv_want_thing {P : Program} {w : World} {K : PySem.W.Frag} {mg : Str → Option Value} {base : Heap} {k : Nat} {qual : Str} {f : Addr}
    (Cc_is_thing_of : CalX P w K mg base k "is_thing_of" 2 [] [false, false] f_is_thing_of arr0)
    (Cc_want_2 : CalX P w K mg base k "want" 2 [] [false, false, false] f_want (arrS [.ps 0, .ps 1, .df 0] [.int (-1)]))
    (cdv : Value) (A : Around) (outer : List Env) (s : Shared) (H : Hp) (E : XK) (hr : RoomG k (A.deeper (envOfC qual (defScope s_want_thing) s.heap.objs.size f cdv))) :
    JSs K W0 (cxOf (L2.CX P w) P w K mg base N_want_thing qual (defScope s_want_thing) f cdv A outer s H E).nox (defBody s_want_thing) b_want_thing :=
  have nd := (sc_want_thing).nd
  (jss_one (js_expr (JR.je (JR.mk fun hK => jr_call Cc_want_2 hr takes0 (by rfl) (ja_cons (JR.je (JR.mk fun hK => jr_call Cc_is_thing_of hr takes0 (by rfl) (ja_cons (je_var 0) (ja_cons (je_var 2) ja_nil)) hK)) (ja_cons (je_var 1) ja_nil)) hK))))
/-! ### places_of -/
abbrev N_places_of : List Str := ["many", "side"]
abbrev P_places_of : List Str := ["many", "side"]
def b_places_of : XS :=
  (xRet (xIf (xB (xOp oEq (xVar 1) (xC (.str (T "left"))))) (xNew (xnAI oRgE1 (xCons (xVar 0) xNil))) (xNew (xnAI (lim24 oRng3) (xCons (xOp oSub (xVar 0) (xC (.int 1))) (xCons (xUn oNeg (xC (.int 1))) (xCons (xUn oNeg (xC (.int 1))) xNil)))))))
def f_places_of : GX := runF0 2 [false, false] b_places_of
theorem sc_places_of : FnScope N_places_of P_places_of (defScope s_places_of) := C8.fnScope_by (by decide +kernel)
theorem dv_places_of {P : Program} {w : World} {K : PySem.W.Frag} {mg : Str → Option Value} {base : Heap} {k : Nat} {qual : Str} {f : Addr} (g_list : mg "list" = none) (g_range : mg "range" = none)
    (cdv : Value) (A : Around) (outer : List Env) (s : Shared) (H : Hp) (E : XK) (hr : RoomG k (A.deeper (envOfC qual (defScope s_places_of) s.heap.objs.size f cdv))) :
    JSs K W0 (cxOf (L2.CX P w) P w K mg base N_places_of qual (defScope s_places_of) f cdv A outer s H E).nox (defBody s_places_of) b_places_of :=
  have nd := (sc_places_of).nd
  (jss_one (js_ret (je_if (jt_cmp (jo_eq hr.hu) (je_var 1) (je_str "left")) (je_new (jn_lstRg1 rfl (by rfl) g_list (by rfl) g_range (je_var 0))) (je_new (jn_lstRg3 rfl (by rfl) g_list (by rfl) g_range (ja_cons (je_op jo_sub (je_var 0) je_int) (ja_cons (je_neg je_int) (ja_cons (je_neg je_int) ja_nil))))))))
/-! ### dropped -/
abbrev N_dropped : List Str := ["rule", "x", "many", "k"]
abbrev P_dropped : List Str := ["rule", "x"]
def b_dropped : XS :=
  (xSeq (xSet 2 (xCallB oMax (xCons (xC (.int 0)) (xCons (xOp oAdd (xOp oSub (xCallB oLen (xCons (xVar 1) xNil)) (xOp oIx (xVar 0) (xC (.int 1)))) (xC (.int 1))) xNil))))
  (xRet (xNew (xnLc (xSq (xCall [false, false] f_places_of arr0 2 0 (xCons (xVar 2) (xCons (xOp oIx (xVar 0) (xC (.int 2))) xNil)) xNil)) (xgN 3) xYes (xOp oAdd (xSl (xVar 1) xoN (xoS (xVar 3))) (xSl (xVar 1) (xoS (xOp oAdd (xVar 3) (xOp oIx (xVar 0) (xC (.int 1))))) xoN)) [3]))))
def f_dropped : GX := runF0 4 [false, false] b_dropped
theorem sc_dropped : FnScope N_dropped P_dropped (defScope s_dropped) := C8.fnScope_by (by decide +kernel)
theorem dv_dropped {P : Program} {w : World} {K : PySem.W.Frag} {mg : Str → Option Value} {base : Heap} {k : Nat} {qual : Str} {f : Addr} (g_len : mg "len" = none) (g_max : mg "max" = none)
    (Cc_places_of : CalX P w K mg base k "places_of" 2 [] [false, false] f_places_of arr0)
    (cdv : Value) (A : Around) (outer : List Env) (s : Shared) (H : Hp) (E : XK) (hr : RoomG k (A.deeper (envOfC qual (defScope s_dropped) s.heap.objs.size f cdv))) :
    JSs K W0 (cxOf (L2.CX P w) P w K mg base N_dropped qual (defScope s_dropped) f cdv A outer s H E).nox (defBody s_dropped) b_dropped :=
  have nd := (sc_dropped).nd
  (jss_cons (js_set 2 nd (je_callB (jc_max rfl) (by rfl) g_max B_max (ja_cons je_int (ja_cons (je_op jo_add (je_op jo_sub (je_callB jc_len (by rfl) g_len B_len (ja_cons (je_var 1) ja_nil)) (je_ix hr.hu (je_var 0) je_int)) je_int) ja_nil))))
      (jss_one (js_ret (je_new (JNC.jn (jnc_lc rfl nd (ji_seq (JR.je (JR.mk fun hK => jr_call Cc_places_of hr takes0 (by rfl) (ja_cons (je_var 2) (ja_cons (je_ix hr.hu (je_var 0) je_int) ja_nil)) hK))) [("k", 3)] (by rfl) (by decide) (fun _ _ _ _ _ => (jg_name 3 nd)) (fun _ _ _ _ _ => jts_nil) (fun _ _ _ _ _ => (je_op jo_add (je_sl (je_var 1) jo_none (jo_some (je_var 3))) (je_sl (je_var 1) (jo_some (je_op jo_add (je_var 3) (je_ix hr.hu (je_var 0) je_int))) jo_none)))))))))
/-! ### halved -/
abbrev N_halved : List Str := ["rule", "x", "size"]
abbrev P_halved : List Str := ["rule", "x"]
def b_halved : XS :=
  (xSeq (xSet 2 (xOp oFdiv (xCallB oLen (xCons (xVar 1) xNil)) (xC (.int 2))))
  (xRet (xNew (xnLst (xCons (xIf (xB (xOp oEq (xOp oIx (xVar 0) (xC (.int 1))) (xC (.str (T "left"))))) (xSl (xVar 1) xoN (xoS (xVar 2))) (xSl (xVar 1) (xoS (xOp oSub (xCallB oLen (xCons (xVar 1) xNil)) (xVar 2))) xoN)) xNil)))))
def f_halved : GX := runF0 3 [false, false] b_halved
theorem sc_halved : FnScope N_halved P_halved (defScope s_halved) := C8.fnScope_by (by decide +kernel)
theorem dv_halved {P : Program} {w : World} {K : PySem.W.Frag} {mg : Str → Option Value} {base : Heap} {k : Nat} {qual : Str} {f : Addr} (g_len : mg "len" = none)
    (cdv : Value) (A : Around) (outer : List Env) (s : Shared) (H : Hp) (E : XK) (hr : RoomG k (A.deeper (envOfC qual (defScope s_halved) s.heap.objs.size f cdv))) :
    JSs K W0 (cxOf (L2.CX P w) P w K mg base N_halved qual (defScope s_halved) f cdv A outer s H E).nox (defBody s_halved) b_halved :=
  have nd := (sc_halved).nd
  (jss_cons (js_set 2 nd (je_op jo_fdiv (je_callB jc_len (by rfl) g_len B_len (ja_cons (je_var 1) ja_nil)) je_int))
      (jss_one (js_ret (je_new (jn_lst (ja_cons (je_if (jt_cmp (jo_eq hr.hu) (je_ix hr.hu (je_var 0) je_int) (je_str "left")) (je_sl (je_var 1) jo_none (jo_some (je_var 2))) (je_sl (je_var 1) (jo_some (je_op jo_sub (je_callB jc_len (by rfl) g_len B_len (ja_cons (je_var 1) ja_nil)) (je_var 2))) jo_none)) ja_nil))))))
/-! ### lowered -/
abbrev N_lowered : List Str := ["lessers", "rule", "x", "k", "less"]
abbrev P_lowered : List Str := ["lessers", "rule", "x"]
def b_lowered : XS :=
  (xRet (xNew (xnLc2 (xSq (xCall [false, false] f_places_of arr0 2 0 (xCons (xCallB oLen (xCons (xVar 2) xNil)) (xCons (xOp oIx (xVar 1) (xC (.int 1))) xNil)) xNil)) (xgN 3) xYes (xSq (xOp oIx (xVar 0) (xOp oIx (xVar 2) (xVar 3)))) (xgN 4) xYes (xOp oAdd (xOp oAdd (xSl (xVar 2) xoN (xoS (xVar 3))) (xVar 4)) (xSl (xVar 2) (xoS (xOp oAdd (xVar 3) (xC (.int 1)))) xoN)) [3, 4] [4])))
def f_lowered : GX := runF0 5 [false, false, false] b_lowered
theorem sc_lowered : FnScope N_lowered P_lowered (defScope s_lowered) := C8.fnScope_by (by decide +kernel)
theorem dv_lowered {P : Program} {w : World} {K : PySem.W.Frag} {mg : Str → Option Value} {base : Heap} {k : Nat} {qual : Str} {f : Addr} (g_len : mg "len" = none)
    (Cc_places_of : CalX P w K mg base k "places_of" 2 [] [false, false] f_places_of arr0)
    (cdv : Value) (A : Around) (outer : List Env) (s : Shared) (H : Hp) (E : XK) (hr : RoomG k (A.deeper (envOfC qual (defScope s_lowered) s.heap.objs.size f cdv))) :
    JSs K W0 (cxOf (L2.CX P w) P w K mg base N_lowered qual (defScope s_lowered) f cdv A outer s H E).nox (defBody s_lowered) b_lowered :=
  have nd := (sc_lowered).nd
  (jss_one (js_ret (je_new (JNC.jn (jnc_lc2 rfl nd (ji_seq (JR.je (JR.mk fun hK => jr_call Cc_places_of hr takes0 (by rfl) (ja_cons (je_callB jc_len (by rfl) g_len B_len (ja_cons (je_var 2) ja_nil)) (ja_cons (je_ix hr.hu (je_var 1) je_int) ja_nil)) hK))) [("k", 3), ("less", 4)] [4] (by rfl) (by decide) (by decide) (by decide) (fun _ _ _ _ _ => (jg_name 3 nd)) (fun _ _ _ _ _ => jts_nil) (fun _ _ _ _ _ => (ji_seq (je_ix hr.hu (je_var 0) (je_ix hr.hu (je_var 2) (je_var 3))))) (fun _ _ _ _ _ => (jg_name 4 nd)) (fun _ _ _ _ _ => jts_nil) (fun _ _ _ _ _ => (je_op jo_add (je_op jo_add (je_sl (je_var 2) jo_none (jo_some (je_var 3))) (je_var 4)) (je_sl (je_var 2) (jo_some (je_op jo_add (je_var 3) je_int)) jo_none))))))))
/-! ### put_results -/
abbrev N_put_results : List Str := ["rule", "x", "k"]
abbrev P_put_results : List Str := ["rule", "x"]
def b_put_results : XS :=
  (xRet (xNew (xnLc (xSq (xCall [false, false] f_places_of arr0 2 0 (xCons (xCallB oLen (xCons (xVar 1) xNil)) (xCons (xOp oIx (xVar 0) (xC (.int 3))) xNil)) xNil)) (xgN 2) (xB (xOp oEq (xOp oIx (xVar 1) (xVar 2)) (xOp oIx (xVar 0) (xC (.int 1))))) (xOp oAdd (xOp oAdd (xSl (xVar 1) xoN (xoS (xVar 2))) (xOp oIx (xVar 0) (xC (.int 2)))) (xSl (xVar 1) (xoS (xOp oAdd (xVar 2) (xC (.int 1)))) xoN)) [2])))
def f_put_results : GX := runF0 3 [false, false] b_put_results
theorem sc_put_results : FnScope N_put_results P_put_results (defScope s_put_results) := C8.fnScope_by (by decide +kernel)
theorem dv_put_results {P : Program} {w : World} {K : PySem.W.Frag} {mg : Str → Option Value} {base : Heap} {k : Nat} {qual : Str} {f : Addr} (g_len : mg "len" = none)
    (Cc_places_of : CalX P w K mg base k "places_of" 2 [] [false, false] f_places_of arr0)
    (cdv : Value) (A : Around) (outer : List Env) (s : Shared) (H : Hp) (E : XK) (hr : RoomG k (A.deeper (envOfC qual (defScope s_put_results) s.heap.objs.size f cdv))) :
    JSs K W0 (cxOf (L2.CX P w) P w K mg base N_put_results qual (defScope s_put_results) f cdv A outer s H E).nox (defBody s_put_results) b_put_results :=
  have nd := (sc_put_results).nd
  (jss_one (js_ret (je_new (JNC.jn (jnc_lc rfl nd (ji_seq (JR.je (JR.mk fun hK => jr_call Cc_places_of hr takes0 (by rfl) (ja_cons (je_callB jc_len (by rfl) g_len B_len (ja_cons (je_var 1) ja_nil)) (ja_cons (je_ix hr.hu (je_var 0) je_int) ja_nil)) hK))) [("k", 2)] (by rfl) (by decide) (fun _ _ _ _ _ => (jg_name 2 nd)) (fun _ _ _ _ _ => (jts_one (jt_cmp (jo_eq hr.hu) (je_ix hr.hu (je_var 1) (je_var 2)) (je_ix hr.hu (je_var 0) je_int)))) (fun _ _ _ _ _ => (je_op jo_add (je_op jo_add (je_sl (je_var 1) jo_none (jo_some (je_var 2))) (je_ix hr.hu (je_var 0) je_int)) (je_sl (je_var 1) (jo_some (je_op jo_add (je_var 2) je_int)) jo_none))))))))
/-! ### results_of -/
abbrev N_results_of : List Str := ["book", "k", "x", "rule", "letter", "lessers"]
abbrev P_results_of : List Str := ["book", "k", "x"]
def b_results_of : XS :=
  (xSeq (xSet 3 (xOp oIx (xOp oIx (xVar 0) (xC (.int 1))) (xVar 1)))
  (xSeq (xIfS (xB (xOp oEq (xOp oIx (xVar 3) (xC (.int 0))) (xC (.str (T "drop")))))
  (xRet (xNew (xnCall [false, false] f_dropped arr0 2 0 (xCons (xVar 3) (xCons (xVar 2) xNil)) xNil)))
  xNext)
  (xSeq (xIfS (xB (xOp oEq (xOp oIx (xVar 3) (xC (.int 0))) (xC (.str (T "half")))))
  (xRet (xNew (xnCall [false, false] f_halved arr0 2 0 (xCons (xVar 3) (xCons (xVar 2) xNil)) xNil)))
  xNext)
  (xSeq (xIfS (xB (xOp oEq (xOp oIx (xVar 3) (xC (.int 0))) (xC (.str (T "lower")))))
  (xRet (xNew (xnCall [false, false, false] f_lowered arr0 3 0 (xCons (xFz (xnDc (xSq (xOp oIx (xVar 0) (xC (.int 0)))) (xgTup 2 (xgCons (xgN 4) (xgCons (xgN 5) xgNil))) xYes (xVar 4) (xVar 5) [4, 5])) (xCons (xVar 3) (xCons (xVar 2) xNil))) xNil)))
  xNext)
  (xRet (xIf (xB (xOp oEq (xOp oIx (xVar 3) (xC (.int 0))) (xC (.str (T "put"))))) (xNew (xnCall [false, false] f_put_results arr0 2 0 (xCons (xVar 3) (xCons (xVar 2) xNil)) xNil)) (xNew (xnLst (xCons (xC (.str (T ""))) xNil)))))))))
def f_results_of : GX := runF0 6 [false, false, false] b_results_of
theorem sc_results_of : FnScope N_results_of P_results_of (defScope s_results_of) := C8.fnScope_by (by decide +kernel)
theorem dv_results_of {P : Program} {w : World} {K : PySem.W.Frag} {mg : Str → Option Value} {base : Heap} {k : Nat} {qual : Str} {f : Addr}
    (Cc_dropped : CalX P w K mg base k "dropped" 2 [] [false, false] f_dropped arr0)
    (Cc_halved : CalX P w K mg base k "halved" 2 [] [false, false] f_halved arr0)
    (Cc_lowered : CalX P w K mg base k "lowered" 3 [] [false, false, false] f_lowered arr0)
    (Cc_put_results : CalX P w K mg base k "put_results" 2 [] [false, false] f_put_results arr0)
    (cdv : Value) (A : Around) (outer : List Env) (s : Shared) (H : Hp) (E : XK) (hr : RoomG k (A.deeper (envOfC qual (defScope s_results_of) s.heap.objs.size f cdv))) :
    JSs K W0 (cxOf (L2.CX P w) P w K mg base N_results_of qual (defScope s_results_of) f cdv A outer s H E).nox (defBody s_results_of) b_results_of :=
  have nd := (sc_results_of).nd
  (jss_cons (js_set 3 nd (je_ix hr.hu (je_ix hr.hu (je_var 0) je_int) (je_var 1)))
      (jss_cons (js_if (jt_cmp (jo_eq hr.hu) (je_ix hr.hu (je_var 3) je_int) (je_str "drop"))
      (jss_one (js_ret (je_new (JR.jn (JR.mk fun hK => jr_call Cc_dropped hr takes0 (by rfl) (ja_cons (je_var 3) (ja_cons (je_var 2) ja_nil)) hK)))))
      jss_nil)
      (jss_cons (js_if (jt_cmp (jo_eq hr.hu) (je_ix hr.hu (je_var 3) je_int) (je_str "half"))
      (jss_one (js_ret (je_new (JR.jn (JR.mk fun hK => jr_call Cc_halved hr takes0 (by rfl) (ja_cons (je_var 3) (ja_cons (je_var 2) ja_nil)) hK)))))
      jss_nil)
      (jss_cons (js_if (jt_cmp (jo_eq hr.hu) (je_ix hr.hu (je_var 3) je_int) (je_str "lower"))
      (jss_one (js_ret (je_new (JR.jn (JR.mk fun hK => jr_call Cc_lowered hr takes0 (by rfl) (ja_cons (je_frz (JNC.jn (jnc_dc rfl nd (ji_seq (je_ix hr.hu (je_var 0) je_int)) [("letter", 4), ("lessers", 5)] (by rfl) (by decide) (fun _ _ _ _ _ => (jg_tup rfl (jgs_cons (jg_name 4 nd) (jgs_cons (jg_name 5 nd) jgs_nil)) (n := 2))) (fun _ _ _ _ _ => jts_nil) (fun _ _ _ _ _ => (je_var 4)) (fun _ _ _ _ _ => (je_var 5))))) (ja_cons (je_var 3) (ja_cons (je_var 2) ja_nil))) hK)))))
      jss_nil)
      (jss_one (js_ret (je_if (jt_cmp (jo_eq hr.hu) (je_ix hr.hu (je_var 3) je_int) (je_str "put")) (je_new (JR.jn (JR.mk fun hK => jr_call Cc_put_results hr takes0 (by rfl) (ja_cons (je_var 3) (ja_cons (je_var 2) ja_nil)) hK))) (je_new (jn_lst (ja_cons (je_str "") ja_nil))))))))))
/-! ### steps_from -/
abbrev N_steps_from : List Str := ["book", "x", "first", "found", "k", "step"]
abbrev P_steps_from : List Str := ["book", "x", "first"]
def b_steps_from_1 : XS :=
  (xIfS (xB (xOp oNotIn (xVar 5) (xVar 3)))
  (xDput (xVar 3) (xVar 5) (xVar 4))
  xNext)
def b_steps_from_0 : XS :=
  (xFor (xSq (xCall [false, false, false] f_results_of arr0 3 0 (xCons (xVar 0) (xCons (xVar 4) (xCons (xVar 1) xNil))) xNil)) (xgN 5) b_steps_from_1 [])
def b_steps_from : XS :=
  (xSeq (xSet 3 (xNew (xnDisp [((xVar 1), (xUn oNeg (xC (.int 1))))])))
  (xSeq (xFor (xSq (xOp oAdd (xFz (xnAI oRgE2 (xCons (xVar 2) (xCons (xCallB oLen (xCons (xOp oIx (xVar 0) (xC (.int 1))) xNil)) xNil)))) (xFz (xnAI oRgE1 (xCons (xVar 2) xNil))))) (xgN 4) b_steps_from_0 [])
  (xRet (xNew (xnItems 3 (xgTup 2 (xgCons (xgN 5) (xgCons (xgN 4) xgNil))) (xB (xOp oNe (xVar 5) (xVar 1))) (xTup (xCons (xVar 4) (xCons (xVar 5) xNil))) [5, 4])))))
def f_steps_from : GX := runF0 6 [false, false, false] b_steps_from
theorem sc_steps_from : FnScope N_steps_from P_steps_from (defScope s_steps_from) := C8.fnScope_by (by decide +kernel)
theorem dv_steps_from {P : Program} {w : World} {K : PySem.W.Frag} {mg : Str → Option Value} {base : Heap} {k : Nat} {qual : Str} {f : Addr} (g_len : mg "len" = none) (g_list : mg "list" = none) (g_range : mg "range" = none)
    (Cc_results_of : CalX P w K mg base k "results_of" 3 [] [false, false, false] f_results_of arr0)
    (cdv : Value) (A : Around) (outer : List Env) (s : Shared) (H : Hp) (E : XK) (hr : RoomG k (A.deeper (envOfC qual (defScope s_steps_from) s.heap.objs.size f cdv))) :
    JSs K W0 (cxOf (L2.CX P w) P w K mg base N_steps_from qual (defScope s_steps_from) f cdv A outer s H E).nox (defBody s_steps_from) b_steps_from :=
  have nd := (sc_steps_from).nd
  (jss_cons (js_set 3 nd (je_new (jn_disp (jps_cons (je_var 1) (je_neg je_int) jps_nil))))
      (jss_cons (js_for [] (fun _ => PassesOwn.never) rfl (ji_seq (je_op jo_add (je_frz (jn_lstRg2 rfl (by rfl) g_list (by rfl) g_range (je_var 2) (je_callB jc_len (by rfl) g_len B_len (ja_cons (je_ix hr.hu (je_var 0) je_int) ja_nil)))) (je_frz (jn_lstRg1 rfl (by rfl) g_list (by rfl) g_range (je_var 2))))) (jg_name 4 nd)
      (jss_one (js_for [] (fun _ => PassesOwn.never) rfl (ji_seq (JR.je (JR.mk fun hK => jr_call Cc_results_of hr takes0 (by rfl) (ja_cons (je_var 0) (ja_cons (je_var 4) (ja_cons (je_var 1) ja_nil))) hK))) (jg_name 5 nd)
      (jss_one (js_if (jt_cmp (jo_notIn hr.hu) (je_var 5) (je_var 3))
      (jss_one (js_dput (fun _ => hr.hu) (je_var 3) (je_var 5) (je_var 4)))
      jss_nil)))))
      (jss_one (js_ret (je_new (jn_items 3 rfl nd [("step", 5), ("k", 4)] (by rfl) (by decide) (fun _ _ _ _ _ => (jg_tup rfl (jgs_cons (jg_name 5 nd) (jgs_cons (jg_name 4 nd) jgs_nil)) (n := 2))) (fun _ _ _ _ _ => (jts_one (jt_cmp (jo_ne hr.hu) (je_var 5) (je_var 1)))) (fun _ _ _ _ _ => (je_tup (ja_cons (je_var 4) (ja_cons (je_var 5) ja_nil))))))))))
/-! ### plain_steps -/
abbrev N_plain_steps : List Str := ["book", "x", "k", "step"]
abbrev P_plain_steps : List Str := ["book", "x"]
def b_plain_steps : XS :=
  (xRet (xCallB oTuple (xCons (xFz (xnLc (xSq (xCall [false, false, false] f_steps_from arr0 3 0 (xCons (xVar 0) (xCons (xVar 1) (xCons (xC (.int 0)) xNil))) xNil)) (xgTup 2 (xgCons (xgN 2) (xgCons (xgN 3) xgNil))) xYes (xVar 3) [2, 3])) xNil)))
def f_plain_steps : GX := runF0 4 [false, false] b_plain_steps
theorem sc_plain_steps : FnScope N_plain_steps P_plain_steps (defScope s_plain_steps) := C8.fnScope_by (by decide +kernel)
theorem dv_plain_steps {P : Program} {w : World} {K : PySem.W.Frag} {mg : Str → Option Value} {base : Heap} {k : Nat} {qual : Str} {f : Addr} (g_tuple : mg "tuple" = none)
    (Cc_steps_from : CalX P w K mg base k "steps_from" 3 [] [false, false, false] f_steps_from arr0)
    (cdv : Value) (A : Around) (outer : List Env) (s : Shared) (H : Hp) (E : XK) (hr : RoomG k (A.deeper (envOfC qual (defScope s_plain_steps) s.heap.objs.size f cdv))) :
    JSs K W0 (cxOf (L2.CX P w) P w K mg base N_plain_steps qual (defScope s_plain_steps) f cdv A outer s H E).nox (defBody s_plain_steps) b_plain_steps :=
  have nd := (sc_plain_steps).nd
  (jss_one (js_ret (je_callTy jc_tuple (by rfl) g_tuple B_tuple (ja_cons (je_frz (JNC.jn (jnc_lc rfl nd (ji_seq (JR.je (JR.mk fun hK => jr_call Cc_steps_from hr takes0 (by rfl) (ja_cons (je_var 0) (ja_cons (je_var 1) (ja_cons je_int ja_nil))) hK))) [("k", 2), ("step", 3)] (by rfl) (by decide) (fun _ _ _ _ _ => (jg_tup rfl (jgs_cons (jg_name 2 nd) (jgs_cons (jg_name 3 nd) jgs_nil)) (n := 2))) (fun _ _ _ _ _ => jts_nil) (fun _ _ _ _ _ => (je_var 3))))) ja_nil))))
/-! ### steps_of -/
abbrev N_steps_of : List Str := ["book", "x"]
abbrev P_steps_of : List Str := ["book", "x"]
def b_steps_of : XS :=
  (xSeq (xDrop (xCall [false, false, false] f_want_thing arr0 3 0 (xCons (xVar 0) (xCons (xC (.str (T "x"))) (xCons (xVar 1) xNil))) xNil))
  (xRet (xCall [false, false] f_plain_steps arr0 2 0 (xCons (xVar 0) (xCons (xVar 1) xNil)) xNil)))
def f_steps_of : GX := runF0 2 [false, false] b_steps_of
theorem sc_steps_of : FnScope N_steps_of P_steps_of (defScope s_steps_of) := C8.fnScope_by (by decide +kernel)
theorem dv_steps_of {P : Program} {w : World} {K : PySem.W.Frag} {mg : Str → Option Value} {base : Heap} {k : Nat} {qual : Str} {f : Addr}
    (Cc_plain_steps : CalX P w K mg base k "plain_steps" 2 [] [false, false] f_plain_steps arr0)
    (Cc_want_thing : CalX P w K mg base k "want_thing" 3 [] [false, false, false] f_want_thing arr0)
    (cdv : Value) (A : Around) (outer : List Env) (s : Shared) (H : Hp) (E : XK) (hr : RoomG k (A.deeper (envOfC qual (defScope s_steps_of) s.heap.objs.size f cdv))) :
    JSs K W0 (cxOf (L2.CX P w) P w K mg base N_steps_of qual (defScope s_steps_of) f cdv A outer s H E).nox (defBody s_steps_of) b_steps_of :=
  have nd := (sc_steps_of).nd
  (jss_cons (js_expr (JR.je (JR.mk fun hK => jr_call Cc_want_thing hr takes0 (by rfl) (ja_cons (je_var 0) (ja_cons (je_str "x") (ja_cons (je_var 1) ja_nil))) hK)))
      (jss_one (js_ret (JR.je (JR.mk fun hK => jr_call Cc_plain_steps hr takes0 (by rfl) (ja_cons (je_var 0) (ja_cons (je_var 1) ja_nil)) hK)))))
/-! ### rule_steps -/
abbrev N_rule_steps : List Str := ["book", "k", "x", "found", "step"]
abbrev P_rule_steps : List Str := ["book", "k", "x"]
def b_rule_steps : XS :=
  (xSeq (xDrop (xCall [false, false, false] f_want (arrS [.ps 0, .ps 1, .df 0] [.int (-1)]) 2 0 (xCons (xAndV (xCall [false] f_is_number arr0 1 0 (xCons (xVar 1) xNil) xNil) (xOp oLt (xVar 1) (xCallB oLen (xCons (xOp oIx (xVar 0) (xC (.int 1))) xNil)))) (xCons (xC (.str (T "k"))) xNil)) xNil))
  (xSeq (xDrop (xCall [false, false, false] f_want_thing arr0 3 0 (xCons (xVar 0) (xCons (xC (.str (T "x"))) (xCons (xVar 2) xNil))) xNil))
  (xSeq (xSet 3 (xFz (xnDc (xSq (xCall [false, false, false] f_results_of arr0 3 0 (xCons (xVar 0) (xCons (xVar 1) (xCons (xVar 2) xNil))) xNil)) (xgN 4) (xB (xOp oNe (xVar 4) (xVar 2))) (xVar 4) (xC (.bl true)) [4])))
  (xRet (xCallB oTuple (xCons (xCallB oList (xCons (xVar 3) xNil)) xNil))))))
def f_rule_steps : GX := runF0 5 [false, false, false] b_rule_steps
theorem sc_rule_steps : FnScope N_rule_steps P_rule_steps (defScope s_rule_steps) := C8.fnScope_by (by decide +kernel)
theorem dv_rule_steps {P : Program} {w : World} {K : PySem.W.Frag} {mg : Str → Option Value} {base : Heap} {k : Nat} {qual : Str} {f : Addr} (g_len : mg "len" = none) (g_list : mg "list" = none) (g_tuple : mg "tuple" = none)
    (Cc_is_number : CalX P w K mg base k "is_number" 1 [] [false] f_is_number arr0)
    (Cc_results_of : CalX P w K mg base k "results_of" 3 [] [false, false, false] f_results_of arr0)
    (Cc_want_2 : CalX P w K mg base k "want" 2 [] [false, false, false] f_want (arrS [.ps 0, .ps 1, .df 0] [.int (-1)]))
    (Cc_want_thing : CalX P w K mg base k "want_thing" 3 [] [false, false, false] f_want_thing arr0)
    (cdv : Value) (A : Around) (outer : List Env) (s : Shared) (H : Hp) (E : XK) (hr : RoomG k (A.deeper (envOfC qual (defScope s_rule_steps) s.heap.objs.size f cdv))) :
    JSs K W0 (cxOf (L2.CX P w) P w K mg base N_rule_steps qual (defScope s_rule_steps) f cdv A outer s H E).nox (defBody s_rule_steps) b_rule_steps :=
  have nd := (sc_rule_steps).nd
  (jss_cons (js_expr (JR.je (JR.mk fun hK => jr_call Cc_want_2 hr takes0 (by rfl) (ja_cons (je_and (JR.je (JR.mk fun hK => jr_call Cc_is_number hr takes0 (by rfl) (ja_cons (je_var 1) ja_nil) hK)) (je_one (je_cmp jo_lt (je_var 1) (je_callB jc_len (by rfl) g_len B_len (ja_cons (je_ix hr.hu (je_var 0) je_int) ja_nil))))) (ja_cons (je_str "k") ja_nil)) hK)))
      (jss_cons (js_expr (JR.je (JR.mk fun hK => jr_call Cc_want_thing hr takes0 (by rfl) (ja_cons (je_var 0) (ja_cons (je_str "x") (ja_cons (je_var 2) ja_nil))) hK)))
      (jss_cons (js_setCs 3 (jnc_dc rfl nd (ji_seq (JR.je (JR.mk fun hK => jr_call Cc_results_of hr takes0 (by rfl) (ja_cons (je_var 0) (ja_cons (je_var 1) (ja_cons (je_var 2) ja_nil))) hK))) [("step", 4)] (by rfl) (by decide) (fun _ _ _ _ _ => (jg_name 4 nd)) (fun _ _ _ _ _ => (jts_one (jt_cmp (jo_ne hr.hu) (je_var 4) (je_var 2)))) (fun _ _ _ _ _ => (je_var 4)) (fun _ _ _ _ _ => je_bl)) (sw_trueD rfl rfl (by decide +kernel) (by decide +kernel)))
      (jss_one (js_ret (je_callTy jc_tuple (by rfl) g_tuple B_tuple (ja_cons (je_callTy (jc_list rfl) (by rfl) g_list B_list (ja_cons (je_var 3) ja_nil)) ja_nil)))))))
/-! ### L_spring -/
abbrev N_L_spring : List Str := ["_law_script"]
abbrev P_L_spring : List Str := ["_law_script"]
def b_L_spring : XS :=
  (xRet (xNew (xnDisp [((xC (.str (T "cells"))), (xCallB oList (xCons (xSl (xVar 0) xoN (xoS (xC (.int 60)))) xNil))), ((xC (.str (T "place"))), (xC (.int 0))), ((xC (.str (T "rest"))), (xC (.int 0))), ((xC (.str (T "count"))), (xC (.int 0)))])))
def f_L_spring : GX := runF0 1 [false] b_L_spring
theorem sc_L_spring : FnScope N_L_spring P_L_spring (defScope s_L_spring) := C8.fnScope_by (by decide +kernel)
theorem dv_L_spring {P : Program} {w : World} {K : PySem.W.Frag} {mg : Str → Option Value} {base : Heap} {k : Nat} {qual : Str} {f : Addr} (g_list : mg "list" = none)
    (cdv : Value) (A : Around) (outer : List Env) (s : Shared) (H : Hp) (E : XK) (hr : RoomG k (A.deeper (envOfC qual (defScope s_L_spring) s.heap.objs.size f cdv))) :
    JSs K W0 (cxOf (L2.CX P w) P w K mg base N_L_spring qual (defScope s_L_spring) f cdv A outer s H E).nox (defBody s_L_spring) b_L_spring :=
  have nd := (sc_L_spring).nd
  (jss_one (js_ret (je_new (jn_disp (jps_cons (je_str "cells") (je_callTy (jc_list rfl) (by rfl) g_list B_list (ja_cons (je_sl (je_var 0) jo_none (jo_some je_int)) ja_nil)) (jps_cons (je_str "place") je_int (jps_cons (je_str "rest") je_int (jps_cons (je_str "count") je_int jps_nil))))))))
/-! ### L_dip -/
abbrev N_L_dip : List Str := ["_law_spring_here", "_law_many", "_law_count", "_law_figure", "_law_turn", "_law_cell", "_law_mixed"]
abbrev P_L_dip : List Str := ["_law_spring_here", "_law_many"]
def b_L_dip : XS :=
  (xSeq (xSet 2 (xOp oAdd (xIxo (xVar 0) (xC (.str (T "count")))) (xC (.int 1))))
  (xSeq (xDput (xVar 0) (xC (.str (T "count"))) (xVar 2))
  (xSeq (xIfS (xB (xOp oGt (xIxo (xVar 0) (xC (.str (T "rest")))) (xC (.int 0))))
  (xSeq (xSet 3 (xOp oMod (xCallB oInt (xCons (xIxo (xVar 0) (xC (.str (T "rest")))) xNil)) (xVar 1)))
  (xSeq (xDput (xVar 0) (xC (.str (T "rest"))) (xOp oFdiv (xIxo (xVar 0) (xC (.str (T "rest")))) (xVar 1)))
  (xRet (xVar 3))))
  xNext)
  (xSeq (xSet 4 (xIxo (xVar 0) (xC (.str (T "place")))))
  (xSeq (xDput (xVar 0) (xC (.str (T "place"))) (xOp oAdd (xVar 4) (xC (.int 1))))
  (xSeq (xSet 5 (xC (.int 86318)))
  (xSeq (xIfS (xB (xOp oNe (xIxo (xVar 0) (xC (.str (T "cells")))) (xLst xNil)))
  (xSet 5 (xOp oIx (xIxo (xVar 0) (xC (.str (T "cells")))) (xOp oMod (xCallB oInt (xCons (xVar 4) xNil)) (xCallB oLen (xCons (xIxo (xVar 0) (xC (.str (T "cells")))) xNil)))))
  xNext)
  (xSeq (xIfS (xAnd (xB (xOp oGe (xVar 5) (xOp oPow (xC (.int 10)) (xC (.int 18))))) (xB (xOp oLt (xVar 4) (xCallB oLen (xCons (xIxo (xVar 0) (xC (.str (T "cells")))) xNil)))))
  (xSeq (xDput (xVar 0) (xC (.str (T "rest"))) (xOp oFdiv (xVar 5) (xVar 1)))
  (xRet (xOp oMod (xCallB oInt (xCons (xVar 5) xNil)) (xVar 1))))
  xNext)
  (xSeq (xSet 6 (xOp oMod (xCallB oInt (xCons (xOp oPow (xOp oAdd (xOp oAdd (xOp oMod (xCallB oInt (xCons (xVar 5) xNil)) (xC (.int 2147483353))) (xOp oMul (xC (.int 6011)) (xVar 2))) (xC (.int 223))) (xC (.int 3))) xNil)) (xC (.int 2147483647))))
  (xSeq (xSet 6 (xOp oMod (xCallB oInt (xCons (xOp oPow (xOp oAdd (xVar 6) (xOp oMul (xC (.int 40013)) (xVar 2))) (xC (.int 5))) xNil)) (xC (.int 2147483587))))
  (xRet (xOp oMod (xCallB oInt (xCons (xOp oFdiv (xVar 6) (xC (.int 128))) xNil)) (xVar 1)))))))))))))
def r_L_dip : GX := runF0 7 [true, false] b_L_dip
def f_L_dip : GX := drawX
theorem sc_L_dip : FnScope N_L_dip P_L_dip (defScope s_L_dip) := C8.fnScope_by (by decide +kernel)
theorem dv_L_dip {P : Program} {w : World} {K : PySem.W.Frag} {mg : Str → Option Value} {base : Heap} {k : Nat} {qual : Str} {f : Addr} (g_int : mg "int" = none) (g_len : mg "len" = none)
    (cdv : Value) (A : Around) (outer : List Env) (s : Shared) (H : Hp) (E : XK) (hr : RoomG k (A.deeper (envOfC qual (defScope s_L_dip) s.heap.objs.size f cdv))) :
    JSs K W0 (cxOf (L2.CX P w) P w K mg base N_L_dip qual (defScope s_L_dip) f cdv A outer s H E).nox (defBody s_L_dip) b_L_dip :=
  have nd := (sc_L_dip).nd
  (jss_cons (js_set 2 nd (je_op jo_add (je_ixo hr.hu (je_var 0) (je_str "count")) je_int))
      (jss_cons (js_dput (fun _ => hr.hu) (je_var 0) (je_str "count") (je_var 2))
      (jss_cons (js_if (jt_cmp jo_gt (je_ixo hr.hu (je_var 0) (je_str "rest")) je_int)
      (jss_cons (js_set 3 nd (je_op jo_mod (je_callTy jc_int (by rfl) g_int B_int (ja_cons (je_ixo hr.hu (je_var 0) (je_str "rest")) ja_nil)) (je_var 1)))
      (jss_cons (js_dput (fun _ => hr.hu) (je_var 0) (je_str "rest") (je_op jo_fdiv (je_ixo hr.hu (je_var 0) (je_str "rest")) (je_var 1)))
      (jss_one (js_ret (je_var 3)))))
      jss_nil)
      (jss_cons (js_set 4 nd (je_ixo hr.hu (je_var 0) (je_str "place")))
      (jss_cons (js_dput (fun _ => hr.hu) (je_var 0) (je_str "place") (je_op jo_add (je_var 4) je_int))
      (jss_cons (js_set 5 nd je_int)
      (jss_cons (js_if (jt_cmp (jo_ne hr.hu) (je_ixo hr.hu (je_var 0) (je_str "cells")) (je_lst ja_nil))
      (jss_one (js_set 5 nd (je_ix hr.hu (je_ixo hr.hu (je_var 0) (je_str "cells")) (je_op jo_mod (je_callTy jc_int (by rfl) g_int B_int (ja_cons (je_var 4) ja_nil)) (je_callB jc_len (by rfl) g_len B_len (ja_cons (je_ixo hr.hu (je_var 0) (je_str "cells")) ja_nil))))))
      jss_nil)
      (jss_cons (js_if (JW.jt (jw_and (jt_cmp jo_ge (je_var 5) (je_op jo_pow je_int je_int)) (jw_and1 (jt_cmp jo_lt (je_var 4) (je_callB jc_len (by rfl) g_len B_len (ja_cons (je_ixo hr.hu (je_var 0) (je_str "cells")) ja_nil))))))
      (jss_cons (js_dput (fun _ => hr.hu) (je_var 0) (je_str "rest") (je_op jo_fdiv (je_var 5) (je_var 1)))
      (jss_one (js_ret (je_op jo_mod (je_callTy jc_int (by rfl) g_int B_int (ja_cons (je_var 5) ja_nil)) (je_var 1)))))
      jss_nil)
      (jss_cons (js_set 6 nd (je_op jo_mod (je_callTy jc_int (by rfl) g_int B_int (ja_cons (je_op jo_pow (je_op jo_add (je_op jo_add (je_op jo_mod (je_callTy jc_int (by rfl) g_int B_int (ja_cons (je_var 5) ja_nil)) je_int) (je_op jo_mul je_int (je_var 2))) je_int) je_int) ja_nil)) je_int))
      (jss_cons (js_set 6 nd (je_op jo_mod (je_callTy jc_int (by rfl) g_int B_int (ja_cons (je_op jo_pow (je_op jo_add (je_var 6) (je_op jo_mul je_int (je_var 2))) je_int) ja_nil)) je_int))
      (jss_one (js_ret (je_op jo_mod (je_callTy jc_int (by rfl) g_int B_int (ja_cons (je_op jo_fdiv (je_var 6) je_int) ja_nil)) (je_var 1))))))))))))))
/-! ### L_pick -/
abbrev N_L_pick : List Str := ["_law_spring_here", "_law_items"]
abbrev P_L_pick : List Str := ["_law_spring_here", "_law_items"]
def b_L_pick : XS :=
  (xRet (xOp oIx (xVar 1) (xCall [true, false] f_L_dip arr0 2 0 (xCons (xVar 0) (xCons (xCallB oLen (xCons (xVar 1) xNil)) xNil)) xNil)))
def f_L_pick : GX := runF0 2 [true, false] b_L_pick
theorem sc_L_pick : FnScope N_L_pick P_L_pick (defScope s_L_pick) := C8.fnScope_by (by decide +kernel)
theorem dv_L_pick {P : Program} {w : World} {K : PySem.W.Frag} {mg : Str → Option Value} {base : Heap} {k : Nat} {qual : Str} {f : Addr} (g_len : mg "len" = none)
    (Cc_L_dip : CalX P w K mg base k "_law_dip" 2 [] [true, false] f_L_dip arr0)
    (cdv : Value) (A : Around) (outer : List Env) (s : Shared) (H : Hp) (E : XK) (hr : RoomG k (A.deeper (envOfC qual (defScope s_L_pick) s.heap.objs.size f cdv))) :
    JSs K W0 (cxOf (L2.CX P w) P w K mg base N_L_pick qual (defScope s_L_pick) f cdv A outer s H E).nox (defBody s_L_pick) b_L_pick :=
  have nd := (sc_L_pick).nd
  (jss_one (js_ret (je_ix hr.hu (je_var 1) (JR.je (JR.mk fun hK => jr_call Cc_L_dip hr takes0 (by rfl) (ja_cons (je_var 0) (ja_cons (je_callB jc_len (by rfl) g_len B_len (ja_cons (je_var 1) ja_nil)) ja_nil)) hK)))))
/-! ### L_rule -/
abbrev N_L_rule : List Str := ["_law_sign", "_law_names_here", "_law_side", "_law_one"]
abbrev P_L_rule : List Str := ["_law_sign", "_law_names_here"]
def b_L_rule : XS :=
  (xSeq (xSet 2 (xIf (xB (xOp oEq (xOp oIx (xVar 0) (xUn oNeg (xC (.int 1)))) (xC (.str (T "l"))))) (xC (.str (T "left"))) (xC (.str (T "right")))))
  (xSeq (xIfS (xB (xOp oEq (xOp oIx (xVar 0) (xC (.int 0))) (xC (.str (T "d")))))
  (xRet (xTup (xCons (xC (.str (T "drop"))) (xCons (xCallB oInt (xCons (xOp oIx (xVar 0) (xC (.int 1))) xNil)) (xCons (xVar 2) xNil)))))
  xNext)
  (xSeq (xIfS (xB (xOp oEq (xOp oIx (xVar 0) (xC (.int 0))) (xC (.str (T "p")))))
  (xRet (xTup (xCons (xC (.str (T "put"))) (xCons (xOp oIx (xVar 1) (xOp oIx (xVar 0) (xC (.int 1)))) (xCons (xMeth oJoin (xC (.str (T ""))) (xFz (xnLc (xSq (xSl (xVar 0) (xoS (xC (.int 3))) (xoS (xUn oNeg (xC (.int 2)))))) (xgN 3) xYes (xOp oIx (xVar 1) (xVar 3)) [3]))) (xCons (xVar 2) xNil))))))
  xNext)
  (xSeq (xIfS (xB (xOp oEq (xVar 0) (xC (.str (T "e")))))
  (xRet (xTup (xCons (xC (.str (T "empty"))) xNil)))
  xNext)
  (xRet (xTup (xCons (xIf (xB (xOp oEq (xOp oIx (xVar 0) (xC (.int 0))) (xC (.str (T "h"))))) (xC (.str (T "half"))) (xC (.str (T "lower")))) (xCons (xVar 2) xNil))))))))
def f_L_rule : GX := runF0 4 [false, false] b_L_rule
theorem sc_L_rule : FnScope N_L_rule P_L_rule (defScope s_L_rule) := C8.fnScope_by (by decide +kernel)
theorem dv_L_rule {P : Program} {w : World} {K : PySem.W.Frag} {mg : Str → Option Value} {base : Heap} {k : Nat} {qual : Str} {f : Addr} (g_int : mg "int" = none)
    (cdv : Value) (A : Around) (outer : List Env) (s : Shared) (H : Hp) (E : XK) (hr : RoomG k (A.deeper (envOfC qual (defScope s_L_rule) s.heap.objs.size f cdv))) :
    JSs K W0 (cxOf (L2.CX P w) P w K mg base N_L_rule qual (defScope s_L_rule) f cdv A outer s H E).nox (defBody s_L_rule) b_L_rule :=
  have nd := (sc_L_rule).nd
  (jss_cons (js_set 2 nd (je_if (jt_cmp (jo_eq hr.hu) (je_ix hr.hu (je_var 0) (je_neg je_int)) (je_str "l")) (je_str "left") (je_str "right")))
      (jss_cons (js_if (jt_cmp (jo_eq hr.hu) (je_ix hr.hu (je_var 0) je_int) (je_str "d"))
      (jss_one (js_ret (je_tup (ja_cons (je_str "drop") (ja_cons (je_callTy jc_int (by rfl) g_int B_int (ja_cons (je_ix hr.hu (je_var 0) je_int) ja_nil)) (ja_cons (je_var 2) ja_nil))))))
      jss_nil)
      (jss_cons (js_if (jt_cmp (jo_eq hr.hu) (je_ix hr.hu (je_var 0) je_int) (je_str "p"))
      (jss_one (js_ret (je_tup (ja_cons (je_str "put") (ja_cons (je_ix hr.hu (je_var 1) (je_ix hr.hu (je_var 0) je_int)) (ja_cons (je_join (je_str "") (je_frz (JNC.jn (jnc_lc rfl nd (ji_seq (je_sl (je_var 0) (jo_some je_int) (jo_some (je_neg je_int)))) [("_law_one", 3)] (by rfl) (by decide) (fun _ _ _ _ _ => (jg_name 3 nd)) (fun _ _ _ _ _ => jts_nil) (fun _ _ _ _ _ => (je_ix hr.hu (je_var 1) (je_var 3))))))) (ja_cons (je_var 2) ja_nil)))))))
      jss_nil)
      (jss_cons (js_if (jt_cmp (jo_eq hr.hu) (je_var 0) (je_str "e"))
      (jss_one (js_ret (je_tup (ja_cons (je_str "empty") ja_nil))))
      jss_nil)
      (jss_one (js_ret (je_tup (ja_cons (je_if (jt_cmp (jo_eq hr.hu) (je_ix hr.hu (je_var 0) je_int) (je_str "h")) (je_str "half") (je_str "lower")) (ja_cons (je_var 2) ja_nil)))))))))
/-! ### L_read -/
abbrev N_L_read : List Str := ["_law_text", "_law_names_here", "_law_first", "_law_last", "_law_entries", "_law_word", "_law_one", "_law_sign"]
abbrev P_L_read : List Str := ["_law_text", "_law_names_here"]
def b_L_read_0 : XS :=
  (xDrop (xMut oApp (xVar 4) (xCons (xTup (xCons (xOp oIx (xVar 1) (xOp oIx (xVar 5) (xC (.int 0)))) (xCons (xCallB oTuple (xCons (xCallB oSorted (xCons (xFz (xnLc (xSq (xSl (xVar 5) (xoS (xC (.int 2))) xoN)) (xgN 6) xYes (xOp oIx (xVar 1) (xVar 6)) [6])) xNil)) xNil)) xNil))) xNil)))
def b_L_read : XS :=
  (xSeq (xAsg (xMeth oSplit (xVar 0) (xC (.str (T ";")))) (xgLst 2 (xgCons (xgN 2) (xgCons (xgN 3) xgNil))))
  (xSeq (xSet 4 (xNew (xnLst xNil)))
  (xSeq (xFor (xSq (xIf (xB (xOp oNe (xVar 2) (xC (.str (T ""))))) (xMeth oSplit (xVar 2) (xC (.str (T " ")))) (xLst xNil))) (xgN 5) b_L_read_0 [5, 6])
  (xFrz 4 (xRet (xTup (xCons (xCallB oTuple (xCons (xCallB oSorted (xCons (xVar 4) xNil)) xNil)) (xCons (xCallB oTuple (xCons (xIf (xB (xOp oNe (xVar 3) (xC (.str (T ""))))) (xFz (xnLc (xSq (xMeth oSplit (xVar 3) (xC (.str (T " "))))) (xgN 7) xYes (xCall [false, false] f_L_rule arr0 2 0 (xCons (xVar 7) (xCons (xVar 1) xNil)) xNil) [7])) (xLst xNil)) xNil)) xNil))))))))
def f_L_read : GX := runF0 8 [false, false] b_L_read
theorem sc_L_read : FnScope N_L_read P_L_read (defScope s_L_read) := C8.fnScope_by (by decide +kernel)
theorem dv_L_read {P : Program} {w : World} {K : PySem.W.Frag} {mg : Str → Option Value} {base : Heap} {k : Nat} {qual : Str} {f : Addr} (g_sorted : mg "sorted" = none) (g_tuple : mg "tuple" = none)
    (Cc_L_rule : CalX P w K mg base k "_law_rule" 2 [] [false, false] f_L_rule arr0)
    (cdv : Value) (A : Around) (outer : List Env) (s : Shared) (H : Hp) (E : XK) (hr : RoomG k (A.deeper (envOfC qual (defScope s_L_read) s.heap.objs.size f cdv))) :
    JSs K W0 (cxOf (L2.CX P w) P w K mg base N_L_read qual (defScope s_L_read) f cdv A outer s H E).nox (defBody s_L_read) b_L_read :=
  have nd := (sc_L_read).nd
  (jss_cons (js_asg (je_split (je_var 0) (je_str ";")) (jg_lst rfl (jgs_cons (jg_name 2 nd) (jgs_cons (jg_name 3 nd) jgs_nil)) (n := 2)))
      (jss_cons (js_set 4 nd (je_new (jn_lst ja_nil)))
      (jss_cons (js_for [5, 6] (fun _ => PassesOwn.never) rfl (ji_seq (je_if (jt_cmp (jo_ne hr.hu) (je_var 2) (je_str "")) (je_split (je_var 2) (je_str " ")) (je_lst ja_nil))) (jg_name 5 nd)
      (jss_one (js_expr (je_mut PySem.F.slot_list_append PySem.F.type_list_append (fun _ => jm_app) (je_var 4) (ja_cons (je_tup (ja_cons (je_ix hr.hu (je_var 1) (je_ix hr.hu (je_var 5) je_int)) (ja_cons (je_callTy jc_tuple (by rfl) g_tuple B_tuple (ja_cons (je_callBK (fun hK => jc_sorted (fun _ => hr.hu) hK) (by rfl) g_sorted B_sorted (ja_cons (je_frz (JNC.jn (jnc_lc rfl nd (ji_seq (je_sl (je_var 5) (jo_some je_int) jo_none)) [("_law_one", 6)] (by rfl) (by decide) (fun _ _ _ _ _ => (jg_name 6 nd)) (fun _ _ _ _ _ => jts_nil) (fun _ _ _ _ _ => (je_ix hr.hu (je_var 1) (je_var 6)))))) ja_nil)) ja_nil)) ja_nil))) ja_nil)))))
      (jss_frz 4 (jss_one (js_ret (je_tup (ja_cons (je_callTy jc_tuple (by rfl) g_tuple B_tuple (ja_cons (je_callBK (fun hK => jc_sorted (fun _ => hr.hu) hK) (by rfl) g_sorted B_sorted (ja_cons (je_var 4) ja_nil)) ja_nil)) (ja_cons (je_callTy jc_tuple (by rfl) g_tuple B_tuple (ja_cons (je_if (jt_cmp (jo_ne hr.hu) (je_var 3) (je_str "")) (je_frz (JNC.jn (jnc_lc rfl nd (ji_seq (je_split (je_var 3) (je_str " "))) [("_law_sign", 7)] (by rfl) (by decide) (fun _ _ _ _ _ => (jg_name 7 nd)) (fun _ _ _ _ _ => jts_nil) (fun _ _ _ _ _ => (JR.je (JR.mk fun hK => jr_call Cc_L_rule hr takes0 (by rfl) (ja_cons (je_var 7) (ja_cons (je_var 1) ja_nil)) hK)))))) (je_lst ja_nil)) ja_nil)) ja_nil)))))))))
/-! ### L_names -/
abbrev N_L_names : List Str := ["_law_spring_here", "_law_tables", "_law_table"]
abbrev P_L_names : List Str := ["_law_spring_here"]
def b_L_names : XS :=
  (xSeq (xSet 1 (xLst (xCons (xC (.str (T "abcd"))) (xCons (xC (.str (T "bxyz"))) (xCons (xC (.str (T "pqrs"))) (xCons (xC (.str (T "dacb"))) (xCons (xC (.str (T "zyxw"))) xNil)))))))
  (xSeq (xSet 2 (xCall [true, false] f_L_pick arr0 2 0 (xCons (xVar 0) (xCons (xVar 1) xNil)) xNil))
  (xRet (xNew (xnDisp [((xC (.str (T "a"))), (xOp oIx (xVar 2) (xC (.int 0)))), ((xC (.str (T "b"))), (xOp oIx (xVar 2) (xC (.int 1)))), ((xC (.str (T "c"))), (xOp oIx (xVar 2) (xC (.int 2)))), ((xC (.str (T "d"))), (xOp oIx (xVar 2) (xC (.int 3))))])))))
def f_L_names : GX := runF0 3 [true] b_L_names
theorem sc_L_names : FnScope N_L_names P_L_names (defScope s_L_names) := C8.fnScope_by (by decide +kernel)
theorem dv_L_names {P : Program} {w : World} {K : PySem.W.Frag} {mg : Str → Option Value} {base : Heap} {k : Nat} {qual : Str} {f : Addr}
    (Cc_L_pick : CalX P w K mg base k "_law_pick" 2 [] [true, false] f_L_pick arr0)
    (cdv : Value) (A : Around) (outer : List Env) (s : Shared) (H : Hp) (E : XK) (hr : RoomG k (A.deeper (envOfC qual (defScope s_L_names) s.heap.objs.size f cdv))) :
    JSs K W0 (cxOf (L2.CX P w) P w K mg base N_L_names qual (defScope s_L_names) f cdv A outer s H E).nox (defBody s_L_names) b_L_names :=
  have nd := (sc_L_names).nd
  (jss_cons (js_set 1 nd (je_lst (ja_cons (je_str "abcd") (ja_cons (je_str "bxyz") (ja_cons (je_str "pqrs") (ja_cons (je_str "dacb") (ja_cons (je_str "zyxw") ja_nil)))))))
      (jss_cons (js_set 2 nd (JR.je (JR.mk fun hK => jr_call Cc_L_pick hr takes0 (by rfl) (ja_cons (je_var 0) (ja_cons (je_var 1) ja_nil)) hK)))
      (jss_one (js_ret (je_new (jn_disp (jps_cons (je_str "a") (je_ix hr.hu (je_var 2) je_int) (jps_cons (je_str "b") (je_ix hr.hu (je_var 2) je_int) (jps_cons (je_str "c") (je_ix hr.hu (je_var 2) je_int) (jps_cons (je_str "d") (je_ix hr.hu (je_var 2) je_int) jps_nil))))))))))
/-! ### L_drawn -/
abbrev N_L_drawn : List Str := ["_law_spring_here", "_law_menu_here", "_law_first", "_law_last", "_law_lap", "_law_sign", "_law_one"]
abbrev P_L_drawn : List Str := ["_law_spring_here", "_law_menu_here"]
def b_L_drawn_0 : XS :=
  (xSeq (xSet 5 (xCall [true, false] f_L_pick arr0 2 0 (xCons (xVar 0) (xCons (xVar 1) xNil)) xNil))
  (xIfS (xOr (xB (xOp oNe (xOp oIx (xVar 5) (xC (.int 0))) (xC (.str (T "p"))))) (xB (xOp oEq (xFz (xnLc (xSq (xOp oAdd (xOp oIx (xVar 5) (xC (.int 1))) (xSl (xVar 5) (xoS (xC (.int 3))) (xoS (xUn oNeg (xC (.int 2))))))) (xgN 6) (xB (xOp oNotIn (xVar 6) (xVar 2))) (xVar 6) [6])) (xLst xNil))))
  (xDrop (xMut oApp (xVar 3) (xCons (xVar 5) xNil)))
  xNext))
def b_L_drawn : XS :=
  (xSeq (xSet 2 (xCall [true, false] f_L_pick arr0 2 0 (xCons (xVar 0) (xCons (xLst (xCons (xC (.str (T "a b>a c"))) (xCons (xC (.str (T "a b"))) (xCons (xC (.str (T "a b>a"))) (xCons (xC (.str (T "a b>a c>ab"))) (xCons (xC (.str (T "a b c"))) (xCons (xC (.str (T "a"))) (xCons (xC (.str (T "a b>a c>b d>a"))) xNil)))))))) xNil)) xNil))
  (xSeq (xSet 3 (xNew (xnLst xNil)))
  (xSeq (xFor (xAI oRng1 (xCons (xOp oAdd (xC (.int 1)) (xCall [true, false] f_L_dip arr0 2 0 (xCons (xVar 0) (xCons (xCall [true, false] f_L_pick arr0 2 0 (xCons (xVar 0) (xCons (xLst (xCons (xC (.int 3)) (xCons (xC (.int 4)) (xCons (xC (.int 6)) xNil)))) xNil)) xNil) xNil)) xNil)) xNil)) (xgN 4) b_L_drawn_0 [4, 5, 6])
  (xFrz 3 (xRet (xOp oAdd (xOp oAdd (xVar 2) (xC (.str (T ";")))) (xMeth oJoin (xC (.str (T " "))) (xVar 3))))))))
def f_L_drawn : GX := runF0 7 [true, false] b_L_drawn
theorem sc_L_drawn : FnScope N_L_drawn P_L_drawn (defScope s_L_drawn) := C8.fnScope_by (by decide +kernel)
theorem dv_L_drawn {P : Program} {w : World} {K : PySem.W.Frag} {mg : Str → Option Value} {base : Heap} {k : Nat} {qual : Str} {f : Addr} (g_range : mg "range" = none)
    (Cc_L_dip : CalX P w K mg base k "_law_dip" 2 [] [true, false] f_L_dip arr0)
    (Cc_L_pick : CalX P w K mg base k "_law_pick" 2 [] [true, false] f_L_pick arr0)
    (cdv : Value) (A : Around) (outer : List Env) (s : Shared) (H : Hp) (E : XK) (hr : RoomG k (A.deeper (envOfC qual (defScope s_L_drawn) s.heap.objs.size f cdv))) :
    JSs K W0 (cxOf (L2.CX P w) P w K mg base N_L_drawn qual (defScope s_L_drawn) f cdv A outer s H E).nox (defBody s_L_drawn) b_L_drawn :=
  have nd := (sc_L_drawn).nd
  (jss_cons (js_set 2 nd (JR.je (JR.mk fun hK => jr_call Cc_L_pick hr takes0 (by rfl) (ja_cons (je_var 0) (ja_cons (je_lst (ja_cons (je_str "a b>a c") (ja_cons (je_str "a b") (ja_cons (je_str "a b>a") (ja_cons (je_str "a b>a c>ab") (ja_cons (je_str "a b c") (ja_cons (je_str "a") (ja_cons (je_str "a b>a c>b d>a") ja_nil)))))))) ja_nil)) hK)))
      (jss_cons (js_set 3 nd (je_new (jn_lst ja_nil)))
      (jss_cons (js_for [4, 5, 6] (fun _ => PassesOwn.never) rfl (ji_range1 (by rfl) g_range (ja_cons (je_op jo_add je_int (JR.je (JR.mk fun hK => jr_call Cc_L_dip hr takes0 (by rfl) (ja_cons (je_var 0) (ja_cons (JR.je (JR.mk fun hK => jr_call Cc_L_pick hr takes0 (by rfl) (ja_cons (je_var 0) (ja_cons (je_lst (ja_cons je_int (ja_cons je_int (ja_cons je_int ja_nil)))) ja_nil)) hK)) ja_nil)) hK))) ja_nil)) (jg_name 4 nd)
      (jss_cons (js_set 5 nd (JR.je (JR.mk fun hK => jr_call Cc_L_pick hr takes0 (by rfl) (ja_cons (je_var 0) (ja_cons (je_var 1) ja_nil)) hK)))
      (jss_one (js_if (JW.jt (jw_or (jt_cmp (jo_ne hr.hu) (je_ix hr.hu (je_var 5) je_int) (je_str "p")) (jw_or1 (jt_cmp (jo_eq hr.hu) (je_frz (JNC.jn (jnc_lc rfl nd (ji_seq (je_op jo_add (je_ix hr.hu (je_var 5) je_int) (je_sl (je_var 5) (jo_some je_int) (jo_some (je_neg je_int))))) [("_law_one", 6)] (by rfl) (by decide) (fun _ _ _ _ _ => (jg_name 6 nd)) (fun _ _ _ _ _ => (jts_one (jt_cmp (jo_notIn hr.hu) (je_var 6) (je_var 2)))) (fun _ _ _ _ _ => (je_var 6))))) (je_lst ja_nil)))))
      (jss_one (js_expr (je_mut PySem.F.slot_list_append PySem.F.type_list_append (fun _ => jm_app) (je_var 3) (ja_cons (je_var 5) ja_nil))))
      jss_nil))))
      (jss_frz 3 (jss_one (js_ret (je_op jo_add (je_op jo_add (je_var 2) (je_str ";")) (je_join (je_str " ") (je_var 3)))))))))
/-! ### L_book -/
abbrev N_L_book : List Str := ["_law_spring_here", "_law_scenes_here", "_law_menu_here", "_law_names_here"]
abbrev P_L_book : List Str := ["_law_spring_here", "_law_scenes_here", "_law_menu_here", "_law_names_here"]
def b_L_book : XS :=
  (xRet (xCall [false, false] f_L_read arr0 2 0 (xCons (xIf (xB (xOp oEq (xCall [true, false] f_L_dip arr0 2 0 (xCons (xVar 0) (xCons (xC (.int 2)) xNil)) xNil) (xC (.int 0)))) (xCall [true, false] f_L_drawn arr0 2 0 (xCons (xVar 0) (xCons (xVar 2) xNil)) xNil) (xCall [true, false] f_L_pick arr0 2 0 (xCons (xVar 0) (xCons (xVar 1) xNil)) xNil)) (xCons (xVar 3) xNil)) xNil))
def f_L_book : GX := runF0 4 [true, false, false, false] b_L_book
theorem sc_L_book : FnScope N_L_book P_L_book (defScope s_L_book) := C8.fnScope_by (by decide +kernel)
theorem dv_L_book {P : Program} {w : World} {K : PySem.W.Frag} {mg : Str → Option Value} {base : Heap} {k : Nat} {qual : Str} {f : Addr}
    (Cc_L_dip : CalX P w K mg base k "_law_dip" 2 [] [true, false] f_L_dip arr0)
    (Cc_L_drawn : CalX P w K mg base k "_law_drawn" 2 [] [true, false] f_L_drawn arr0)
    (Cc_L_pick : CalX P w K mg base k "_law_pick" 2 [] [true, false] f_L_pick arr0)
    (Cc_L_read : CalX P w K mg base k "_law_read" 2 [] [false, false] f_L_read arr0)
    (cdv : Value) (A : Around) (outer : List Env) (s : Shared) (H : Hp) (E : XK) (hr : RoomG k (A.deeper (envOfC qual (defScope s_L_book) s.heap.objs.size f cdv))) :
    JSs K W0 (cxOf (L2.CX P w) P w K mg base N_L_book qual (defScope s_L_book) f cdv A outer s H E).nox (defBody s_L_book) b_L_book :=
  have nd := (sc_L_book).nd
  (jss_one (js_ret (JR.je (JR.mk fun hK => jr_call Cc_L_read hr takes0 (by rfl) (ja_cons (je_if (jt_cmp (jo_eq hr.hu) (JR.je (JR.mk fun hK => jr_call Cc_L_dip hr takes0 (by rfl) (ja_cons (je_var 0) (ja_cons je_int ja_nil)) hK)) je_int) (JR.je (JR.mk fun hK => jr_call Cc_L_drawn hr takes0 (by rfl) (ja_cons (je_var 0) (ja_cons (je_var 2) ja_nil)) hK)) (JR.je (JR.mk fun hK => jr_call Cc_L_pick hr takes0 (by rfl) (ja_cons (je_var 0) (ja_cons (je_var 1) ja_nil)) hK))) (ja_cons (je_var 3) ja_nil)) hK))))
/-! ### L_scenes -/
abbrev N_L_scenes : List Str := []
abbrev P_L_scenes : List Str := []
def b_L_scenes : XS :=
  (xRet (xNew (xnLst (xCons (xC (.str (T "a b>a c;d1l ll"))) (xCons (xC (.str (T "a b>a c;d1r ll"))) (xCons (xC (.str (T "a b c;hl d1l"))) (xCons (xC (.str (T "a b>a c;hl pb:a.l"))) (xCons (xC (.str (T "a b c;d1l"))) (xCons (xC (.str (T "a b;e d1l"))) (xCons (xC (.str (T "a b;d2l d1r"))) (xCons (xC (.str (T "a b c;pa:.l pb:.l pc:.r"))) (xCons (xC (.str (T "a b;pa:bb.l d1l"))) (xCons (xC (.str (T "a b>a;lr d1r hl"))) (xCons (xC (.str (T "a b>a c>ab;lr d1l"))) (xCons (xC (.str (T "a b>a c;pc:.l lr d2l"))) (xCons (xC (.str (T "a b c d;hl hr d1l"))) (xCons (xC (.str (T "a b>a;pb:aa.l ll e"))) (xCons (xC (.str (T "a;d3r hl d1l"))) (xCons (xC (.str (T ";"))) (xCons (xC (.str (T "a b>a c;"))) (xCons (xC (.str (T "a b;pa:b.l pa:.r"))) (xCons (xC (.str (T "a b>a c>b;hr lr d1r e"))) xNil))))))))))))))))))))))
def f_L_scenes : GX := runF0 0 [] b_L_scenes
theorem sc_L_scenes : FnScope N_L_scenes P_L_scenes (defScope s_L_scenes) := C8.fnScope_by (by decide +kernel)
theorem dv_L_scenes {P : Program} {w : World} {K : PySem.W.Frag} {mg : Str → Option Value} {base : Heap} {k : Nat} {qual : Str} {f : Addr}
    (cdv : Value) (A : Around) (outer : List Env) (s : Shared) (H : Hp) (E : XK) (hr : RoomG k (A.deeper (envOfC qual (defScope s_L_scenes) s.heap.objs.size f cdv))) :
    JSs K W0 (cxOf (L2.CX P w) P w K mg base N_L_scenes qual (defScope s_L_scenes) f cdv A outer s H E).nox (defBody s_L_scenes) b_L_scenes :=
  have nd := (sc_L_scenes).nd
  (jss_one (js_ret (je_new (jn_lst (ja_cons (je_str "a b>a c;d1l ll") (ja_cons (je_str "a b>a c;d1r ll") (ja_cons (je_str "a b c;hl d1l") (ja_cons (je_str "a b>a c;hl pb:a.l") (ja_cons (je_str "a b c;d1l") (ja_cons (je_str "a b;e d1l") (ja_cons (je_str "a b;d2l d1r") (ja_cons (je_str "a b c;pa:.l pb:.l pc:.r") (ja_cons (je_str "a b;pa:bb.l d1l") (ja_cons (je_str "a b>a;lr d1r hl") (ja_cons (je_str "a b>a c>ab;lr d1l") (ja_cons (je_str "a b>a c;pc:.l lr d2l") (ja_cons (je_str "a b c d;hl hr d1l") (ja_cons (je_str "a b>a;pb:aa.l ll e") (ja_cons (je_str "a;d3r hl d1l") (ja_cons (je_str ";") (ja_cons (je_str "a b>a c;") (ja_cons (je_str "a b;pa:b.l pa:.r") (ja_cons (je_str "a b>a c>b;hr lr d1r e") ja_nil)))))))))))))))))))))))
/-! ### L_menu -/
abbrev N_L_menu : List Str := []
abbrev P_L_menu : List Str := []
def b_L_menu : XS :=
  (xRet (xNew (xnLst (xCons (xC (.str (T "d1l"))) (xCons (xC (.str (T "d1r"))) (xCons (xC (.str (T "d2l"))) (xCons (xC (.str (T "d2r"))) (xCons (xC (.str (T "d3l"))) (xCons (xC (.str (T "d4r"))) (xCons (xC (.str (T "hl"))) (xCons (xC (.str (T "hr"))) (xCons (xC (.str (T "e"))) (xCons (xC (.str (T "ll"))) (xCons (xC (.str (T "lr"))) (xCons (xC (.str (T "pa:.l"))) (xCons (xC (.str (T "pb:.r"))) (xCons (xC (.str (T "pb:a.l"))) (xCons (xC (.str (T "pc:a.r"))) (xCons (xC (.str (T "pc:ab.l"))) (xCons (xC (.str (T "pb:aa.l"))) (xCons (xC (.str (T "pa:b.l"))) (xCons (xC (.str (T "pc:.l"))) (xCons (xC (.str (T "pa:bb.r"))) (xCons (xC (.str (T "pc:abb.l"))) (xCons (xC (.str (T "pb:aaa.r"))) xNil)))))))))))))))))))))))))
def f_L_menu : GX := runF0 0 [] b_L_menu
theorem sc_L_menu : FnScope N_L_menu P_L_menu (defScope s_L_menu) := C8.fnScope_by (by decide +kernel)
theorem dv_L_menu {P : Program} {w : World} {K : PySem.W.Frag} {mg : Str → Option Value} {base : Heap} {k : Nat} {qual : Str} {f : Addr}
    (cdv : Value) (A : Around) (outer : List Env) (s : Shared) (H : Hp) (E : XK) (hr : RoomG k (A.deeper (envOfC qual (defScope s_L_menu) s.heap.objs.size f cdv))) :
    JSs K W0 (cxOf (L2.CX P w) P w K mg base N_L_menu qual (defScope s_L_menu) f cdv A outer s H E).nox (defBody s_L_menu) b_L_menu :=
  have nd := (sc_L_menu).nd
  (jss_one (js_ret (je_new (jn_lst (ja_cons (je_str "d1l") (ja_cons (je_str "d1r") (ja_cons (je_str "d2l") (ja_cons (je_str "d2r") (ja_cons (je_str "d3l") (ja_cons (je_str "d4r") (ja_cons (je_str "hl") (ja_cons (je_str "hr") (ja_cons (je_str "e") (ja_cons (je_str "ll") (ja_cons (je_str "lr") (ja_cons (je_str "pa:.l") (ja_cons (je_str "pb:.r") (ja_cons (je_str "pb:a.l") (ja_cons (je_str "pc:a.r") (ja_cons (je_str "pc:ab.l") (ja_cons (je_str "pb:aa.l") (ja_cons (je_str "pa:b.l") (ja_cons (je_str "pc:.l") (ja_cons (je_str "pa:bb.r") (ja_cons (je_str "pc:abb.l") (ja_cons (je_str "pb:aaa.r") ja_nil))))))))))))))))))))))))))
/-! ### L_left -/
abbrev N_L_left : List Str := ["_law_plan", "_law_rule_here", "_law_word", "_law_lessers", "_law_found", "_law_i", "_law_head", "_law_tail", "_law_low", "_law_j"]
abbrev P_L_left : List Str := ["_law_plan", "_law_rule_here", "_law_word"]
def b_L_left_0 : XS :=
  (xSeq (xAsg (xTup (xCons (xSl (xVar 2) xoN (xoS (xVar 5))) (xCons (xSl (xVar 2) (xoS (xOp oAdd (xVar 5) (xC (.int 1)))) xoN) xNil))) (xgTup 2 (xgCons (xgN 6) (xgCons (xgN 7) xgNil))))
  (xSeq (xIfS (xAnd (xB (xOp oEq (xOp oIx (xVar 1) (xC (.int 0))) (xC (.str (T "drop"))))) (xB (xOp oLe (xOp oAdd (xVar 5) (xOp oIx (xVar 1) (xC (.int 1)))) (xCallB oLen (xCons (xVar 2) xNil)))))
  (xDrop (xMut oApp (xVar 4) (xCons (xMeth oJoin (xC (.str (T ""))) (xFz (xnLc (xAI oRng1 (xCons (xCallB oLen (xCons (xVar 2) xNil)) xNil)) (xgN 9) (xOr (xB (xOp oLt (xVar 9) (xVar 5))) (xB (xOp oGe (xVar 9) (xOp oAdd (xVar 5) (xOp oIx (xVar 1) (xC (.int 1))))))) (xOp oIx (xVar 2) (xVar 9)) [9]))) xNil)))
  xNext)
  (xSeq (xIfS (xB (xOp oEq (xOp oIx (xVar 1) (xC (.int 0))) (xC (.str (T "lower")))))
  (xDrop (xMut oExt (xVar 4) (xCons (xFz (xnLc (xSq (xOp oIx (xVar 3) (xOp oIx (xVar 2) (xVar 5)))) (xgN 8) xYes (xOp oAdd (xOp oAdd (xVar 6) (xVar 8)) (xVar 7)) [8])) xNil)))
  xNext)
  (xIfS (xAnd (xB (xOp oEq (xOp oIx (xVar 1) (xC (.int 0))) (xC (.str (T "put"))))) (xB (xOp oEq (xOp oIx (xVar 2) (xVar 5)) (xOp oIx (xVar 1) (xC (.int 1))))))
  (xDrop (xMut oApp (xVar 4) (xCons (xOp oAdd (xOp oAdd (xVar 6) (xOp oIx (xVar 1) (xC (.int 2)))) (xVar 7)) xNil)))
  xNext))))
def b_L_left : XS :=
  (xSeq (xPar 3 4 (xCons (xCallB oDictP (xCons (xCallB oList (xCons (xOp oIx (xVar 0) (xC (.int 0))) xNil)) xNil)) (xCons (xNew (xnLst xNil)) xNil)))
  (xSeq (xIfS (xB (xOp oEq (xOp oIx (xVar 1) (xC (.int 0))) (xC (.str (T "empty")))))
  (xRet (xNew (xnLst (xCons (xC (.str (T ""))) xNil))))
  xNext)
  (xSeq (xIfS (xB (xOp oEq (xOp oIx (xVar 1) (xC (.int 0))) (xC (.str (T "half")))))
  (xRet (xNew (xnLst (xCons (xMeth oJoin (xC (.str (T ""))) (xFz (xnLc (xAI oRng1 (xCons (xOp oFdiv (xCallB oLen (xCons (xVar 2) xNil)) (xC (.int 2))) xNil)) (xgN 5) xYes (xOp oIx (xVar 2) (xVar 5)) [5]))) xNil))))
  xNext)
  (xSeq (xFor (xAI oRng1 (xCons (xCallB oLen (xCons (xVar 2) xNil)) xNil)) (xgN 5) b_L_left_0 [6, 7, 8, 9])
  (xRet (xVar 4))))))
def f_L_left : GX := runF0 10 [false, false, false] b_L_left
theorem sc_L_left : FnScope N_L_left P_L_left (defScope s_L_left) := C8.fnScope_by (by decide +kernel)
theorem dv_L_left {P : Program} {w : World} {K : PySem.W.Frag} {mg : Str → Option Value} {base : Heap} {k : Nat} {qual : Str} {f : Addr} (g_dict : mg "dict" = none) (g_len : mg "len" = none) (g_list : mg "list" = none) (g_range : mg "range" = none)
    (cdv : Value) (A : Around) (outer : List Env) (s : Shared) (H : Hp) (E : XK) (hr : RoomG k (A.deeper (envOfC qual (defScope s_L_left) s.heap.objs.size f cdv))) :
    JSs K W0 (cxOf (L2.CX P w) P w K mg base N_L_left qual (defScope s_L_left) f cdv A outer s H E).nox (defBody s_L_left) b_L_left :=
  have nd := (sc_L_left).nd
  (jss_cons (js_par 3 4 rfl nd (ja_cons (je_callTy (jc_dictP rfl) (by rfl) g_dict B_dict (ja_cons (je_callTy (jc_list rfl) (by rfl) g_list B_list (ja_cons (je_ix hr.hu (je_var 0) je_int) ja_nil)) ja_nil)) (ja_cons (je_new (jn_lst ja_nil)) ja_nil)))
      (jss_cons (js_if (jt_cmp (jo_eq hr.hu) (je_ix hr.hu (je_var 1) je_int) (je_str "empty"))
      (jss_one (js_ret (je_new (jn_lst (ja_cons (je_str "") ja_nil)))))
      jss_nil)
      (jss_cons (js_if (jt_cmp (jo_eq hr.hu) (je_ix hr.hu (je_var 1) je_int) (je_str "half"))
      (jss_one (js_ret (je_new (jn_lst (ja_cons (je_join (je_str "") (je_frz (JNC.jn (jnc_lc rfl nd (ji_range1 (by rfl) g_range (ja_cons (je_op jo_fdiv (je_callB jc_len (by rfl) g_len B_len (ja_cons (je_var 2) ja_nil)) je_int) ja_nil)) [("_law_i", 5)] (by rfl) (by decide) (fun _ _ _ _ _ => (jg_name 5 nd)) (fun _ _ _ _ _ => jts_nil) (fun _ _ _ _ _ => (je_ix hr.hu (je_var 2) (je_var 5))))))) ja_nil)))))
      jss_nil)
      (jss_cons (js_for [6, 7, 8, 9] (fun _ => PassesOwn.never) rfl (ji_range1 (by rfl) g_range (ja_cons (je_callB jc_len (by rfl) g_len B_len (ja_cons (je_var 2) ja_nil)) ja_nil)) (jg_name 5 nd)
      (jss_cons (js_asg (je_tup (ja_cons (je_sl (je_var 2) jo_none (jo_some (je_var 5))) (ja_cons (je_sl (je_var 2) (jo_some (je_op jo_add (je_var 5) je_int)) jo_none) ja_nil))) (jg_tup rfl (jgs_cons (jg_name 6 nd) (jgs_cons (jg_name 7 nd) jgs_nil)) (n := 2)))
      (jss_cons (js_if (JW.jt (jw_and (jt_cmp (jo_eq hr.hu) (je_ix hr.hu (je_var 1) je_int) (je_str "drop")) (jw_and1 (jt_cmp jo_le (je_op jo_add (je_var 5) (je_ix hr.hu (je_var 1) je_int)) (je_callB jc_len (by rfl) g_len B_len (ja_cons (je_var 2) ja_nil))))))
      (jss_one (js_expr (je_mut PySem.F.slot_list_append PySem.F.type_list_append (fun _ => jm_app) (je_var 4) (ja_cons (je_join (je_str "") (je_frz (JNC.jn (jnc_lc rfl nd (ji_range1 (by rfl) g_range (ja_cons (je_callB jc_len (by rfl) g_len B_len (ja_cons (je_var 2) ja_nil)) ja_nil)) [("_law_j", 9)] (by rfl) (by decide) (fun _ _ _ _ _ => (jg_name 9 nd)) (fun _ _ _ _ _ => (jts_one (JW.jt (jw_or (jt_cmp jo_lt (je_var 9) (je_var 5)) (jw_or1 (jt_cmp jo_ge (je_var 9) (je_op jo_add (je_var 5) (je_ix hr.hu (je_var 1) je_int)))))))) (fun _ _ _ _ _ => (je_ix hr.hu (je_var 2) (je_var 9))))))) ja_nil))))
      jss_nil)
      (jss_cons (js_if (jt_cmp (jo_eq hr.hu) (je_ix hr.hu (je_var 1) je_int) (je_str "lower"))
      (jss_one (js_expr (je_mut PySem.F.slot_list_extend PySem.F.type_list_extend jm_ext (je_var 4) (ja_cons (je_frz (JNC.jn (jnc_lc rfl nd (ji_seq (je_ix hr.hu (je_var 3) (je_ix hr.hu (je_var 2) (je_var 5)))) [("_law_low", 8)] (by rfl) (by decide) (fun _ _ _ _ _ => (jg_name 8 nd)) (fun _ _ _ _ _ => jts_nil) (fun _ _ _ _ _ => (je_op jo_add (je_op jo_add (je_var 6) (je_var 8)) (je_var 7)))))) ja_nil))))
      jss_nil)
      (jss_one (js_if (JW.jt (jw_and (jt_cmp (jo_eq hr.hu) (je_ix hr.hu (je_var 1) je_int) (je_str "put")) (jw_and1 (jt_cmp (jo_eq hr.hu) (je_ix hr.hu (je_var 2) (je_var 5)) (je_ix hr.hu (je_var 1) je_int)))))
      (jss_one (js_expr (je_mut PySem.F.slot_list_append PySem.F.type_list_append (fun _ => jm_app) (je_var 4) (ja_cons (je_op jo_add (je_op jo_add (je_var 6) (je_ix hr.hu (je_var 1) je_int)) (je_var 7)) ja_nil))))
      jss_nil))))))
      (jss_one (js_ret (je_var 4)))))))
/-! ### L_turned -/
abbrev N_L_turned : List Str := ["_law_plan", "_law_rule_here", "_law_word", "_law_back", "_law_one"]
abbrev P_L_turned : List Str := ["_law_plan", "_law_rule_here", "_law_word"]
def b_L_turned : XS :=
  (xSeq (xIfS (xB (xOp oNe (xOp oIx (xVar 1) (xUn oNeg (xC (.int 1)))) (xC (.str (T "right")))))
  (xRet (xNew (xnCall [false, false, false] f_L_left arr0 3 0 (xCons (xVar 0) (xCons (xVar 1) (xCons (xVar 2) xNil))) xNil)))
  xNext)
  (xSeq (xSet 3 (xIf (xB (xOp oEq (xOp oIx (xVar 1) (xC (.int 0))) (xC (.str (T "put"))))) (xOp oAdd (xOp oAdd (xSl (xVar 1) xoN (xoS (xC (.int 2)))) (xTup (xCons (xUn oRevA (xOp oIx (xVar 1) (xC (.int 2)))) xNil))) (xSl (xVar 1) (xoS (xC (.int 3))) xoN)) (xVar 1)))
  (xRet (xNew (xnLc (xSq (xCall [false, false, false] f_L_left arr0 3 0 (xCons (xVar 0) (xCons (xVar 3) (xCons (xUn oRevA (xVar 2)) xNil))) xNil)) (xgN 4) xYes (xUn oRevA (xVar 4)) [4])))))
def f_L_turned : GX := runF0 5 [false, false, false] b_L_turned
theorem sc_L_turned : FnScope N_L_turned P_L_turned (defScope s_L_turned) := C8.fnScope_by (by decide +kernel)
theorem dv_L_turned {P : Program} {w : World} {K : PySem.W.Frag} {mg : Str → Option Value} {base : Heap} {k : Nat} {qual : Str} {f : Addr}
    (Cc_L_left : CalX P w K mg base k "_law_left" 3 [] [false, false, false] f_L_left arr0)
    (cdv : Value) (A : Around) (outer : List Env) (s : Shared) (H : Hp) (E : XK) (hr : RoomG k (A.deeper (envOfC qual (defScope s_L_turned) s.heap.objs.size f cdv))) :
    JSs K W0 (cxOf (L2.CX P w) P w K mg base N_L_turned qual (defScope s_L_turned) f cdv A outer s H E).nox (defBody s_L_turned) b_L_turned :=
  have nd := (sc_L_turned).nd
  (jss_cons (js_if (jt_cmp (jo_ne hr.hu) (je_ix hr.hu (je_var 1) (je_neg je_int)) (je_str "right"))
      (jss_one (js_ret (je_new (JR.jn (JR.mk fun hK => jr_call Cc_L_left hr takes0 (by rfl) (ja_cons (je_var 0) (ja_cons (je_var 1) (ja_cons (je_var 2) ja_nil))) hK)))))
      jss_nil)
      (jss_cons (js_set 3 nd (je_if (jt_cmp (jo_eq hr.hu) (je_ix hr.hu (je_var 1) je_int) (je_str "put")) (je_op jo_add (je_op jo_add (je_sl (je_var 1) jo_none (jo_some je_int)) (je_tup (ja_cons (je_rev (je_ix hr.hu (je_var 1) je_int)) ja_nil))) (je_sl (je_var 1) (jo_some je_int) jo_none)) (je_var 1)))
      (jss_one (js_ret (je_new (JNC.jn (jnc_lc rfl nd (ji_seq (JR.je (JR.mk fun hK => jr_call Cc_L_left hr takes0 (by rfl) (ja_cons (je_var 0) (ja_cons (je_var 3) (ja_cons (je_rev (je_var 2)) ja_nil))) hK))) [("_law_one", 4)] (by rfl) (by decide) (fun _ _ _ _ _ => (jg_name 4 nd)) (fun _ _ _ _ _ => jts_nil) (fun _ _ _ _ _ => (je_rev (je_var 4))))))))))
/-! ### L_short -/
abbrev N_L_short : List Str := ["_law_plan", "_law_found", "_law_level", "_law_lap", "_law_late", "_law_one", "_law_entry"]
abbrev P_L_short : List Str := ["_law_plan"]
def b_L_short_1 : XS :=
  (xDrop (xMut oExt (xVar 4) (xCons (xFz (xnLc (xSq (xOp oIx (xVar 0) (xC (.int 0)))) (xgN 6) xYes (xOp oAdd (xVar 5) (xOp oIx (xVar 6) (xC (.int 0)))) [6])) xNil)))
def b_L_short_0 : XS :=
  (xSeq (xSet 4 (xNew (xnLst xNil)))
  (xSeq (xFor (xSq (xVar 2)) (xgN 5) b_L_short_1 [5, 6])
  (xFrz 4 (xSeq (xSet 2 (xCallB oList (xCons (xVar 4) xNil)))
  (xDrop (xMut oExt (xVar 1) (xCons (xVar 4) xNil)))))))
def b_L_short : XS :=
  (xSeq (xPar 1 2 (xCons (xNew (xnLst (xCons (xC (.str (T ""))) xNil))) (xCons (xLst (xCons (xC (.str (T ""))) xNil)) xNil)))
  (xSeq (xFor (xAI oRng1 (xCons (xIf (xB (xOp oLt (xCallB oLen (xCons (xOp oIx (xVar 0) (xC (.int 0))) xNil)) (xC (.int 4)))) (xC (.int 3)) (xC (.int 2))) xNil)) (xgN 3) b_L_short_0 [3, 4, 5, 6])
  (xRet (xVar 1))))
def f_L_short : GX := runF0 7 [false] b_L_short
theorem sc_L_short : FnScope N_L_short P_L_short (defScope s_L_short) := C8.fnScope_by (by decide +kernel)
theorem dv_L_short {P : Program} {w : World} {K : PySem.W.Frag} {mg : Str → Option Value} {base : Heap} {k : Nat} {qual : Str} {f : Addr} (g_len : mg "len" = none) (g_list : mg "list" = none) (g_range : mg "range" = none)
    (cdv : Value) (A : Around) (outer : List Env) (s : Shared) (H : Hp) (E : XK) (hr : RoomG k (A.deeper (envOfC qual (defScope s_L_short) s.heap.objs.size f cdv))) :
    JSs K W0 (cxOf (L2.CX P w) P w K mg base N_L_short qual (defScope s_L_short) f cdv A outer s H E).nox (defBody s_L_short) b_L_short :=
  have nd := (sc_L_short).nd
  (jss_cons (js_par 1 2 rfl nd (ja_cons (je_new (jn_lst (ja_cons (je_str "") ja_nil))) (ja_cons (je_lst (ja_cons (je_str "") ja_nil)) ja_nil)))
      (jss_cons (js_for [3, 4, 5, 6] (fun _ => PassesOwn.never) rfl (ji_range1 (by rfl) g_range (ja_cons (je_if (jt_cmp jo_lt (je_callB jc_len (by rfl) g_len B_len (ja_cons (je_ix hr.hu (je_var 0) je_int) ja_nil)) je_int) je_int je_int) ja_nil)) (jg_name 3 nd)
      (jss_cons (js_set 4 nd (je_new (jn_lst ja_nil)))
      (jss_cons (js_for [5, 6] (fun _ => PassesOwn.never) rfl (ji_seq (je_var 2)) (jg_name 5 nd)
      (jss_one (js_expr (je_mut PySem.F.slot_list_extend PySem.F.type_list_extend jm_ext (je_var 4) (ja_cons (je_frz (JNC.jn (jnc_lc rfl nd (ji_seq (je_ix hr.hu (je_var 0) je_int)) [("_law_entry", 6)] (by rfl) (by decide) (fun _ _ _ _ _ => (jg_name 6 nd)) (fun _ _ _ _ _ => jts_nil) (fun _ _ _ _ _ => (je_op jo_add (je_var 5) (je_ix hr.hu (je_var 6) je_int)))))) ja_nil)))))
      (jss_frz 4 (jss_cons (js_set 2 nd (je_callTy (jc_list rfl) (by rfl) g_list B_list (ja_cons (je_var 4) ja_nil)))
      (jss_one (js_expr (je_mut PySem.F.slot_list_extend PySem.F.type_list_extend jm_ext (je_var 1) (ja_cons (je_var 4) ja_nil)))))))))
      (jss_one (js_ret (je_var 1)))))
/-! ### L_once -/
abbrev N_L_once : List Str := ["_law_word", "_law_things", "_law_found", "_law_one"]
abbrev P_L_once : List Str := ["_law_word", "_law_things"]
def b_L_once_0 : XS :=
  (xIfS (xAnd (xB (xOp oNe (xVar 3) (xVar 0))) (xB (xOp oNotIn (xVar 3) (xVar 2))))
  (xDrop (xMut oApp (xVar 2) (xCons (xVar 3) xNil)))
  xNext)
def b_L_once : XS :=
  (xSeq (xSet 2 (xNew (xnLst xNil)))
  (xSeq (xFor (xSq (xVar 1)) (xgN 3) b_L_once_0 [3])
  (xFrz 2 (xRet (xCallB oTuple (xCons (xVar 2) xNil))))))
def f_L_once : GX := runF0 4 [false, false] b_L_once
theorem sc_L_once : FnScope N_L_once P_L_once (defScope s_L_once) := C8.fnScope_by (by decide +kernel)
theorem dv_L_once {P : Program} {w : World} {K : PySem.W.Frag} {mg : Str → Option Value} {base : Heap} {k : Nat} {qual : Str} {f : Addr} (g_tuple : mg "tuple" = none)
    (cdv : Value) (A : Around) (outer : List Env) (s : Shared) (H : Hp) (E : XK) (hr : RoomG k (A.deeper (envOfC qual (defScope s_L_once) s.heap.objs.size f cdv))) :
    JSs K W0 (cxOf (L2.CX P w) P w K mg base N_L_once qual (defScope s_L_once) f cdv A outer s H E).nox (defBody s_L_once) b_L_once :=
  have nd := (sc_L_once).nd
  (jss_cons (js_set 2 nd (je_new (jn_lst ja_nil)))
      (jss_cons (js_for [3] (fun _ => PassesOwn.never) rfl (ji_seq (je_var 1)) (jg_name 3 nd)
      (jss_one (js_if (JW.jt (jw_and (jt_cmp (jo_ne hr.hu) (je_var 3) (je_var 0)) (jw_and1 (jt_cmp (jo_notIn hr.hu) (je_var 3) (je_var 2)))))
      (jss_one (js_expr (je_mut PySem.F.slot_list_append PySem.F.type_list_append (fun _ => jm_app) (je_var 2) (ja_cons (je_var 3) ja_nil))))
      jss_nil)))
      (jss_frz 2 (jss_one (js_ret (je_callTy jc_tuple (by rfl) g_tuple B_tuple (ja_cons (je_var 2) ja_nil)))))))
/-! ### law -/
abbrev N_law : List Str := ["_law_script", "_law_spring_here", "_law_plan", "_law_word", "_law_every", "_law_j", "_law_due", "_law_told"]
abbrev P_law : List Str := ["_law_script"]
def b_law_1 : XS :=
  (xSeq (xSet 6 (xCall [false, false] f_L_once arr0 2 0 (xCons (xVar 3) (xCons (xCall [false, false, false] f_L_turned arr0 3 0 (xCons (xVar 2) (xCons (xOp oIx (xOp oIx (xVar 2) (xC (.int 1))) (xVar 5)) (xCons (xVar 3) xNil))) xNil) xNil)) xNil))
  (xSeq (xSet 7 (xCall [false, false, false] f_rule_steps arr0 3 0 (xCons (xVar 2) (xCons (xVar 5) (xCons (xVar 3) xNil))) xNil))
  (xSeq (xIfS (xB (xOp oNe (xCallB oRepr (xCons (xVar 7) xNil)) (xCallB oRepr (xCons (xVar 6) xNil))))
  (xRet (xC (.bl false)))
  xNext)
  (xDrop (xMut oExt (xVar 4) (xCons (xVar 7) xNil))))))
def b_law_0 : XS :=
  (xSeq (xSet 4 (xNew (xnLst xNil)))
  (xSeq (xFor (xAI oRng1 (xCons (xCallB oLen (xCons (xOp oIx (xVar 2) (xC (.int 1))) xNil)) xNil)) (xgN 5) b_law_1 [5, 6, 7])
  (xFrz 4 (xIfS (xB (xOp oNe (xCallB oRepr (xCons (xCall [false, false] f_steps_of arr0 2 0 (xCons (xVar 2) (xCons (xVar 3) xNil)) xNil) xNil)) (xCallB oRepr (xCons (xCall [false, false] f_L_once arr0 2 0 (xCons (xVar 3) (xCons (xVar 4) xNil)) xNil) xNil))))
  (xRet (xC (.bl false)))
  xNext))))
def b_law : XS :=
  (xSeq (xSet 1 (xMk (xCons (xVar 0) xNil)))
  (xSeq (xSet 2 (xCall [true, false, false, false] f_L_book arr0 4 0 (xCons (xVar 1) (xCons (xCall [] f_L_scenes arr0 0 0 xNil xNil) (xCons (xCall [] f_L_menu arr0 0 0 xNil xNil) (xCons (xCall [true] f_L_names arr0 1 0 (xCons (xVar 1) xNil) xNil) xNil)))) xNil))
  (xSeq (xIfS (xAnd (xB (xOp oEq (xCall [true, false] f_L_dip arr0 2 0 (xCons (xVar 1) (xCons (xC (.int 3)) xNil)) xNil) (xC (.int 0)))) (xB (xOp oLt (xCallB oLen (xCons (xOp oIx (xVar 2) (xC (.int 1))) xNil)) (xC (.int 6)))))
  (xSet 2 (xTup (xCons (xOp oIx (xVar 2) (xC (.int 0))) (xCons (xOp oAdd (xOp oIx (xVar 2) (xC (.int 1))) (xSl (xOp oIx (xVar 2) (xC (.int 1))) xoN (xoS (xC (.int 1))))) xNil))))
  xNext)
  (xSeq (xFor (xSq (xCall [false] f_L_short arr0 1 0 (xCons (xVar 2) xNil) xNil)) (xgN 3) b_law_0 [3, 4, 5, 6, 7])
  (xRet (xC (.bl true)))))))
def f_law : GX := runF0 8 [false] b_law
theorem sc_law : FnScope N_law P_law (defScope s_law) := C8.fnScope_by (by decide +kernel)
theorem dv_law {P : Program} {w : World} {K : PySem.W.Frag} {mg : Str → Option Value} {base : Heap} {k : Nat} {qual : Str} {f : Addr} (g_len : mg "len" = none) (g_range : mg "range" = none) (g_repr : mg "repr" = none)
    (Cc_L_book : CalX P w K mg base k "_law_book" 4 [] [true, false, false, false] f_L_book arr0)
    (Cc_L_dip : CalX P w K mg base k "_law_dip" 2 [] [true, false] f_L_dip arr0)
    (Cc_L_menu : CalX P w K mg base k "_law_menu" 0 [] [] f_L_menu arr0)
    (Cc_L_names : CalX P w K mg base k "_law_names" 1 [] [true] f_L_names arr0)
    (Cc_L_once : CalX P w K mg base k "_law_once" 2 [] [false, false] f_L_once arr0)
    (Cc_L_scenes : CalX P w K mg base k "_law_scenes" 0 [] [] f_L_scenes arr0)
    (Cc_L_short : CalX P w K mg base k "_law_short" 1 [] [false] f_L_short arr0)
    (Cc_L_spring : CalX P w K mg base k "_law_spring" 1 [] [false] f_L_spring arr0)
    (Cc_L_turned : CalX P w K mg base k "_law_turned" 3 [] [false, false, false] f_L_turned arr0)
    (Cc_rule_steps : CalX P w K mg base k "rule_steps" 3 [] [false, false, false] f_rule_steps arr0)
    (Cc_steps_of : CalX P w K mg base k "steps_of" 2 [] [false, false] f_steps_of arr0)
    (mk_L_spring : MakeOk f_L_spring)
    (cdv : Value) (A : Around) (outer : List Env) (s : Shared) (H : Hp) (E : XK) (hr : RoomG k (A.deeper (envOfC qual (defScope s_law) s.heap.objs.size f cdv))) :
    JSs K W0 (cxOf (L2.CX P w) P w K mg base N_law qual (defScope s_law) f cdv A outer s H E).nox (defBody s_law) b_law :=
  have nd := (sc_law).nd
  (jss_cons (js_set 1 nd (je_mk (JR.mk fun hK => jr_call Cc_L_spring hr takes0 (by rfl) (ja_cons (je_var 0) ja_nil) hK) mk_L_spring))
      (jss_cons (js_set 2 nd (JR.je (JR.mk fun hK => jr_call Cc_L_book hr takes0 (by rfl) (ja_cons (je_var 1) (ja_cons (JR.je (JR.mk fun hK => jr_call0 Cc_L_scenes hr takes0 (by rfl) hK)) (ja_cons (JR.je (JR.mk fun hK => jr_call0 Cc_L_menu hr takes0 (by rfl) hK)) (ja_cons (JR.je (JR.mk fun hK => jr_call Cc_L_names hr takes0 (by rfl) (ja_cons (je_var 1) ja_nil) hK)) ja_nil)))) hK)))
      (jss_cons (js_if (JW.jt (jw_and (jt_cmp (jo_eq hr.hu) (JR.je (JR.mk fun hK => jr_call Cc_L_dip hr takes0 (by rfl) (ja_cons (je_var 1) (ja_cons je_int ja_nil)) hK)) je_int) (jw_and1 (jt_cmp jo_lt (je_callB jc_len (by rfl) g_len B_len (ja_cons (je_ix hr.hu (je_var 2) je_int) ja_nil)) je_int))))
      (jss_one (js_set 2 nd (je_tup (ja_cons (je_ix hr.hu (je_var 2) je_int) (ja_cons (je_op jo_add (je_ix hr.hu (je_var 2) je_int) (je_sl (je_ix hr.hu (je_var 2) je_int) jo_none (jo_some je_int))) ja_nil)))))
      jss_nil)
      (jss_cons (js_for [3, 4, 5, 6, 7] (fun _ => PassesOwn.never) rfl (ji_seq (JR.je (JR.mk fun hK => jr_call Cc_L_short hr takes0 (by rfl) (ja_cons (je_var 2) ja_nil) hK))) (jg_name 3 nd)
      (jss_cons (js_set 4 nd (je_new (jn_lst ja_nil)))
      (jss_cons (js_for [5, 6, 7] (fun _ => PassesOwn.never) rfl (ji_range1 (by rfl) g_range (ja_cons (je_callB jc_len (by rfl) g_len B_len (ja_cons (je_ix hr.hu (je_var 2) je_int) ja_nil)) ja_nil)) (jg_name 5 nd)
      (jss_cons (js_set 6 nd (JR.je (JR.mk fun hK => jr_call Cc_L_once hr takes0 (by rfl) (ja_cons (je_var 3) (ja_cons (JR.je (JR.mk fun hK => jr_call Cc_L_turned hr takes0 (by rfl) (ja_cons (je_var 2) (ja_cons (je_ix hr.hu (je_ix hr.hu (je_var 2) je_int) (je_var 5)) (ja_cons (je_var 3) ja_nil))) hK)) ja_nil)) hK)))
      (jss_cons (js_set 7 nd (JR.je (JR.mk fun hK => jr_call Cc_rule_steps hr takes0 (by rfl) (ja_cons (je_var 2) (ja_cons (je_var 5) (ja_cons (je_var 3) ja_nil))) hK)))
      (jss_cons (js_if (jt_cmp (jo_ne hr.hu) (je_callBK (fun hK => jc_repr (fun _ => hr.hu) (fun _ => hr.g) hK) (by rfl) g_repr B_repr (ja_cons (je_var 7) ja_nil)) (je_callBK (fun hK => jc_repr (fun _ => hr.hu) (fun _ => hr.g) hK) (by rfl) g_repr B_repr (ja_cons (je_var 6) ja_nil)))
      (jss_one (js_ret je_bl))
      jss_nil)
      (jss_one (js_expr (je_mut PySem.F.slot_list_extend PySem.F.type_list_extend jm_ext (je_var 4) (ja_cons (je_var 7) ja_nil))))))))
      (jss_frz 4 (jss_one (js_if (jt_cmp (jo_ne hr.hu) (je_callBK (fun hK => jc_repr (fun _ => hr.hu) (fun _ => hr.g) hK) (by rfl) g_repr B_repr (ja_cons (JR.je (JR.mk fun hK => jr_call Cc_steps_of hr takes0 (by rfl) (ja_cons (je_var 2) (ja_cons (je_var 3) ja_nil)) hK)) ja_nil)) (je_callBK (fun hK => jc_repr (fun _ => hr.hu) (fun _ => hr.g) hK) (by rfl) g_repr B_repr (ja_cons (JR.je (JR.mk fun hK => jr_call Cc_L_once hr takes0 (by rfl) (ja_cons (je_var 3) (ja_cons (je_var 4) ja_nil)) hK)) ja_nil)))
      (jss_one (js_ret je_bl))
      jss_nil))))))
      (jss_one (js_ret je_bl))))))
end
end LW
namespace LW
open PySem PySem.Spec PyProof.Rows L2 DL EL
theorem l_is_integer (i : Int) : f_is_integer [.int i] [] = .ok (.d (.bl true), []) := by simp [f_is_integer, b_is_integer]
theorem l_is_number (i : Int) : f_is_number [.int i] [] = .ok (.d (.bl (decide (0 ≤ i))), []) := by simp [f_is_number, b_is_number, l_is_integer]
theorem l_want (a b : D) : f_want [.bl true, a, b] [] = .ok (.d .non, []) := by simp [f_want, b_want]
theorem l_is_thing (x : Tx) (hl : x.length ≤ 1000) (hx : ∀ c ∈ x, low c) : f_is_thing [.str x] [] = .ok (.d (.bl true), []) := by
  simp [f_is_thing, b_is_thing]
  rw [blk_all chD (fun _ => .bl true) x 0 (fun c hc => by simp [turnE, chD, low_mem (hx c hc)]) (by omega)]
  simp
theorem l_known (E : List Ent) (R : List Rl) (hl : E.length ≤ 9) : f_known_letters [bookD E R] [] = .ok (.d (.tup (E.map fun e => .str e.1)), []) := by
  simp [f_known_letters, b_known_letters, bookD]
  rw [blk_all entD (fun e => .str e.1) E 0 (fun e he => by simp [turnE, entD]) (by omega)]
  simp
theorem l_is_thing_of {E : List Ent} {R : List Rl} {x : Tx} (w : Wf E R) (h : Wd E x) : f_is_thing_of [bookD E R, .str x] [] = .ok (.d (.bl true), []) := by
  have hl := h.len
  simp [f_is_thing_of, b_is_thing_of, l_known E R w.nE, l_is_thing x (by omega) (low_of w h)]
  rw [blk_all chD (fun _ => .bl true) x 0 (fun c hc => ?_) (by omega)]
  · simp
  · have e1 := strs_flat (E.map (·.1))
    have e2 := inD_strs c _ (h.lt c hc)
    rw [List.map_map] at e1 e2
    have e1' : (E.map fun e => D.str e.1).all flatD = true := e1
    have e2' : inD (.str [c]) (E.map fun e => D.str e.1) = true := e2
    simp [turnE, chD, e1', e2']
theorem l_want_thing {E : List Ent} {R : List Rl} {x : Tx} (w : Wf E R) (h : Wd E x) (n : D) : f_want_thing [bookD E R, n, .str x] [] = .ok (.d .non, []) := by
  simp [f_want_thing, b_want_thing, l_is_thing_of w h, l_want, Src.get]
theorem rgE1_nat (m : Nat) (hm : m ≤ 1000) : oRgE1 [.int m] = some (natsD (List.range m)) := by
  unfold oRgE1
  dsimp only
  rw [if_pos (by omega), rngD_up]
theorem rng3_down (m : Nat) (hm : m ≤ 1000) : oRng3 [.int ((m : Int) - 1), .int (-1), .int (-1)] = some (rngD ((m : Int) - 1) (-1) ((m : Int) - 1 - -1).toNat) := by
  have h : -4611686018427387904 ≤ (m : Int) - 1 ∧ (m : Int) - 1 < 4611686018427387904 ∧ -4611686018427387904 ≤ (-1 : Int) ∧ (-1 : Int) < 4611686018427387904 := by omega
  unfold oRng3
  dsimp only
  rw [if_pos rfl, if_pos h]
theorem rng3_dn (m : Nat) (hm : m ≤ 1000) : oRng3 [.int ((m : Int) - 1), .int (-1), .int (-1)] = some (natsD (List.range m).reverse) := by
  have e1 : ((m : Int) - 1 - -1).toNat = m := by omega
  rw [rng3_down m hm, e1, rngD_down]
theorem natsD_r (m : Nat) (hm : m ≤ 1000) : (natsD (List.range m).reverse).length ≤ 16777216 := by
  unfold natsD
  rw [List.length_map, List.length_reverse, List.length_range]
  omega
theorem lim24_of {o : List D → Option (List D)} {ds z : List D} (h : o ds = some z) (hz : z.length ≤ 16777216) : lim24 o ds = some z := by
  unfold lim24
  rw [h]
  exact if_pos hz
theorem rg3_nat (m : Nat) (hm : m ≤ 1000) : lim24 oRng3 [.int ((m : Int) - 1), .int (-1), .int (-1)] = some (natsD (List.range m).reverse) := lim24_of (rng3_dn m hm) (natsD_r m hm)
theorem l_places (m : Nat) (l : Bool) (hm : m ≤ 1000) : f_places_of [.int m, side l] [] = .ok (.new (.lst (natsD (places m l))), []) := by
  cases l with
  | true => simp [f_places_of, b_places_of, side, rgE1_nat m hm, places]
  | false =>
    have ne : T "right" ≠ T "left" := by decide +kernel
    simp [f_places_of, b_places_of, side, rg3_nat m hm, places, ne]
theorem natsD_len (m : Nat) (l : Bool) : (natsD (places m l)).length = m := by simp [natsD, places_len]
theorem l_dropped (E : List Ent) (n : Nat) (l : Bool) (x : Tx) (hl : x.length ≤ 9) : f_dropped [ruleD (.drop n l), .str x] [] = .ok (.new (txs (res E (.drop n l) x)), []) := by
  have e0 : (if (x.length : Int) - n + 1 > 0 then (x.length : Int) - n + 1 else 0) = ((x.length + 1 - n : Nat) : Int) := by split <;> omega
  simp only [gt_iff_lt] at e0
  simp [f_dropped, b_dropped, ruleD, e0, l_places _ _ (show x.length + 1 - n ≤ 1000 by omega)]
  unfold natsD
  rw [blk_all (fun k : Nat => D.int k) (fun k => .str (x.take k ++ x.drop (k + n))) _ 0 (fun k hk => ?_) (by rw [places_len]; omega)]
  · simp [txs, res]
  · have e1 := cut_take x k
    have e2 := cut_drop x (k + n)
    simp only [Int.natCast_add] at e2
    have hz : min k x.length + (x.length - (k + n)) ≤ 16777216 := by omega
    simp [turnE, e1, e2, hz]
theorem cut_half (x : Tx) : cutL x none (some ((x.length : Int) / 2)) = x.take (x.length / 2) := by
  have := cut_take x (x.length / 2)
  rwa [Int.natCast_ediv] at this
theorem cut_half2 (x : Tx) : cutL x (some ((x.length : Int) - (x.length : Int) / 2)) none = x.drop (x.length - x.length / 2) := by
  have := cut_drop x (x.length - x.length / 2)
  rwa [show ((x.length - x.length / 2 : Nat) : Int) = (x.length : Int) - (x.length : Int) / 2 by omega] at this
theorem l_halved (E : List Ent) (l : Bool) (x : Tx) : f_halved [ruleD (.half l), .str x] [] = .ok (.new (txs (res E (.half l) x)), []) := by
  cases l with
  | true => simp [f_halved, b_halved, ruleD, side, cut_half, txs, res]
  | false =>
    have ne : T "right" ≠ T "left" := by decide +kernel
    simp [f_halved, b_halved, ruleD, side, ne, cut_half2, txs, res]
end LW
namespace LW
open PySem PySem.Spec PyProof.Rows L2 DL EL
theorem cut_drop1 (x : Tx) (k : Nat) : cutL x (some ((k : Int) + 1)) none = x.drop (k + 1) := by
  have := cut_drop x (k + 1)
  simpa using this
theorem places_at {x : Tx} {l : Bool} {k : Nat} (hk : k ∈ places x.length l) : ∃ c, c ∈ x ∧ x[k]? = some c ∧ atI x (k : Int) = some c ∧ (x.drop k).take 1 = [c] := by
  have hl := places_lt hk
  have hc := List.getElem?_eq_getElem hl
  exact ⟨x[k], List.getElem_mem hl, hc, (atI_nat x k hl).trans hc, drop_take1 hc⟩
theorem l_lowered {E : List Ent} {R : List Rl} {x : Tx} (w : Wf E R) (h : Wd E x) (l : Bool) : f_lowered [dicD E, ruleD (.lower l), .str x] [] = .ok (.new (txs (res E (.lower l) x)), []) := by
  have hl := h.len
  simp [f_lowered, b_lowered, ruleD, l_places x.length l (by omega)]
  unfold natsD
  rw [blk_flat (fun k : Nat => D.int k) (fun k => (lessOf E ((x.drop k).take 1)).map fun s => .str (x.take k ++ s ++ x.drop (k + 1))) _ 0 9 (fun k hk => ?_) (by rw [places_len]; omega)]
  · simp [txs, res, List.map_flatMap]
    rfl
  · obtain ⟨c, hc, h1, h2, h3⟩ := places_at hk
    obtain ⟨g1, g2, g3⟩ := less_get w (h.lt c hc)
    refine ⟨by rw [List.length_map, h3]; exact g2, [some (.d (dicD E)), some (.d (.tup [.str (T "lower"), side l])), some (.d (.str x)), some (.d (.int k)), none], (lessOf E [c]).map .str, ?_, fun m hm => ?_⟩
    · simp [turnI, h2, dicD, g1]
    · rw [blk_all D.str (fun s => .str (x.take k ++ s ++ x.drop (k + 1))) _ m (fun s hs => ?_) (by omega)]
      · rw [h3]
      · obtain ⟨y, rfl, _⟩ := g3 s hs
        have z1 : min k x.length + 1 ≤ 16777216 := by omega
        have z2 : min k x.length + (1 + (x.length - (k + 1))) ≤ 16777216 := by omega
        have z3 : min k x.length + 1 + (x.length - (k + 1)) ≤ 16777216 := by omega
        simp [turnE, cut_take, cut_drop1, z1, z2, z3]
theorem l_put (E : List Ent) {a b : Tx} {l : Bool} {x : Tx} (w : RlOk (.put a b l)) (hl : x.length ≤ 9) : f_put_results [ruleD (.put a b l), .str x] [] = .ok (.new (txs (res E (.put a b l) x)), []) := by
  simp [f_put_results, b_put_results, ruleD, l_places x.length l (by omega)]
  unfold natsD
  rw [blk_filter (fun k : Nat => D.int k) (fun k => if (x.drop k).take 1 = a then some (.str (x.take k ++ b ++ x.drop (k + 1))) else none) _ 0 (fun k hk => ?_) (by rw [places_len]; omega)]
  · simp only [txs, res, List.map_filterMap]
    simp
  · obtain ⟨c, hc, h1, h2, h3⟩ := places_at hk
    have hb := w.2.1
    have z1 : min k x.length + b.length ≤ 16777216 := by omega
    have z2 : min k x.length + b.length + (x.length - (k + 1)) ≤ 16777216 := by omega
    have z3 : min k x.length + (b.length + (x.length - (k + 1))) ≤ 16777216 := by omega
    rw [h3]
    by_cases e : [c] = a
    · simp [turnE, h2, e, cut_take, cut_drop1, z1, z2, z3]
    · simp [turnE, h2, e]
theorem l_results {E : List Ent} {R : List Rl} {x : Tx} {k : Nat} {r : Rl} (w : Wf E R) (h : Wd E x) (hr : R[k]? = some r) : f_results_of [bookD E R, .int k, .str x] [] = .ok (.new (txs (res E r x)), []) := by
  have hk := atI_map R k r hr
  have ok := w.rules r (List.mem_of_getElem? hr)
  have n1 : T "half" ≠ T "drop" := by decide +kernel
  have n2 : T "lower" ≠ T "drop" := by decide +kernel
  have n3 : T "lower" ≠ T "half" := by decide +kernel
  have n4 : T "put" ≠ T "drop" := by decide +kernel
  have n5 : T "put" ≠ T "half" := by decide +kernel
  have n6 : T "put" ≠ T "lower" := by decide +kernel
  have n7 : T "empty" ≠ T "drop" := by decide +kernel
  have n8 : T "empty" ≠ T "half" := by decide +kernel
  have n9 : T "empty" ≠ T "lower" := by decide +kernel
  have n0 : T "empty" ≠ T "put" := by decide +kernel
  cases r with
  | drop n l =>
    have := l_dropped E n l x h.len
    simp [f_results_of, b_results_of, bookD, hk, ruleD] at this ⊢
    simp [this]
  | half l =>
    have := l_halved E l x
    simp [f_results_of, b_results_of, bookD, hk, ruleD, n1] at this ⊢
    simp [this]
  | lower l =>
    have := l_lowered w h l
    simp [f_results_of, b_results_of, bookD, hk, ruleD, n2, n3] at this ⊢
    rw [dc_filter entD (fun e => some ((.inr e.1 : DK), D.tup (e.2.map .str))) E [] [] (fun e he => by simp [turnD, entD, keyD]) (by have := w.nE; simp; omega)]
    have e2 : E.filterMap (fun e => some ((.inr e.1 : DK), D.tup (e.2.map .str))) = E.map fun e => ((.inr e.1 : DK), D.tup (e.2.map .str)) := by simp
    rw [e2]
    unfold dicD dKs dDs at this
    simp [this]
  | put a b l =>
    have := l_put E (l := l) ok h.len
    simp [f_results_of, b_results_of, bookD, hk, ruleD, n4, n5, n6] at this ⊢
    simp [this]
  | empty => simp [f_results_of, b_results_of, bookD, hk, ruleD, n7, n8, n9, n0, txs, res]; rfl
/-! ### each step once -/
def stH (x : Tx) (L : List Tx) (is : List Int) : Cell := .own (.dic ((x :: L).map Sum.inr) (.int (-1) :: is.map .int))
theorem put_new {s x : Tx} {L : List Tx} {is : List Int} {k : Int} (hs : s ∉ x :: L) : putKs ((x :: L).map Sum.inr) (.inr s) = (x :: (L ++ [s])).map Sum.inr ∧ putDs ((x :: L).map Sum.inr) (.int (-1) :: is.map .int) (.inr s) (.int k) = .int (-1) :: (is ++ [k]).map .int := by
  have hm : memK (.inr s) ((x :: L).map Sum.inr) = false := by rw [memK_str]; exact decide_eq_false hs
  unfold putKs putDs
  rw [hm]
  simp
def stS (b : D) (x : Tx) (s4 s5 : Option Vl) : List (Option Vl) := [some (.d b), some (.d (.str x)), some (.d (.int 0)), some (.c 0), s4, s5]
theorem inner (b : D) (x : Tx) (k : Int) : ∀ (ls L : List Tx) (is : List Int) (s5 : Option Vl), L.length = is.length → L.length + ls.length + 1 < 16777216 →
    ∃ is' s5', (ls.foldl (add1 x) L).length = is'.length ∧ forX (xgN 5) b_steps_from_1 [] 1 (ls.map .str) (stS b x (some (.d (.int k))) s5) [stH x L is] = .ok (.nx, stS b x (some (.d (.int k))) s5', [stH x (ls.foldl (add1 x) L) is'])
  | [], L, is, s5, hl, _ => ⟨is, s5, hl, rfl⟩
  | s :: ls, L, is, s5, hl, hz => by
    simp only [List.length_cons] at hz
    rw [List.map_cons, List.foldl_cons]
    by_cases hs : s ∈ x :: L
    · have e : add1 x L s = L := by unfold add1; rw [if_pos hs]
      rw [e]
      obtain ⟨is', s5', h1, h2⟩ := inner b x k ls L is (some (.d (.str s))) hl (by omega)
      refine ⟨is', s5', h1, ?_⟩
      rw [← h2]
      refine for_step ?_
      have hm : memK (.inr s) ((x :: L).map Sum.inr) = true := by rw [memK_str]; exact decide_eq_true hs
      simp only [List.map_cons] at hm
      simp [turnF, b_steps_from_1, nextCt, stH, stS, hm]
    · have e : add1 x L s = L ++ [s] := by unfold add1; rw [if_neg hs]
      rw [e]
      obtain ⟨is', s5', h1, h2⟩ := inner b x k ls (L ++ [s]) (is ++ [k]) (some (.d (.str s))) (by simp [hl]) (by simp; omega)
      refine ⟨is', s5', h1, ?_⟩
      rw [← h2]
      refine for_step ?_
      have hm : memK (.inr s) ((x :: L).map Sum.inr) = false := by rw [memK_str]; exact decide_eq_false hs
      obtain ⟨e1, e2⟩ := put_new (is := is) (k := k) hs
      simp only [List.map_cons] at hm e1 e2
      have hz1 : L.length + 1 < 16777216 := by omega
      simp [turnF, b_steps_from_1, nextCt, stH, stS, hm, e1, e2, hz1, keyD]
theorem outer {E : List Ent} {R : List Rl} {x : Tx} (w : Wf E R) (hx : Wd E x) : ∀ (ks : List Nat) (L : List Tx) (is : List Int) (s4 s5 : Option Vl), (∀ k ∈ ks, k < R.length) → L.length = is.length → L.length + ks.length * 100 + 1 < 16777216 →
    ∃ is' s4' s5', ((allRes E R x ks).foldl (add1 x) L).length = is'.length ∧ forX (xgN 4) b_steps_from_0 [] 1 (natsD ks) (stS (bookD E R) x s4 s5) [stH x L is] = .ok (.nx, stS (bookD E R) x s4' s5', [stH x ((allRes E R x ks).foldl (add1 x) L) is'])
  | [], L, is, s4, s5, _, hl, _ => ⟨is, s4, s5, hl, rfl⟩
  | k :: ks, L, is, s4, s5, hk, hl, hz => by
    simp only [List.length_cons, Nat.add_mul, Nat.one_mul] at hz
    have hkl := hk k List.mem_cons_self
    have hr : R[k]? = some R[k] := List.getElem?_eq_getElem hkl
    have rl := res_len w hx R[k]
    have ea : allRes E R x (k :: ks) = res E R[k] x ++ allRes E R x ks := by
      unfold allRes
      rw [List.flatMap_cons, hr]
    rw [ea, List.foldl_append]
    obtain ⟨is1, t5, h1, h2⟩ := inner (bookD E R) x k (res E R[k] x) L is s5 hl (by omega)
    have fl := fold_len x (res E R[k] x) L
    obtain ⟨is', s4', s5', h3, h4⟩ := outer w hx ks _ is1 (some (.d (.int k))) t5 (fun j hj => hk j (List.mem_cons_of_mem _ hj)) h1 (by omega)
    refine ⟨is', s4', s5', h3, ?_⟩
    rw [← h4]
    show forX _ _ _ _ (D.int k :: natsD ks) _ _ = _
    refine for_step ?_
    have hR := l_results w hx hr
    unfold stS at h2
    simp [turnF, b_steps_from_0, nextCt, stS, hR, txs, h2]
theorem oAdd_nats (a b : List Nat) (h : a.length + b.length ≤ 16777216) : oAdd (.lst (natsD a)) (.lst (natsD b)) = some (.lst (natsD (a ++ b))) := by
  simp [natsD, h]
theorem l_steps_from {E : List Ent} {R : List Rl} {x : Tx} (w : Wf E R) (hx : Wd E x) : ∃ is : List Int, is.length = (once x (allRes E R x (List.range R.length))).length ∧ f_steps_from [bookD E R, .str x, .int 0] [] = .ok (.new (.lst (pairsD is (once x (allRes E R x (List.range R.length))))), []) := by
  have nR := w.nR
  obtain ⟨is, s4, s5, h1, h2⟩ := outer w hx (List.range R.length) [] [] none none (fun k hk => List.mem_range.mp hk) rfl (by simp; omega)
  refine ⟨is, h1.symm, ?_⟩
  have e1 : oRgE2 [.int 0, .int R.length] = some (natsD (List.range R.length)) := by
    have e := rngD_up R.length
    unfold oRgE2
    dsimp only
    rw [if_pos (by omega), Int.sub_zero, e]
  have e2 : oRgE1 [.int 0] = some [] := by simpa [natsD] using rgE1_nat 0 (by omega)
  have ne : ∀ s ∈ once x (allRes E R x (List.range R.length)), s ≠ x := add1_ne _ [] fun s hs => by cases hs
  have ol := once_len w hx
  have e3 := blk_filter (g := xgTup 2 (xgCons (xgN 5) (xgCons (xgN 4) xgNil))) (t := xB (xOp oNe (xVar 5) (xVar 1))) (vs := [5, 4]) (e := xTup (xCons (xVar 4) (xCons (xVar 5) xNil))) (ρ := [some (.d (bookD E R)), some (.d (.str x)), some (.d (.int 0)), some (.d (.dic ((x :: once x (allRes E R x (List.range R.length))).map Sum.inr) (.int (-1) :: is.map .int))), s4, s5]) (h := [.dead])
    (F := fun p : Tx × Int => D.tup [.str p.1, .int p.2]) (v := fun p => if p.1 = x then none else some (.tup [.int p.2, .str p.1])) ((x, -1) :: (once x (allRes E R x (List.range R.length))).zip is) 0
    (fun p hp => by
      by_cases e : p.1 = x
      · simp [turnE, e]
      · simp [turnE, e]) (by simp; omega)
  have e4 : itemsD ((x :: once x (allRes E R x (List.range R.length))).map Sum.inr) (.int (-1) :: is.map .int) = ((x, -1) :: (once x (allRes E R x (List.range R.length))).zip is).map fun p : Tx × Int => D.tup [.str p.1, .int p.2] := items_of x _ is
  have e5 : (((x, (-1 : Int)) :: (once x (allRes E R x (List.range R.length))).zip is).filterMap fun p => if p.1 = x then none else some (D.tup [.int p.2, .str p.1])) = pairsD is (once x (allRes E R x (List.range R.length))) := by
    rw [List.filterMap_cons_none (by simp)]
    rw [← filt x _ is ne, List.filterMap_map]
    rfl
  rw [← e4, e5] at e3
  unfold once at e3
  unfold once
  simp only [natsD] at e1
  simp only [stS, natsD, stH, List.map_cons, List.map_nil] at h2
  simp only [List.map_cons] at e3
  simp [f_steps_from, b_steps_from, bookD, xPairs, keysOf] at h2 e3 ⊢
  have hzR : R.length ≤ 16777216 := by omega
  simp [keyD, mrgD, putKs, putDs, memK, e1, e2, hzR, h2, e3]
theorem l_plain_steps {E : List Ent} {R : List Rl} {x : Tx} (w : Wf E R) (hx : Wd E x) : f_plain_steps [bookD E R, .str x] [] = .ok (.d (.tup ((once x (allRes E R x (List.range R.length))).map .str)), []) := by
  obtain ⟨is, hl, e⟩ := l_steps_from w hx
  have ol := once_len w hx
  simp [f_plain_steps, b_plain_steps, e]
  unfold pairsD
  rw [blk_all (fun p : Int × Tx => D.tup [.int p.1, .str p.2]) (fun p => .str p.2) _ 0 (fun p hp => by simp [turnE]) (by simp; omega)]
  have e2 : ∀ (L : List Tx) (is : List Int), is.length = L.length → (is.zip L).map (fun p : Int × Tx => D.str p.2) = L.map .str := by
    intro L
    induction L with
    | nil => intro is _; simp
    | cons s L ih =>
      intro is h
      cases is with
      | nil => simp at h
      | cons i is => rw [List.zip_cons_cons, List.map_cons, List.map_cons, ih is (by simpa using h)]
  simp [e2 _ is hl]
theorem l_steps_of {E : List Ent} {R : List Rl} {x : Tx} (w : Wf E R) (hx : Wd E x) : f_steps_of [bookD E R, .str x] [] = .ok (.d (.tup ((once x (allRes E R x (List.range R.length))).map .str)), []) := by
  simp [f_steps_of, b_steps_of, l_want_thing w hx, l_plain_steps w hx]
theorem l_rule_steps {E : List Ent} {R : List Rl} {x : Tx} {k : Nat} {r : Rl} (w : Wf E R) (hx : Wd E x) (hr : R[k]? = some r) : f_rule_steps [bookD E R, .int k, .str x] [] = .ok (.d (.tup ((once x (res E r x)).map .str)), []) := by
  have hk := (List.getElem?_eq_some_iff.mp hr).1
  have rl := res_len w hx r
  have hI := l_results w hx hr
  have hW := l_want_thing w hx (.str (T "x"))
  have e := mrg_once x (res E r x) [] []
  rw [List.map_nil, List.filterMap_map] at e
  unfold bookD at hI hW ⊢
  simp [f_rule_steps, b_rule_steps, l_is_number, l_want, hk, hI, hW, txs]
  rw [dc_filter D.str (fun s => if s = x then none else some ((.inr s : DK), D.bl true)) (res E r x) [] [] (fun s hs => by
    by_cases e : s = x
    · simp [turnD, e]
    · simp [turnD, e, keyD]) (by simp; omega)]
  have e' : (mrgD [] [] ((res E r x).filterMap fun s => if s = x then none else some ((.inr s : DK), D.bl true))).1 = (once x (res E r x)).map Sum.inr := e
  simp [e']
  intro s hs
  rfl
end LW
namespace LW
open PySem PySem.Spec PyProof.Rows L2 DL EL
/-! ### the draws' object -/
instance spring : FeedI where
  TD := fun n d => ∃ (cells : List Int) (place rest count : Int), d = .dic [.inr (T "cells"), .inr (T "place"), .inr (T "rest"), .inr (T "count")] [.lst (cells.map .int), .int place, .int rest, .int count] ∧ 0 ≤ place ∧ 0 ≤ rest ∧ 0 ≤ count ∧ count ≤ n
  le := fun h ⟨cells, place, rest, count, h1, h2, h3, h4, h5⟩ => ⟨cells, place, rest, count, h1, h2, h3, h4, by omega⟩
instance noErr : ExI where
  ExR := fun _ _ _ _ _ => False
  mono := fun _ h => h
theorem s_pl : T "place" ≠ T "cells" := by decide +kernel
theorem s_re : T "rest" ≠ T "cells" := by decide +kernel
theorem s_re2 : T "rest" ≠ T "place" := by decide +kernel
theorem s_co : T "count" ≠ T "cells" := by decide +kernel
theorem s_co2 : T "count" ≠ T "place" := by decide +kernel
theorem s_co3 : T "count" ≠ T "rest" := by decide +kernel
theorem l_spring (ns : List Int) : f_L_spring [.scr ns] [] = .ok (.new (.dic [.inr (T "cells"), .inr (T "place"), .inr (T "rest"), .inr (T "count")] [.lst ((ns.take 60).map .int), .int 0, .int 0, .int 0]), []) := by
  have e : cutL (ns.map D.int) none (some 60) = (ns.take 60).map D.int := by
    have := cut_take (ns.map D.int) 60
    rw [List.map_take]
    exact this
  simp [f_L_spring, b_L_spring, xPairs, e, keysOf, keyD, mrgD, putKs, putDs, memK, s_pl, s_re, s_re2, s_co, s_co2, s_co3, s_pl.symm, s_re.symm, s_re2.symm, s_co.symm, s_co2.symm, s_co3.symm]
theorem mk_spring : MakeOk f_L_spring := fun ns => by
  rw [l_spring]
  exact ⟨_, rfl, ns.take 60, 0, 0, 0, rfl, by decide, by decide, by decide, by decide⟩
abbrev dk4 : List DK := [.inr (T "cells"), .inr (T "place"), .inr (T "rest"), .inr (T "count")]
theorem k_ks (a : Tx) (h : a = T "cells" ∨ a = T "place" ∨ a = T "rest" ∨ a = T "count") : putKs dk4 (.inr a) = dk4 := by
  unfold putKs
  have : memK (.inr a) dk4 = true := by rcases h with rfl | rfl | rfl | rfl <;> simp [memK]
  rw [if_pos this]
theorem k_re (a b c d v : D) : putDs dk4 [a, b, c, d] (.inr (T "rest")) v = [a, b, v, d] := by
  simp [putDs, memK, s_pl, s_re, s_re2, s_co, s_co2, s_co3, s_pl.symm, s_re.symm, s_re2.symm, s_co.symm, s_co2.symm, s_co3.symm]
theorem k_pl (a b c d v : D) : putDs dk4 [a, b, c, d] (.inr (T "place")) v = [a, v, c, d] := by
  simp [putDs, memK, s_pl, s_re, s_re2, s_co, s_co2, s_co3, s_pl.symm, s_re.symm, s_re2.symm, s_co.symm, s_co2.symm, s_co3.symm]
theorem k_co (a b c d v : D) : putDs dk4 [a, b, c, d] (.inr (T "count")) v = [a, b, c, v] := by
  simp [putDs, memK, s_pl, s_re, s_re2, s_co, s_co2, s_co3, s_pl.symm, s_re.symm, s_re2.symm, s_co.symm, s_co2.symm, s_co3.symm]
theorem g_ce (a b c d : D) : getK dk4 [a, b, c, d] (.inr (T "cells")) = some a := by simp [getK]
theorem g_pl (a b c d : D) : getK dk4 [a, b, c, d] (.inr (T "place")) = some b := by simp [getK, s_pl.symm]
theorem g_re (a b c d : D) : getK dk4 [a, b, c, d] (.inr (T "rest")) = some c := by simp [getK, s_re.symm, s_re2.symm]
theorem g_co (a b c d : D) : getK dk4 [a, b, c, d] (.inr (T "count")) = some d := by simp [getK, s_co.symm, s_co2.symm, s_co3.symm]
theorem mod_ok {r n : Int} (h : 0 < n) : 0 ≤ r % n ∧ r % n < n := ⟨Int.emod_nonneg _ (by omega), Int.emod_lt_of_pos _ h⟩
def td (cells : List Int) (place rest count : Int) : D := .dic dk4 [.lst (cells.map .int), .int place, .int rest, .int count]
/-- the reading is cut in two: from the test for big cells on -/
def dipTail (c1 c2 c3 : Int) : XS := (xSeq (xIfS (xAnd (xB (xOp oGe (xVar 5) (xOp oPow (xC (.int 10)) (xC (.int 18))))) (xB (xOp oLt (xVar 4) (xCallB oLen (xCons (xIxo (xVar 0) (xC (.str (T "cells")))) xNil)))))
  (xSeq (xDput (xVar 0) (xC (.str (T "rest"))) (xOp oFdiv (xVar 5) (xVar 1)))
  (xRet (xOp oMod (xCallB oInt (xCons (xVar 5) xNil)) (xVar 1))))
  xNext)
  (xSeq (xSet 6 (xOp oMod (xCallB oInt (xCons (xOp oPow (xOp oAdd (xOp oAdd (xOp oMod (xCallB oInt (xCons (xVar 5) xNil)) (xC (.int 2147483353))) (xOp oMul (xC (.int c1)) (xVar 2))) (xC (.int c2))) (xC (.int 3))) xNil)) (xC (.int 2147483647))))
  (xSeq (xSet 6 (xOp oMod (xCallB oInt (xCons (xOp oPow (xOp oAdd (xVar 6) (xOp oMul (xC (.int c3)) (xVar 2))) (xC (.int 5))) xNil)) (xC (.int 2147483587))))
  (xRet (xOp oMod (xCallB oInt (xCons (xOp oFdiv (xVar 6) (xC (.int 128))) xNil)) (xVar 1))))))
theorem dip_tail {c1 c2 c3 : Int} (hc1 : 0 ≤ c1 ∧ c1 ≤ 100000) (hc2 : 0 ≤ c2 ∧ c2 ≤ 100000) (hc3 : 0 ≤ c3 ∧ c3 ≤ 100000) {n : Int} (cells : List Int) (place rest count cell turn : Int) (s3 s6 : Option Vl) (h1 : 0 < n) (h2 : n < 1073741824) (hr : 0 ≤ rest) (hc : 0 ≤ count) (hcm : count ≤ 16777216) :
    (dipTail c1 c2 c3 [some (.c 0), some (.d (.int n)), some (.d (.int count)), s3, some (.d (.int turn)), some (.d (.int cell)), s6] [.own (td cells place rest count)]).all (fun p => ∃ r rest' : Int, 0 ≤ r ∧ r < n ∧ 0 ≤ rest' ∧ p.1 = .rt (.d (.int r)) ∧ p.2.2 = [.own (td cells place rest' count)]) fun _ => False := by
  have pw : ((10 : Int) ^ 18) = 1000000000000000000 := by decide
  have m1 := mod_ok (r := cell) (n := 2147483353) (by decide)
  have hm : c1 * count ≤ 100000 * 16777216 := Int.mul_le_mul hc1.2 hcm hc (by decide)
  have hm0 : 0 ≤ c1 * count := Int.mul_nonneg hc1.1 hc
  have hq : c3 * count ≤ 100000 * 16777216 := Int.mul_le_mul hc3.2 hcm hc (by decide)
  have hq0 : 0 ≤ c3 * count := Int.mul_nonneg hc3.1 hc
  have b1 : (cell % 2147483353 + c1 * count + c2).natAbs < 18446744073709551616 := by omega
  have m2 := mod_ok (r := (cell % 2147483353 + c1 * count + c2) ^ 3) (n := 2147483647) (by decide)
  have b2 : ((cell % 2147483353 + c1 * count + c2) ^ 3 % 2147483647 + c3 * count).natAbs < 18446744073709551616 := by omega
  have w1 : (-18446744073709551616 < c1 ∧ c1 < 18446744073709551616) ∨ (-18446744073709551616 < count ∧ count < 18446744073709551616) := .inl ⟨by omega, by omega⟩
  have w3 : (-18446744073709551616 < c3 ∧ c3 < 18446744073709551616) ∨ (-18446744073709551616 < count ∧ count < 18446744073709551616) := .inl ⟨by omega, by omega⟩
  by_cases q1 : (10 : Int) ^ 18 ≤ cell
  · by_cases q2 : turn < cells.length
    · have m3 := mod_ok (r := cell) (n := n) h1
      have c4 : 0 ≤ cell / n := Int.ediv_nonneg (by omega) (by omega)
      rw [pw] at q1
      have key : ∃ r rest' : Int, 0 ≤ r ∧ r < n ∧ 0 ≤ rest' ∧ Fl.rt (.d (.int (cell % n))) = .rt (.d (.int r)) ∧ [Cell.own (td cells place (cell / n) count)] = [.own (td cells place rest' count)] := ⟨_, _, m3.1, m3.2, c4, rfl, rfl⟩
      simpa [dipTail, td, g_ce, q1, q2, h1, h2, keyD, k_re, k_ks] using key
    · have m3 := mod_ok (r := ((((cell % 2147483353 + c1 * count + c2) ^ 3 % 2147483647 + c3 * count) ^ 5 % 2147483587) / 128)) (n := n) h1
      rw [pw] at q1
      have key : ∃ r rest' : Int, 0 ≤ r ∧ r < n ∧ 0 ≤ rest' ∧ Fl.rt (.d (.int (((((cell % 2147483353 + c1 * count + c2) ^ 3 % 2147483647 + c3 * count) ^ 5 % 2147483587) / 128) % n))) = .rt (.d (.int r)) ∧ [Cell.own (td cells place rest count)] = [.own (td cells place rest' count)] := ⟨_, _, m3.1, m3.2, hr, rfl, rfl⟩
      simpa [dipTail, td, g_ce, q1, q2, h1, h2, b1, b2, w1, w3] using key
  · have m3 := mod_ok (r := ((((cell % 2147483353 + c1 * count + c2) ^ 3 % 2147483647 + c3 * count) ^ 5 % 2147483587) / 128)) (n := n) h1
    rw [pw] at q1
    have key : ∃ r rest' : Int, 0 ≤ r ∧ r < n ∧ 0 ≤ rest' ∧ Fl.rt (.d (.int (((((cell % 2147483353 + c1 * count + c2) ^ 3 % 2147483647 + c3 * count) ^ 5 % 2147483587) / 128) % n))) = .rt (.d (.int r)) ∧ [Cell.own (td cells place rest count)] = [.own (td cells place rest' count)] := ⟨_, _, m3.1, m3.2, hr, rfl, rfl⟩
    simpa [dipTail, td, g_ce, q1, h1, h2, b1, b2, w1, w3] using key
theorem dip_split : b_L_dip = (xSeq (xSet 2 (xOp oAdd (xIxo (xVar 0) (xC (.str (T "count")))) (xC (.int 1))))
  (xSeq (xDput (xVar 0) (xC (.str (T "count"))) (xVar 2))
  (xSeq (xIfS (xB (xOp oGt (xIxo (xVar 0) (xC (.str (T "rest")))) (xC (.int 0))))
  (xSeq (xSet 3 (xOp oMod (xCallB oInt (xCons (xIxo (xVar 0) (xC (.str (T "rest")))) xNil)) (xVar 1)))
  (xSeq (xDput (xVar 0) (xC (.str (T "rest"))) (xOp oFdiv (xIxo (xVar 0) (xC (.str (T "rest")))) (xVar 1)))
  (xRet (xVar 3))))
  xNext)
  (xSeq (xSet 4 (xIxo (xVar 0) (xC (.str (T "place")))))
  (xSeq (xDput (xVar 0) (xC (.str (T "place"))) (xOp oAdd (xVar 4) (xC (.int 1))))
  (xSeq (xSet 5 (xC (.int 86318)))
  (xSeq (xIfS (xB (xOp oNe (xIxo (xVar 0) (xC (.str (T "cells")))) (xLst xNil)))
  (xSet 5 (xOp oIx (xIxo (xVar 0) (xC (.str (T "cells")))) (xOp oMod (xCallB oInt (xCons (xVar 4) xNil)) (xCallB oLen (xCons (xIxo (xVar 0) (xC (.str (T "cells")))) xNil)))))
  xNext)
  (dipTail 6011 223 40013)))))))) := rfl
theorem oEq_nil (ns : List Int) : oEq (.lst (ns.map .int)) (.lst []) = some (.bl ns.isEmpty) := by
  have ok : okE (.lst (ns.map .int)) = true := by
    show PyData.canLayAll0 (toPyAll (ns.map .int)) = true
    induction ns with
    | nil => rfl
    | cons n ns ih => exact ih
  have e : eqD (.lst (ns.map .int)) (.lst []) = ns.isEmpty := by
    cases ns with
    | nil => show PyData.eqv (.list []) (.list []) = true; simp [PyData.eqv, PyData.eqvAll]
    | cons n ns => show PyData.eqv (.list (.int n :: toPyAll (ns.map .int))) (.list []) = false; simp [PyData.eqv, PyData.eqvAll]
  have ok2 : okE (.lst []) = true := rfl
  have dp : min (depE (.lst (ns.map .int))) (depE (.lst [])) ≤ 64 := Nat.le_trans (Nat.min_le_right _ _) (by show 1 ≤ 64; decide)
  show (if okE _ && okE _ && decide (_ ≤ 64) then some (D.bl (eqD _ _)) else none) = _
  rw [ok, ok2, decide_eq_true dp, e]
  rfl
theorem draw_ok : DrawOk r_L_dip := fun k n d h1 h2 h3 ⟨cells, place, rest, count, e, hp, hr, hc, hcm⟩ => by
  subst e
  have hc' : count + 1 ≤ 16777216 := by omega
  unfold r_L_dip
  rw [dip_split]
  by_cases b1 : 0 < rest
  · have m3 := mod_ok (r := rest) (n := n) h1
    have c4 : 0 ≤ rest / n := Int.ediv_nonneg (by omega) (by omega)
    have key : ∃ (r0 : Int) (d' : D), ((Rv.d (.int (rest % n)), [Cell.own (td cells place (rest / n) (count + 1))]) : Rv × List Cell) = (.d (.int r0), [.own d']) ∧ 0 ≤ r0 ∧ r0 < n ∧ FeedI.TD (k + 1) d' := ⟨_, _, rfl, m3.1, m3.2, cells, place, rest / n, count + 1, rfl, hp, c4, by omega, by omega⟩
    simpa [g_ce, g_pl, g_re, g_co, k_ks, k_re, k_pl, k_co, keyD, b1, h1, h2, td] using key
  · have tail := fun (cell : Int) => dip_tail (c1 := 6011) (c2 := 223) (c3 := 40013) (by decide) (by decide) (by decide) cells (place + 1) rest (count + 1) cell place none none h1 h2 hr (by omega) hc'
    have fin : ∀ cell : Int, (dipTail 6011 223 40013 [some (.c 0), some (.d (.int n)), some (.d (.int (count + 1))), none, some (.d (.int place)), some (.d (.int cell)), none] [.own (td cells (place + 1) rest (count + 1))]).all (fun p => (finF 1 p).all (fun q => ∃ (r0 : Int) (d' : D), q = (.d (.int r0), [.own d']) ∧ 0 ≤ r0 ∧ r0 < n ∧ FeedI.TD (k + 1) d') fun _ => False) fun _ => False := fun cell => by
      refine Tr.all_mono (fun p z => ?_) (fun _ z => z) (tail cell)
      obtain ⟨r, rest', q1, q2, q3, q4, q5⟩ := z
      obtain ⟨fl, ρ, h⟩ := p
      simp only at q4 q5
      subst q4 q5
      exact ⟨r, _, rfl, q1, q2, cells, place + 1, rest', count + 1, rfl, by omega, q3, by omega, by omega⟩
    by_cases b2 : cells = []
    · subst b2
      have := fin 86318
      have e0 : oEq (.lst []) (.lst []) = some (.bl true) := oEq_nil []
      simpa [g_ce, g_pl, g_re, g_co, k_ks, k_re, k_pl, k_co, keyD, b1, e0, Tr.all_bind, Tr.all_mapE, all_noex, td] using this
    · have hne : 0 < cells.length := List.length_pos_iff.mpr b2
      have c5 := mod_ok (r := place) (n := (cells.length : Int)) (by omega)
      obtain ⟨j, hj⟩ : ∃ j : Nat, place % (cells.length : Int) = (j : Int) := ⟨(place % (cells.length : Int)).toNat, by omega⟩
      have hjl : j < cells.length := by omega
      have hg : atI (cells.map D.int) (place % (cells.length : Int)) = some (.int cells[j]) := by
        rw [hj, atI_nat _ _ (by rw [List.length_map]; exact hjl), List.getElem?_map, List.getElem?_eq_getElem hjl]; rfl
      have := fin cells[j]
      have e0 := oEq_nil cells
      have e1 : cells.isEmpty = false := by cases cells; exact absurd rfl b2; rfl
      rw [e1] at e0
      simpa [g_ce, g_pl, g_re, g_co, k_ks, k_re, k_pl, k_co, keyD, b1, e0, hne, hg, Tr.all_bind, Tr.all_mapE, all_noex, td] using this
end LW
namespace LW
open PySem PySem.Spec PyProof.Rows L2 DL EL
theorem l_dip {n : Int} {k : Nat} (h1 : 0 < n) (h2 : n < 1073741824) (h3 : k + 1 ≤ 16777216) : f_L_dip [.int n] [.feed k] = .draw n fun r => .ok (.d (.int r), [.feed (k + 1)]) := by
  show (if 0 < n ∧ n < 1073741824 ∧ k + 1 ≤ 16777216 then (Tr.draw n fun r => .ok (.d (.int r), [.feed (k + 1)]) : Tr (Ex × List Cell) (Rv × List Cell)) else .bad) = _
  rw [if_pos ⟨h1, h2, h3⟩]
theorem l_pick {ds : List D} {k : Nat} (h1 : 0 < ds.length) (h2 : ds.length < 1000) (h3 : k + 1 ≤ 16777216) : (f_L_pick [.lst ds] [.feed k]).all (fun q => ∃ d ∈ ds, q = (.d d, [.feed (k + 1)])) fun _ => False := by
  have e := l_dip (n := ds.length) (k := k) (by omega) (by omega) h3
  simp [f_L_pick, b_L_pick, e, getCs]
  intro r h0 hr
  obtain ⟨j, rfl⟩ : ∃ j : Nat, r = (j : Int) := ⟨r.toNat, by omega⟩
  have hj : j < ds.length := by omega
  have hI : atI ds (j : Int) = some ds[j] := by rw [atI_nat _ _ hj, List.getElem?_eq_getElem hj]
  simp [hI, getCs]
theorem l_once (x : Tx) (ls : List Tx) (hl : ls.length ≤ 1000) : f_L_once [.str x, txs ls] [] = .ok (.d (.tup ((once x ls).map .str)), []) := by
  have key : ∀ (t : D) (ls L : List Tx), L.length + ls.length < 16777216 → forX (xgN 3) b_L_once_0 [3] 1 (ls.map .str) [some (.d (.str x)), some (.d t), some (.c 0), none] [.own (.lst (L.map .str))] = .ok (.nx, [some (.d (.str x)), some (.d t), some (.c 0), none], [.own (.lst ((ls.foldl (add1 x) L).map .str))]) := by
    intro t ls
    induction ls with
    | nil => intro L _; rfl
    | cons s ls ih =>
      intro L hz
      simp only [List.length_cons] at hz
      have hin : inD (.str s) (L.map .str) = decide (s ∈ L) := by
        unfold inD
        rw [List.any_map]
        by_cases hs : s ∈ L
        · rw [decide_eq_true hs, List.any_eq_true]
          exact ⟨s, hs, by simp [eqF]⟩
        · rw [decide_eq_false hs, List.any_eq_false]
          intro y hy
          simp only [Function.comp, eqF, decide_eq_true_eq]
          intro e
          exact hs (e ▸ hy)
      have hf := strs_flat L
      rw [List.map_cons, List.foldl_cons]
      by_cases e : s = x
      · have e1 : add1 x L s = L := by unfold add1; rw [if_pos (by rw [e]; exact List.mem_cons_self)]
        rw [e1, ← ih L (by omega)]
        refine for_step ?_
        simp [turnF, b_L_once_0, nextCt, e]
      · by_cases hs : s ∈ L
        · have e1 : add1 x L s = L := by unfold add1; rw [if_pos (List.mem_cons_of_mem _ hs)]
          rw [e1, ← ih L (by omega)]
          refine for_step ?_
          simp [turnF, b_L_once_0, nextCt, e, hin, hf, hs]
        · have e1 : add1 x L s = L ++ [s] := by unfold add1; rw [if_neg (by rw [List.mem_cons]; exact fun z => z.elim e hs)]
          rw [e1, ← ih (L ++ [s]) (by simp; omega)]
          refine for_step ?_
          have hz1 : L.length < 16777216 := by omega
          simp [turnF, b_L_once_0, nextCt, e, hin, hf, hs, hz1]
  have k2 := key (txs ls) ls [] (by simp; omega)
  unfold txs at k2 ⊢
  simp only [List.map_nil] at k2
  simp [f_L_once, b_L_once, once, k2]
end LW
namespace LW
open PySem PySem.Spec PyProof.Rows L2 DL EL
/-! ### short things -/
def late (E : List Ent) (level : List Tx) : List Tx := level.flatMap fun x => E.map fun e => x ++ e.1
def shortGo (E : List Ent) : Nat → List Tx × List Tx → List Tx
  | 0, s => s.1
  | n + 1, s => shortGo E n (s.1 ++ late E s.2, late E s.2)
theorem late_len (E : List Ent) (level : List Tx) : (late E level).length = level.length * E.length := by
  unfold late
  induction level with
  | nil => simp
  | cons x l ih => rw [List.flatMap_cons, List.length_append, List.length_map, ih, List.length_cons, Nat.add_mul]; omega
theorem short_in {E : List Ent} {R : List Rl} (w : Wf E R) (f : D) (lv : D) (lap : Option Vl) (c0 : Cell) : ∀ (level L : List Tx), (∀ x ∈ level, x.length ≤ 5) → L.length + level.length * 9 ≤ 16777216 →
    forX (xgN 5) b_L_short_1 [5, 6] 2 (level.map .str) [some (.d (bookD E R)), some (.c 0), some (.d lv), lap, some (.c 1), none, none] [c0, .own (.lst (L.map .str))] = .ok (.nx, [some (.d (bookD E R)), some (.c 0), some (.d lv), lap, some (.c 1), none, none], [c0, .own (.lst ((L ++ late E level).map .str))])
  | [], L, _, _ => by simp [late]; rfl
  | x :: level, L, hx, hz => by
    simp only [List.length_cons, Nat.add_mul, Nat.one_mul] at hz
    have nE := w.nE
    have hx1 := hx x List.mem_cons_self
    have e : L ++ late E (x :: level) = (L ++ E.map fun e => x ++ e.1) ++ late E level := by simp [late]
    rw [e, ← short_in w f lv lap c0 level (L ++ E.map fun e => x ++ e.1) (fun y hy => hx y (List.mem_cons_of_mem _ hy)) (by simp; omega), List.map_cons]
    refine for_step ?_
    unfold bookD
    have b := blk_all (g := xgN 6) (t := xYes) (vs := [6]) (e := xOp oAdd (xVar 5) (xOp oIx (xVar 6) (xC (.int 0)))) (ρ := [some (.d (.tup [.tup (E.map entD), .tup (R.map ruleD)])), some (.c 0), some (.d lv), lap, some (.c 1), some (.d (.str x)), none]) (h := [c0, .own (.lst (L.map .str))]) entD (fun e => .str (x ++ e.1)) E 0 (fun e he => by
      obtain ⟨c, h1, _⟩ := (w.ents e he).1
      have z : x.length + 1 ≤ 16777216 := by omega
      simp [turnE, entD, h1, z]) (by omega)
    have hz1 : L.length + E.length ≤ 16777216 := by omega
    simp [turnF, b_L_short_1, nextCt, b, hz1]
theorem late_word {E : List Ent} {R : List Rl} (w : Wf E R) {n : Nat} {level : List Tx} (h : ∀ x ∈ level, x.length + (n + 1) ≤ 5) : ∀ x ∈ late E level, x.length + n ≤ 5 := fun y hy => by
  obtain ⟨x, hx, hy⟩ := List.mem_flatMap.mp hy
  obtain ⟨e, he, rfl⟩ := List.mem_map.mp hy
  obtain ⟨c, h1, _⟩ := (w.ents e he).1
  have := h x hx
  rw [h1]
  simp
  omega
theorem short_out {E : List Ent} {R : List Rl} (w : Wf E R) : ∀ (laps : List Nat) (L level : List Tx), (∀ x ∈ level, x.length + laps.length ≤ 5) → level.length * 9 ^ laps.length ≤ 1000 → L.length + laps.length * 1000 ≤ 100000 →
    ∃ lv, forX (xgN 3) b_L_short_0 [3, 4, 5, 6] 1 (natsD laps) [some (.d (bookD E R)), some (.c 0), some (.d (txs level)), none, none, none, none] [.own (.lst (L.map .str))] = .ok (.nx, [some (.d (bookD E R)), some (.c 0), some (.d lv), none, none, none, none], [.own (.lst ((shortGo E laps.length (L, level)).map .str))])
  | [], L, level, _, _, _ => ⟨_, rfl⟩
  | k :: laps, L, level, hx, hz, hL => by
    simp only [List.length_cons] at hx hz hL
    have nE := w.nE
    have p9 : 9 ^ laps.length > 0 := Nat.pow_pos (by decide)
    have ll := late_len E level
    have h9 : level.length * 9 ^ (laps.length + 1) = level.length * 9 * 9 ^ laps.length := by rw [Nat.pow_succ, Nat.mul_assoc, Nat.mul_comm 9]
    have l9 : level.length * E.length ≤ level.length * 9 := Nat.mul_le_mul_left _ nE
    have hz2 : (late E level).length * 9 ^ laps.length ≤ 1000 := by
      rw [ll]
      exact Nat.le_trans (Nat.mul_le_mul_right _ l9) (by omega)
    have hz3 : level.length * 9 ≤ 1000 := by
      have := Nat.le_mul_of_pos_right (level.length * 9) p9
      omega
    obtain ⟨lv, ih⟩ := short_out w laps (L ++ late E level) (late E level) (late_word w hx) hz2 (by rw [List.length_append]; omega)
    refine ⟨lv, ?_⟩
    have e : shortGo E (k :: laps).length (L, level) = shortGo E laps.length (L ++ late E level, late E level) := rfl
    rw [e, ← ih]
    show forX _ _ _ _ (D.int k :: natsD laps) _ _ = _
    refine for_step ?_
    have b := short_in w (.int 0) (txs level) (some (.d (.int k))) (.own (.lst (L.map .str))) level [] (fun x h => by have := hx x h; omega) (by simp; omega)
    have hz4 : L.length + (late E level).length ≤ 16777216 := by omega
    simp only [List.map_nil, List.nil_append] at b
    unfold txs at b
    simp [turnF, b_L_short_0, nextCt, txs, b, hz4]
def short (E : List Ent) : List Tx := shortGo E (if E.length < 4 then 3 else 2) ([[]], [[]])
theorem l_short {E : List Ent} {R : List Rl} (w : Wf E R) : f_L_short [bookD E R] [] = .ok (.new (txs (short E)), []) := by
  have nil : T "" = [] := by decide +kernel
  have go := fun (n : Nat) (hn : n ≤ 3) => short_out w (List.range n) [[]] [[]] (by simp; omega) (by rw [List.length_range]; match n, hn with | 0, _ => decide | 1, _ => decide | 2, _ => decide | 3, _ => decide) (by simp; omega)
  have rng : ∀ n : Nat, n ≤ 3 → oRng1 [.int n] = some (natsD (List.range n)) := fun n hn => by
    have e := rngD_up n
    unfold oRng1
    dsimp only
    rw [if_pos (by omega), e]
  unfold short
  unfold bookD at go ⊢
  by_cases h : E.length < 4
  · obtain ⟨lv, e⟩ := go 3 (by decide)
    have r := rng 3 (by decide)
    have hI : (E.length : Int) < 4 := by omega
    rw [if_pos h]
    rw [List.length_range] at e
    simp [f_L_short, b_L_short, hI, nil, txs] at e r ⊢
    simp [e, r]
  · obtain ⟨lv, e⟩ := go 2 (by decide)
    have r := rng 2 (by decide)
    have hI : ¬ (E.length : Int) < 4 := by omega
    rw [if_neg h]
    rw [List.length_range] at e
    simp [f_L_short, b_L_short, hI, nil, txs] at e r ⊢
    simp [e, r]
end LW
namespace LW
open PySem PySem.Spec PyProof.Rows L2 DL EL
/-! ### the law's own results, from the left -/
def toL : Rl → Rl
  | .drop n _ => .drop n true
  | .put a b _ => .put a b true
  | .empty => .empty
  | .half _ => .half true
  | .lower _ => .lower true
def part (E : List Ent) (r : Rl) (x : Tx) (i : Nat) : List Tx := match r with
  | .drop n _ => if i + n ≤ x.length then [x.take i ++ x.drop (i + n)] else []
  | .put a b _ => if (x.drop i).take 1 = a then [x.take i ++ b ++ x.drop (i + 1)] else []
  | .lower _ => (lessOf E ((x.drop i).take 1)).map fun s => x.take i ++ s ++ x.drop (i + 1)
  | _ => []
theorem range_cut (m n : Nat) (f : Nat → Tx) : ∀ k, (List.range k).flatMap (fun i => if i + n ≤ m then [f i] else []) = (List.range (min k (m + 1 - n))).map f := by
  intro k
  induction k with
  | zero => simp
  | succ k ih =>
    rw [List.range_succ, List.flatMap_append, ih]
    by_cases h : k + n ≤ m
    · have e : min (k + 1) (m + 1 - n) = min k (m + 1 - n) + 1 := by omega
      have e2 : min k (m + 1 - n) = k := by omega
      rw [e, e2, List.range_succ, List.map_append]
      simp [h]
    · have e : min (k + 1) (m + 1 - n) = min k (m + 1 - n) := by omega
      rw [e]
      simp [h]
theorem part_res (E : List Ent) (r : Rl) (x : Tx) (ok : RlOk r) (h1 : r ≠ .empty) (h2 : ∀ l, r ≠ .half l) : (List.range x.length).flatMap (part E r x) = res E (toL r) x := by
  cases r with
  | drop n l =>
    have hn : 1 ≤ n := ok.1
    have := range_cut x.length n (fun i => x.take i ++ x.drop (i + n)) x.length
    rw [show min x.length (x.length + 1 - n) = x.length + 1 - n by omega] at this
    exact this
  | put a b l =>
    show (List.range x.length).flatMap _ = (List.range x.length).filterMap _
    generalize List.range x.length = ks
    induction ks with
    | nil => rfl
    | cons i ks ih =>
      rw [List.flatMap_cons, ih]
      show (if _ then _ else _) ++ _ = _
      by_cases h : (x.drop i).take 1 = a
      · rw [if_pos h, List.filterMap_cons_some (by rw [if_pos h])]; rfl
      · rw [if_neg h, List.filterMap_cons_none (by rw [if_neg h])]; rfl
  | empty => exact absurd rfl h1
  | half l => exact absurd rfl (h2 l)
  | lower l => rfl
theorem join0 : ∀ ls : List Tx, TL.joinL [] ls = ls.flatten
  | [] => rfl
  | [p] => by simp [TL.joinL]
  | p :: q :: r => by
    have := join0 (q :: r)
    simp only [TL.joinL, List.nil_append, this]
    simp
theorem pick_take (x : Tx) : ∀ k, k ≤ x.length → ((List.range k).map fun j => (x.drop j).take 1).flatten = x.take k
  | 0, _ => by simp
  | k + 1, h => by
    have := pick_take x k (by omega)
    rw [List.range_succ, List.map_append, List.flatten_append, this]
    have hc : x[k]? = some x[k] := List.getElem?_eq_getElem (by omega)
    simp only [List.map_cons, List.map_nil, List.flatten_cons, List.flatten_nil, List.append_nil, drop_take1 hc]
    rw [List.take_succ, hc]
    rfl
theorem take_s {x : Tx} {k : Nat} (h : k < x.length) : x.take (k + 1) = x.take k ++ (x.drop k).take 1 := by
  have hc : x[k]? = some x[k] := List.getElem?_eq_getElem h
  rw [drop_take1 hc, List.take_succ, hc]; rfl
theorem pick_cut (x : Tx) (i n : Nat) : ∀ k, k ≤ x.length → ((List.range k).filterMap fun j => if j < i ∨ i + n ≤ j then some ((x.drop j).take 1) else none).flatten = x.take (min i k) ++ (x.take k).drop (i + n)
  | 0, _ => by simp
  | k + 1, h => by
    have ih := pick_cut x i n k (by omega)
    have ts := take_s (x := x) (k := k) (by omega)
    rw [List.range_succ, List.filterMap_append, List.flatten_append, ih]
    have lk : (x.take k).length = k := by rw [List.length_take]; omega
    by_cases h1 : k < i
    · have d1 : (x.take k).drop (i + n) = [] := List.drop_of_length_le (by omega)
      have d2 : (x.take (k + 1)).drop (i + n) = [] := List.drop_of_length_le (by rw [List.length_take]; omega)
      rw [d1, d2, show min i k = k by omega, show min i (k + 1) = k + 1 by omega, ts]
      simp [h1]
    · by_cases h2 : i + n ≤ k
      · rw [show min i k = i by omega, show min i (k + 1) = i by omega, ts, List.drop_append_of_le_length (by omega)]
        simp [h2]
      · have d1 : (x.take k).drop (i + n) = [] := List.drop_of_length_le (by omega)
        have d2 : (x.take (k + 1)).drop (i + n) = [] := List.drop_of_length_le (by rw [List.length_take]; omega)
        rw [d1, d2, show min i k = i by omega, show min i (k + 1) = i by omega]
        simp [h1, h2]
theorem pick_all (x : Tx) (i n : Nat) (h : i + n ≤ x.length) : ((List.range x.length).filterMap fun j => if j < i ∨ i + n ≤ j then some ((x.drop j).take 1) else none).flatten = x.take i ++ x.drop (i + n) := by
  rw [pick_cut x i n x.length (Nat.le_refl _), show min i x.length = i by omega, List.take_length]
theorem part_len {E : List Ent} {R : List Rl} (w : Wf E R) (r : Rl) (x : Tx) (i : Nat) : (part E r x i).length ≤ 9 := by
  cases r with
  | drop n l =>
    show (if _ then _ else _ : List Tx).length ≤ 9
    split
    · exact (by decide : 1 ≤ 9)
    · exact Nat.zero_le _
  | put a b l =>
    show (if _ then _ else _ : List Tx).length ≤ 9
    split
    · exact (by decide : 1 ≤ 9)
    · exact Nat.zero_le _
  | empty => exact Nat.zero_le _
  | half l => exact Nat.zero_le _
  | lower l => unfold part; rw [List.length_map]; exact less_len w _
theorem dicP (E : List Ent) : oDictP [.lst (E.map entD)] = some (dicD E) := by
  have : DL.pairsOf (E.map entD) = some (E.map fun e => ((.inr e.1 : DK), D.tup (e.2.map .str))) := by
    induction E with
    | nil => rfl
    | cons e E ih => simp [DL.pairsOf, entD, keyD, ih]
  simp [this]
  rfl
end LW
namespace LW
open PySem PySem.Spec PyProof.Rows L2 DL EL
def leftS (b r : D) (E : List Ent) (x : Tx) (s5 : Option Vl) : List (Option Vl) := [some (.d b), some (.d r), some (.d (.str x)), some (.d (dicD E)), some (.c 0), s5, none, none, none, none]
theorem left_turn {E : List Ent} {R : List Rl} (w : Wf E R) {x : Tx} (hx : Wd E x) (r : Rl) (ok : RlOk r) (h1 : r ≠ .empty) (h2 : ∀ l, r ≠ .half l) (b : D) (L : List Tx) (s5 : Option Vl) (i : Nat) (hi : i < x.length) (hL : L.length + 9 ≤ 16777216) :
    turnF (xgN 5) b_L_left_0 [6, 7, 8, 9] 1 (.int i) (leftS b (ruleD r) E x s5) [.own (.lst (L.map .str))] = .ok (.ct, leftS b (ruleD r) E x (some (.d (.int i))), [.own (.lst ((L ++ part E r x i).map .str))]) := by
  have hl := hx.len
  have hc : x[i]? = some x[i] := List.getElem?_eq_getElem hi
  have ha : atI x (i : Int) = some x[i] := (atI_nat x i hi).trans hc
  have ed := drop_take1 hc
  have t2 := cut_take x i
  have t3 := cut_drop1 x i
  have n2 : T "lower" ≠ T "drop" := by decide +kernel
  have n3 : T "lower" ≠ T "put" := by decide +kernel
  have n4 : T "put" ≠ T "drop" := by decide +kernel
  have n6 : T "put" ≠ T "lower" := by decide +kernel
  have n7 : T "drop" ≠ T "lower" := by decide +kernel
  have n8 : T "drop" ≠ T "put" := by decide +kernel
  have nil : T "" = [] := by decide +kernel
  have hz1 : L.length < 16777216 := by omega
  cases r with
  | empty => exact absurd rfl h1
  | half l => exact absurd rfl (h2 l)
  | lower l =>
    obtain ⟨g1, g2, g3⟩ := less_get w (hx.lt _ (List.getElem_mem hi))
    have b1 := blk_all (g := xgN 8) (t := xYes) (vs := [8]) (e := xOp oAdd (xOp oAdd (xVar 6) (xVar 8)) (xVar 7)) (ρ := [some (.d b), some (.d (.tup [.str (T "lower"), side l])), some (.d (.str x)), some (.d (.dic (dKs E) (dDs E))), some (.c 0), some (.d (.int i)), some (.d (.str (x.take i))), some (.d (.str (x.drop (i + 1)))), none, none]) (h := [.own (.lst (L.map .str))]) D.str (fun s => .str (x.take i ++ s ++ x.drop (i + 1))) (lessOf E [x[i]]) 0 (fun s hs => by
      obtain ⟨y, rfl, _⟩ := g3 s hs
      have z1 : min i x.length + 1 ≤ 16777216 := by omega
      have z2 : min i x.length + 1 + (x.length - (i + 1)) ≤ 16777216 := by omega
      have z3 : min i x.length + (1 + (x.length - (i + 1))) ≤ 16777216 := by omega
      simp [turnE, z1, z2, z3]) (by omega)
    have hz2 : L.length + (lessOf E [x[i]]).length ≤ 16777216 := by omega
    simp [turnF, b_L_left_0, nextCt, leftS, ruleD, n2, n3, ha, t2, t3, part, ed, dicD, g1] at b1 ⊢
    simp [b1, hz2, n3, Function.comp_def, nextCt]
  | put a c l =>
    have hb := ok.2.1
    have z1 : min i x.length + c.length ≤ 16777216 := by omega
    have z2 : min i x.length + c.length + (x.length - (i + 1)) ≤ 16777216 := by omega
    have z3 : min i x.length + (c.length + (x.length - (i + 1))) ≤ 16777216 := by omega
    by_cases e : [x[i]] = a
    · simp [turnF, b_L_left_0, nextCt, leftS, ruleD, n4, n6, ha, t2, t3, e, z1, z2, z3, hz1, part, ed]
    · simp [turnF, b_L_left_0, nextCt, leftS, ruleD, n4, n6, ha, t2, t3, e, part, ed]
  | drop n l =>
    by_cases e : i + n ≤ x.length
    · have e' : (i : Int) + n ≤ x.length := by omega
      have rg : oRng1 [.int x.length] = some (natsD (List.range x.length)) := by
        have e := rngD_up x.length
        unfold oRng1
        dsimp only
        rw [if_pos (by omega), e]
      have b1 := blk_filter (g := xgN 9) (t := xOr (xB (xOp oLt (xVar 9) (xVar 5))) (xB (xOp oGe (xVar 9) (xOp oAdd (xVar 5) (xOp oIx (xVar 1) (xC (.int 1))))))) (vs := [9]) (e := xOp oIx (xVar 2) (xVar 9)) (ρ := [some (.d b), some (.d (.tup [.str (T "drop"), .int n, side l])), some (.d (.str x)), some (.d (dicD E)), some (.c 0), some (.d (.int i)), some (.d (.str (x.take i))), some (.d (.str (x.drop (i + 1)))), none, none]) (h := [.own (.lst (L.map .str))]) (fun k : Nat => D.int k) (fun j => if j < i ∨ i + n ≤ j then some (D.str ((x.drop j).take 1)) else none) (List.range x.length) 0 (fun j hj => by
        have hj' := List.mem_range.mp hj
        have hcj : x[j]? = some x[j] := List.getElem?_eq_getElem hj'
        have haj : atI x (j : Int) = some x[j] := (atI_nat x j hj').trans hcj
        have edj := drop_take1 hcj
        by_cases q1 : j < i
        · have q1' : (j : Int) < i := by omega
          simp [turnE, q1, q1', haj, edj]
        · have q1' : ¬ (j : Int) < i := by omega
          by_cases q2 : i + n ≤ j
          · have q2' : (i : Int) + n ≤ j := by omega
            simp [turnE, q1, q1', q2, q2', haj, edj]
          · have q2' : ¬ (i : Int) + n ≤ j := by omega
            simp [turnE, q1, q1', q2, q2']) (by simp; omega)
      have e3 : (List.range x.length).filterMap (fun j => if j < i ∨ i + n ≤ j then some (D.str ((x.drop j).take 1)) else none) = ((List.range x.length).filterMap fun j => if j < i ∨ i + n ≤ j then some ((x.drop j).take 1) else none).map D.str := by
        generalize List.range x.length = ks
        induction ks with
        | nil => rfl
        | cons j ks ih =>
          by_cases q : j < i ∨ i + n ≤ j
          · rw [List.filterMap_cons_some (by rw [if_pos q]), List.filterMap_cons_some (by rw [if_pos q]), List.map_cons, ih]
          · rw [List.filterMap_cons_none (by rw [if_neg q]), List.filterMap_cons_none (by rw [if_neg q]), ih]
      have pc := pick_all x i n e
      have jl : oJoin [] (.lst (((List.range x.length).filterMap fun j => if j < i ∨ i + n ≤ j then some ((x.drop j).take 1) else none).map D.str)) = some (.str (x.take i ++ x.drop (i + n))) := by
        unfold oJoin
        simp only [ssOf_mapS']
        rw [join0, pc, if_pos]
        have l1 := congrArg List.length pc
        rw [List.length_flatten] at l1
        rw [l1]
        simp only [List.length_append, List.length_take, List.length_drop, List.length_nil, Nat.mul_zero]
        omega
      rw [e3] at b1
      simp [turnF, b_L_left_0, nextCt, leftS, ruleD, n7, n8, t2, t3, e, e', part, nil, natsD] at b1 rg ⊢
      simp [rg, b1, jl, hz1, n7, n8, nextCt]
    · have e' : ¬ ((i : Int) + n ≤ x.length) := by omega
      simp [turnF, b_L_left_0, nextCt, leftS, ruleD, n7, n8, t2, t3, e, e', part]
theorem left_loop {E : List Ent} {R : List Rl} (w : Wf E R) {x : Tx} (hx : Wd E x) (r : Rl) (ok : RlOk r) (h1 : r ≠ .empty) (h2 : ∀ l, r ≠ .half l) (b : D) : ∀ (ks : List Nat) (L : List Tx) (s5 : Option Vl), (∀ k ∈ ks, k < x.length) → L.length + ks.length * 9 ≤ 1000 →
    ∃ s5', forX (xgN 5) b_L_left_0 [6, 7, 8, 9] 1 (natsD ks) (leftS b (ruleD r) E x s5) [.own (.lst (L.map .str))] = .ok (.nx, leftS b (ruleD r) E x s5', [.own (.lst ((L ++ ks.flatMap (part E r x)).map .str))])
  | [], L, s5, _, _ => ⟨s5, by simp; rfl⟩
  | k :: ks, L, s5, hk, hL => by
    simp only [List.length_cons, Nat.add_mul, Nat.one_mul] at hL
    have pl := part_len w r x k
    obtain ⟨s5', ih⟩ := left_loop w hx r ok h1 h2 b ks (L ++ part E r x k) (some (.d (.int k))) (fun j hj => hk j (List.mem_cons_of_mem _ hj)) (by rw [List.length_append]; omega)
    refine ⟨s5', ?_⟩
    rw [List.flatMap_cons, ← List.append_assoc, ← ih]
    exact for_step (left_turn w hx r ok h1 h2 b L s5 k (hk k List.mem_cons_self) (by omega))
theorem rng1_nat (m : Nat) (hm : m ≤ 1000) : oRng1 [.int m] = some (natsD (List.range m)) := by
  have e := rngD_up m
  unfold oRng1
  dsimp only
  rw [if_pos (by omega), e]
theorem l_left {E : List Ent} {R : List Rl} (w : Wf E R) {x : Tx} (hx : Wd E x) (r : Rl) (ok : RlOk r) : f_L_left [bookD E R, ruleD r, .str x] [] = .ok (.new (txs (res E (toL r) x)), []) := by
  have hl := hx.len
  have nil : T "" = [] := by decide +kernel
  have rg := rng1_nat x.length (by omega)
  have dp := dicP E
  have n1 : T "half" ≠ T "empty" := by decide +kernel
  have n2 : T "drop" ≠ T "empty" := by decide +kernel
  have n3 : T "drop" ≠ T "half" := by decide +kernel
  have n4 : T "put" ≠ T "empty" := by decide +kernel
  have n5 : T "put" ≠ T "half" := by decide +kernel
  have n6 : T "lower" ≠ T "empty" := by decide +kernel
  have n7 : T "lower" ≠ T "half" := by decide +kernel
  have loop : ∀ (h1 : r ≠ .empty) (h2 : ∀ l, r ≠ .half l), ∃ s5', forX (xgN 5) b_L_left_0 [6, 7, 8, 9] 1 (natsD (List.range x.length)) (leftS (bookD E R) (ruleD r) E x none) [.own (.lst [])] = .ok (.nx, leftS (bookD E R) (ruleD r) E x s5', [.own (txs (res E (toL r) x))]) := fun h1 h2 => by
    obtain ⟨s5', e⟩ := left_loop w hx r ok h1 h2 (bookD E R) (List.range x.length) [] none (fun k hk => List.mem_range.mp hk) (by simp; omega)
    rw [List.nil_append, part_res E r x ok h1 h2] at e
    exact ⟨s5', e⟩
  cases r with
  | empty => simp [f_L_left, b_L_left, bookD, ruleD, dp, nil, toL, txs, res]
  | half l =>
    have rg2 : oRng1 [.int ((x.length : Int) / 2)] = some (natsD (List.range (x.length / 2))) := by
      have := rng1_nat (x.length / 2) (by omega)
      rwa [Int.natCast_ediv] at this
    have b1 := fun (h : List Cell) => blk_all (g := xgN 5) (t := xYes) (vs := [5]) (e := xOp oIx (xVar 2) (xVar 5)) (ρ := [some (.d (.tup [.tup (E.map entD), .tup (R.map ruleD)])), some (.d (.tup [.str (T "half"), side l])), some (.d (.str x)), some (.d (dicD E)), some (.c 0), none, none, none, none, none]) (h := h) (fun k : Nat => D.int k) (fun j => .str ((x.drop j).take 1)) (List.range (x.length / 2)) 0 (fun j hj => by
      have hj' : j < x.length := by have := List.mem_range.mp hj; omega
      have hcj : x[j]? = some x[j] := List.getElem?_eq_getElem hj'
      have haj : atI x (j : Int) = some x[j] := (atI_nat x j hj').trans hcj
      simp [turnE, haj, drop_take1 hcj]) (by simp; omega)
    have pt := pick_take x (x.length / 2) (by omega)
    have jl : oJoin [] (.lst ((List.range (x.length / 2)).map fun j => D.str ((x.drop j).take 1))) = some (.str (x.take (x.length / 2))) := by
      unfold oJoin
      simp only [ssOf_mapS]
      rw [join0, pt, if_pos]
      have l1 := congrArg List.length pt
      rw [List.length_flatten] at l1
      rw [l1]
      simp only [List.length_take, List.length_nil, Nat.mul_zero]
      omega
    simp [f_L_left, b_L_left, bookD, ruleD, dp, n1, nil, natsD] at b1 rg2 ⊢
    simp [rg2, b1, jl, toL, txs, res]
  | drop n l =>
    obtain ⟨s5, e⟩ := loop (fun z => nomatch z) (fun _ z => nomatch z)
    unfold leftS at e
    simp [f_L_left, b_L_left, bookD, ruleD, dp, n2, n3, rg] at e ⊢
    simp [e, txs]
  | put a b l =>
    obtain ⟨s5, e⟩ := loop (fun z => nomatch z) (fun _ z => nomatch z)
    unfold leftS at e
    simp [f_L_left, b_L_left, bookD, ruleD, dp, n4, n5, rg] at e ⊢
    simp [e, txs]
  | lower l =>
    obtain ⟨s5, e⟩ := loop (fun z => nomatch z) (fun _ z => nomatch z)
    unfold leftS at e
    simp [f_L_left, b_L_left, bookD, ruleD, dp, n6, n7, rg] at e ⊢
    simp [e, txs]
end LW
namespace LW
open PySem PySem.Spec PyProof.Rows L2 DL EL
/-! ### from the right -/
def bk : Rl → Rl
  | .put a b l => .put a b.reverse l
  | r => r
theorem rev_map {α : Type} (m : Nat) (f g : Nat → α) (h : ∀ k, k < m → f k = g (m - 1 - k)) : (List.range m).map f = (List.range m).reverse.map g := by
  rw [← PySem.W.krv_range, List.map_map]
  exact List.map_congr_left fun k hk => h k (List.mem_range.mp hk)
theorem rev_filter {α : Type} (m : Nat) (f g : Nat → Option α) (h : ∀ k, k < m → f k = g (m - 1 - k)) : (List.range m).filterMap f = (List.range m).reverse.filterMap g := by
  have := congrArg (fun l : List (Option α) => l.filterMap id) (rev_map m f g h)
  simpa [List.filterMap_map] using this
theorem rev_flat {α : Type} (m : Nat) (f g : Nat → List α) (h : ∀ k, k < m → f k = g (m - 1 - k)) : (List.range m).flatMap f = (List.range m).reverse.flatMap g := by
  have := congrArg List.flatten (rev_map m f g h)
  simpa [List.flatMap_def] using this
theorem rev_cut (x b : Tx) (k n j : Nat) (h : k + n + j = x.length) : (x.reverse.take k ++ b.reverse ++ x.reverse.drop (k + n)).reverse = x.take j ++ b ++ x.drop (j + n) := by
  rw [List.reverse_append, List.reverse_append, List.reverse_reverse, List.take_reverse, List.drop_reverse, List.reverse_reverse, List.reverse_reverse]
  rw [show x.length - (k + n) = j by omega, show x.length - k = j + n by omega, List.append_assoc]
theorem rev_cut0 (x : Tx) (k n j : Nat) (h : k + n + j = x.length) : (x.reverse.take k ++ x.reverse.drop (k + n)).reverse = x.take j ++ x.drop (j + n) := by
  have := rev_cut x [] k n j h
  simpa using this
theorem rev_one (x : Tx) (k : Nat) (h : k < x.length) : (x.reverse.drop k).take 1 = (x.drop (x.length - 1 - k)).take 1 := by
  have h1 : x.reverse[k]? = some x[x.length - 1 - k] := by
    rw [List.getElem?_eq_getElem (by simpa using h), List.getElem_reverse]
  have h2 : x[x.length - 1 - k]? = some x[x.length - 1 - k] := List.getElem?_eq_getElem (by omega)
  rw [drop_take1 h1, drop_take1 h2]
theorem less_one {E : List Ent} {R : List Rl} (w : Wf E R) (c : Tx) : ∀ s ∈ lessOf E c, isL s := by
  by_cases h : c ∈ E.map (·.1)
  · exact (less_get w h).2.2
  · have : getK (dKs E) (dDs E) (.inr c) = none := by
      cases e : getK (dKs E) (dDs E) (.inr c) with
      | none => rfl
      | some d =>
        exfalso
        refine h ?_
        have hm : (.inr c : DK) ∈ dKs E := getK_mem e
        have := mrg_keys (E.map fun e => ((.inr e.1 : DK), D.tup (e.2.map .str))) [] [] _ hm
        rcases this with z | z
        · cases z
        · rw [List.map_map] at z
          obtain ⟨e', he', e2⟩ := List.mem_map.mp z
          cases e2
          exact List.mem_map_of_mem he'
    intro s hs
    unfold lessOf at hs
    have this' : getK (mrgD [] [] (E.map fun e => ((.inr e.1 : DK), D.tup (e.2.map .str)))).1 (mrgD [] [] (E.map fun e => ((.inr e.1 : DK), D.tup (e.2.map .str)))).2 (.inr c) = none := this
    rw [this'] at hs
    cases hs
theorem turn_res {E : List Ent} {R : List Rl} (w : Wf E R) (x : Tx) : ∀ r : Rl, (match r with | .drop _ l => l = false | .put _ _ l => l = false | .half l => l = false | .lower l => l = false | .empty => False) → (match r with | .drop n _ => 1 ≤ n | _ => True) → (res E (toL (bk r)) x.reverse).map List.reverse = res E r x
  | .drop n l, h, hn => by
    cases h
    show ((List.range (x.reverse.length + 1 - n)).map _).map _ = (List.range (x.length + 1 - n)).reverse.map _
    rw [List.map_map, List.length_reverse]
    exact rev_map _ _ _ fun k hk => rev_cut0 x k n _ (by have : 1 ≤ n := hn; omega)
  | .put a b l, h, _ => by
    cases h
    show ((List.range x.reverse.length).filterMap _).map _ = (List.range x.length).reverse.filterMap _
    rw [List.map_filterMap, List.length_reverse]
    refine rev_filter _ _ _ fun k hk => ?_
    rw [rev_one x k hk]
    by_cases q : (x.drop (x.length - 1 - k)).take 1 = a
    · rw [if_pos q, if_pos q]
      exact congrArg some (rev_cut x b k 1 _ (by omega))
    · rw [if_neg q, if_neg q]; rfl
  | .half l, h, _ => by
    cases h
    show [(x.reverse.take (x.reverse.length / 2)).reverse] = [x.drop (x.length - x.length / 2)]
    rw [List.take_reverse, List.reverse_reverse, List.length_reverse]
  | .lower l, h, _ => by
    cases h
    show ((List.range x.reverse.length).flatMap _).map _ = (List.range x.length).reverse.flatMap _
    rw [List.map_flatMap, List.length_reverse]
    refine rev_flat _ _ _ fun k hk => ?_
    rw [rev_one x k hk, List.map_map]
    refine List.map_congr_left fun s hs => ?_
    obtain ⟨y, rfl, _⟩ := less_one w _ s hs
    exact rev_cut x [y] k 1 _ (by omega)
  | .empty, h, _ => h.elim
theorem wd_rev {E : List Ent} {x : Tx} (h : Wd E x) : Wd E x.reverse := ⟨fun c hc => h.lt c (List.mem_reverse.mp hc), by rw [List.length_reverse]; exact h.len⟩
theorem toL_true : ∀ r : Rl, (match r with | .drop _ l => l = true | .put _ _ l => l = true | .half l => l = true | .lower l => l = true | .empty => True) → toL r = r
  | .drop _ _, h => by cases h; rfl
  | .put _ _ _, h => by cases h; rfl
  | .half _, h => by cases h; rfl
  | .lower _, h => by cases h; rfl
  | .empty, _ => rfl
end LW
namespace LW
open PySem PySem.Spec PyProof.Rows L2 DL EL
theorem at_l2 (a b : D) : atI [a, b] (-1) = some b := rfl
theorem at_l3 (a b c : D) : atI [a, b, c] (-1) = some c := rfl
theorem at_l4 (a b c d : D) : atI [a, b, c, d] (-1) = some d := rfl
theorem at_l1 (a : D) : atI [a] (-1) = some a := rfl
theorem turn_blk (ls : List Tx) (hl : ls.length ≤ 1000) (a b c d e : Option Vl) (h : List Cell) : blkGo (xgN 4) xYes [4] (bdE (xUn oRevA (xVar 4))) [a, b, c, d, e] (ls.map .str) 0 h = .ok (ls.map fun s => .str s.reverse, h) :=
  blk_all (g := xgN 4) (t := xYes) (vs := [4]) (e := xUn oRevA (xVar 4)) (ρ := [a, b, c, d, e]) (h := h) D.str (fun s => .str s.reverse) ls 0 (fun s hs => by simp [turnE]) (by omega)
theorem l_turned_half {E : List Ent} {R : List Rl} (w : Wf E R) {x : Tx} (hx : Wd E x) (l : Bool) : f_L_turned [bookD E R, ruleD (.half l), .str x] [] = .ok (.new (txs (res E (.half l) x)), []) := by
  have nr : T "left" ≠ T "right" := by decide +kernel
  have np : T "half" ≠ T "put" := by decide +kernel
  cases l with
  | true =>
    have left := l_left w hx (.half true) trivial
    simp [ruleD, side, toL] at left
    simp [f_L_turned, b_L_turned, ruleD, side, at_l2, nr, left]
  | false =>
    have left := l_left w (wd_rev hx) (.half false) trivial
    have tr := turn_res w x (.half false) rfl trivial
    have bl := turn_blk (res E (toL (.half false)) x.reverse) (by simp [res, toL])
    simp only [bk] at tr
    have e : (res E (toL (.half false)) x.reverse).map (fun s => D.str s.reverse) = (res E (.half false) x).map .str := by
      rw [← tr, List.map_map]; rfl
    rw [e] at bl
    simp [ruleD, side, txs] at left
    simp [f_L_turned, b_L_turned, ruleD, side, at_l2, nr, np, left, bl, txs]
theorem l_turned_lower {E : List Ent} {R : List Rl} (w : Wf E R) {x : Tx} (hx : Wd E x) (l : Bool) : f_L_turned [bookD E R, ruleD (.lower l), .str x] [] = .ok (.new (txs (res E (.lower l) x)), []) := by
  have nr : T "left" ≠ T "right" := by decide +kernel
  have np : T "lower" ≠ T "put" := by decide +kernel
  cases l with
  | true =>
    have left := l_left w hx (.lower true) trivial
    simp [ruleD, side, toL] at left
    simp [f_L_turned, b_L_turned, ruleD, side, at_l2, nr, left]
  | false =>
    have left := l_left w (wd_rev hx) (.lower false) trivial
    have tr := turn_res w x (.lower false) rfl trivial
    have bl := turn_blk (res E (toL (.lower false)) x.reverse) (by have := res_len w (wd_rev hx) (toL (.lower false)); omega)
    simp only [bk] at tr
    have e : (res E (toL (.lower false)) x.reverse).map (fun s => D.str s.reverse) = (res E (.lower false) x).map .str := by
      rw [← tr, List.map_map]; rfl
    rw [e] at bl
    simp [ruleD, side, txs] at left
    simp [f_L_turned, b_L_turned, ruleD, side, at_l2, nr, np, left, bl, txs]
theorem l_turned_drop {E : List Ent} {R : List Rl} (w : Wf E R) {x : Tx} (hx : Wd E x) (n : Nat) (l : Bool) (ok : RlOk (.drop n l)) : f_L_turned [bookD E R, ruleD (.drop n l), .str x] [] = .ok (.new (txs (res E (.drop n l) x)), []) := by
  have nr : T "left" ≠ T "right" := by decide +kernel
  have np : T "drop" ≠ T "put" := by decide +kernel
  cases l with
  | true =>
    have left := l_left w hx (.drop n true) ok
    simp [ruleD, side, toL] at left
    simp [f_L_turned, b_L_turned, ruleD, side, at_l3, nr, left]
  | false =>
    have left := l_left w (wd_rev hx) (.drop n false) ok
    have tr := turn_res w x (.drop n false) rfl ok.1
    have bl := turn_blk (res E (toL (.drop n false)) x.reverse) (by have := res_len w (wd_rev hx) (toL (.drop n false)); omega)
    simp only [bk] at tr
    have e : (res E (toL (.drop n false)) x.reverse).map (fun s => D.str s.reverse) = (res E (.drop n false) x).map .str := by
      rw [← tr, List.map_map]; rfl
    rw [e] at bl
    simp [ruleD, side, txs] at left
    simp [f_L_turned, b_L_turned, ruleD, side, at_l3, nr, np, left, bl, txs]
theorem l_turned_put {E : List Ent} {R : List Rl} (w : Wf E R) {x : Tx} (hx : Wd E x) (a b : Tx) (l : Bool) (ok : RlOk (.put a b l)) : f_L_turned [bookD E R, ruleD (.put a b l), .str x] [] = .ok (.new (txs (res E (.put a b l) x)), []) := by
  have nr : T "left" ≠ T "right" := by decide +kernel
  cases l with
  | true =>
    have left := l_left w hx (.put a b true) ok
    simp [ruleD, side, toL] at left
    simp [f_L_turned, b_L_turned, ruleD, side, at_l4, nr, left]
  | false =>
    have ok' : RlOk (.put a b.reverse false) := ⟨ok.1, by rw [List.length_reverse]; exact ok.2.1, fun c hc => ok.2.2 c (List.mem_reverse.mp hc)⟩
    have left := l_left w (wd_rev hx) (.put a b.reverse false) ok'
    have tr := turn_res w x (.put a b false) rfl trivial
    have bl := turn_blk (res E (toL (.put a b.reverse false)) x.reverse) (by have := res_len w (wd_rev hx) (toL (.put a b.reverse false)); omega)
    simp only [bk] at tr
    have e : (res E (toL (.put a b.reverse false)) x.reverse).map (fun s => D.str s.reverse) = (res E (.put a b false) x).map .str := by
      rw [← tr, List.map_map]; rfl
    rw [e] at bl
    have c1 : ∀ p q r s : D, cutL [p, q, r, s] none (some 2) = [p, q] := fun p q r s => cut_take [p, q, r, s] 2
    have c2 : ∀ p q r s : D, cutL [p, q, r, s] (some 3) none = [s] := fun p q r s => cut_drop [p, q, r, s] 3
    simp [ruleD, side, txs] at left
    simp [f_L_turned, b_L_turned, ruleD, side, at_l4, nr, c1, c2, left, bl, txs]
theorem l_turned {E : List Ent} {R : List Rl} (w : Wf E R) {x : Tx} (hx : Wd E x) (r : Rl) (ok : RlOk r) : f_L_turned [bookD E R, ruleD r, .str x] [] = .ok (.new (txs (res E r x)), []) := by
  cases r with
  | empty =>
    have ne : T "empty" ≠ T "right" := by decide +kernel
    have left := l_left w hx .empty trivial
    simp [ruleD, toL] at left
    simp [f_L_turned, b_L_turned, ruleD, at_l1, ne, left]
  | half l => exact l_turned_half w hx l
  | lower l => exact l_turned_lower w hx l
  | drop n l => exact l_turned_drop w hx n l ok
  | put a b l => exact l_turned_put w hx a b l ok
end LW
namespace LW
open PySem PySem.Spec PyProof.Rows L2 DL EL
theorem l_scenes : f_L_scenes [] [] = .ok (.new (txs scenes), []) := by simp [f_L_scenes, b_L_scenes, scenes, txs]
theorem l_menu : f_L_menu [] [] = .ok (.new (txs menu), []) := by simp [f_L_menu, b_L_menu, menu, txs]
end LW
namespace LW
open PySem PySem.Spec PyProof.Rows L2 DL EL
/-! ### the rule of a sign -/
def lastL (s : Tx) : Bool := decide (s.getLast? = some 108)
def ruleOf (c0 c1 c2 c3 : Nat) (s : Tx) : Rl := match s with
  | [100, c, y] => .drop (c - 48) (lastL [y])
  | [101] => .empty
  | [104, y] => .half (lastL [y])
  | [108, y] => .lower (lastL [y])
  | 112 :: a :: 58 :: r => .put [nmOf c0 c1 c2 c3 a] ((r.take (r.length - 2)).map (nmOf c0 c1 c2 c3)) (lastL r)
  | _ => .empty
theorem ruleOf_ok {c0 c1 c2 c3 : Nat} (lw : Lows c0 c1 c2 c3) {s : Tx} (h : sgOk s = true) : RlOk (ruleOf c0 c1 c2 c3 s) := by
  unfold sgOk at h
  split at h
  · simp only [Bool.and_eq_true, decide_eq_true_eq] at h
    exact ⟨by omega, by omega⟩
  · trivial
  · trivial
  · trivial
  · simp only [Bool.and_eq_true, decide_eq_true_eq] at h
    refine ⟨⟨_, rfl, nm_low lw⟩, by rw [List.length_map, List.length_take]; omega, fun c hc => ?_⟩
    obtain ⟨b, _, rfl⟩ := List.mem_map.mp hc
    exact nm_low lw
  · cases h
theorem joinL_nil1 (f : Nat → Nat) : ∀ l : List Nat, TL.joinL [] (l.map fun b => [f b]) = l.map f
  | [] => rfl
  | [b] => rfl
  | b :: b2 :: l => by
    show [f b] ++ ([] ++ TL.joinL [] ((b2 :: l).map fun b => [f b])) = _
    rw [joinL_nil1 f (b2 :: l)]; rfl
theorem sum1 (f : Nat → Nat) : ∀ l : List Nat, ((l.map fun b => [f b]).map (·.length)).sum = l.length
  | [] => rfl
  | b :: l => by
    have := sum1 f l
    simp only [List.map_cons, List.sum_cons, List.length_cons, List.length_nil] at *
    omega
theorem blk_nm1 {c0 c1 c2 c3 : Nat} (l : List Nat) (hl : l.length ≤ 1000) (ho : l.all ab = true) (a b : Option Vl) (h : List Cell) :
    blkGo (xgN 3) xYes [3] (bdE (xOp oIx (xVar 1) (xVar 3))) [a, some (.d (nmD c0 c1 c2 c3)), b, none] (l.map chD) 0 h = .ok (l.map fun b => .str [nmOf c0 c1 c2 c3 b], h) := by
  refine blk_all chD (fun b => .str [nmOf c0 c1 c2 c3 b]) l 0 (fun b hb => ?_) (by omega)
  have g := nm_get c0 c1 c2 c3 (List.all_eq_true.mp ho b hb)
  simp [turnE, chD, nmD, g]
theorem cut_put (a c d : Nat) (r : Tx) : cutL (a :: c :: d :: r) (some 3) (some (-2)) = r.take (r.length - 2) := by
  unfold cutL HT.sIx
  simp only [List.length_cons]
  rw [if_neg (show ¬ (3 : Int) < 0 by decide), if_pos (show (-2 : Int) < 0 by decide)]
  rw [show min (Int.toNat 3) (r.length + 1 + 1 + 1) = 3 by show min 3 _ = 3; omega, show (-2 + ((r.length + 1 + 1 + 1 : Nat) : Int)).toNat = r.length + 1 by omega]
  show (r.take (r.length + 1 - 3)) = _
  rw [show r.length + 1 - 3 = r.length - 2 by omega]
theorem sideL (y : Nat) : (if [y] = T "l" then T "left" else T "right") = if lastL [y] = true then T "left" else T "right" := by
  rw [show T "l" = [108] by decide +kernel]
  unfold lastL
  by_cases h : y = 108 <;> simp [h]
theorem l_rule {c0 c1 c2 c3 : Nat} {s : Tx} (h : sgOk s = true) : f_L_rule [.str s, nmD c0 c1 c2 c3] [] = .ok (.d (ruleD (ruleOf c0 c1 c2 c3 s)), []) := by
  have eD : T "d" = [100] := by decide +kernel
  have eP : T "p" = [112] := by decide +kernel
  have eE : T "e" = [101] := by decide +kernel
  have eH : T "h" = [104] := by decide +kernel
  have eL : T "l" = [108] := by decide +kernel
  have eN : T "" = [] := by decide +kernel
  have last : ∀ (l : Tx) (y : Nat), atI (l ++ [y]) (-1) = some y := fun l y => atI_last l y
  unfold sgOk at h
  split at h
  · rename_i c y
    simp only [Bool.and_eq_true, decide_eq_true_eq] at h
    have a1 : atI [100, c, y] (-1) = some y := last [100, c] y
    have d1 := digit_int h.1 h.2
    have o1 : oInt [.str [c]] = some (.int ((c - 48 : Nat) : Int)) := by
      show (if [c].length ≤ 640 then (PySem.intText? (S [c])).map D.int else none) = _
      rw [d1]; rfl
    by_cases hy : y = 108
    · subst hy
      simp [f_L_rule, b_L_rule, a1, eD, eP, eE, eH, eL, o1, ruleOf, ruleD, side, lastL]
    · simp [f_L_rule, b_L_rule, a1, eD, eP, eE, eH, eL, hy, o1, ruleOf, ruleD, side, lastL]
  · simp [f_L_rule, b_L_rule, eD, eP, eE, eH, eL, ruleOf, ruleD, show atI [101] (-1) = some 101 from last [] 101]
  · rename_i y
    have a1 : atI [104, y] (-1) = some y := last [104] y
    by_cases hy : y = 108
    · subst hy
      simp [f_L_rule, b_L_rule, a1, eD, eP, eE, eH, eL, ruleOf, ruleD, side, lastL]
    · simp [f_L_rule, b_L_rule, a1, eD, eP, eE, eH, eL, hy, ruleOf, ruleD, side, lastL]
  · rename_i y
    have a1 : atI [108, y] (-1) = some y := last [108] y
    by_cases hy : y = 108
    · subst hy
      simp [f_L_rule, b_L_rule, a1, eD, eP, eE, eH, eL, ruleOf, ruleD, side, lastL]
    · simp [f_L_rule, b_L_rule, a1, eD, eP, eE, eH, eL, hy, ruleOf, ruleD, side, lastL]
  · rename_i a r
    simp only [Bool.and_eq_true, decide_eq_true_eq] at h
    obtain ⟨⟨⟨h1, h2⟩, h3⟩, h4⟩ := h
    obtain ⟨r0, y, rfl⟩ : ∃ r0 y, r = r0 ++ [y] := ⟨r.dropLast, r.getLast (by rintro rfl; simp at h2), (List.dropLast_concat_getLast _).symm⟩
    have a1 : atI (112 :: a :: 58 :: (r0 ++ [y])) (-1) = some y := last (112 :: a :: 58 :: r0) y
    have g := nm_get c0 c1 c2 c3 h1
    have cp := cut_put 112 a 58 (r0 ++ [y])
    have ll : ((r0 ++ [y]).take ((r0 ++ [y]).length - 2)).length ≤ 9 := by rw [List.length_take]; omega
    generalize hb : (r0 ++ [y]).take ((r0 ++ [y]).length - 2) = body at *
    have bl := fun z => blk_nm1 (c0 := c0) (c1 := c1) (c2 := c2) (c3 := c3) body (by omega) h4 (some (.d (.str (112 :: a :: 58 :: (r0 ++ [y]))))) z []
    have jn : oJoin [] (.lst (body.map fun b => .str [nmOf c0 c1 c2 c3 b])) = some (.str (body.map (nmOf c0 c1 c2 c3))) := by
      have e1 : (body.map fun b => D.str [nmOf c0 c1 c2 c3 b]) = (body.map fun b => [nmOf c0 c1 c2 c3 b]).map D.str := by rw [List.map_map]; rfl
      unfold oJoin
      dsimp only
      rw [e1, ssOf_str]
      dsimp only
      rw [sum1, joinL_nil1, if_pos (by simp; omega)]
    unfold nmD at bl ⊢
    simp only [eD] at g bl
    have lr : lastL (r0 ++ [y]) = decide (y = 108) := by unfold lastL; simp
    simp only [List.length_append, List.length_cons, List.length_nil] at hb
    by_cases hy : y = 108
    · subst hy
      simp [f_L_rule, b_L_rule, a1, eD, eP, eE, eH, eL, eN, g, cp, hb, bl, jn, ruleOf, ruleD, side, lr]
      rw [← hb]; simp
    · simp [f_L_rule, b_L_rule, a1, eD, eP, eE, eH, eL, eN, hy, g, cp, hb, bl, jn, ruleOf, ruleD, side, lr]
      rw [← hb]; simp
  · cases h
end LW
namespace LW
open PySem PySem.Spec PyProof.Rows L2 DL EL
/-! ### sorted -/
def srtT (ls : List Tx) : List Tx := ls.mergeSort fun a b => leD (.str a) (.str b)
def srtE (L : List Ent) : List Ent := L.mergeSort fun a b => leD (entD a) (entD b)
theorem srtT_perm (ls : List Tx) : (srtT ls).Perm ls := List.mergeSort_perm _ _
theorem srtE_perm (L : List Ent) : (srtE L).Perm L := List.mergeSort_perm _ _
theorem srtT_map (ls : List Tx) : (ls.map D.str).mergeSort leD = (srtT ls).map .str := (List.map_mergeSort (s := leD) (f := D.str) (r := fun a b => leD (.str a) (.str b)) fun a _ b _ => rfl).symm
theorem srtE_map (L : List Ent) : (L.map entD).mergeSort leD = (srtE L).map entD := (List.map_mergeSort (s := leD) (f := entD) (r := fun a b => leD (entD a) (entD b)) fun a _ b _ => rfl).symm
theorem alike_strs : ∀ xs ys : List Tx, PySem.W.alikeAll (toPyAll (xs.map .str)) (toPyAll (ys.map .str)) = true
  | [], _ => by simp [toPyAll, PySem.W.alikeAll]
  | _ :: _, [] => by simp [toPyAll, PySem.W.alikeAll]
  | x :: xs, y :: ys => by
    have := alike_strs xs ys
    simp only [List.map_cons, toPyAll, toPy, PySem.W.alikeAll, PySem.W.alike, this, Bool.and_self]
theorem low_rep {s : Tx} (h : isL s) : ∀ n, repOk n (.str s) = true := fun n => by
  obtain ⟨c, rfl, h1, h2⟩ := h
  have : decide (c < 1114112) = true := decide_eq_true (by omega)
  have e1 : decide ([c].length ≤ sizeLine) = true := decide_eq_true (by rw [sizeLine_eq]; show 1 ≤ _; omega)
  cases n <;> simp [repOk, e1, this] <;> (simp at e1; omega)
theorem sort_strs {ls : List Tx} (h : ∀ s ∈ ls, isL s) : oSorted [.lst (ls.map .str)] = some (.lst ((srtT ls).map .str)) := by
  have e1 : (ls.map D.str).all okE = true := by
    rw [List.all_map, List.all_eq_true]
    exact fun s hs => (repOk_py (low_rep (h s hs) 0)).1
  have e2 : alikeB ((ls.map D.str).map toPy) = true := by
    unfold alikeB
    rw [List.map_map]
    simp [toPy, PySem.W.alike]
  have e3 : sortB ((ls.map D.str).map toPy) = true := by
    unfold sortB
    rw [Bool.or_eq_true]
    refine .inr ?_
    rw [List.map_map, List.all_map, List.all_eq_true]
    intro s _
    rfl
  have e4 : ((ls.map D.str).all fun d => decide (depE d ≤ 60)) = true := by
    rw [List.all_map, List.all_eq_true]
    exact fun s hs => decide_eq_true (Nat.le_trans (repOk_py (low_rep (h s hs) 0)).2.2.2.1 (show 0 ≤ 60 by decide))
  unfold oSorted
  dsimp only
  rw [e1, e2, e3, e4, srtT_map]
  rfl
def EntOk (e : Ent) : Prop := isL e.1 ∧ e.2.length ≤ 9 ∧ ∀ s ∈ e.2, isL s
theorem ent_rep {e : Ent} (h : EntOk e) : repOk 2 (entD e) = true := by
  have h1 := low_rep h.1 1
  have h2 : repAll 0 (e.2.map D.str) = true := repAll_of fun d hd => by
    obtain ⟨s, hs, rfl⟩ := List.mem_map.mp hd
    exact low_rep (h.2.2 s hs) 0
  show repAll 1 [.str e.1, .tup (e.2.map .str)] = true
  have h3 : repOk 1 (.tup (e.2.map D.str)) = true := by simpa [repOk] using h2
  exact repAll_of fun d hd => by
    simp only [List.mem_cons, List.not_mem_nil, or_false] at hd
    rcases hd with rfl | rfl
    · exact h1
    · exact h3
theorem sort_ents {L : List Ent} (h : ∀ e ∈ L, EntOk e) : oSorted [.lst (L.map entD)] = some (.lst ((srtE L).map entD)) := by
  have e1 : (L.map entD).all okE = true := by
    rw [List.all_map, List.all_eq_true]
    exact fun s hs => (repOk_py (ent_rep (h s hs))).1
  have e2 : alikeB ((L.map entD).map toPy) = true := by
    unfold alikeB
    rw [List.map_map, List.all_map, List.all_eq_true]
    intro b _
    show List.all _ _ = true
    rw [List.all_map, List.all_eq_true]
    intro b' _
    have := alike_strs b.2 b'.2
    simp only [Function.comp, entD, toPy, toPyAll, PySem.W.alike, PySem.W.alikeAll, this, Bool.and_self]
  have e3 : sortB ((L.map entD).map toPy) = true := by
    unfold sortB
    rw [Bool.or_eq_true]
    refine .inl ?_
    rw [List.map_map, List.all_map, List.all_eq_true]
    intro s _
    rfl
  have e4 : ((L.map entD).all fun d => decide (depE d ≤ 60)) = true := by
    rw [List.all_map, List.all_eq_true]
    exact fun s hs => decide_eq_true (Nat.le_trans (repOk_py (ent_rep (h s hs))).2.2.2.1 (show 2 ≤ 60 by decide))
  unfold oSorted
  dsimp only
  rw [e1, e2, e3, e4, srtE_map]
  rfl
/-! ### texts -/
theorem word_parts {w : Tx} (h : wdOk w = true) : ∃ a, w[0]? = some a ∧ ab a = true ∧ (w.drop 2).all ab = true ∧ (w.drop 2).length ≤ 9 := by
  unfold wdOk at h
  split at h
  · exact ⟨_, rfl, h, rfl, Nat.zero_le _⟩
  · rename_i a r
    rw [Bool.and_eq_true, Bool.and_eq_true, decide_eq_true_eq] at h
    exact ⟨a, rfl, h.1.1, h.1.2, h.2⟩
  · cases h
def entOf (c0 c1 c2 c3 : Nat) (w : Tx) : Ent := ([nmOf c0 c1 c2 c3 (w.headD 0)], srtT ((w.drop 2).map fun b => [nmOf c0 c1 c2 c3 b]))
theorem ent_ok {c0 c1 c2 c3 : Nat} (lw : Lows c0 c1 c2 c3) {w : Tx} (h : wdOk w = true) : EntOk (entOf c0 c1 c2 c3 w) := by
  obtain ⟨a, h1, h2, h3, h4⟩ := word_parts h
  refine ⟨⟨_, rfl, nm_low lw⟩, ?_, fun s hs => ?_⟩
  · show (srtT _).length ≤ 9
    rw [(srtT_perm _).length_eq, List.length_map]; exact h4
  · obtain ⟨b, _, rfl⟩ := List.mem_map.mp ((srtT_perm _).mem_iff.mp hs)
    exact ⟨_, rfl, nm_low lw⟩
theorem plain_len {ls : List Tx} (h : ∀ s ∈ ls, s.length ≤ 13) : (TL.joinL [32] ls).length ≤ ls.length * 14 := by
  have h1 := joinL_len [32] ls
  have h2 : (ls.map (·.length)).sum ≤ ls.length * 13 := by
    clear h1
    induction ls with
    | nil => exact Nat.zero_le _
    | cons s ls ih =>
      have := ih fun t ht => h t (List.mem_cons_of_mem _ ht)
      have := h s List.mem_cons_self
      simp only [List.map_cons, List.sum_cons, List.length_cons, Nat.add_mul, Nat.one_mul]
      omega
  simp only [List.length_cons, List.length_nil] at h1
  omega
theorem wd_len {w : Tx} (h : wdOk w = true) : w.length ≤ 13 ∧ w ≠ [] := by
  unfold wdOk at h
  split at h
  · exact ⟨by simp, by simp⟩
  · rw [Bool.and_eq_true, decide_eq_true_eq] at h
    exact ⟨by simp only [List.length_cons]; omega, by simp⟩
  · cases h
theorem sg_len {s : Tx} (h : sgOk s = true) : s.length ≤ 13 ∧ s ≠ [] := by
  unfold sgOk at h
  split at h
  · exact ⟨by simp, by simp⟩
  · exact ⟨by simp, by simp⟩
  · exact ⟨by simp, by simp⟩
  · exact ⟨by simp, by simp⟩
  · rw [Bool.and_eq_true, Bool.and_eq_true, decide_eq_true_eq] at h
    exact ⟨by simp only [List.length_cons]; have := h.1.2; omega, by simp⟩
  · cases h
theorem join_nil {ls : List Tx} (h : ∀ s ∈ ls, s ≠ []) : TL.joinL [32] ls = [] ↔ ls = [] := by
  constructor
  · intro e
    match ls, h, e with
    | [], _, _ => rfl
    | [s], h, e => exact (h s List.mem_cons_self e).elim
    | s :: t :: r, h, e => simp [TL.joinL] at e
  · rintro rfl; rfl
theorem join_free {c : Nat} (hc : c ≠ 32) {ls : List Tx} (h : ∀ s ∈ ls, c ∉ s) : c ∉ TL.joinL [32] ls := by
  match ls, h with
  | [], _ => exact fun z => by cases z
  | [s], h => exact h s List.mem_cons_self
  | s :: t :: r, h =>
    have := join_free hc (ls := t :: r) fun x hx => h x (List.mem_cons_of_mem _ hx)
    simp only [TL.joinL, List.mem_append, List.mem_singleton, not_or]
    exact ⟨h s List.mem_cons_self, hc, this⟩
theorem plain_free {s : Tx} (h : plainT s = true) : 32 ∉ s ∧ 59 ∉ s := by
  unfold plainT at h
  rw [List.all_eq_true] at h
  constructor
  · intro z
    have := h _ z
    simp at this
  · intro z
    have := h _ z
    simp at this
end LW
namespace LW
open PySem PySem.Spec PyProof.Rows L2 DL EL
/-! ### a text is read -/
theorem read_in {c0 c1 c2 c3 : Nat} (lw : Lows c0 c1 c2 c3) (z a b s7 : Option Vl) : ∀ (ws : List Tx) (L : List Ent), (∀ w ∈ ws, wdOk w = true) → L.length + ws.length ≤ 1000 →
    forX (xgN 5) b_L_read_0 [5, 6] 1 (ws.map .str) [z, some (.d (nmD c0 c1 c2 c3)), a, b, some (.c 0), none, none, s7] [.own (.lst (L.map entD))] = .ok (.nx, [z, some (.d (nmD c0 c1 c2 c3)), a, b, some (.c 0), none, none, s7], [.own (.lst ((L ++ ws.map (entOf c0 c1 c2 c3)).map entD))])
  | [], L, _, _ => by simp; rfl
  | w :: ws, L, hw, hz => by
    simp only [List.length_cons] at hz
    have e : L ++ (w :: ws).map (entOf c0 c1 c2 c3) = (L ++ [entOf c0 c1 c2 c3 w]) ++ ws.map (entOf c0 c1 c2 c3) := by simp
    rw [e, ← read_in lw z a b s7 ws (L ++ [entOf c0 c1 c2 c3 w]) (fun v hv => hw v (List.mem_cons_of_mem _ hv)) (by simp; omega), List.map_cons]
    refine for_step ?_
    obtain ⟨x, h0, hx, h1, h2⟩ := word_parts (hw w List.mem_cons_self)
    have hwl : 0 < w.length := (List.getElem?_eq_some_iff.mp h0).1
    have hd : w.head?.getD 0 = x := by
      cases w with
      | nil => simp at hwl
      | cons y w => simpa using h0
    have a0 : atI w 0 = some x := (atI_nat w 0 hwl).trans h0
    have g := nm_get c0 c1 c2 c3 hx
    have cd : cutL w (some 2) none = w.drop 2 := cut_drop w 2
    have bl : blkGo (xgN 6) xYes [6] (bdE (xOp oIx (xVar 1) (xVar 6))) [z, some (.d (nmD c0 c1 c2 c3)), a, b, some (.c 0), some (.d (.str w)), none, s7] ((w.drop 2).map chD) 0 [.own (.lst (L.map entD))] = .ok ((w.drop 2).map fun b => .str [nmOf c0 c1 c2 c3 b], [.own (.lst (L.map entD))]) := by
      refine blk_all chD (fun b => .str [nmOf c0 c1 c2 c3 b]) (w.drop 2) 0 (fun b hb => ?_) (by omega)
      have g := nm_get c0 c1 c2 c3 (List.all_eq_true.mp h1 b hb)
      simp [turnE, chD, nmD, g]
    have so := sort_strs (ls := (w.drop 2).map fun b => [nmOf c0 c1 c2 c3 b]) fun s hs => by
      obtain ⟨b, _, rfl⟩ := List.mem_map.mp hs
      exact ⟨_, rfl, nm_low lw⟩
    rw [List.map_map] at so
    have so' : oSorted [.lst ((w.drop 2).map fun b => .str [nmOf c0 c1 c2 c3 b])] = _ := so
    have hz1 : L.length < 16777216 := by omega
    unfold nmD at bl ⊢
    simp only [List.map_drop] at bl so'
    simp [turnF, b_L_read_0, nextCt, a0, g, cd, bl, so', hz1, entD, entOf, hd]
theorem oSplit_of {a b : Tx} {l : List Tx} (h1 : b ≠ []) (h2 : b.all (· < 256) = true) (h3 : a.length ≤ 1000) (h4 : TL.spl b 0 [] a = l) : oSplit a (.str b) = some (.lst (l.map .str)) := by
  show (if b ≠ [] ∧ b.all (· < 256) = true ∧ a.length + 2 ≤ 16777216 then some (D.lst ((TL.spl b 0 [] a).map .str)) else none) = _
  rw [if_pos ⟨h1, h2, by omega⟩, h4]
/-- a text and its words -/
structure TextIs (z : Tx) (ws sgs : List Tx) : Prop where
  eq : z = TL.joinL [32] ws ++ 59 :: TL.joinL [32] sgs
  w : (ws.all fun w => wdOk w && plainT w) = true
  s : (sgs.all fun s => sgOk s && plainT s) = true
  lw : ws.length ≤ 9
  ls : sgs.length ≤ 9
theorem TextOk.is {z : Tx} (h : TextOk z) : ∃ ws sgs, TextIs z ws sgs := by
  obtain ⟨ws, sgs, h1, h2, h3, h4, h5⟩ := h
  exact ⟨ws, sgs, h1, h2, h3, h4, h5⟩
theorem l_read {c0 c1 c2 c3 : Nat} (lw : Lows c0 c1 c2 c3) {z : Tx} {ws sgs : List Tx} (t : TextIs z ws sgs) : f_L_read [.str z, nmD c0 c1 c2 c3] [] = .ok (.d (bookD (srtE (ws.map (entOf c0 c1 c2 c3))) (sgs.map (ruleOf c0 c1 c2 c3))), []) := by
  obtain ⟨hz, hw, hs, nw, ns⟩ := t
  rw [List.all_eq_true] at hw hs
  have hw1 : ∀ w ∈ ws, wdOk w = true := fun w h => (Bool.and_eq_true_iff.mp (hw w h)).1
  have hw2 : ∀ w ∈ ws, plainT w = true := fun w h => (Bool.and_eq_true_iff.mp (hw w h)).2
  have hs1 : ∀ w ∈ sgs, sgOk w = true := fun w h => (Bool.and_eq_true_iff.mp (hs w h)).1
  have hs2 : ∀ w ∈ sgs, plainT w = true := fun w h => (Bool.and_eq_true_iff.mp (hs w h)).2
  have la := plain_len (fun w h => (wd_len (hw1 w h)).1)
  have lb := plain_len (fun w h => (sg_len (hs1 w h)).1)
  have na := join_nil (fun w h => (wd_len (hw1 w h)).2)
  have nb := join_nil (fun w h => (sg_len (hs1 w h)).2)
  have fa := join_free (c := 59) (by decide) (fun w h => (plain_free (hw2 w h)).2)
  have fb := join_free (c := 59) (by decide) (fun w h => (plain_free (hs2 w h)).2)
  have eS : T ";" = [59] := by decide +kernel
  have eB : T " " = [32] := by decide +kernel
  have eN : T "" = [] := by decide +kernel
  have sp : TL.spl [59] 0 [] z = [TL.joinL [32] ws, TL.joinL [32] sgs] := by
    have := TL.spl_join (s := 59) (S := []) (parts := [TL.joinL [32] ws, TL.joinL [32] sgs]) (by simp) (by
      intro p hp
      simp only [List.mem_cons, List.not_mem_nil, or_false] at hp
      rcases hp with rfl | rfl
      · exact fa
      · exact fb)
    rw [hz]
    exact this
  have spA : ws ≠ [] → TL.spl [32] 0 [] (TL.joinL [32] ws) = ws := fun h => TL.spl_join (s := 32) (S := []) h fun p hp => (plain_free (hw2 p hp)).1
  have spB : sgs ≠ [] → TL.spl [32] 0 [] (TL.joinL [32] sgs) = sgs := fun h => TL.spl_join (s := 32) (S := []) h fun p hp => (plain_free (hs2 p hp)).1
  have zl : z.length ≤ 300 := by rw [hz]; simp only [List.length_append, List.length_cons]; omega
  generalize TL.joinL [32] ws = A at *
  generalize TL.joinL [32] sgs = B at *
  have o1 : oSplit z (.str [59]) = some (.lst [.str A, .str B]) := oSplit_of (by decide) (by decide) (by omega) sp
  have oA : ws ≠ [] → oSplit A (.str [32]) = some (.lst (ws.map .str)) := fun h => oSplit_of (by decide) (by decide) (by omega) (spA h)
  have oB : sgs ≠ [] → oSplit B (.str [32]) = some (.lst (sgs.map .str)) := fun h => oSplit_of (by decide) (by decide) (by omega) (spB h)
  have so := sort_ents (L := ws.map (entOf c0 c1 c2 c3)) fun e he => by
    obtain ⟨w, hw, rfl⟩ := List.mem_map.mp he
    exact ent_ok lw (hw1 w hw)
  have rl : ∀ h, blkGo (xgN 7) xYes [7] (bdE (xCall [false, false] f_L_rule arr0 2 0 (xCons (xVar 7) (xCons (xVar 1) xNil)) xNil)) [some (.d (.str z)), some (.d (nmD c0 c1 c2 c3)), some (.d (.str A)), some (.d (.str B)), some (.d (.lst ((ws.map (entOf c0 c1 c2 c3)).map entD))), none, none, none] (sgs.map .str) 0 h = .ok (sgs.map fun s => ruleD (ruleOf c0 c1 c2 c3 s), h) := fun h => by
    refine blk_all D.str (fun s => ruleD (ruleOf c0 c1 c2 c3 s)) sgs 0 (fun s hs => ?_) (by omega)
    have := l_rule (c0 := c0) (c1 := c1) (c2 := c2) (c3 := c3) (hs1 s hs)
    simp [turnE, this, getCs]
  have lo := read_in lw (some (.d (.str z))) (some (.d (.str A))) (some (.d (.str B))) none ws [] hw1 (by simp; omega)
  have lw0 : ws = [] ∨ ws ≠ [] := by by_cases h : ws = [] <;> simp [h]
  have ls0 : sgs = [] ∨ sgs ≠ [] := by by_cases h : sgs = [] <;> simp [h]
  have hR0 : (sgs.map fun s => ruleD (ruleOf c0 c1 c2 c3 s)) = (sgs.map (ruleOf c0 c1 c2 c3)).map ruleD := by rw [List.map_map]; rfl
  rw [hR0] at rl
  have loop : forX (xgN 5) b_L_read_0 [5, 6] 1 (ws.map .str) [some (.d (.str z)), some (.d (nmD c0 c1 c2 c3)), some (.d (.str A)), some (.d (.str B)), some (.c 0), none, none, none] [.own (.lst [])] = .ok (.nx, [some (.d (.str z)), some (.d (nmD c0 c1 c2 c3)), some (.d (.str A)), some (.d (.str B)), some (.c 0), none, none, none], [.own (.lst ((ws.map (entOf c0 c1 c2 c3)).map entD))]) := by simpa using lo
  clear lo
  unfold bookD
  generalize (nmD c0 c1 c2 c3) = NM at *
  have hE : ws = [] → (ws.map (entOf c0 c1 c2 c3)).map entD = [] := by rintro rfl; rfl
  have hR : sgs = [] → (sgs.map (ruleOf c0 c1 c2 c3)).map ruleD = [] := by rintro rfl; rfl
  have lE : ((srtE (ws.map (entOf c0 c1 c2 c3))).map entD).length ≤ 9 := by rw [List.length_map, (srtE_perm _).length_eq, List.length_map]; exact nw
  have lR : ((sgs.map (ruleOf c0 c1 c2 c3)).map ruleD).length ≤ 9 := by rw [List.length_map, List.length_map]; exact ns
  generalize (ws.map (entOf c0 c1 c2 c3)).map entD = DE at *
  generalize (srtE (ws.map (entOf c0 c1 c2 c3))).map entD = DS at *
  generalize (sgs.map (ruleOf c0 c1 c2 c3)).map ruleD = DR at *
  rcases lw0 with h1 | h1 <;> rcases ls0 with h2 | h2
  · have ea : A = [] := na.2 h1
    have eb : B = [] := nb.2 h2
    have e1 := hE h1
    have e2 := hR h2
    subst h1 h2 ea eb e1 e2
    simp only [List.map_nil] at loop
    simp [f_L_read, b_L_read, eS, eB, eN, o1, loop, so]
  · have ea : A = [] := na.2 h1
    have eb : B ≠ [] := fun z => h2 (nb.1 z)
    have e1 := hE h1
    have o2 := oB h2
    subst h1 ea e1
    simp only [List.map_nil] at loop
    simp [f_L_read, b_L_read, eS, eB, eN, o1, loop, so, eb, o2, rl]
  · have ea : A ≠ [] := fun z => h1 (na.1 z)
    have eb : B = [] := nb.2 h2
    have e2 := hR h2
    have o2 := oA h1
    subst h2 eb e2
    simp [f_L_read, b_L_read, eS, eB, eN, o1, loop, so, ea, o2]
  · have ea : A ≠ [] := fun z => h1 (na.1 z)
    have eb : B ≠ [] := fun z => h2 (nb.1 z)
    have o2 := oA h1
    have o3 := oB h2
    simp [f_L_read, b_L_read, eS, eB, eN, o1, loop, so, ea, eb, o2, o3, rl]
end LW
namespace LW
open PySem PySem.Spec PyProof.Rows L2 DL EL
/-! ### drawing -/
theorem e_pick {ds : List D} {k : Nat} (h1 : 0 < ds.length) (h2 : ds.length < 1000) (h3 : k + 1 ≤ 16777216) : f_L_pick [.lst ds] [.feed k] = .draw ds.length fun r => optB (atI ds r) fun d => .ok (.d d, [.feed (k + 1)]) := by
  have e := l_dip (n := ds.length) (k := k) (by omega) (by omega) h3
  simp [f_L_pick, b_L_pick, e, getCs]
  funext r
  cases atI ds r <;> simp [getCs]
theorem at_draw {α : Type} (l : List α) {r : Int} (h0 : 0 ≤ r) (h1 : r < l.length) : ∃ d ∈ l, atI l r = some d := by
  obtain ⟨j, rfl⟩ : ∃ j : Nat, r = (j : Int) := ⟨r.toNat, by omega⟩
  have hj : j < l.length := by omega
  exact ⟨l[j], List.getElem_mem hj, by rw [atI_nat _ _ hj, List.getElem?_eq_getElem hj]⟩
def tables : List Tx := [T "abcd", T "bxyz", T "pqrs", T "dacb", T "zyxw"]
structure Tbl (c0 c1 c2 c3 : Nat) : Prop where
  lows : Lows c0 c1 c2 c3
  nd : [c0, c1, c2, c3].Nodup
theorem tables_ok : ∀ t ∈ tables, ∃ c0 c1 c2 c3, t = [c0, c1, c2, c3] ∧ Tbl c0 c1 c2 c3 := by
  intro t h
  simp only [tables, List.mem_cons, List.not_mem_nil, or_false] at h
  rcases h with rfl | rfl | rfl | rfl | rfl
  · exact ⟨97, 98, 99, 100, by decide +kernel, ⟨by decide, by decide, by decide, by decide⟩, by decide⟩
  · exact ⟨98, 120, 121, 122, by decide +kernel, ⟨by decide, by decide, by decide, by decide⟩, by decide⟩
  · exact ⟨112, 113, 114, 115, by decide +kernel, ⟨by decide, by decide, by decide, by decide⟩, by decide⟩
  · exact ⟨100, 97, 99, 98, by decide +kernel, ⟨by decide, by decide, by decide, by decide⟩, by decide⟩
  · exact ⟨122, 121, 120, 119, by decide +kernel, ⟨by decide, by decide, by decide, by decide⟩, by decide⟩
theorem l_names (k : Nat) (hk : k + 1 ≤ 16777216) : Als (f_L_names [] [.feed k]) (fun q => ∃ c0 c1 c2 c3, Tbl c0 c1 c2 c3 ∧ q = (.new (nmD c0 c1 c2 c3), [.feed (k + 1)])) fun _ => False := by
  have e := e_pick (ds := tables.map .str) (k := k) (by decide) (by decide) hk
  unfold tables at e
  simp only [List.map_cons, List.map_nil] at e
  simp [f_L_names, b_L_names, getCs, e]
  intro r h0 h1
  obtain ⟨d, hd, ha⟩ := at_draw (tables.map D.str) h0 h1
  obtain ⟨t, ht, rfl⟩ := List.mem_map.mp hd
  obtain ⟨c0, c1, c2, c3, rfl, tb⟩ := tables_ok t ht
  unfold tables at ha
  simp only [List.map_cons, List.map_nil] at ha
  have n1 : T "b" ≠ T "a" := by decide +kernel
  have n2 : T "c" ≠ T "a" := by decide +kernel
  have n3 : T "c" ≠ T "b" := by decide +kernel
  have n4 : T "d" ≠ T "a" := by decide +kernel
  have n5 : T "d" ≠ T "b" := by decide +kernel
  have n6 : T "d" ≠ T "c" := by decide +kernel
  simp [ha, getCs, xPairs, keysOf, keyD, mrgD, putKs, putDs, memK, n1, n2, n3, n4, n5, n6, n1.symm, n2.symm, n3.symm, n4.symm, n5.symm, n6.symm, nmD]
  exact ⟨_, _, _, _, tb, rfl, rfl, rfl, rfl⟩
end LW
namespace LW
open PySem PySem.Spec PyProof.Rows L2 DL EL
/-! ### a text is drawn -/
def heads (ws : List Tx) : List Nat := ws.map (·.headD 0)
def lessOk : List Nat → List Tx → Bool
  | _, [] => true
  | seen, w :: ws => (w.drop 2).all (fun c => decide (c ∈ seen)) && decide ((w.drop 2).Nodup) && decide (w.headD 0 ∉ seen) && lessOk (w.headD 0 :: seen) ws
def sgFits (hs : List Nat) : Tx → Bool
  | 112 :: a :: 58 :: r => decide (a ∈ hs) && (r.take (r.length - 2)).all fun c => decide (c ∈ hs)
  | _ => true
def goodB (ws sgs : List Tx) : Bool := lessOk [] ws && sgs.all (sgFits (heads ws))
structure TextGood (z : Tx) (ws sgs : List Tx) : Prop extends TextIs z ws sgs where
  good : goodB ws sgs = true
def sceneWs : List (List Tx × List Tx) := [([T "a", T "b>a", T "c"], [T "d1l", T "ll"]), ([T "a", T "b>a", T "c"], [T "d1r", T "ll"]), ([T "a", T "b", T "c"], [T "hl", T "d1l"]), ([T "a", T "b>a", T "c"], [T "hl", T "pb:a.l"]), ([T "a", T "b", T "c"], [T "d1l"]), ([T "a", T "b"], [T "e", T "d1l"]), ([T "a", T "b"], [T "d2l", T "d1r"]), ([T "a", T "b", T "c"], [T "pa:.l", T "pb:.l", T "pc:.r"]), ([T "a", T "b"], [T "pa:bb.l", T "d1l"]), ([T "a", T "b>a"], [T "lr", T "d1r", T "hl"]), ([T "a", T "b>a", T "c>ab"], [T "lr", T "d1l"]), ([T "a", T "b>a", T "c"], [T "pc:.l", T "lr", T "d2l"]), ([T "a", T "b", T "c", T "d"], [T "hl", T "hr", T "d1l"]), ([T "a", T "b>a"], [T "pb:aa.l", T "ll", T "e"]), ([T "a"], [T "d3r", T "hl", T "d1l"]), ([], []), ([T "a", T "b>a", T "c"], []), ([T "a", T "b"], [T "pa:b.l", T "pa:.r"]), ([T "a", T "b>a", T "c>b"], [T "hr", T "lr", T "d1r", T "e"])]
theorem scenes_eq : scenes = sceneWs.map fun p => TL.joinL [32] p.1 ++ 59 :: TL.joinL [32] p.2 := by decide +kernel
theorem scenes_good : ∀ z ∈ scenes, ∃ ws sgs, TextGood z ws sgs := by
  intro z hz
  rw [scenes_eq] at hz
  obtain ⟨⟨ws, sgs⟩, hp, rfl⟩ := List.mem_map.mp hz
  have : sceneWs.all (fun p => (p.1.all fun w => wdOk w && plainT w) && (p.2.all fun s => sgOk s && plainT s) && decide (p.1.length ≤ 9) && decide (p.2.length ≤ 9) && goodB p.1 p.2) = true := by decide +kernel
  have := List.all_eq_true.mp this _ hp
  simp only [Bool.and_eq_true, decide_eq_true_eq] at this
  obtain ⟨⟨⟨⟨h1, h2⟩, h3⟩, h4⟩, h5⟩ := this
  exact ⟨ws, sgs, ⟨rfl, h1, h2, h3, h4⟩, h5⟩
def firstWs : List (List Tx) := [[T "a", T "b>a", T "c"], [T "a", T "b"], [T "a", T "b>a"], [T "a", T "b>a", T "c>ab"], [T "a", T "b", T "c"], [T "a"], [T "a", T "b>a", T "c>b", T "d>a"]]
def firsts : List Tx := [T "a b>a c", T "a b", T "a b>a", T "a b>a c>ab", T "a b c", T "a", T "a b>a c>b d>a"]
theorem firsts_eq : firsts = firstWs.map (TL.joinL [32]) := by decide +kernel
def fitsD (first s : Tx) : Bool := decide (s.headD 0 ≠ 112) || ((s.drop 1).take 1 ++ cutL s (some 3) (some (-2))).all fun c => decide (c ∈ first)
theorem firsts_good : ∀ f ∈ firsts, ∃ ws, f = TL.joinL [32] ws ∧ ws.all (fun w => wdOk w && plainT w) = true ∧ ws.length ≤ 9 ∧ lessOk [] ws = true ∧ ∀ s ∈ menu, fitsD f s = true → sgFits (heads ws) s = true := by
  intro f hf
  rw [firsts_eq] at hf
  obtain ⟨ws, hw, rfl⟩ := List.mem_map.mp hf
  have : firstWs.all (fun ws => (ws.all fun w => wdOk w && plainT w) && decide (ws.length ≤ 9) && lessOk [] ws && menu.all fun s => !fitsD (TL.joinL [32] ws) s || sgFits (heads ws) s) = true := by decide +kernel
  have := List.all_eq_true.mp this _ hw
  simp only [Bool.and_eq_true, decide_eq_true_eq] at this
  obtain ⟨⟨⟨h1, h2⟩, h3⟩, h4⟩ := this
  refine ⟨ws, rfl, h1, h2, h3, fun s hs hf => ?_⟩
  have := List.all_eq_true.mp h4 s hs
  rw [hf] at this
  simpa using this
theorem okE_strs {ls : List Tx} (h : ∀ s ∈ ls, ∀ c ∈ s, c < 1114112) : okE (.lst (ls.map .str)) = true := by
  show PyData.canLayAll0 (toPyAll (ls.map .str)) = true
  induction ls with
  | nil => rfl
  | cons s ls ih =>
    show ((toPy (.str s)).canLay0 && PyData.canLayAll0 (toPyAll (ls.map .str))) = true
    rw [ih fun t ht => h t (List.mem_cons_of_mem _ ht), Bool.and_true]
    show (S s).cps.all _ = true
    rw [S_all]
    exact List.all_eq_true.mpr fun c hc => decide_eq_true (h s List.mem_cons_self c hc)
theorem oEq_nilS {ls : List Tx} (h : ∀ s ∈ ls, ∀ c ∈ s, c < 1114112) : oEq (.lst (ls.map .str)) (.lst []) = some (.bl (ls.isEmpty)) := by
  have ok := okE_strs h
  have e : eqD (.lst (ls.map .str)) (.lst []) = ls.isEmpty := by
    cases ls with
    | nil => show PyData.eqv (.list []) (.list []) = true; simp [PyData.eqv, PyData.eqvAll]
    | cons n ns => show PyData.eqv (.list (toPy (.str n) :: toPyAll (ns.map .str))) (.list []) = false; simp [PyData.eqv, PyData.eqvAll]
  have ok2 : okE (.lst []) = true := rfl
  have dp : min (depE (.lst (ls.map .str))) (depE (.lst [])) ≤ 64 := Nat.le_trans (Nat.min_le_right _ _) (by show 1 ≤ 64; decide)
  show (if okE _ && okE _ && decide (_ ≤ 64) then some (D.bl (eqD _ _)) else none) = _
  rw [ok, ok2, decide_eq_true dp, e]
  rfl
theorem plain_lt {s : Tx} (h : plainT s = true) : ∀ c ∈ s, c < 1000 := fun c hc => by
  have := List.all_eq_true.mp h c hc
  simp at this
  omega
theorem cond_blk (first : Tx) (a b c d e : Option Vl) (h : List Cell) (body : Tx) (hl : body.length ≤ 1000) :
    blkGo (xgN 6) (xB (xOp oNotIn (xVar 6) (xVar 2))) [6] (bdE (xVar 6)) [a, b, some (.d (.str first)), c, d, e, none] (body.map chD) 0 h = .ok (((body.filter fun c => decide (c ∉ first)).map fun c => [c]).map .str, h) := by
  have := blk_filter (g := xgN 6) (t := xB (xOp oNotIn (xVar 6) (xVar 2))) (vs := [6]) (e := xVar 6) (ρ := [a, b, some (.d (.str first)), c, d, e, none]) (h := h) chD (fun c => if c ∈ first then none else some (.str [c])) body 0 (fun x hx => by
    by_cases hm : x ∈ first <;> simp [turnE, chD, hm]) (by omega)
  rw [this]
  congr 2
  clear this hl
  induction body with
  | nil => rfl
  | cons x body ih => by_cases hm : x ∈ first <;> simp [List.filterMap_cons, List.filter_cons, hm, ih]
end LW
namespace LW
open PySem PySem.Spec PyProof.Rows L2 DL EL
def Sgs (first : Tx) (ls : List Tx) : Prop := ∀ s ∈ ls, s ∈ menu ∧ fitsD first s = true
theorem menu_txs : txs menu = .lst (menu.map .str) := rfl
theorem menu_len : menu.length = 22 := by decide
def drR (first : Tx) : EL.Rho := [some (.c 0), some (.d (txs menu)), some (.d (.str first)), some (.c 1), none, none, none]
def drC (m : Nat) (l : List Tx) : Hh := [.feed m, .own (.lst (l.map .str))]
structure DrI (first : Tx) (M N : Nat) (l : List D) (s : Nat × List Tx) : Prop where
  m : s.1 + l.length ≤ M
  n : s.2.length + l.length ≤ N
  sg : Sgs first s.2
abbrev DrS (first : Tx) (M N : Nat) (l : List D) := InSt (fun _ => drR first) (fun s : Nat × List Tx => drC s.1 s.2) (DrI first M N l)
theorem drS_mk {first : Tx} {M N : Nat} {l : List D} (m : Nat) (ls : List Tx) (h1 : m + l.length ≤ M) (h2 : ls.length + l.length ≤ N) (h3 : Sgs first ls) : InSt (fun _ => drR first) (fun s : Nat × List Tx => drC s.1 s.2) (DrI first M N l) [some (.c 0), some (.d (.lst (menu.map .str))), some (.d (.str first)), some (.c 1), none, none, none] [.feed m, .own (.lst (ls.map .str))] := ⟨(m, ls), rfl, rfl, h1, h2, h3⟩
theorem drS_mk1 {first : Tx} {M N : Nat} {l : List D} (m : Nat) (ls : List Tx) (t : Tx) (h1 : m + l.length ≤ M) (h2 : ls.length + 1 + l.length ≤ N) (h3 : Sgs first ls) (ht : t ∈ menu) (hf : fitsD first t = true) : InSt (fun _ => drR first) (fun s : Nat × List Tx => drC s.1 s.2) (DrI first M N l) [some (.c 0), some (.d (.lst (menu.map .str))), some (.d (.str first)), some (.c 1), none, none, none] [.feed m, .own (.lst (ls.map .str ++ [.str t]))] := by
  have := drS_mk (first := first) (M := M) (N := N) (l := l) m (ls ++ [t]) h1 (by simpa using h2) fun u hu => (List.mem_append.mp hu).elim (h3 u) fun z => by rw [List.mem_singleton.mp z]; exact ⟨ht, hf⟩
  simpa using this
theorem draw_turn {first : Tx} {P : Fl × EL.Rho × Hh → Prop} {M N : Nat} (hM : M ≤ 1000) (hN : N ≤ 10) (a : D) (l : List D) (m' : Nat) (last' : List Tx) (h1 : m' + (a :: l).length ≤ M) (h2 : last'.length + (a :: l).length ≤ N) (h3 : Sgs first last') :
    TrnOk (xgN 4) b_L_drawn_0 [4, 5, 6] 2 a (drR first) (drC m' last') (InSt (fun _ => drR first) (fun s : Nat × List Tx => drC s.1 s.2) (DrI first M N l)) P fun _ => False := by
  simp only [List.length_cons] at h1 h2
  have e := e_pick (ds := menu.map .str) (k := m') (by decide) (by decide) (by omega)
  unfold TrnOk drR drC txs
  simp [turnF, b_L_drawn_0, e, getCs]
  intro r r0 r1
  obtain ⟨d, hd, ha⟩ := at_draw (menu.map D.str) r0 (by rw [List.length_map]; exact r1)
  obtain ⟨s, hmem, rfl⟩ := List.mem_map.mp hd
  have sok := menu_ok s hmem
  rw [Bool.and_eq_true] at sok
  have hsl := sg_len sok.1
  have eP : T "p" = [112] := by decide +kernel
  obtain ⟨c, s', rfl⟩ : ∃ c s', s = c :: s' := by
    cases s with
    | nil => exact (hsl.2 rfl).elim
    | cons c s' => exact ⟨c, s', rfl⟩
  simp only [List.length_cons] at hsl
  by_cases hc : c = 112
  · subst hc
    obtain ⟨a', r', rfl⟩ : ∃ a' r', s' = a' :: r' := by
      have := sok.1
      unfold sgOk at this
      split at this <;> first | (simp_all; done) | skip
    have hcl := cutL_len (112 :: a' :: r') (some 3) (some (-2))
    have pl := plain_lt sok.2
    have lt : ∀ x ∈ a' :: cutL (112 :: a' :: r') (some 3) (some (-2)), x < 1000 := fun x hx => by
      rcases List.mem_cons.mp hx with rfl | hx
      · exact pl _ (by simp)
      · unfold cutL at hx
        exact pl x (List.mem_of_mem_drop (List.mem_of_mem_take hx))
    have fd : fitsD first (112 :: a' :: r') = (a' :: cutL (112 :: a' :: r') (some 3) (some (-2))).all fun c => decide (c ∈ first) := by simp [fitsD]
    have hlb : (a' :: cutL (112 :: a' :: r') (some 3) (some (-2))).length ≤ 20 := by simp only [List.length_cons] at *; omega
    generalize hB : a' :: cutL (112 :: a' :: r') (some 3) (some (-2)) = body at *
    have bl := cond_blk first (some (.c 0)) (some (.d (.lst (menu.map .str)))) (some (.c 1)) (some (.d a)) (some (.d (.str (112 :: a' :: r')))) [.feed (m' + 1), .own (.lst (last'.map .str))] body (by omega)
    have eq := oEq_nilS (ls := (body.filter fun c => decide (c ∉ first)).map fun c => [c]) (fun t ht x hx => by
      obtain ⟨y, hy, rfl⟩ := List.mem_map.mp ht
      rw [List.mem_singleton.mp hx]
      have := lt y (List.mem_filter.mp hy).1
      omega)
    have hz : 1 + (cutL (112 :: a' :: r') (some 3) (some (-2))).length ≤ 16777216 := by
      rw [← hB] at hlb
      simp only [List.length_cons] at hlb
      omega
    by_cases hf : fitsD first (112 :: a' :: r') = true
    · have em : ((body.filter fun c => decide (c ∉ first)).map fun c => [c]).isEmpty = true := by
        rw [fd] at hf
        have : (body.filter fun c => decide (c ∉ first)) = [] := List.filter_eq_nil_iff.mpr fun x hx => by simpa using List.all_eq_true.mp hf x hx
        rw [this]; rfl
      rw [em, List.map_map] at eq
      simp only [decide_not] at eq bl
      have eq' : oEq (.lst ((body.filter fun c => !decide (c ∈ first)).map (D.str ∘ fun c => [c]))) (.lst []) = _ := eq
      have hl2 : last'.length < 16777216 := by omega
      simp [ha, getCs, eP, hB, hz, bl, eq', hl2]
      exact drS_mk1 (M := M) (N := N) (l := l) (m' + 1) last' _ (by omega) (by omega) h3 hmem hf
    · have em : ((body.filter fun c => decide (c ∉ first)).map fun c => [c]).isEmpty = false := by
        rw [fd] at hf
        rw [Bool.eq_false_iff]
        intro z
        refine hf (List.all_eq_true.mpr fun x hx => ?_)
        have z' : (body.filter fun c => decide (c ∉ first)) = [] := by simpa using z
        simpa using List.filter_eq_nil_iff.mp z' x hx
      rw [em, List.map_map] at eq
      simp only [decide_not] at eq bl
      have eq' : oEq (.lst ((body.filter fun c => !decide (c ∈ first)).map (D.str ∘ fun c => [c]))) (.lst []) = _ := eq
      simp [ha, getCs, eP, hB, hz, bl, eq']
      exact drS_mk (M := M) (N := N) (l := l) (m' + 1) last' (by omega) (by omega) h3
  · have hl2 : last'.length < 16777216 := by omega
    simp [ha, getCs, eP, hc, hl2]
    exact drS_mk1 (M := M) (N := N) (l := l) (m' + 1) last' _ (by omega) (by omega) h3 hmem (by simp [fitsD, hc])
theorem draw_loop {first : Tx} {P : Fl × EL.Rho × Hh → Prop} (laps : List D) (m : Nat) (last : List Tx) (hm : m + laps.length ≤ 1000) (hl : last.length + laps.length ≤ 10) (hs : Sgs first last)
    (q : ∀ s, DrI first (m + laps.length) (last.length + laps.length) [] s → P (.nx, drR first, drC s.1 s.2)) :
    LpOk (xgN 4) b_L_drawn_0 [4, 5, 6] 2 (laps.map fun d => d) (drR first) (drC m last) P fun _ => False := by
  have step : ∀ (a : D) (l : List D) (s : Nat × List Tx), DrI first (m + laps.length) (last.length + laps.length) (a :: l) s → TrnOk (xgN 4) b_L_drawn_0 [4, 5, 6] 2 a (drR first) (drC s.1 s.2) (InSt (fun _ => drR first) (fun s : Nat × List Tx => drC s.1 s.2) (DrI first (m + laps.length) (last.length + laps.length) l)) P fun _ => False := fun a l s hI => draw_turn (P := P) (M := m + laps.length) (N := last.length + laps.length) (first := first) hm hl a l s.1 s.2 hI.m hI.n hI.sg
  have fin := loop_st (g := xgN 4) (b := b_L_drawn_0) (fz := [4, 5, 6]) (n := 2) (P := P) (E := fun _ => False) (fun _ => drR first) (fun s : Nat × List Tx => drC s.1 s.2) (fun d : D => d) (DrI first (m + laps.length) (last.length + laps.length)) laps (m, last) ⟨Nat.le_refl _, Nat.le_refl _, hs⟩ step q
  exact fin
end LW
namespace LW
open PySem PySem.Spec PyProof.Rows L2 DL EL
/-- a def that draws at most n times -/
@[irreducible] def Dr (f : GX) (ds : List D) (k n : Nat) (Q : Rv → Prop) : Prop := (f ds [.feed k]).all (fun q => ∃ m, m ≤ k + n ∧ q = (q.1, [.feed m]) ∧ Q q.1) fun _ => False
theorem sg_sum : ∀ ls : List Tx, (∀ s ∈ ls, s.length ≤ 13) → (ls.map (·.length)).sum ≤ ls.length * 13
  | [], _ => Nat.zero_le _
  | s :: ls, h => by
    have h1 := sg_sum ls fun t ht => h t (List.mem_cons_of_mem _ ht)
    have := h s List.mem_cons_self
    simp only [List.map_cons, List.sum_cons, List.length_cons]
    omega
theorem drawn_good {first : Tx} (hf : first ∈ firsts) {last : List Tx} (hl : last.length ≤ 6) (hs : Sgs first last) : ∃ ws, TextGood (first ++ 59 :: TL.joinL [32] last) ws last ∧ first.length ≤ 200 := by
  obtain ⟨ws, e1, e2, e3, e4, e5⟩ := firsts_good first hf
  have sg : last.all (fun s => sgOk s && plainT s) = true := List.all_eq_true.mpr fun s h => menu_ok s (hs s h).1
  have hw1 : ∀ w ∈ ws, wdOk w = true := fun w h => (Bool.and_eq_true_iff.mp (List.all_eq_true.mp e2 w h)).1
  have la := plain_len (fun w h => (wd_len (hw1 w h)).1)
  refine ⟨ws, ⟨⟨by rw [e1], e2, sg, e3, by omega⟩, ?_⟩, by rw [e1]; omega⟩
  unfold goodB
  rw [Bool.and_eq_true]
  exact ⟨e4, List.all_eq_true.mpr fun s h => e5 s (hs s h).1 (hs s h).2⟩
theorem drawn_end {first : Tx} (hf : first.length ≤ 200) {last : List Tx} (hl : last.length ≤ 6) (hs : Sgs first last) : oJoin [32] (.lst (last.map .str)) = some (.str (TL.joinL [32] last)) ∧ (TL.joinL [32] last).length ≤ 200 := by
  have hs1 : ∀ s ∈ last, sgOk s = true := fun s h => by have := menu_ok s (hs s h).1; rw [Bool.and_eq_true] at this; exact this.1
  have h2 := sg_sum last fun s h => (sg_len (hs1 s h)).1
  have h3 := plain_len fun s h => (sg_len (hs1 s h)).1
  refine ⟨?_, by omega⟩
  unfold oJoin
  dsimp only
  rw [ssOf_str]
  dsimp only
  rw [if_pos (by simp only [List.length_cons, List.length_nil]; omega)]
theorem l_drawn (k : Nat) (hk : k + 9 ≤ 900) : Als (f_L_drawn [txs menu] [.feed k]) (fun q => ∃ z ws sgs m, m ≤ k + 9 ∧ q = (.d (.str z), [.feed m]) ∧ TextGood z ws sgs) fun _ => False := by
  have e := e_pick (ds := firsts.map .str) (k := k) (by decide) (by decide) (by omega)
  have e2 := e_pick (ds := [.int 3, .int 4, .int 6]) (k := k + 1) (by decide) (by decide) (by omega)
  have eB : T " " = [32] := by decide +kernel
  have eS : T ";" = [59] := by decide +kernel
  unfold firsts at e
  simp only [List.map_cons, List.map_nil] at e
  simp [f_L_drawn, b_L_drawn, getCs, e, e2]
  intro r h0 h1
  obtain ⟨d, hd, ha⟩ := at_draw (firsts.map D.str) h0 h1
  obtain ⟨first, hf, rfl⟩ := List.mem_map.mp hd
  unfold firsts at ha
  simp only [List.map_cons, List.map_nil] at ha
  simp [ha, getCs, e2]
  intro r' h0' h1'
  obtain ⟨d, hd', ha'⟩ := at_draw [D.int 3, .int 4, .int 6] h0' h1'
  obtain ⟨n, rfl, n0, n1⟩ : ∃ n : Int, d = .int n ∧ 0 < n ∧ n ≤ 6 := by
    simp only [List.mem_cons, List.not_mem_nil, or_false] at hd'
    rcases hd' with rfl | rfl | rfl
    · exact ⟨3, rfl, by decide, by decide⟩
    · exact ⟨4, rfl, by decide, by decide⟩
    · exact ⟨6, rfl, by decide, by decide⟩
  have e3 := l_dip (n := n) (k := k + 2) n0 (by omega) (by omega)
  simp [ha', getCs, e3]
  intro r2 h0'' h1''
  have rg : oRng1 [.int (1 + r2)] = some (rngD 0 1 (1 + r2).toNat) := by
    unfold oRng1
    dsimp only
    rw [if_pos (by omega)]
  have rl : (rngD 0 1 (1 + r2).toNat).length ≤ 6 := by unfold rngD; rw [List.length_map, List.length_range]; omega
  have dl := draw_loop (first := first) (P := fun r => ∃ s : Nat × List Tx, r = (.nx, drR first, drC s.1 s.2) ∧ DrI first (k + 3 + (rngD 0 1 (1 + r2).toNat).length) (([] : List Tx).length + (rngD 0 1 (1 + r2).toNat).length) [] s) (rngD 0 1 (1 + r2).toNat) (k + 3) [] (by omega) (by simp only [List.length_nil]; omega) (fun s h => by cases h) fun s h => ⟨s, rfl, h⟩
  rw [List.map_id'] at dl
  unfold drR drC LpOk at dl
  simp only [List.map_nil] at dl
  simp [rg]
  simp only [als_noex, als_bind, als_mapE, als_both, als_atS]
  generalize (rngD 0 1 (1 + r2).toNat) = laps at *
  refine dl.mono (fun q z => ?_) (fun _ z => z)
  obtain ⟨⟨m, last⟩, rfl, z⟩ := z
  have z1 := z.m
  have z2 := z.n
  simp only [List.length_nil] at z1 z2
  obtain ⟨ws, tg, fl⟩ := drawn_good hf (last := last) (by omega) z.sg
  obtain ⟨j1, j2⟩ := drawn_end fl (last := last) (by omega) z.sg
  have b1 : first.length + 1 ≤ 16777216 := by omega
  have b2 : first.length + 1 + (TL.joinL [32] last).length ≤ 16777216 := by omega
  simp [eB, eS, j1, b1, b2]
  exact ⟨_, ws, last, m, by omega, ⟨rfl, rfl⟩, tg⟩
theorem l_book {c0 c1 c2 c3 : Nat} (lw : Lows c0 c1 c2 c3) (k : Nat) (hk : k + 10 ≤ 900) : Als (f_L_book [txs scenes, txs menu, nmD c0 c1 c2 c3] [.feed k]) (fun q => ∃ z ws sgs m, m ≤ k + 10 ∧ TextGood z ws sgs ∧ q = (.d (bookD (srtE (ws.map (entOf c0 c1 c2 c3))) (sgs.map (ruleOf c0 c1 c2 c3))), [.feed m])) fun _ => False := by
  have e1 := l_dip (n := 2) (k := k) (by decide) (by decide) (by omega)
  have e2 := e_pick (ds := scenes.map .str) (k := k + 1) (by decide) (by decide) (by omega)
  simp [f_L_book, b_L_book, getCs, e1]
  intro r h0 h1
  have hr : r = 0 ∨ r = 1 := by omega
  rcases hr with rfl | rfl
  · simp
    simp only [als_noex, als_bind, als_mapE, als_both, als_atS]
    refine (l_drawn (k + 1) (by omega)).mono (fun q z => ?_) fun _ z => z.elim
    obtain ⟨z, ws, sgs, m, hm, rfl, tg⟩ := z
    have rd := l_read lw tg.toTextIs
    simp [getCs, rd]
    exact ⟨z, ws, sgs, m, by omega, tg, rfl, rfl⟩
  · unfold txs
    simp [e2, getCs]
    intro r h0 h1
    obtain ⟨d, hd, ha⟩ := at_draw (scenes.map D.str) h0 (by rw [List.length_map]; exact h1)
    obtain ⟨z, hz, rfl⟩ := List.mem_map.mp hd
    obtain ⟨ws, sgs, tg⟩ := scenes_good z hz
    have rd := l_read lw tg.toTextIs
    simp [ha, getCs, rd]
    exact ⟨z, ws, sgs, k + 2, by omega, tg, rfl, rfl⟩
end LW
namespace LW
open PySem PySem.Spec PyProof.Rows L2 DL EL
theorem once_sub (x : Tx) : ∀ (ls L : List Tx) (s : Tx), s ∈ ls.foldl (add1 x) L → s ∈ L ∨ s ∈ ls
  | [], L, s, h => .inl h
  | y :: ls, L, s, h => by
    rcases once_sub x ls (add1 x L y) s h with h | h
    · unfold add1 at h
      split at h
      · exact .inl h
      · rcases List.mem_append.mp h with h | h
        · exact .inl h
        · exact .inr (by rw [List.mem_singleton.mp h]; exact List.mem_cons_self)
    · exact .inr (List.mem_cons_of_mem _ h)
def Shw (s : Tx) : Prop := s.length ≤ 30 ∧ ∀ c ∈ s, low c
theorem res_shw {E : List Ent} {R : List Rl} {x : Tx} (w : Wf E R) (hx : Wd E x) (r : Rl) (hr : RlOk r) : ∀ s ∈ res E r x, Shw s := by
  have hl := hx.len
  have lw := low_of w hx
  have tk : ∀ k, ∀ c ∈ x.take k, low c := fun k c hc => lw c (List.mem_of_mem_take hc)
  have dp : ∀ k, ∀ c ∈ x.drop k, low c := fun k c hc => lw c (List.mem_of_mem_drop hc)
  intro s hs
  cases r with
  | drop n l =>
    obtain ⟨k, _, rfl⟩ := List.mem_map.mp hs
    exact ⟨by simp only [List.length_append, List.length_take, List.length_drop]; omega, fun c hc => (List.mem_append.mp hc).elim (tk _ c) (dp _ c)⟩
  | put a b l =>
    obtain ⟨k, _, e⟩ := List.mem_filterMap.mp hs
    split at e
    · cases e
      exact ⟨by have := hr.2.1; simp only [List.length_append, List.length_take, List.length_drop]; omega, fun c hc => (List.mem_append.mp hc).elim (fun hc => (List.mem_append.mp hc).elim (tk _ c) (hr.2.2 c)) (dp _ c)⟩
    · cases e
  | empty =>
    rw [List.mem_singleton.mp hs]
    exact ⟨Nat.zero_le _, fun c hc => by cases hc⟩
  | half l =>
    have := List.mem_singleton.mp hs
    subst this
    cases l
    · exact ⟨by show (x.drop _).length ≤ 30; rw [List.length_drop]; omega, fun c hc => dp _ c hc⟩
    · exact ⟨by show (x.take _).length ≤ 30; rw [List.length_take]; omega, fun c hc => tk _ c hc⟩
  | lower l =>
    obtain ⟨k, hk, h2⟩ := List.mem_flatMap.mp hs
    obtain ⟨y, hy, rfl⟩ := List.mem_map.mp h2
    have hkl := places_lt hk
    have hc : x[k]? = some x[k] := List.getElem?_eq_getElem hkl
    have ed := drop_take1 hc
    obtain ⟨_, _, g3⟩ := less_get w (hx.lt _ (List.getElem_mem hkl))
    rw [ed] at hy
    obtain ⟨z, rfl, lz⟩ := g3 y hy
    exact ⟨by simp only [List.length_append, List.length_take, List.length_drop, List.length_cons, List.length_nil]; omega, fun c hc => (List.mem_append.mp hc).elim (fun hc => (List.mem_append.mp hc).elim (tk _ c) fun hc => by rw [List.mem_singleton.mp hc]; exact lz) (dp _ c)⟩
theorem shw_rep {s : Tx} (h : Shw s) (n : Nat) : repOk n (.str s) = true := by
  have e : (decide (s.length ≤ sizeLine) && s.all fun c => decide (c < 1114112)) = true := by
    rw [Bool.and_eq_true, decide_eq_true_eq, List.all_eq_true]
    exact ⟨by rw [sizeLine_eq]; have := h.1; omega, fun c hc => decide_eq_true (by have := h.2 c hc; unfold low at this; omega)⟩
  cases n <;> exact e
theorem all_flat (E : List Ent) (R : List Rl) (x : Tx) : allRes E R x (List.range R.length) = R.flatMap fun r => res E r x := by
  unfold allRes
  rw [List.flatMap_def, List.flatMap_def]
  congr 1
  apply List.ext_getElem
  · simp
  · intro i h1 h2
    simp only [List.length_map] at h2
    simp [List.getElem?_eq_getElem h2]

theorem wf_of {c0 c1 c2 c3 : Nat} (lw : Lows c0 c1 c2 c3) {z : Tx} {ws sgs : List Tx} (t : TextIs z ws sgs) : Wf (srtE (ws.map (entOf c0 c1 c2 c3))) (sgs.map (ruleOf c0 c1 c2 c3)) := by
  have hw1 : ∀ w ∈ ws, wdOk w = true := fun w h => (Bool.and_eq_true_iff.mp (List.all_eq_true.mp t.w w h)).1
  have hs1 : ∀ w ∈ sgs, sgOk w = true := fun w h => (Bool.and_eq_true_iff.mp (List.all_eq_true.mp t.s w h)).1
  refine ⟨fun e he => ?_, fun r hr => ?_, ?_, ?_⟩
  · obtain ⟨w, hw, rfl⟩ := List.mem_map.mp ((srtE_perm _).mem_iff.mp he)
    exact ent_ok lw (hw1 w hw)
  · obtain ⟨s, hs, rfl⟩ := List.mem_map.mp hr
    exact ruleOf_ok lw (hs1 s hs)
  · rw [(srtE_perm _).length_eq, List.length_map]; exact t.lw
  · rw [List.length_map]; exact t.ls
theorem repr_tup {n : Nat} {ds : List D} (h : repOk n (.tup ds) = true) (hn : n ≤ 60) (hz : szD (.tup ds) ≤ 16777216) : oRepr [.tup ds] = some (.str (shT (.tup ds))) := by
  obtain ⟨h1, h2, h3, h4, h5⟩ := repOk_py h
  have h1' : okE (.tup ds) = true := h1
  have h6 : depE (.tup ds) ≤ 60 := Nat.le_trans h4 hn
  have h7 := Nat.le_trans (shT_len h) hz
  unfold oRepr
  dsimp only
  rw [h1', h2, h3, decide_eq_true h6, decide_eq_true h7]
  rfl
theorem repr_lst {n : Nat} {ds : List D} (h : repOk n (.lst ds) = true) (hn : n ≤ 60) (hz : szD (.lst ds) ≤ 16777216) : oRepr [.lst ds] = some (.str (shT (.lst ds))) := by
  obtain ⟨h1, h2, h3, h4, h5⟩ := repOk_py h
  have h1' : okE (.lst ds) = true := h1
  have h6 : depE (.lst ds) ≤ 60 := Nat.le_trans h4 hn
  have h7 := Nat.le_trans (shT_len h) hz
  unfold oRepr
  dsimp only
  rw [h1', h2, h3, decide_eq_true h6, decide_eq_true h7]
  rfl
theorem repr_shw {ls : List Tx} (h : ∀ s ∈ ls, Shw s) (hl : ls.length ≤ 10000) : oRepr [.tup (ls.map .str)] = some (.str (shT (.tup (ls.map .str)))) := by
  have h1 : repOk 1 (.tup (ls.map .str)) = true := by
    show repAll 0 (ls.map .str) = true
    exact repAll_of fun d hd => by
      obtain ⟨s, hs, rfl⟩ := List.mem_map.mp hd
      exact shw_rep (h s hs) 0
  refine repr_tup h1 (by decide) ?_
  have h3 : szAll (ls.map .str) ≤ (ls.map D.str).length * (302 + 2) := szAll_le fun d hd => by
    obtain ⟨s, hs, rfl⟩ := List.mem_map.mp hd
    have := (h s hs).1
    show 10 * s.length + 2 ≤ 302
    omega
  rw [List.length_map] at h3
  simp only [szD]
  omega
/-! ### once, twice -/
theorem add1_mem {x s t : Tx} {L : List Tx} (h : t ∈ L) : t ∈ add1 x L s := by unfold add1; split; exact h; exact List.mem_append.mpr (.inl h)
theorem fold_mem {x t : Tx} : ∀ {ls L : List Tx}, t ∈ L → t ∈ ls.foldl (add1 x) L
  | [], _, h => h
  | s :: ls, _, h => fold_mem (ls := ls) (add1_mem h)
theorem fold_all {x t : Tx} : ∀ {ls L : List Tx}, t ∈ ls → t = x ∨ t ∈ ls.foldl (add1 x) L
  | s :: ls, L, h => by
    rcases List.mem_cons.mp h with rfl | h
    · by_cases e : t = x
      · exact .inl e
      · refine .inr (fold_mem (ls := ls) ?_)
        unfold add1
        split
        · rename_i q; exact (List.mem_cons.mp q).resolve_left e
        · simp
    · exact fold_all (ls := ls) h
theorem fold_fold (x : Tx) : ∀ (l A L : List Tx), (l.foldl (add1 x) A).foldl (add1 x) L = l.foldl (add1 x) (A.foldl (add1 x) L)
  | [], A, L => rfl
  | s :: l, A, L => by
    rw [List.foldl_cons, List.foldl_cons, fold_fold x l (add1 x A s) L]
    congr 1
    unfold add1
    by_cases h : s ∈ x :: A
    · rw [if_pos h]
      rw [if_pos]
      rcases List.mem_cons.mp h with rfl | h
      · exact List.mem_cons_self
      · exact (fold_all (L := L) h).elim (fun e => by rw [e]; exact List.mem_cons_self) (List.mem_cons_of_mem _)
    · rw [if_neg h, List.foldl_append]
      rfl
theorem once_flat {α : Type} (x : Tx) (f : α → List Tx) : ∀ (ls : List α) (L : List Tx), (ls.flatMap fun a => once x (f a)).foldl (add1 x) L = (ls.flatMap f).foldl (add1 x) L
  | [], _ => rfl
  | a :: ls, L => by
    rw [List.flatMap_cons, List.flatMap_cons, List.foldl_append, List.foldl_append, once_flat x f ls]
    congr 1
    exact fold_fold x (f a) [] L
/-! ### short words -/
theorem short_wd {E : List Ent} {R : List Rl} (w : Wf E R) : ∀ x ∈ short E, Wd E x := by
  have go : ∀ (n m : Nat) (s : List Tx × List Tx), m + n ≤ 3 → (∀ x ∈ s.1, Wd E x) → (∀ x ∈ s.2, (∀ c ∈ x, [c] ∈ E.map (·.1)) ∧ x.length ≤ m) → ∀ x ∈ shortGo E n s, Wd E x := by
    intro n
    induction n with
    | zero => intro m s _ h1 _ x hx; exact h1 x hx
    | succ n ih =>
      intro m s hm h1 h2
      have h3 : ∀ x ∈ late E s.2, (∀ c ∈ x, [c] ∈ E.map (·.1)) ∧ x.length ≤ m + 1 := fun x hx => by
        obtain ⟨y, hy, hx⟩ := List.mem_flatMap.mp hx
        obtain ⟨e, he, rfl⟩ := List.mem_map.mp hx
        obtain ⟨c, hc, _⟩ := (w.ents e he).1
        have := h2 y hy
        refine ⟨fun d hd => ?_, by rw [hc]; simp; exact this.2⟩
        rcases List.mem_append.mp hd with hd | hd
        · exact this.1 d hd
        · rw [hc] at hd
          rw [List.mem_singleton.mp hd, ← hc]
          exact List.mem_map_of_mem he
      refine ih (m + 1) _ (by omega) (fun x hx => ?_) h3
      rcases List.mem_append.mp hx with hx | hx
      · exact h1 x hx
      · exact ⟨(h3 x hx).1, by have := (h3 x hx).2; omega⟩
  have nil : Wd E [] := ⟨fun c hc => (nomatch hc), Nat.zero_le _⟩
  refine go _ 0 _ (by split <;> omega) (fun x hx => by rw [List.mem_singleton.mp hx]; exact nil) fun x hx => by rw [List.mem_singleton.mp hx]; exact ⟨fun c hc => (nomatch hc), Nat.zero_le _⟩
end LW
namespace LW
open PySem PySem.Spec PyProof.Rows L2 DL EL
/-! ### the law -/
theorem once_shw {E : List Ent} {R : List Rl} {x : Tx} (w : Wf E R) (hx : Wd E x) {r : Rl} (hr : RlOk r) : ∀ s ∈ once x (res E r x), Shw s := fun s hs => (once_sub x _ [] s hs).elim (fun z => nomatch z) (res_shw w hx _ hr s)
def resAt (E : List Ent) (R : List Rl) (x : Tx) (k : Nat) : List Tx := match R[k]? with
  | some r => res E r x
  | none => []
theorem resAt_some {E : List Ent} {R : List Rl} {x : Tx} {k : Nat} {r : Rl} (h : R[k]? = some r) : resAt E R x k = res E r x := by unfold resAt; rw [h]
theorem once_le (x : Tx) (ls : List Tx) : (once x ls).length ≤ ls.length := by have := fold_len x ls []; unfold once; simp only [List.length_nil] at this; omega
theorem resAt_len {E : List Ent} {R : List Rl} {x : Tx} (w : Wf E R) (hx : Wd E x) (k : Nat) : (resAt E R x k).length ≤ 100 := by
  unfold resAt
  split
  · exact res_len w hx _
  · exact Nat.zero_le _
theorem flat_once_len {E : List Ent} {R : List Rl} {x : Tx} (w : Wf E R) (hx : Wd E x) : ((List.range R.length).flatMap fun k => once x (resAt E R x k)).length ≤ R.length * 100 := by
  have := flat_len (fun k => once x (resAt E R x k)) 100 (List.range R.length) fun k hk => Nat.le_trans (once_le x _) (resAt_len w hx k)
  rwa [List.length_range] at this
theorem flat_once {E : List Ent} {R : List Rl} {x : Tx} : once x ((List.range R.length).flatMap fun k => once x (resAt E R x k)) = once x (allRes E R x (List.range R.length)) := once_flat x (resAt E R x) (List.range R.length) []
theorem in_turn {E : List Ent} {R : List Rl} {x : Tx} (w : Wf E R) (hx : Wd E x) (s0 s1 : Option Vl) (c : Cell) (k : Nat) (r : Rl) (hr : R[k]? = some r) (L : List Tx) (hL : L.length ≤ 5000) :
    turnF (xgN 5) b_law_1 [5, 6, 7] 2 (.int k) [s0, s1, some (.d (bookD E R)), some (.d (.str x)), some (.c 1), none, none, none] [c, .own (.lst (L.map .str))] = .ok (.ct, [s0, s1, some (.d (bookD E R)), some (.d (.str x)), some (.c 1), none, none, none], [c, .own (.lst ((L ++ once x (res E r x)).map .str))]) := by
  have ok := w.rules r (List.mem_of_getElem? hr)
  have rl := res_len w hx r
  have tn := l_turned w hx r ok
  have on := l_once x (res E r x) (by omega)
  have rs := l_rule_steps w hx hr
  have ol : (once x (res E r x)).length ≤ 1000 := by have := fold_len x (res E r x) []; unfold once; simp only [List.length_nil] at this; omega
  have rp := repr_shw (once_shw w hx ok) (by omega)
  have hI := atI_map R k r hr
  have hz : L.length + (once x (res E r x)).length ≤ 16777216 := by omega
  unfold bookD at *
  simp [turnF, b_law_1, hI, tn, on, rs, rp, hz]
theorem in_loop {E : List Ent} {R : List Rl} {x : Tx} (w : Wf E R) (hx : Wd E x) (s0 s1 : Option Vl) (c : Cell) : ∀ (ks : List Nat) (L : List Tx), (∀ k ∈ ks, k < R.length) → L.length + ks.length * 500 ≤ 4600 →
    forX (xgN 5) b_law_1 [5, 6, 7] 2 (natsD ks) [s0, s1, some (.d (bookD E R)), some (.d (.str x)), some (.c 1), none, none, none] [c, .own (.lst (L.map .str))] = .ok (.nx, [s0, s1, some (.d (bookD E R)), some (.d (.str x)), some (.c 1), none, none, none], [c, .own (.lst ((L ++ ks.flatMap fun k => once x (resAt E R x k)).map .str))])
  | [], L, _, _ => by simp; rfl
  | k :: ks, L, hk, hL => by
    simp only [List.length_cons] at hL
    have hkl := hk k List.mem_cons_self
    have hr : R[k]? = some R[k] := List.getElem?_eq_getElem hkl
    have rl := res_len w hx R[k]
    have ol : (once x (res E R[k] x)).length ≤ 100 := by have := fold_len x (res E R[k] x) []; unfold once; simp only [List.length_nil] at this; omega
    have st := in_turn w hx s0 s1 c k R[k] hr L (by omega)
    have ih := in_loop w hx s0 s1 c ks (L ++ once x (res E R[k] x)) (fun j hj => hk j (List.mem_cons_of_mem _ hj)) (by rw [List.length_append]; omega)
    show forX _ _ _ _ (D.int k :: natsD ks) _ _ = _
    rw [for_step st, ih, List.flatMap_cons, resAt_some hr]
    simp only [List.append_assoc]
theorem out_turn {E : List Ent} {R : List Rl} {x : Tx} (w : Wf E R) (hx : Wd E x) (ns : List Int) (c : Cell) :
    turnF (xgN 3) b_law_0 [3, 4, 5, 6, 7] 1 (.str x) [some (.d (.scr ns)), some (.c 0), some (.d (bookD E R)), none, none, none, none, none] [c] = .ok (.ct, [some (.d (.scr ns)), some (.c 0), some (.d (bookD E R)), none, none, none, none, none], [c]) := by
  have nR := w.nR
  have lo := in_loop w hx (some (.d (.scr ns))) (some (.c 0)) c (List.range R.length) [] (fun k hk => List.mem_range.mp hk) (by simp only [List.length_range, List.length_nil]; omega)
  have so := l_steps_of w hx
  have al := all_len w hx (List.range R.length)
  have fl := flat_once_len w hx
  have oe := flat_once (E := E) (R := R) (x := x)
  generalize ((List.range R.length).flatMap fun k => once x (resAt E R x k)) = F at *
  have on := l_once x F (by omega)
  rw [oe] at on
  have ol : (once x (allRes E R x (List.range R.length))).length ≤ 900 := once_len w hx
  have shw : ∀ s ∈ once x (allRes E R x (List.range R.length)), Shw s := fun s hs => (once_sub x _ [] s hs).elim (fun z => nomatch z) fun z => by
    rw [all_flat] at z
    obtain ⟨r, hr, h2⟩ := List.mem_flatMap.mp z
    exact res_shw w hx _ (w.rules r hr) s h2
  have rp := repr_shw shw (by omega)
  have rg : oRng1 [.int (R.length : Int)] = some (natsD (List.range R.length)) := by
    have e := rngD_up R.length
    unfold oRng1
    dsimp only
    rw [if_pos (by omega), e]
  unfold bookD txs at *
  simp only [List.map_nil, List.nil_append] at lo
  simp [turnF, b_law_0, rg, lo, so, on, rp]
theorem out_loop {E : List Ent} {R : List Rl} (w : Wf E R) (ns : List Int) (c : Cell) : ∀ (xs : List Tx), (∀ x ∈ xs, Wd E x) →
    forX (xgN 3) b_law_0 [3, 4, 5, 6, 7] 1 (xs.map .str) [some (.d (.scr ns)), some (.c 0), some (.d (bookD E R)), none, none, none, none, none] [c] = .ok (.nx, [some (.d (.scr ns)), some (.c 0), some (.d (bookD E R)), none, none, none, none, none], [c])
  | [], _ => rfl
  | x :: xs, h => by
    rw [List.map_cons, for_step (out_turn w (h x List.mem_cons_self) ns c)]
    exact out_loop w ns c xs fun y hy => h y (List.mem_cons_of_mem _ hy)
theorem wf_twice {E : List Ent} {R : List Rl} (w : Wf E R) (h : R.length < 6) : Wf E (R ++ R.take 1) := ⟨w.ents, fun r hr => (List.mem_append.mp hr).elim (w.rules r) fun z => w.rules r (List.mem_of_mem_take z), w.nE, by rw [List.length_append, List.length_take]; omega⟩
theorem l_law (ns : List Int) : Als (f_law [.scr ns] []) (fun q => q = (.d (.bl true), [])) fun _ => False := by
  simp [f_law, b_law, getCs, l_scenes, l_menu]
  simp only [als_noex, als_bind, als_mapE, als_both, als_atS]
  refine (l_names 0 (by omega)).mono (fun q z => ?_) fun _ z => z.elim
  obtain ⟨c0, c1, c2, c3, tb, rfl⟩ := z
  simp [getCs]
  simp only [als_noex, als_bind, als_mapE, als_both, als_atS]
  refine (l_book tb.lows 1 (by omega)).mono (fun q z => ?_) fun _ z => z.elim
  obtain ⟨z, ws, sgs, m, hm, tg, rfl⟩ := z
  have wf := wf_of tb.lows tg.toTextIs
  generalize srtE (ws.map (entOf c0 c1 c2 c3)) = E at *
  generalize sgs.map (ruleOf c0 c1 c2 c3) = R at *
  have e3 := l_dip (n := 3) (k := m) (by decide) (by decide) (by omega)
  have nR := wf.nR
  have cut1 : cutL (R.map ruleD) none (some 1) = (R.take 1).map ruleD := by
    have := cut_take (R.map ruleD) 1
    rw [List.map_take]
    exact this
  have fin : ∀ (R' : List Rl) (c : Cell), Wf E R' → forX (xgN 3) b_law_0 [3, 4, 5, 6, 7] 1 ((short E).map .str) [some (.d (.scr ns)), some (.c 0), some (.d (bookD E R')), none, none, none, none, none] [c] = .ok (.nx, [some (.d (.scr ns)), some (.c 0), some (.d (bookD E R')), none, none, none, none, none], [c]) := fun R' c w => out_loop w ns c (short E) (short_wd w)
  have z2 : R.length + min 1 R.length ≤ 16777216 := by omega
  have hh : ∀ (R' : List Rl) (c : Cell), Wf E R' → f_L_short [.tup [.tup (E.map entD), .tup (R'.map ruleD)]] [] = .ok (.new (.lst ((short E).map .str)), []) := fun R' c w => l_short w
  unfold bookD at *
  simp [getCs, e3]
  intro r r0 r1
  by_cases h : r = 0 ∧ (R.length : Int) < 6
  · have w2 := wf_twice wf (show R.length < 6 by omega)
    have f2 := fin _ (.feed (m + 1)) w2
    have h2 := hh _ (.feed (m + 1)) w2
    simp only [List.map_append, List.map_take] at f2 h2
    simp [h.1, h.2, cut1, z2, f2, h2, getCs]
  · by_cases h0 : r = 0
    · have h6 : ¬ (R.length : Int) < 6 := fun z => h ⟨h0, z⟩
      simp [h0, h6, fin _ (.feed (m + 1)) wf, hh _ (.feed (m + 1)) wf, getCs]
    · simp [h0, fin _ (.feed (m + 1)) wf, hh _ (.feed (m + 1)) wf, getCs]
end LW
namespace LW
open PySem PySem.Spec PyProof.Rows L2 DL EL
/-! ### the head: facts by names, the run -/
def d_is_integer : He.DefD := ⟨("is_integer", none), "is_integer", "is_integer", defArgs s_is_integer, defBody s_is_integer, defScope s_is_integer, [], []⟩
def d_is_number : He.DefD := ⟨("is_number", none), "is_number", "is_number", defArgs s_is_number, defBody s_is_number, defScope s_is_number, [], []⟩
def d_is_thing : He.DefD := ⟨("is_thing", none), "is_thing", "is_thing", defArgs s_is_thing, defBody s_is_thing, defScope s_is_thing, [], []⟩
def d_want : He.DefD := ⟨("want", none), "want", "want", defArgs s_want, defBody s_want, defScope s_want, [.int (-1)], []⟩
def d_known_letters : He.DefD := ⟨("known_letters", none), "known_letters", "known_letters", defArgs s_known_letters, defBody s_known_letters, defScope s_known_letters, [], []⟩
def d_is_thing_of : He.DefD := ⟨("is_thing_of", none), "is_thing_of", "is_thing_of", defArgs s_is_thing_of, defBody s_is_thing_of, defScope s_is_thing_of, [], []⟩
def d_want_thing : He.DefD := ⟨("want_thing", none), "want_thing", "want_thing", defArgs s_want_thing, defBody s_want_thing, defScope s_want_thing, [], []⟩
def d_places_of : He.DefD := ⟨("places_of", none), "places_of", "places_of", defArgs s_places_of, defBody s_places_of, defScope s_places_of, [], []⟩
def d_dropped : He.DefD := ⟨("dropped", none), "dropped", "dropped", defArgs s_dropped, defBody s_dropped, defScope s_dropped, [], []⟩
def d_halved : He.DefD := ⟨("halved", none), "halved", "halved", defArgs s_halved, defBody s_halved, defScope s_halved, [], []⟩
def d_lowered : He.DefD := ⟨("lowered", none), "lowered", "lowered", defArgs s_lowered, defBody s_lowered, defScope s_lowered, [], []⟩
def d_put_results : He.DefD := ⟨("put_results", none), "put_results", "put_results", defArgs s_put_results, defBody s_put_results, defScope s_put_results, [], []⟩
def d_results_of : He.DefD := ⟨("results_of", none), "results_of", "results_of", defArgs s_results_of, defBody s_results_of, defScope s_results_of, [], []⟩
def d_steps_from : He.DefD := ⟨("steps_from", none), "steps_from", "steps_from", defArgs s_steps_from, defBody s_steps_from, defScope s_steps_from, [], []⟩
def d_plain_steps : He.DefD := ⟨("plain_steps", none), "plain_steps", "plain_steps", defArgs s_plain_steps, defBody s_plain_steps, defScope s_plain_steps, [], []⟩
def d_steps_of : He.DefD := ⟨("steps_of", none), "steps_of", "steps_of", defArgs s_steps_of, defBody s_steps_of, defScope s_steps_of, [], []⟩
def d_rule_steps : He.DefD := ⟨("rule_steps", none), "rule_steps", "rule_steps", defArgs s_rule_steps, defBody s_rule_steps, defScope s_rule_steps, [], []⟩
def d_L_spring : He.DefD := ⟨("_law_spring", none), "_law_spring", "_law_spring", defArgs s_L_spring, defBody s_L_spring, defScope s_L_spring, [], []⟩
def d_L_dip : He.DefD := ⟨("_law_dip", none), "_law_dip", "_law_dip", defArgs s_L_dip, defBody s_L_dip, defScope s_L_dip, [], []⟩
def d_L_pick : He.DefD := ⟨("_law_pick", none), "_law_pick", "_law_pick", defArgs s_L_pick, defBody s_L_pick, defScope s_L_pick, [], []⟩
def d_L_rule : He.DefD := ⟨("_law_rule", none), "_law_rule", "_law_rule", defArgs s_L_rule, defBody s_L_rule, defScope s_L_rule, [], []⟩
def d_L_read : He.DefD := ⟨("_law_read", none), "_law_read", "_law_read", defArgs s_L_read, defBody s_L_read, defScope s_L_read, [], []⟩
def d_L_names : He.DefD := ⟨("_law_names", none), "_law_names", "_law_names", defArgs s_L_names, defBody s_L_names, defScope s_L_names, [], []⟩
def d_L_drawn : He.DefD := ⟨("_law_drawn", none), "_law_drawn", "_law_drawn", defArgs s_L_drawn, defBody s_L_drawn, defScope s_L_drawn, [], []⟩
def d_L_book : He.DefD := ⟨("_law_book", none), "_law_book", "_law_book", defArgs s_L_book, defBody s_L_book, defScope s_L_book, [], []⟩
def d_L_scenes : He.DefD := ⟨("_law_scenes", none), "_law_scenes", "_law_scenes", defArgs s_L_scenes, defBody s_L_scenes, defScope s_L_scenes, [], []⟩
def d_L_menu : He.DefD := ⟨("_law_menu", none), "_law_menu", "_law_menu", defArgs s_L_menu, defBody s_L_menu, defScope s_L_menu, [], []⟩
def d_L_left : He.DefD := ⟨("_law_left", none), "_law_left", "_law_left", defArgs s_L_left, defBody s_L_left, defScope s_L_left, [], []⟩
def d_L_turned : He.DefD := ⟨("_law_turned", none), "_law_turned", "_law_turned", defArgs s_L_turned, defBody s_L_turned, defScope s_L_turned, [], []⟩
def d_L_short : He.DefD := ⟨("_law_short", none), "_law_short", "_law_short", defArgs s_L_short, defBody s_L_short, defScope s_L_short, [], []⟩
def d_L_once : He.DefD := ⟨("_law_once", none), "_law_once", "_law_once", defArgs s_L_once, defBody s_L_once, defScope s_L_once, [], []⟩
def d_law : He.DefD := ⟨("law", none), "law", "law", defArgs s_law, defBody s_law, defScope s_law, [], []⟩
def fn : List He.DefD := [d_is_integer, d_is_number, d_is_thing, d_want, d_known_letters, d_is_thing_of, d_want_thing, d_places_of, d_dropped, d_halved, d_lowered, d_put_results, d_results_of, d_steps_from, d_plain_steps, d_steps_of, d_rule_steps, d_L_spring, d_L_dip, d_L_pick, d_L_rule, d_L_read, d_L_names, d_L_drawn, d_L_book, d_L_scenes, d_L_menu, d_L_left, d_L_turned, d_L_short, d_L_once, d_law]
def fa : List He.Fa := [.glo "is_integer", .glo "is_number", .glo "is_thing", .glo "want", .glo "known_letters", .glo "is_thing_of", .glo "want_thing", .glo "places_of", .glo "dropped", .glo "halved", .glo "lowered", .glo "put_results", .glo "results_of", .glo "steps_from", .glo "plain_steps", .glo "steps_of", .glo "rule_steps", .glo "_law_spring", .glo "_law_dip", .glo "_law_pick", .glo "_law_rule", .glo "_law_read", .glo "_law_names", .glo "_law_drawn", .glo "_law_book", .glo "_law_scenes", .glo "_law_menu", .glo "_law_left", .glo "_law_turned", .glo "_law_short", .glo "_law_once", .glo "law", .free "isinstance", .free "len", .free "all", .free "max", .free "sorted", .free "tuple", .free "list", .free "dict", .free "int", .free "str", .free "bool", .free "range", .free "repr", .free "super", .free "ValueError", .str "LOWERCASE" "abcdefghijklmnopqrstuvwxyz"]
abbrev Rw : PySem.W.OpenRow := PySem.W.OpenLaw.row PySem.Challenge.rw_firstfailing_k17_whole_steps_of_short_th
abbrev hk : PySem.W.Hook := He.hookD 4 fa fn
def ob (s : PySem.W.SharedT) : He.AlD := He.obsDG 4 fa fn (HandSHeadRun.getT s)
theorem ob_eq (s : PySem.W.SharedT) : ob s = hk.obs s.abs := He.obsDG_eq (HandSHeadRun.getT_eq s)
def loose : List Str := (["__name__", "FailError", "BookError", "NotUsable", "LOWERCASE", "is_integer", "is_number", "is_thing", "want", "known_letters", "is_thing_of", "want_thing", "places_of", "dropped", "halved", "lowered", "put_results", "results_of", "steps_from", "plain_steps"] : List Str) ++ (["steps_of", "rule_steps", "_law_spring", "_law_dip", "_law_pick", "_law_rule", "_law_read", "_law_names", "_law_drawn", "_law_book", "_law_scenes", "_law_menu", "_law_left", "_law_turned", "_law_short", "_law_once"] : List Str)
theorem run (w : World) : HandSHeadRun.RunEq Rw (PySem.W.view Rw.prog [40]) hk ob 20000 loose w := by
  intro os
  kernel_rfl
theorem facts {P : Program} {w : World} {K : PySem.W.Frag} {h : Heap} {mg : Str → Option Value} {f : Addr} (X : K.In h) (G : h.Ns mainGlobals mg) (hfa : mg ("law" : Str) = some (.ref f)) (c : He.SaysD fa fn K) :
    ∃ fd : FuncData, (∀ (s : Shared) (v : Value), BindsTo s fd ⟨[v], []⟩ [("_law_script", v)]) ∧ ∀ base : Heap, K.In base → base.Ns mainGlobals mg → FnG P w K mg base (L2.CX P w) 7 f fd ["_law_script"] (spX K [false] f_law) := by
  obtain ⟨fd_is_integer, F_is_integer⟩ := c.def_ 0 (d := d_is_integer) rfl
  have m_is_integer : mg "is_integer" = some (.ref (He.fAd K d_is_integer.at_)) := He.glo_ok X G (c.fact 0 (f := .glo "is_integer") rfl)
  obtain ⟨fd_is_number, F_is_number⟩ := c.def_ 1 (d := d_is_number) rfl
  have m_is_number : mg "is_number" = some (.ref (He.fAd K d_is_number.at_)) := He.glo_ok X G (c.fact 1 (f := .glo "is_number") rfl)
  obtain ⟨fd_is_thing, F_is_thing⟩ := c.def_ 2 (d := d_is_thing) rfl
  have m_is_thing : mg "is_thing" = some (.ref (He.fAd K d_is_thing.at_)) := He.glo_ok X G (c.fact 2 (f := .glo "is_thing") rfl)
  obtain ⟨fd_want, F_want⟩ := c.def_ 3 (d := d_want) rfl
  have m_want : mg "want" = some (.ref (He.fAd K d_want.at_)) := He.glo_ok X G (c.fact 3 (f := .glo "want") rfl)
  obtain ⟨fd_known_letters, F_known_letters⟩ := c.def_ 4 (d := d_known_letters) rfl
  have m_known_letters : mg "known_letters" = some (.ref (He.fAd K d_known_letters.at_)) := He.glo_ok X G (c.fact 4 (f := .glo "known_letters") rfl)
  obtain ⟨fd_is_thing_of, F_is_thing_of⟩ := c.def_ 5 (d := d_is_thing_of) rfl
  have m_is_thing_of : mg "is_thing_of" = some (.ref (He.fAd K d_is_thing_of.at_)) := He.glo_ok X G (c.fact 5 (f := .glo "is_thing_of") rfl)
  obtain ⟨fd_want_thing, F_want_thing⟩ := c.def_ 6 (d := d_want_thing) rfl
  have m_want_thing : mg "want_thing" = some (.ref (He.fAd K d_want_thing.at_)) := He.glo_ok X G (c.fact 6 (f := .glo "want_thing") rfl)
  obtain ⟨fd_places_of, F_places_of⟩ := c.def_ 7 (d := d_places_of) rfl
  have m_places_of : mg "places_of" = some (.ref (He.fAd K d_places_of.at_)) := He.glo_ok X G (c.fact 7 (f := .glo "places_of") rfl)
  obtain ⟨fd_dropped, F_dropped⟩ := c.def_ 8 (d := d_dropped) rfl
  have m_dropped : mg "dropped" = some (.ref (He.fAd K d_dropped.at_)) := He.glo_ok X G (c.fact 8 (f := .glo "dropped") rfl)
  obtain ⟨fd_halved, F_halved⟩ := c.def_ 9 (d := d_halved) rfl
  have m_halved : mg "halved" = some (.ref (He.fAd K d_halved.at_)) := He.glo_ok X G (c.fact 9 (f := .glo "halved") rfl)
  obtain ⟨fd_lowered, F_lowered⟩ := c.def_ 10 (d := d_lowered) rfl
  have m_lowered : mg "lowered" = some (.ref (He.fAd K d_lowered.at_)) := He.glo_ok X G (c.fact 10 (f := .glo "lowered") rfl)
  obtain ⟨fd_put_results, F_put_results⟩ := c.def_ 11 (d := d_put_results) rfl
  have m_put_results : mg "put_results" = some (.ref (He.fAd K d_put_results.at_)) := He.glo_ok X G (c.fact 11 (f := .glo "put_results") rfl)
  obtain ⟨fd_results_of, F_results_of⟩ := c.def_ 12 (d := d_results_of) rfl
  have m_results_of : mg "results_of" = some (.ref (He.fAd K d_results_of.at_)) := He.glo_ok X G (c.fact 12 (f := .glo "results_of") rfl)
  obtain ⟨fd_steps_from, F_steps_from⟩ := c.def_ 13 (d := d_steps_from) rfl
  have m_steps_from : mg "steps_from" = some (.ref (He.fAd K d_steps_from.at_)) := He.glo_ok X G (c.fact 13 (f := .glo "steps_from") rfl)
  obtain ⟨fd_plain_steps, F_plain_steps⟩ := c.def_ 14 (d := d_plain_steps) rfl
  have m_plain_steps : mg "plain_steps" = some (.ref (He.fAd K d_plain_steps.at_)) := He.glo_ok X G (c.fact 14 (f := .glo "plain_steps") rfl)
  obtain ⟨fd_steps_of, F_steps_of⟩ := c.def_ 15 (d := d_steps_of) rfl
  have m_steps_of : mg "steps_of" = some (.ref (He.fAd K d_steps_of.at_)) := He.glo_ok X G (c.fact 15 (f := .glo "steps_of") rfl)
  obtain ⟨fd_rule_steps, F_rule_steps⟩ := c.def_ 16 (d := d_rule_steps) rfl
  have m_rule_steps : mg "rule_steps" = some (.ref (He.fAd K d_rule_steps.at_)) := He.glo_ok X G (c.fact 16 (f := .glo "rule_steps") rfl)
  obtain ⟨fd_L_spring, F_L_spring⟩ := c.def_ 17 (d := d_L_spring) rfl
  have m_L_spring : mg "_law_spring" = some (.ref (He.fAd K d_L_spring.at_)) := He.glo_ok X G (c.fact 17 (f := .glo "_law_spring") rfl)
  obtain ⟨fd_L_dip, F_L_dip⟩ := c.def_ 18 (d := d_L_dip) rfl
  have m_L_dip : mg "_law_dip" = some (.ref (He.fAd K d_L_dip.at_)) := He.glo_ok X G (c.fact 18 (f := .glo "_law_dip") rfl)
  obtain ⟨fd_L_pick, F_L_pick⟩ := c.def_ 19 (d := d_L_pick) rfl
  have m_L_pick : mg "_law_pick" = some (.ref (He.fAd K d_L_pick.at_)) := He.glo_ok X G (c.fact 19 (f := .glo "_law_pick") rfl)
  obtain ⟨fd_L_rule, F_L_rule⟩ := c.def_ 20 (d := d_L_rule) rfl
  have m_L_rule : mg "_law_rule" = some (.ref (He.fAd K d_L_rule.at_)) := He.glo_ok X G (c.fact 20 (f := .glo "_law_rule") rfl)
  obtain ⟨fd_L_read, F_L_read⟩ := c.def_ 21 (d := d_L_read) rfl
  have m_L_read : mg "_law_read" = some (.ref (He.fAd K d_L_read.at_)) := He.glo_ok X G (c.fact 21 (f := .glo "_law_read") rfl)
  obtain ⟨fd_L_names, F_L_names⟩ := c.def_ 22 (d := d_L_names) rfl
  have m_L_names : mg "_law_names" = some (.ref (He.fAd K d_L_names.at_)) := He.glo_ok X G (c.fact 22 (f := .glo "_law_names") rfl)
  obtain ⟨fd_L_drawn, F_L_drawn⟩ := c.def_ 23 (d := d_L_drawn) rfl
  have m_L_drawn : mg "_law_drawn" = some (.ref (He.fAd K d_L_drawn.at_)) := He.glo_ok X G (c.fact 23 (f := .glo "_law_drawn") rfl)
  obtain ⟨fd_L_book, F_L_book⟩ := c.def_ 24 (d := d_L_book) rfl
  have m_L_book : mg "_law_book" = some (.ref (He.fAd K d_L_book.at_)) := He.glo_ok X G (c.fact 24 (f := .glo "_law_book") rfl)
  obtain ⟨fd_L_scenes, F_L_scenes⟩ := c.def_ 25 (d := d_L_scenes) rfl
  have m_L_scenes : mg "_law_scenes" = some (.ref (He.fAd K d_L_scenes.at_)) := He.glo_ok X G (c.fact 25 (f := .glo "_law_scenes") rfl)
  obtain ⟨fd_L_menu, F_L_menu⟩ := c.def_ 26 (d := d_L_menu) rfl
  have m_L_menu : mg "_law_menu" = some (.ref (He.fAd K d_L_menu.at_)) := He.glo_ok X G (c.fact 26 (f := .glo "_law_menu") rfl)
  obtain ⟨fd_L_left, F_L_left⟩ := c.def_ 27 (d := d_L_left) rfl
  have m_L_left : mg "_law_left" = some (.ref (He.fAd K d_L_left.at_)) := He.glo_ok X G (c.fact 27 (f := .glo "_law_left") rfl)
  obtain ⟨fd_L_turned, F_L_turned⟩ := c.def_ 28 (d := d_L_turned) rfl
  have m_L_turned : mg "_law_turned" = some (.ref (He.fAd K d_L_turned.at_)) := He.glo_ok X G (c.fact 28 (f := .glo "_law_turned") rfl)
  obtain ⟨fd_L_short, F_L_short⟩ := c.def_ 29 (d := d_L_short) rfl
  have m_L_short : mg "_law_short" = some (.ref (He.fAd K d_L_short.at_)) := He.glo_ok X G (c.fact 29 (f := .glo "_law_short") rfl)
  obtain ⟨fd_L_once, F_L_once⟩ := c.def_ 30 (d := d_L_once) rfl
  have m_L_once : mg "_law_once" = some (.ref (He.fAd K d_L_once.at_)) := He.glo_ok X G (c.fact 30 (f := .glo "_law_once") rfl)
  obtain ⟨fd_law, F_law⟩ := c.def_ 31 (d := d_law) rfl
  have e := hfa.symm.trans (He.glo_ok X G (c.fact 31 (f := .glo "law") rfl))
  cases e
  have g_all : mg "all" = none := He.free_ok X G (c.fact 34 (f := .free "all") rfl)
  have g_bool : mg "bool" = none := He.free_ok X G (c.fact 42 (f := .free "bool") rfl)
  have g_dict : mg "dict" = none := He.free_ok X G (c.fact 39 (f := .free "dict") rfl)
  have g_int : mg "int" = none := He.free_ok X G (c.fact 40 (f := .free "int") rfl)
  have g_isinstance : mg "isinstance" = none := He.free_ok X G (c.fact 32 (f := .free "isinstance") rfl)
  have g_len : mg "len" = none := He.free_ok X G (c.fact 33 (f := .free "len") rfl)
  have g_list : mg "list" = none := He.free_ok X G (c.fact 38 (f := .free "list") rfl)
  have g_max : mg "max" = none := He.free_ok X G (c.fact 35 (f := .free "max") rfl)
  have g_range : mg "range" = none := He.free_ok X G (c.fact 43 (f := .free "range") rfl)
  have g_repr : mg "repr" = none := He.free_ok X G (c.fact 44 (f := .free "repr") rfl)
  have g_sorted : mg "sorted" = none := He.free_ok X G (c.fact 36 (f := .free "sorted") rfl)
  have g_str : mg "str" = none := He.free_ok X G (c.fact 41 (f := .free "str") rfl)
  have g_tuple : mg "tuple" = none := He.free_ok X G (c.fact 37 (f := .free "tuple") rfl)
  have k_LOWERCASE := He.str_ok X G (c.fact 47 (f := .str "LOWERCASE" "abcdefghijklmnopqrstuvwxyz") rfl)
  have b := FunD.bindsA (ps := P_law) F_law fun _ _ _ _ _ _ us hl => match us, hl with | [_], _ => rfl
  refine ⟨fd_law, fun s v => b s [v] rfl, fun base _ _ => ?_⟩
  -- L_dip
  have Y_L_dip : FnG P w K mg base (L2.CX P w) 1 _ fd_L_dip P_L_dip (spX K [true, false] r_L_dip) := fnX (k := 0) F_L_dip sc_L_dip (by decide) [true, false] rfl b_L_dip (fun cdv A outer s H E hr => dv_L_dip g_int g_len cdv A outer s H E hr)
  have Z_L_dip : FnG P w K mg base (L2.CX P w) 1 _ fd_L_dip P_L_dip (spX K [true, false] f_L_dip) := fn_draw Y_L_dip draw_ok
  have Cc_L_dip : CalX P w K mg base 1 "_law_dip" 2 [] [true, false] f_L_dip arr0 := CalX.pos F_L_dip m_L_dip Z_L_dip 2 rfl (fun _ _ _ _ _ _ us hl => match us, hl with | [_, _], _ => rfl)
  -- L_pick
  have Z_L_pick : FnG P w K mg base (L2.CX P w) 2 _ fd_L_pick P_L_pick (spX K [true, false] f_L_pick) := fnX (k := 1) F_L_pick sc_L_pick (by decide) [true, false] rfl b_L_pick (fun cdv A outer s H E hr => dv_L_pick g_len (Cc_L_dip.mono (by decide)) cdv A outer s H E hr)
  have Cc_L_pick : CalX P w K mg base 2 "_law_pick" 2 [] [true, false] f_L_pick arr0 := CalX.pos F_L_pick m_L_pick Z_L_pick 2 rfl (fun _ _ _ _ _ _ us hl => match us, hl with | [_, _], _ => rfl)
  -- L_drawn
  have Z_L_drawn : FnG P w K mg base (L2.CX P w) 3 _ fd_L_drawn P_L_drawn (spX K [true, false] f_L_drawn) := fnX (k := 2) F_L_drawn sc_L_drawn (by decide) [true, false] rfl b_L_drawn (fun cdv A outer s H E hr => dv_L_drawn g_range (Cc_L_dip.mono (by decide)) (Cc_L_pick.mono (by decide)) cdv A outer s H E hr)
  have Cc_L_drawn : CalX P w K mg base 3 "_law_drawn" 2 [] [true, false] f_L_drawn arr0 := CalX.pos F_L_drawn m_L_drawn Z_L_drawn 2 rfl (fun _ _ _ _ _ _ us hl => match us, hl with | [_, _], _ => rfl)
  -- L_rule
  have Z_L_rule : FnG P w K mg base (L2.CX P w) 1 _ fd_L_rule P_L_rule (spX K [false, false] f_L_rule) := fnX (k := 0) F_L_rule sc_L_rule (by decide) [false, false] rfl b_L_rule (fun cdv A outer s H E hr => dv_L_rule g_int cdv A outer s H E hr)
  have Cc_L_rule : CalX P w K mg base 1 "_law_rule" 2 [] [false, false] f_L_rule arr0 := CalX.pos F_L_rule m_L_rule Z_L_rule 2 rfl (fun _ _ _ _ _ _ us hl => match us, hl with | [_, _], _ => rfl)
  -- L_read
  have Z_L_read : FnG P w K mg base (L2.CX P w) 2 _ fd_L_read P_L_read (spX K [false, false] f_L_read) := fnX (k := 1) F_L_read sc_L_read (by decide) [false, false] rfl b_L_read (fun cdv A outer s H E hr => dv_L_read g_sorted g_tuple (Cc_L_rule.mono (by decide)) cdv A outer s H E hr)
  have Cc_L_read : CalX P w K mg base 2 "_law_read" 2 [] [false, false] f_L_read arr0 := CalX.pos F_L_read m_L_read Z_L_read 2 rfl (fun _ _ _ _ _ _ us hl => match us, hl with | [_, _], _ => rfl)
  -- L_book
  have Z_L_book : FnG P w K mg base (L2.CX P w) 4 _ fd_L_book P_L_book (spX K [true, false, false, false] f_L_book) := fnX (k := 3) F_L_book sc_L_book (by decide) [true, false, false, false] rfl b_L_book (fun cdv A outer s H E hr => dv_L_book (Cc_L_dip.mono (by decide)) (Cc_L_drawn.mono (by decide)) (Cc_L_pick.mono (by decide)) (Cc_L_read.mono (by decide)) cdv A outer s H E hr)
  have Cc_L_book : CalX P w K mg base 4 "_law_book" 4 [] [true, false, false, false] f_L_book arr0 := CalX.pos F_L_book m_L_book Z_L_book 4 rfl (fun _ _ _ _ _ _ us hl => match us, hl with | [_, _, _, _], _ => rfl)
  -- L_menu
  have Z_L_menu : FnG P w K mg base (L2.CX P w) 1 _ fd_L_menu P_L_menu (spX K [] f_L_menu) := fnX (k := 0) F_L_menu sc_L_menu (by decide) [] rfl b_L_menu (fun cdv A outer s H E hr => dv_L_menu  cdv A outer s H E hr)
  have Cc_L_menu : CalX P w K mg base 1 "_law_menu" 0 [] [] f_L_menu arr0 := CalX.pos F_L_menu m_L_menu Z_L_menu 0 rfl (fun _ _ _ _ _ _ us hl => match us, hl with | [], _ => rfl)
  -- L_names
  have Z_L_names : FnG P w K mg base (L2.CX P w) 3 _ fd_L_names P_L_names (spX K [true] f_L_names) := fnX (k := 2) F_L_names sc_L_names (by decide) [true] rfl b_L_names (fun cdv A outer s H E hr => dv_L_names (Cc_L_pick.mono (by decide)) cdv A outer s H E hr)
  have Cc_L_names : CalX P w K mg base 3 "_law_names" 1 [] [true] f_L_names arr0 := CalX.pos F_L_names m_L_names Z_L_names 1 rfl (fun _ _ _ _ _ _ us hl => match us, hl with | [_], _ => rfl)
  -- L_once
  have Z_L_once : FnG P w K mg base (L2.CX P w) 1 _ fd_L_once P_L_once (spX K [false, false] f_L_once) := fnX (k := 0) F_L_once sc_L_once (by decide) [false, false] rfl b_L_once (fun cdv A outer s H E hr => dv_L_once g_tuple cdv A outer s H E hr)
  have Cc_L_once : CalX P w K mg base 1 "_law_once" 2 [] [false, false] f_L_once arr0 := CalX.pos F_L_once m_L_once Z_L_once 2 rfl (fun _ _ _ _ _ _ us hl => match us, hl with | [_, _], _ => rfl)
  -- L_scenes
  have Z_L_scenes : FnG P w K mg base (L2.CX P w) 1 _ fd_L_scenes P_L_scenes (spX K [] f_L_scenes) := fnX (k := 0) F_L_scenes sc_L_scenes (by decide) [] rfl b_L_scenes (fun cdv A outer s H E hr => dv_L_scenes  cdv A outer s H E hr)
  have Cc_L_scenes : CalX P w K mg base 1 "_law_scenes" 0 [] [] f_L_scenes arr0 := CalX.pos F_L_scenes m_L_scenes Z_L_scenes 0 rfl (fun _ _ _ _ _ _ us hl => match us, hl with | [], _ => rfl)
  -- L_short
  have Z_L_short : FnG P w K mg base (L2.CX P w) 1 _ fd_L_short P_L_short (spX K [false] f_L_short) := fnX (k := 0) F_L_short sc_L_short (by decide) [false] rfl b_L_short (fun cdv A outer s H E hr => dv_L_short g_len g_list g_range cdv A outer s H E hr)
  have Cc_L_short : CalX P w K mg base 1 "_law_short" 1 [] [false] f_L_short arr0 := CalX.pos F_L_short m_L_short Z_L_short 1 rfl (fun _ _ _ _ _ _ us hl => match us, hl with | [_], _ => rfl)
  -- L_spring
  have Z_L_spring : FnG P w K mg base (L2.CX P w) 1 _ fd_L_spring P_L_spring (spX K [false] f_L_spring) := fnX (k := 0) F_L_spring sc_L_spring (by decide) [false] rfl b_L_spring (fun cdv A outer s H E hr => dv_L_spring g_list cdv A outer s H E hr)
  have Cc_L_spring : CalX P w K mg base 1 "_law_spring" 1 [] [false] f_L_spring arr0 := CalX.pos F_L_spring m_L_spring Z_L_spring 1 rfl (fun _ _ _ _ _ _ us hl => match us, hl with | [_], _ => rfl)
  -- L_left
  have Z_L_left : FnG P w K mg base (L2.CX P w) 1 _ fd_L_left P_L_left (spX K [false, false, false] f_L_left) := fnX (k := 0) F_L_left sc_L_left (by decide) [false, false, false] rfl b_L_left (fun cdv A outer s H E hr => dv_L_left g_dict g_len g_list g_range cdv A outer s H E hr)
  have Cc_L_left : CalX P w K mg base 1 "_law_left" 3 [] [false, false, false] f_L_left arr0 := CalX.pos F_L_left m_L_left Z_L_left 3 rfl (fun _ _ _ _ _ _ us hl => match us, hl with | [_, _, _], _ => rfl)
  -- L_turned
  have Z_L_turned : FnG P w K mg base (L2.CX P w) 2 _ fd_L_turned P_L_turned (spX K [false, false, false] f_L_turned) := fnX (k := 1) F_L_turned sc_L_turned (by decide) [false, false, false] rfl b_L_turned (fun cdv A outer s H E hr => dv_L_turned (Cc_L_left.mono (by decide)) cdv A outer s H E hr)
  have Cc_L_turned : CalX P w K mg base 2 "_law_turned" 3 [] [false, false, false] f_L_turned arr0 := CalX.pos F_L_turned m_L_turned Z_L_turned 3 rfl (fun _ _ _ _ _ _ us hl => match us, hl with | [_, _, _], _ => rfl)
  -- is_integer
  have Z_is_integer : FnG P w K mg base (L2.CX P w) 1 _ fd_is_integer P_is_integer (spX K [false] f_is_integer) := fnX (k := 0) F_is_integer sc_is_integer (by decide) [false] rfl b_is_integer (fun cdv A outer s H E hr => dv_is_integer g_bool g_int g_isinstance cdv A outer s H E hr)
  have Cc_is_integer : CalX P w K mg base 1 "is_integer" 1 [] [false] f_is_integer arr0 := CalX.pos F_is_integer m_is_integer Z_is_integer 1 rfl (fun _ _ _ _ _ _ us hl => match us, hl with | [_], _ => rfl)
  -- is_number
  have Z_is_number : FnG P w K mg base (L2.CX P w) 2 _ fd_is_number P_is_number (spX K [false] f_is_number) := fnX (k := 1) F_is_number sc_is_number (by decide) [false] rfl b_is_number (fun cdv A outer s H E hr => dv_is_number (Cc_is_integer.mono (by decide)) cdv A outer s H E hr)
  have Cc_is_number : CalX P w K mg base 2 "is_number" 1 [] [false] f_is_number arr0 := CalX.pos F_is_number m_is_number Z_is_number 1 rfl (fun _ _ _ _ _ _ us hl => match us, hl with | [_], _ => rfl)
  -- places_of
  have Z_places_of : FnG P w K mg base (L2.CX P w) 1 _ fd_places_of P_places_of (spX K [false, false] f_places_of) := fnX (k := 0) F_places_of sc_places_of (by decide) [false, false] rfl b_places_of (fun cdv A outer s H E hr => dv_places_of g_list g_range cdv A outer s H E hr)
  have Cc_places_of : CalX P w K mg base 1 "places_of" 2 [] [false, false] f_places_of arr0 := CalX.pos F_places_of m_places_of Z_places_of 2 rfl (fun _ _ _ _ _ _ us hl => match us, hl with | [_, _], _ => rfl)
  -- dropped
  have Z_dropped : FnG P w K mg base (L2.CX P w) 2 _ fd_dropped P_dropped (spX K [false, false] f_dropped) := fnX (k := 1) F_dropped sc_dropped (by decide) [false, false] rfl b_dropped (fun cdv A outer s H E hr => dv_dropped g_len g_max (Cc_places_of.mono (by decide)) cdv A outer s H E hr)
  have Cc_dropped : CalX P w K mg base 2 "dropped" 2 [] [false, false] f_dropped arr0 := CalX.pos F_dropped m_dropped Z_dropped 2 rfl (fun _ _ _ _ _ _ us hl => match us, hl with | [_, _], _ => rfl)
  -- halved
  have Z_halved : FnG P w K mg base (L2.CX P w) 1 _ fd_halved P_halved (spX K [false, false] f_halved) := fnX (k := 0) F_halved sc_halved (by decide) [false, false] rfl b_halved (fun cdv A outer s H E hr => dv_halved g_len cdv A outer s H E hr)
  have Cc_halved : CalX P w K mg base 1 "halved" 2 [] [false, false] f_halved arr0 := CalX.pos F_halved m_halved Z_halved 2 rfl (fun _ _ _ _ _ _ us hl => match us, hl with | [_, _], _ => rfl)
  -- lowered
  have Z_lowered : FnG P w K mg base (L2.CX P w) 2 _ fd_lowered P_lowered (spX K [false, false, false] f_lowered) := fnX (k := 1) F_lowered sc_lowered (by decide) [false, false, false] rfl b_lowered (fun cdv A outer s H E hr => dv_lowered g_len (Cc_places_of.mono (by decide)) cdv A outer s H E hr)
  have Cc_lowered : CalX P w K mg base 2 "lowered" 3 [] [false, false, false] f_lowered arr0 := CalX.pos F_lowered m_lowered Z_lowered 3 rfl (fun _ _ _ _ _ _ us hl => match us, hl with | [_, _, _], _ => rfl)
  -- put_results
  have Z_put_results : FnG P w K mg base (L2.CX P w) 2 _ fd_put_results P_put_results (spX K [false, false] f_put_results) := fnX (k := 1) F_put_results sc_put_results (by decide) [false, false] rfl b_put_results (fun cdv A outer s H E hr => dv_put_results g_len (Cc_places_of.mono (by decide)) cdv A outer s H E hr)
  have Cc_put_results : CalX P w K mg base 2 "put_results" 2 [] [false, false] f_put_results arr0 := CalX.pos F_put_results m_put_results Z_put_results 2 rfl (fun _ _ _ _ _ _ us hl => match us, hl with | [_, _], _ => rfl)
  -- results_of
  have Z_results_of : FnG P w K mg base (L2.CX P w) 3 _ fd_results_of P_results_of (spX K [false, false, false] f_results_of) := fnX (k := 2) F_results_of sc_results_of (by decide) [false, false, false] rfl b_results_of (fun cdv A outer s H E hr => dv_results_of (Cc_dropped.mono (by decide)) (Cc_halved.mono (by decide)) (Cc_lowered.mono (by decide)) (Cc_put_results.mono (by decide)) cdv A outer s H E hr)
  have Cc_results_of : CalX P w K mg base 3 "results_of" 3 [] [false, false, false] f_results_of arr0 := CalX.pos F_results_of m_results_of Z_results_of 3 rfl (fun _ _ _ _ _ _ us hl => match us, hl with | [_, _, _], _ => rfl)
  -- want
  have Z_want : FnG P w K mg base (L2.CX P w) 1 _ fd_want P_want (spX K [false, false, false] f_want) := fnX (k := 0) F_want sc_want (by decide) [false, false, false] rfl b_want (fun cdv A outer s H E hr => dv_want  cdv A outer s H E hr)
  have Cc_want_2 : CalX P w K mg base 1 "want" 2 [] [false, false, false] f_want (arrS [.ps 0, .ps 1, .df 0] [.int (-1)]) := CalX.dfl (dd := [.int (-1)]) F_want (List.cons_ne_nil _ _) (fun _ => .cons (.int (-1)) (.nil)) m_want Z_want 2 [] [.ps 0, .ps 1, .df 0] (fun _ _ _ _ _ _ _ us its ws hu hi hw => match us, hu, its, hi, ws, hw with | [_, _], _, [_], _, [], _ => ⟨_, rfl, rfl⟩)
  -- is_thing
  have Z_is_thing : FnG P w K mg base (L2.CX P w) 1 _ fd_is_thing P_is_thing (spX K [false] f_is_thing) := fnX (k := 0) F_is_thing sc_is_thing (by decide) [false] rfl b_is_thing (fun cdv A outer s H E hr => dv_is_thing g_all g_isinstance g_str k_LOWERCASE cdv A outer s H E hr)
  have Cc_is_thing : CalX P w K mg base 1 "is_thing" 1 [] [false] f_is_thing arr0 := CalX.pos F_is_thing m_is_thing Z_is_thing 1 rfl (fun _ _ _ _ _ _ us hl => match us, hl with | [_], _ => rfl)
  -- known_letters
  have Z_known_letters : FnG P w K mg base (L2.CX P w) 1 _ fd_known_letters P_known_letters (spX K [false] f_known_letters) := fnX (k := 0) F_known_letters sc_known_letters (by decide) [false] rfl b_known_letters (fun cdv A outer s H E hr => dv_known_letters g_tuple cdv A outer s H E hr)
  have Cc_known_letters : CalX P w K mg base 1 "known_letters" 1 [] [false] f_known_letters arr0 := CalX.pos F_known_letters m_known_letters Z_known_letters 1 rfl (fun _ _ _ _ _ _ us hl => match us, hl with | [_], _ => rfl)
  -- is_thing_of
  have Z_is_thing_of : FnG P w K mg base (L2.CX P w) 2 _ fd_is_thing_of P_is_thing_of (spX K [false, false] f_is_thing_of) := fnX (k := 1) F_is_thing_of sc_is_thing_of (by decide) [false, false] rfl b_is_thing_of (fun cdv A outer s H E hr => dv_is_thing_of g_all (Cc_is_thing.mono (by decide)) (Cc_known_letters.mono (by decide)) cdv A outer s H E hr)
  have Cc_is_thing_of : CalX P w K mg base 2 "is_thing_of" 2 [] [false, false] f_is_thing_of arr0 := CalX.pos F_is_thing_of m_is_thing_of Z_is_thing_of 2 rfl (fun _ _ _ _ _ _ us hl => match us, hl with | [_, _], _ => rfl)
  -- want_thing
  have Z_want_thing : FnG P w K mg base (L2.CX P w) 3 _ fd_want_thing P_want_thing (spX K [false, false, false] f_want_thing) := fnX (k := 2) F_want_thing sc_want_thing (by decide) [false, false, false] rfl b_want_thing (fun cdv A outer s H E hr => dv_want_thing (Cc_is_thing_of.mono (by decide)) (Cc_want_2.mono (by decide)) cdv A outer s H E hr)
  have Cc_want_thing : CalX P w K mg base 3 "want_thing" 3 [] [false, false, false] f_want_thing arr0 := CalX.pos F_want_thing m_want_thing Z_want_thing 3 rfl (fun _ _ _ _ _ _ us hl => match us, hl with | [_, _, _], _ => rfl)
  -- rule_steps
  have Z_rule_steps : FnG P w K mg base (L2.CX P w) 4 _ fd_rule_steps P_rule_steps (spX K [false, false, false] f_rule_steps) := fnX (k := 3) F_rule_steps sc_rule_steps (by decide) [false, false, false] rfl b_rule_steps (fun cdv A outer s H E hr => dv_rule_steps g_len g_list g_tuple (Cc_is_number.mono (by decide)) (Cc_results_of.mono (by decide)) (Cc_want_2.mono (by decide)) (Cc_want_thing.mono (by decide)) cdv A outer s H E hr)
  have Cc_rule_steps : CalX P w K mg base 4 "rule_steps" 3 [] [false, false, false] f_rule_steps arr0 := CalX.pos F_rule_steps m_rule_steps Z_rule_steps 3 rfl (fun _ _ _ _ _ _ us hl => match us, hl with | [_, _, _], _ => rfl)
  -- steps_from
  have Z_steps_from : FnG P w K mg base (L2.CX P w) 4 _ fd_steps_from P_steps_from (spX K [false, false, false] f_steps_from) := fnX (k := 3) F_steps_from sc_steps_from (by decide) [false, false, false] rfl b_steps_from (fun cdv A outer s H E hr => dv_steps_from g_len g_list g_range (Cc_results_of.mono (by decide)) cdv A outer s H E hr)
  have Cc_steps_from : CalX P w K mg base 4 "steps_from" 3 [] [false, false, false] f_steps_from arr0 := CalX.pos F_steps_from m_steps_from Z_steps_from 3 rfl (fun _ _ _ _ _ _ us hl => match us, hl with | [_, _, _], _ => rfl)
  -- plain_steps
  have Z_plain_steps : FnG P w K mg base (L2.CX P w) 5 _ fd_plain_steps P_plain_steps (spX K [false, false] f_plain_steps) := fnX (k := 4) F_plain_steps sc_plain_steps (by decide) [false, false] rfl b_plain_steps (fun cdv A outer s H E hr => dv_plain_steps g_tuple (Cc_steps_from.mono (by decide)) cdv A outer s H E hr)
  have Cc_plain_steps : CalX P w K mg base 5 "plain_steps" 2 [] [false, false] f_plain_steps arr0 := CalX.pos F_plain_steps m_plain_steps Z_plain_steps 2 rfl (fun _ _ _ _ _ _ us hl => match us, hl with | [_, _], _ => rfl)
  -- steps_of
  have Z_steps_of : FnG P w K mg base (L2.CX P w) 6 _ fd_steps_of P_steps_of (spX K [false, false] f_steps_of) := fnX (k := 5) F_steps_of sc_steps_of (by decide) [false, false] rfl b_steps_of (fun cdv A outer s H E hr => dv_steps_of (Cc_plain_steps.mono (by decide)) (Cc_want_thing.mono (by decide)) cdv A outer s H E hr)
  have Cc_steps_of : CalX P w K mg base 6 "steps_of" 2 [] [false, false] f_steps_of arr0 := CalX.pos F_steps_of m_steps_of Z_steps_of 2 rfl (fun _ _ _ _ _ _ us hl => match us, hl with | [_, _], _ => rfl)
  -- law
  have Z_law : FnG P w K mg base (L2.CX P w) 7 _ fd_law P_law (spX K [false] f_law) := fnX (k := 6) F_law sc_law (by decide) [false] rfl b_law (fun cdv A outer s H E hr => dv_law g_len g_range g_repr (Cc_L_book.mono (by decide)) (Cc_L_dip.mono (by decide)) (Cc_L_menu.mono (by decide)) (Cc_L_names.mono (by decide)) (Cc_L_once.mono (by decide)) (Cc_L_scenes.mono (by decide)) (Cc_L_short.mono (by decide)) (Cc_L_spring.mono (by decide)) (Cc_L_turned.mono (by decide)) (Cc_rule_steps.mono (by decide)) (Cc_steps_of.mono (by decide)) mk_spring cdv A outer s H E hr)
  exact Z_law
end LW
open PySem PySem.W PySem.Calls PyProof.Rows
theorem PySem.Challenge.cw_firstfailing_k17_whole_steps_of_short_th_holds : PySem.Challenge.rw_firstfailing_k17_whole_steps_of_short_th.Holds := by
  w_on; o_law
  refine HandSHeadRun.head_any (r := OpenLaw.row PySem.Challenge.rw_firstfailing_k17_whole_steps_of_short_th) (q := view (OpenLaw.row PySem.Challenge.rw_firstfailing_k17_whole_steps_of_short_th).prog [40]) (H := LW.hk) (ob := LW.ob) (M := 20000) (loose := LW.loose) (d := HandSHeadRun.topDef (OpenLaw.row PySem.Challenge.rw_firstfailing_k17_whole_steps_of_short_th).prog 40) (kwd := []) LW.ob_eq
    (by kernel_rfl) (fun s => by kernel_rfl) LW.run (by kernel_rfl) (by kernel_rfl) (by kernel_rfl) (by rfl) (by first | assumption | decide +kernel) (by decide +kernel) ⟨rfl, rfl, rfl, rfl, rfl, by decide +kernel⟩ ?hw ?hc
  case hw => w_witness2
  case hc =>
    refine EL.walkA (l := PySem.Challenge.rw_firstfailing_k17_whole_steps_of_short_th) (k := 7) (x := "_law_script") (fx := LW.f_law) rfl (by decide) (by kernel_rfl) ⟨rfl, by decide, by decide⟩ LW.l_law ?F
    intro w mg fa h Y G hmg0
    obtain ⟨K, KX, c⟩ := Y
    have hmg : mg ("law" : PySem.Str) = some (.ref fa) := by
      have e : (HandSHeadRun.topDef (OpenLaw.row PySem.Challenge.rw_firstfailing_k17_whole_steps_of_short_th).prog 40).name = ("law" : PySem.Str) := by kernel_rfl
      rw [← e]
      exact hmg0
    obtain ⟨fd, hb, hF⟩ := LW.facts (P := (PySem.Challenge.rw_firstfailing_k17_whole_steps_of_short_th).prog) (w := w) KX G hmg c
    exact ⟨K, fd, KX, hb, hF⟩
