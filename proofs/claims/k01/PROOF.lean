import PyProof.Rows.All
import Wide.All
import OpenK.AllK
import Wide.FinOn
import HandS.ForMost
import HandS.Exc
import HandS.ExcOwn
import HandS.WordsExc
import HandS.Wide
import HandS.WideBits
import HandS.Strs
import HandS.TupLen
import HandS.Conv
import HandS.Style
import HandS.More
import HandS.ExcInit
import KE.KExcSuper
import PyProof.ReprRoads
import HandS.IsInst
import KE.KExcIs
import HandS.ExcValue
import HandS.Head0
import HandS.Head1
import HandS.Head2
import HandS.HeadEnd
import HandS.HeadHook1
import HandS.HeadHook2
import PySem.Challenge.RW_manywrite_k01_errors_made
import PyProof.StrLawsRepr
set_option Elab.async false
set_option linter.all false
set_option maxRecDepth 100000
/-! MwBase: frozen data trees over the abstract heap, cells that change, and what an expression or a statement makes of them. -/
namespace MW
open PySem PySem.Spec PyProof.Rows L2

/-- frozen data -/
inductive D where
  | non | bl (b : Bool) | int (i : Int) | str (x : Str)
  | tup (ds : List D) | lst (ds : List D) | dic (t : Bool) (ks vs : List D) | obj (C : Addr) (ns : List Str) (vs : List D)
  | exc (C : Addr) (ds : List D) | cel (n : Nat) | scr (K : PySem.W.Frag) (ns : List Int)
/-- a cell: what it holds, whether it may still be changed -/
structure Cel where
  val : D
  live : Bool
/-- an exception object of the class at C, its own dict at dd -/
def ExD (C dd a : Addr) : HO := .ext fun h => ∃ (oe : Obj) (vs : Array Value), h.get? a = some oe ∧ Zc (.ref C) (some dd) oe ∧ oe.data = .fields vs
def Ex0 (C a : Addr) : HO := .ext fun h => ∃ (oe : Obj) (vs : Array Value), h.get? a = some oe ∧ Zc (.ref C) none oe ∧ oe.data = .fields vs

def kD : Key → D
  | .inl i => .int i
  | .inr x => .str x

/-- a list of the written part -/
def KLst (K : PySem.W.Frag) (a : Addr) (xs : List V) : Prop :=
  ∃ (o : Obj) (its : Array Value) (n : Nat), K.lookup a = some o ∧ o.cls = .type "list" ∧ o.dict = none ∧ o.data = .seq its n ∧ its.size ≤ sizeLine ∧ Vals xs its.toList
mutual
inductive Rep (G : Hp) (as : List Addr) : V → D → Prop
  | non : Rep G as .non .non
  | bl (b : Bool) : Rep G as (.bl b) (.bl b)
  | int (i : Int) : Rep G as (.int i) (.int i)
  | str (x : Str) : Rep G as (.str x) (.str x)
  | ref {a : Addr} {u : HO} {d : D} (h : G a = some u) (r : Hr G as u d) : Rep G as (.ref a) d
  | cel {n : Nat} {a : Addr} (h : as[n]? = some a) : Rep G as (.ref a) (.cel n)
  | exc {C dd a : Addr} {v : V} {d : D} (h : G a = some (ExD C dd a)) (h2 : G dd = some (.xd [(("value" : Str), v)])) (r : Rep G as v d) : Rep G as (.ref a) (.exc C [d])
  | exc0 {C a : Addr} (h : G a = some (Ex0 C a)) : Rep G as (.ref a) (.exc C [])
  | scr {K : PySem.W.Frag} {a : Addr} {ns : List Int} (h : (∃ o, G a = some (.frz o (.lst (ns.map V.int)))) ∨ KLst K a (ns.map V.int)) : Rep G as (.ref a) (.scr K ns)
inductive Hr (G : Hp) (as : List Addr) : HO → D → Prop
  | lst {vs : List V} {ds : List D} (r : Reps G as vs ds) : Hr G as (.lst vs) (.lst ds)
  | tup {vs : List V} {ds : List D} (r : Reps G as vs ds) : Hr G as (.tup vs) (.tup ds)
  | dK {kvs : List (Key × V)} {ds : List D} (r : Reps G as (kvs.map (·.2)) ds) : Hr G as (.dK kvs) (.dic false (kvs.map fun p => kD p.1) ds)
  | dT {kvs : List (List Key × V)} {ds : List D} (r : Reps G as (kvs.map (·.2)) ds) : Hr G as (.dT kvs) (.dic true (kvs.map fun p => .tup (p.1.map kD)) ds)
  | ins {C dx : Addr} {fs : List (Str × V)} {ds : List D} (r : Reps G as (fs.map (·.2)) ds) : Hr G as (.ins C dx fs) (.obj C (fs.map (·.1)) ds)
inductive Reps (G : Hp) (as : List Addr) : List V → List D → Prop
  | nil : Reps G as [] []
  | cons {v : V} {d : D} {vs : List V} {ds : List D} (h : Rep G as v d) (t : Reps G as vs ds) : Reps G as (v :: vs) (d :: ds)
end

/-- more is frozen -/
def Ext (G G' : Hp) : Prop := ∀ a u, G a = some u → G' a = some u
theorem Ext.refl (G : Hp) : Ext G G := fun _ _ h => h
theorem Ext.trans {G G1 G2 : Hp} (a : Ext G G1) (b : Ext G1 G2) : Ext G G2 := fun c o h => b c o (a c o h)
theorem Ext.new {G : Hp} {p : Addr} {u : HO} (h : G p = none) : Ext G (upd G p u) := fun b o e => by
  rw [upd_ne (ne_of_none e h)]
  exact e

theorem pre_get {α : Type} {as bs : List α} {n : Nat} {a : α} (p : as <+: bs) (e : as[n]? = some a) : bs[n]? = some a := by
  obtain ⟨t, rfl⟩ := p
  have h := (List.getElem?_eq_some_iff.mp e).1
  rw [List.getElem?_append_left h]
  exact e
mutual
theorem Rep.ext {G G' : Hp} {as bs : List Addr} (x : Ext G G') (p : as <+: bs) : ∀ {v : V} {d : D}, Rep G as v d → Rep G' bs v d
  | _, _, .non => .non
  | _, _, .bl b => .bl b
  | _, _, .int i => .int i
  | _, _, .str y => .str y
  | _, _, .ref h r => .ref (x _ _ h) (r.ext x p)
  | _, _, .cel h => .cel (pre_get p h)
  | _, _, .exc h h2 r => .exc (x _ _ h) (x _ _ h2) (r.ext x p)
  | _, _, .exc0 h => .exc0 (x _ _ h)
  | _, _, .scr h => .scr (h.imp (fun ⟨o, e⟩ => ⟨o, x _ _ e⟩) id)
theorem Hr.ext {G G' : Hp} {as bs : List Addr} (x : Ext G G') (p : as <+: bs) : ∀ {u : HO} {d : D}, Hr G as u d → Hr G' bs u d
  | _, _, .lst r => .lst (r.ext x p)
  | _, _, .tup r => .tup (r.ext x p)
  | _, _, .dK r => .dK (r.ext x p)
  | _, _, .dT r => .dT (r.ext x p)
  | _, _, .ins r => .ins (r.ext x p)
theorem Reps.ext {G G' : Hp} {as bs : List Addr} (x : Ext G G') (p : as <+: bs) : ∀ {vs : List V} {ds : List D}, Reps G as vs ds → Reps G' bs vs ds
  | _, _, .nil => .nil
  | _, _, .cons h t => .cons (h.ext x p) (t.ext x p)
end
theorem Reps.length {G : Hp} {as : List Addr} : ∀ {vs : List V} {ds : List D}, Reps G as vs ds → vs.length = ds.length
  | _, _, .nil => rfl
  | _, _, .cons _ t => by simp [Reps.length t]
theorem Reps.append {G : Hp} {as : List Addr} : ∀ {vs ws : List V} {ds es : List D}, Reps G as vs ds → Reps G as ws es → Reps G as (vs ++ ws) (ds ++ es)
  | _, _, _, _, .nil, s => s
  | _, _, _, _, .cons h t, s => .cons h (t.append s)
theorem Reps.get {G : Hp} {as : List Addr} : ∀ {vs : List V} {ds : List D} {i : Nat} {v : V}, Reps G as vs ds → vs[i]? = some v → ∃ d, ds[i]? = some d ∧ Rep G as v d
  | _, _, _, _, .nil, e => by simp at e
  | _, _, 0, _, .cons h _, e => by simp at e; subst e; exact ⟨_, rfl, h⟩
  | _, _, i + 1, v, .cons _ t, e => by
    obtain ⟨d, h1, h2⟩ := t.get (i := i) (v := v) (by simpa using e)
    exact ⟨d, by simpa using h1, h2⟩
theorem Reps.getD {G : Hp} {as : List Addr} : ∀ {vs : List V} {ds : List D} {i : Nat} {d : D}, Reps G as vs ds → ds[i]? = some d → ∃ v, vs[i]? = some v ∧ Rep G as v d
  | _, _, _, _, .nil, e => by simp at e
  | _, _, 0, _, .cons h _, e => by simp at e; subst e; exact ⟨_, rfl, h⟩
  | _, _, i + 1, d, .cons _ t, e => by
    obtain ⟨v, h1, h2⟩ := t.getD (i := i) (d := d) (by simpa using e)
    exact ⟨v, by simpa using h1, h2⟩
theorem Reps.take {G : Hp} {as : List Addr} : ∀ {vs : List V} {ds : List D} (n : Nat), Reps G as vs ds → Reps G as (vs.take n) (ds.take n)
  | _, _, 0, _ => .nil
  | _, _, _ + 1, .nil => .nil
  | _, _, n + 1, .cons h t => .cons h (t.take n)
theorem Reps.drop {G : Hp} {as : List Addr} : ∀ {vs : List V} {ds : List D} (n : Nat), Reps G as vs ds → Reps G as (vs.drop n) (ds.drop n)
  | _, _, 0, r => r
  | _, _, _ + 1, .nil => .nil
  | _, _, n + 1, .cons _ t => t.drop n
theorem Reps.set {G : Hp} {as : List Addr} {v : V} {d : D} (h : Rep G as v d) : ∀ {vs : List V} {ds : List D} (n : Nat), Reps G as vs ds → Reps G as (vs.set n v) (ds.set n d)
  | _, _, _, .nil => .nil
  | _, _, 0, .cons _ t => .cons h t
  | _, _, n + 1, .cons q t => .cons q (t.set h n)
theorem Reps.reverse {G : Hp} {as : List Addr} : ∀ {vs : List V} {ds : List D}, Reps G as vs ds → Reps G as vs.reverse ds.reverse
  | _, _, .nil => .nil
  | _, _, .cons h t => by
    rw [List.reverse_cons, List.reverse_cons]
    exact t.reverse.append (.cons h .nil)

/-- it stands there; a dict may be locked -/
def isDk : HO → Bool
  | .dK _ => true | .dT _ => true
  | _ => false
def Sd (H : Hp) (a : Addr) (u : HO) : Prop := H a = some u ∨ (isDk u = true ∧ ∃ o, H a = some (.frz o u))
theorem Sd.rd {H : Hp} {a : Addr} {u : HO} (h : Sd H a u) : Rd H a u := by
  rcases h with h | ⟨_, h⟩
  · exact .inl h
  · exact .inr h
/-! ### the state: what is frozen, the cells, the rest -/
structure Rp (G H : Hp) (as : List Addr) (cs : List Cel) (Fm : Hp) : Prop where
  fits : ∀ a u, G a = some u → Sd H a u
  len : as.length = cs.length
  nd : as.Nodup
  cel : ∀ (n : Nat) (a : Addr) (c : Cel), as[n]? = some a → cs[n]? = some c → (c.live = true → G a = none ∧ ∃ u, H a = some u ∧ Hr G as u c.val) ∧ (c.live = false → ∃ u, G a = some u ∧ Hr G as u c.val)
  fr : ∀ a o, Fm a = some o → H a = some o ∧ a ∉ as ∧ ∀ u, G a = some u → ∃ xs, u = .tup xs

/-- a view of a value: a cell's content, or what it is -/
def vw (cs : List Cel) : D → Option D
  | .cel n => (cs[n]?).map (·.val)
  | d => some d

abbrev Evn := List (Option D)
structure Sl (G : Hp) (as : List Addr) (σ : L2.St) (ρ : Evn) : Prop where
  len : σ.length = ρ.length
  at_ : ∀ (i : Nat) (w : D), ρ[i]? = some (some w) → ∃ v, σ[i]? = some (some v) ∧ Rep G as v w
theorem Sl.ext {G G' : Hp} {as bs : List Addr} {σ : L2.St} {ρ : Evn} (s : Sl G as σ ρ) (x : Ext G G') (p : as <+: bs) : Sl G' bs σ ρ :=
  ⟨s.len, fun i w e => by
    obtain ⟨v, h, r⟩ := s.at_ i w e
    exact ⟨v, h, r.ext x p⟩⟩
theorem Sl.set {G : Hp} {as : List Addr} {σ : L2.St} {ρ : Evn} {i : Nat} {v : V} {w : D} (s : Sl G as σ ρ) (r : Rep G as v w) : Sl G as (σ.set i (some v)) (ρ.set i (some w)) :=
  ⟨by simp [s.len], fun j w' e => by
    by_cases h : i = j
    · subst h
      have hl : i < ρ.length := by
        by_cases q : i < ρ.length
        · exact q
        · rw [List.getElem?_eq_none (by simp; omega)] at e; cases e
      rw [List.getElem?_set_self hl] at e
      cases e
      exact ⟨v, by rw [List.getElem?_set_self (by rw [s.len]; exact hl)], r⟩
    · rw [List.getElem?_set_ne h] at e
      rw [List.getElem?_set_ne h]
      exact s.at_ j w' e⟩

/-- what a run comes to -/
inductive Res (α : Type) where
  | ok (x : α) (cs : List Cel)
  | exc (C : Addr) (ds : List D) (cs : List Cel)
abbrev Mo (α : Type) := List Cel → Option (Res α)
def bnd {α β : Type} (m : Mo α) (k : α → Mo β) : Mo β := fun cs => match m cs with
  | some (.ok x cs') => k x cs'
  | some (.exc C x cs') => some (.exc C x cs')
  | none => none
def ret {α : Type} (x : α) : Mo α := fun cs => some (.ok x cs)
def fail {α : Type} : Mo α := fun _ => none

/-- an exception's own dict holds what it was made with -/
def XdAt (G H : Hp) (as : List Addr) (d : Option Addr) : List D → Prop
  | [] => d = none
  | w :: _ => ∃ dd v, d = some dd ∧ G dd = some (.xd [(("value" : Str), v)]) ∧ Rep G as v w

/-- what must hold behind a run with this end -/
def Po {α β : Type} (R : Hp → List Addr → β → α → Prop) (G : Hp) (as : List Addr) (Fm : Hp) (Q : β → Hp → Prop) (E : XK) : Option (Res α) → Prop
  | some (.ok w cs') => ∀ v G' H' bs, Ext G G' → as <+: bs → Rp G' H' bs cs' Fm → R G' bs v w → Q v H'
  | some (.exc C x cs') => ∀ d G' H' bs, Ext G G' → as <+: bs → Rp G' H' bs cs' Fm → XdAt G' H' bs d x → E (.ref C) d H'
  | none => False
abbrev PoE := @Po D V Rep
abbrev PoA := @Po (List D) (List V) Reps
abbrev EF := Evn → Mo D
abbrev AF := Evn → Mo (List D)
/-- an expression's data reading -/
def DE (X : Cx) (W : WX) (e : Expr) (f : EF) : Prop :=
  ∃ t : TE, PE X e t ∧ ∀ (G H : Hp) (as : List Addr) (cs : List Cel) (Fm : Hp) (σ : L2.St) (ρ : Evn) Q, Rp G H as cs Fm → Sl G as σ ρ → PoE G as Fm Q (fun c d H' => W c d σ H') (f ρ cs) → t σ H Q
def DA (X : Cx) (W : WX) (es : List Expr) (f : AF) : Prop :=
  ∃ t : TA, PA X es t ∧ ∀ (G H : Hp) (as : List Addr) (cs : List Cel) (Fm : Hp) (σ : L2.St) (ρ : Evn) Q, Rp G H as cs Fm → Sl G as σ ρ → PoA G as Fm Q (fun c d H' => W c d σ H') (f ρ cs) → t σ H Q

/-- a wish carried over a first part -/
theorem Po.later {α β : Type} {R : Hp → List Addr → β → α → Prop} {G G1 : Hp} {as bs : List Addr} {Fm : Hp} {Q : β → Hp → Prop} {E : XK} (x : Ext G G1) (p : as <+: bs) : ∀ {r : Option (Res α)}, Po R G as Fm Q E r → Po R G1 bs Fm Q E r
  | some (.ok _ _), h => fun v G' H' cs x' p' r' w' => h v G' H' cs (x.trans x') (p.trans p') r' w'
  | some (.exc _ _ _), h => fun d G' H' cs x' p' r' w' => h d G' H' cs (x.trans x') (p.trans p') r' w'
  | none, h => h
/-- the first part of two -/
theorem Po.first {α β γ δ : Type} {R : Hp → List Addr → β → α → Prop} {R2 : Hp → List Addr → δ → γ → Prop} {G : Hp} {as : List Addr} {Fm : Hp} {Q : β → Hp → Prop} {Q2 : δ → Hp → Prop} {E : XK} {m : Mo α} {k : α → Mo γ} {cs : List Cel}
    (h : Po R2 G as Fm Q2 E (bnd m k cs)) (hk : ∀ v w G' H' bs cs', Ext G G' → as <+: bs → Rp G' H' bs cs' Fm → R G' bs v w → Po R2 G' bs Fm Q2 E (k w cs') → Q v H') : Po R G as Fm Q E (m cs) := by
  unfold bnd at h
  cases e : m cs with
  | none => rw [e] at h; exact h
  | some r =>
    rw [e] at h
    cases r with
    | ok w cs' => exact fun v G' H' bs x p r' w' => hk v w G' H' bs cs' x p r' w' (Po.later x p h)
    | exc C x cs' => exact h

/-! ### names, constants -/
section
variable {X : Cx} {W : WX}
def fVar (i : Nat) : EF := fun ρ cs => match ρ[i]? with
  | some (some w) => some (.ok w cs)
  | _ => none
theorem de_var {i : Nat} {x : Str} {pos : Pos} (hN : X.N[i]? = some x := by rfl) (hv : Vis X.env.scope x := by first | exact Or.inl rfl | exact Or.inr (Or.inl rfl) | exact Or.inr (Or.inr rfl)) (hd : (x == ("__debug__" : Str)) = false := by decide)
    (hcd : (x == ("__classdict__" : Str)) = false := by decide) : DE X W (.Name x pos) (fVar i) := by
  refine ⟨_, pe_var (i := i) hN hv hd hcd, fun G H as cs Fm σ ρ Q R S h => ?_⟩
  unfold fVar at h
  cases e : ρ[i]? with
  | none => rw [e] at h; exact h.elim
  | some o =>
    cases o with
    | none => rw [e] at h; exact h.elim
    | some w =>
      rw [e] at h
      obtain ⟨v, hv, r⟩ := S.at_ i w e
      exact ⟨v, hv, h v G H as (Ext.refl _) (List.prefix_refl _) R r⟩
def fC (d : D) : EF := fun _ => ret d
theorem de_int {i j pos} : DE X W (.Constant (.int i) j pos) (fC (.int i)) := ⟨_, pe_int, fun G H as cs Fm σ ρ Q R S h => h _ G H as (Ext.refl _) (List.prefix_refl _) R (Rep.int i)⟩
theorem de_bl {b j pos} : DE X W (.Constant (.bool b) j pos) (fC (.bl b)) := ⟨_, pe_bl, fun G H as cs Fm σ ρ Q R S h => h _ G H as (Ext.refl _) (List.prefix_refl _) R (Rep.bl b)⟩
theorem de_non {j pos} : DE X W (.Constant .none j pos) (fC .non) := ⟨_, pe_non, fun G H as cs Fm σ ρ Q R S h => h _ G H as (Ext.refl _) (List.prefix_refl _) R Rep.non⟩
theorem de_str {x j pos} : DE X W (.Constant (.str x) j pos) (fC (.str x)) := ⟨_, pe_str, fun G H as cs Fm σ ρ Q R S h => h _ G H as (Ext.refl _) (List.prefix_refl _) R (Rep.str x)⟩

/-! ### operators by values -/
abbrev F2 := D → D → Mo D
def OpD (X : Cx) (f : Value → Value → Sem Value) (g : F2) : Prop :=
  ∃ r : R2, OpR X f r ∧ ∀ (G H : Hp) (as : List Addr) (cs : List Cel) (Fm : Hp) (x y : V) (wx wy : D) (Q : VK) (E : XK), Rp G H as cs Fm → Rep G as x wx → Rep G as y wy → PoE G as Fm Q E (g wx wy cs) → r x y H Q
def fOp (g : F2) (fa fb : EF) : EF := fun ρ => bnd (fa ρ) fun x => bnd (fb ρ) fun y => g x y
theorem de_op {a b : Expr} {op : Operator} {g : F2} {fa fb : EF} {pos : Pos} (ho : OpD X (binaryOp op) g) (ha : DE X W a fa) (hb : DE X W b fb) : DE X W (.BinOp a op b pos) (fOp g fa fb) := by
  obtain ⟨r, hr, hg⟩ := ho
  obtain ⟨ta, pa, qa⟩ := ha
  obtain ⟨tb, pb, qb⟩ := hb
  refine ⟨_, pe_op hr pa pb, fun G H as cs Fm σ ρ Q R S h => ?_⟩
  refine qa G H as cs Fm σ ρ _ R S (Po.first h fun v w G1 H1 bs cs1 x1 p1 R1 w1 h1 => ?_)
  refine qb G1 H1 bs cs1 Fm σ ρ _ R1 (S.ext x1 p1) (Po.first h1 fun v2 w2 G2 H2 bs2 cs2 x2 p2 R2 r2 h2 => ?_)
  exact hg G2 H2 bs2 cs2 Fm v v2 w w2 _ _ R2 (w1.ext x2 p2) r2 h2
theorem de_cmp {a b : Expr} {op : CmpOp} {g : F2} {fa fb : EF} {pos : Pos} (ho : OpD X (compareOp op) g) (ha : DE X W a fa) (hb : DE X W b fb) (hm : behindInMarks op b = false) : DE X W (.Compare a [op] [b] pos) (fOp g fa fb) := by
  obtain ⟨r, hr, hg⟩ := ho
  obtain ⟨ta, pa, qa⟩ := ha
  obtain ⟨tb, pb, qb⟩ := hb
  refine ⟨_, pe_cmpR hr pa pb hm, fun G H as cs Fm σ ρ Q R S h => ?_⟩
  refine qa G H as cs Fm σ ρ _ R S (Po.first h fun v w G1 H1 bs cs1 x1 p1 R1 w1 h1 => ?_)
  refine qb G1 H1 bs cs1 Fm σ ρ _ R1 (S.ext x1 p1) (Po.first h1 fun v2 w2 G2 H2 bs2 cs2 x2 p2 R2 r2 h2 => ?_)
  exact hg G2 H2 bs2 cs2 Fm v v2 w w2 _ _ R2 (w1.ext x2 p2) r2 h2
end
end MW

set_option Elab.async false
set_option linter.all false
set_option maxRecDepth 100000
/-! MwHeap: what may be done with the state: something new is frozen or becomes a cell, a cell is written, frozen, a dict locked. -/
namespace MW
open PySem PySem.Spec PyProof.Rows L2

theorem Sd.no {H : Hp} {a : Addr} {u : HO} (h : Sd H a u) (n : isDk u = false) : H a = some u := by
  rcases h with h | ⟨z, _⟩
  · exact h
  · rw [n] at z; cases z
theorem Rep.bl_of {G : Hp} {as : List Addr} {v : V} {b : Bool} (h : Rep G as v (.bl b)) : v = .bl b := by
  cases h with
  | bl => rfl
  | ref h r => cases r
theorem Rep.int_of {G : Hp} {as : List Addr} {v : V} {b : Int} (h : Rep G as v (.int b)) : v = .int b := by
  cases h with
  | int => rfl
  | ref h r => cases r
theorem Rep.str_of {G : Hp} {as : List Addr} {v : V} {b : Str} (h : Rep G as v (.str b)) : v = .str b := by
  cases h with
  | str => rfl
  | ref h r => cases r
theorem Rep.non_of {G : Hp} {as : List Addr} {v : V} (h : Rep G as v .non) : v = .non := by
  cases h with
  | non => rfl
  | ref h r => cases r
theorem Sd.some {H : Hp} {a : Addr} {u : HO} (h : Sd H a u) : ∃ o, H a = some o := by
  rcases h with h | ⟨_, o, h⟩
  · exact ⟨_, h⟩
  · exact ⟨_, h⟩
/-- as it stands: a plain value, or an object that may be read -/
inductive At (G H : Hp) (as : List Addr) : V → D → Prop
  | non : At G H as .non .non
  | bl (b : Bool) : At G H as (.bl b) (.bl b)
  | int (i : Int) : At G H as (.int i) (.int i)
  | str (x : Str) : At G H as (.str x) (.str x)
  | ref {a : Addr} {u : HO} {d : D} (h : Sd H a u) (r : Hr G as u d) : At G H as (.ref a) d
  | exc {C dd a : Addr} {v : V} {d : D} (h : H a = some (ExD C dd a)) (h2 : H dd = some (.xd [(("value" : Str), v)])) (r : Rep G as v d) : At G H as (.ref a) (.exc C [d])
  | exc0 {C a : Addr} (h : H a = some (Ex0 C a)) : At G H as (.ref a) (.exc C [])
  | scr {K : PySem.W.Frag} {a : Addr} {ns : List Int} (h : SqL K H a (ns.map V.int)) : At G H as (.ref a) (.scr K ns)

section
variable {G H : Hp} {as : List Addr} {cs : List Cel} {Fm : Hp} {a p : Addr} {u : HO} {d : D} {v : V} {w : D} {n : Nat}
theorem Rp.at_rep (R : Rp G H as cs Fm) {v : V} {d : D} (h : Rep G as v d) (n : ∀ k, d ≠ .cel k) : At G H as v d := by
  cases h with
  | non => exact .non
  | bl b => exact .bl b
  | int i => exact .int i
  | str x => exact .str x
  | ref h r => exact .ref (R.fits _ _ h) r
  | cel h => exact absurd rfl (n _)
  | exc h h2 r => exact .exc ((R.fits _ _ h).no rfl) ((R.fits _ _ h2).no rfl) r
  | exc0 h => exact .exc0 ((R.fits _ _ h).no rfl)
  | scr h =>
    rcases h with ⟨o, e⟩ | h
    · exact .scr (.inl (.inr ⟨o, (R.fits _ _ e).no rfl⟩))
    · exact .scr (.inr h)
theorem Rp.cell_at (R : Rp G H as cs Fm) {c : Cel} (ha : as[n]? = some a) (hc : cs[n]? = some c) : At G H as (.ref a) c.val := by
  obtain ⟨h1, h2⟩ := R.cel n a c ha hc
  cases e : c.live with
  | true =>
    obtain ⟨_, u, hu, r⟩ := h1 e
    exact .ref (.inl hu) r
  | false =>
    obtain ⟨u, hu, r⟩ := h2 e
    exact .ref (R.fits _ _ hu) r
theorem Rp.view (R : Rp G H as cs Fm) (r : Rep G as v w) (e : vw cs w = some d) : At G H as v d := by
  have other : (∀ k, w ≠ .cel k) → At G H as v d := fun n => by
    have e2 : w = d := by
      cases w with
      | cel k => exact absurd rfl (n k)
      | _ => exact Option.some.inj e
    subst e2
    exact R.at_rep r n
  cases w with
  | cel n =>
    cases r with
    | ref h r => cases r
    | cel ha =>
      change (cs[n]?).map (·.val) = some d at e
      cases hc : cs[n]? with
      | none => rw [hc] at e; cases e
      | some c =>
        rw [hc] at e
        obtain rfl : c.val = d := Option.some.inj e
        exact R.cell_at ha hc
  | _ => exact other fun k => nofun
theorem At.int_of {i : Int} (h : At G H as v (.int i)) : v = .int i := by
  cases h with
  | int => rfl
  | ref h r => cases r
theorem At.bl_of {b : Bool} (h : At G H as v (.bl b)) : v = .bl b := by
  cases h with
  | bl => rfl
  | ref h r => cases r
theorem At.str_of {x : Str} (h : At G H as v (.str x)) : v = .str x := by
  cases h with
  | str => rfl
  | ref h r => cases r
theorem At.non_of (h : At G H as v .non) : v = .non := by
  cases h with
  | non => rfl
  | ref h r => cases r
theorem At.lst_of {ds : List D} (h : At G H as v (.lst ds)) : ∃ a vs, v = .ref a ∧ H a = some (.lst vs) ∧ Reps G as vs ds := by
  cases h with
  | ref h r =>
    cases r with
    | lst r => exact ⟨_, _, rfl, h.no rfl, r⟩
theorem At.tup_of {ds : List D} (h : At G H as v (.tup ds)) : ∃ a vs, v = .ref a ∧ H a = some (.tup vs) ∧ Reps G as vs ds := by
  cases h with
  | ref h r =>
    cases r with
    | tup r => exact ⟨_, _, rfl, h.no rfl, r⟩
theorem At.obj_of {C : Addr} {ns : List Str} {ds : List D} (h : At G H as v (.obj C ns ds)) : ∃ a dx fs, v = .ref a ∧ H a = some (.ins C dx fs) ∧ fs.map (·.1) = ns ∧ Reps G as (fs.map (·.2)) ds := by
  cases h with
  | ref h r =>
    cases r with
    | ins r => exact ⟨_, _, _, rfl, h.no rfl, rfl, r⟩

theorem Rp.gnone (R : Rp G H as cs Fm) (hp : H p = none) : G p = none := by
  cases e : G p with
  | none => rfl
  | some u =>
    obtain ⟨o, h⟩ := Sd.some (R.fits p u e)
    rw [hp] at h; cases h
theorem Rp.cell_some (R : Rp G H as cs Fm) (ha : a ∈ as) : ∃ o, H a = some o := by
  obtain ⟨n, hn⟩ := List.getElem?_of_mem ha
  have hl : n < cs.length := by
    rw [← R.len]
    exact (List.getElem?_eq_some_iff.mp hn).1
  obtain ⟨h1, h2⟩ := R.cel n a cs[n] hn (List.getElem?_eq_getElem hl)
  cases e : cs[n].live with
  | true =>
    obtain ⟨_, u, hu, r⟩ := h1 e
    exact ⟨u, hu⟩
  | false =>
    obtain ⟨u, hu, r⟩ := h2 e
    exact Sd.some (R.fits _ _ hu)
theorem Rp.notin (R : Rp G H as cs Fm) (hp : H p = none) : p ∉ as := fun h => by
  obtain ⟨o, e⟩ := R.cell_some h
  rw [hp] at e; cases e
theorem rd_upd {H : Hp} {p : Addr} {o u : HO} (hp : H p = none) (h : Sd H a u) : Sd (upd H p o) a u := by
  rcases h with h | ⟨z, q, h⟩
  · exact .inl (by rw [upd_ne (ne_of_none h hp)]; exact h)
  · exact .inr ⟨z, q, by rw [upd_ne (ne_of_none h hp)]; exact h⟩

/-- a new object is frozen -/
theorem Rp.new (R : Rp G H as cs Fm) (hp : H p = none) (hm : ∀ o q, u ≠ .frz o q) : Rp (upd G p u) (upd H p u) as cs Fm where
  fits := fun b o e => by
    by_cases hb : b = p
    · subst hb; rw [upd_same] at e; cases e; exact .inl upd_same
    · rw [upd_ne hb] at e
      exact rd_upd hp (R.fits b o e)
  len := R.len
  nd := R.nd
  cel := fun n b c hb hc => by
    have nb : b ≠ p := fun z => R.notin hp (z ▸ List.mem_of_getElem? hb)
    obtain ⟨h1, h2⟩ := R.cel n b c hb hc
    refine ⟨fun e => ?_, fun e => ?_⟩
    · obtain ⟨g, u', hu, r⟩ := h1 e
      exact ⟨by rw [upd_ne nb]; exact g, u', by rw [upd_ne nb]; exact hu, r.ext (Ext.new (R.gnone hp)) (List.prefix_refl _)⟩
    · obtain ⟨u', hu, r⟩ := h2 e
      exact ⟨u', by rw [upd_ne nb]; exact hu, r.ext (Ext.new (R.gnone hp)) (List.prefix_refl _)⟩
  fr := fun b o e => by
    obtain ⟨h1, h2, h3⟩ := R.fr b o e
    have nb : b ≠ p := ne_of_none h1 hp
    exact ⟨by rw [upd_ne nb]; exact h1, h2, fun q hq => h3 q (by rw [upd_ne nb] at hq; exact hq)⟩
/-- a new object stands beside -/
theorem Rp.beside (R : Rp G H as cs Fm) (hp : H p = none) : Rp G (upd H p u) as cs Fm where
  fits := fun b o e => rd_upd hp (R.fits b o e)
  len := R.len
  nd := R.nd
  cel := fun n b c hb hc => by
    have nb : b ≠ p := fun z => R.notin hp (z ▸ List.mem_of_getElem? hb)
    obtain ⟨h1, h2⟩ := R.cel n b c hb hc
    refine ⟨fun e => ?_, h2⟩
    obtain ⟨g, u', hu, r⟩ := h1 e
    exact ⟨g, u', by rw [upd_ne nb]; exact hu, r⟩
  fr := fun b o e => by
    obtain ⟨h1, h2, h3⟩ := R.fr b o e
    exact ⟨by rw [upd_ne (ne_of_none h1 hp)]; exact h1, h2, h3⟩
/-- .. and is held in the frame -/
theorem Rp.hold (R : Rp G H as cs Fm) (hp : H p = none) : Rp G (upd H p u) as cs (upd Fm p u) where
  fits := (R.beside hp).fits
  len := R.len
  nd := R.nd
  cel := (R.beside hp).cel
  fr := fun b o e => by
    by_cases hb : b = p
    · subst hb
      rw [upd_same] at e; cases e
      exact ⟨upd_same, R.notin hp, fun q hq => by rw [R.gnone hp] at hq; cases hq⟩
    · rw [upd_ne hb] at e
      exact (R.beside hp).fr b o e
/-- what is held may be changed -/
theorem Rp.held {o o' : HO} (R : Rp G H as cs Fm) (hp : Fm p = some o) (hg : G p = none) : Rp G (upd H p o') as cs (upd Fm p o') where
  fits := fun b u e => by
    have nb : b ≠ p := fun z => by rw [z, hg] at e; cases e
    rcases R.fits b u e with h | ⟨z, q, h⟩
    · exact .inl (by rw [upd_ne nb]; exact h)
    · exact .inr ⟨z, q, by rw [upd_ne nb]; exact h⟩
  len := R.len
  nd := R.nd
  cel := fun n b c hb hc => by
    have nb : b ≠ p := fun z => (R.fr p o hp).2.1 (z ▸ List.mem_of_getElem? hb)
    obtain ⟨h1, h2⟩ := R.cel n b c hb hc
    refine ⟨fun e => ?_, h2⟩
    obtain ⟨g, u', hu, r⟩ := h1 e
    exact ⟨g, u', by rw [upd_ne nb]; exact hu, r⟩
  fr := fun b q e => by
    by_cases hb : b = p
    · subst hb
      rw [upd_same] at e; cases e
      exact ⟨upd_same, (R.fr _ _ hp).2.1, fun q hq => by rw [hg] at hq; cases hq⟩
    · rw [upd_ne hb] at e
      rw [upd_ne hb]
      exact R.fr b q e
/-- what is held need not be held on -/
theorem Rp.less {Fm' : Hp} (R : Rp G H as cs Fm) (h : ∀ a o, Fm' a = some o → Fm a = some o) : Rp G H as cs Fm' := ⟨R.fits, R.len, R.nd, R.cel, fun a o e => R.fr a o (h a o e)⟩
/-- a new cell -/
theorem Rp.newc (R : Rp G H as cs Fm) (hp : H p = none) (r : Hr G as u d) : Rp G (upd H p u) (as ++ [p]) (cs ++ [⟨d, true⟩]) Fm where
  fits := (R.beside hp).fits
  len := by simp [R.len]
  nd := by
    rw [List.nodup_append]
    refine ⟨R.nd, by simp, fun x hx y hy => ?_⟩
    obtain rfl : y = p := by simpa using hy
    exact fun z => R.notin hp (z ▸ hx)
  cel := fun n b c hb hc => by
    by_cases hn : n < as.length
    · rw [List.getElem?_append_left hn] at hb
      rw [List.getElem?_append_left (by rw [← R.len]; exact hn)] at hc
      obtain ⟨h1, h2⟩ := (R.beside hp).cel n b c hb hc
      refine ⟨fun e => ?_, fun e => ?_⟩
      · obtain ⟨g, q, hq, r'⟩ := h1 e
        exact ⟨g, q, hq, r'.ext (Ext.refl _) (List.prefix_append _ _)⟩
      · obtain ⟨q, hq, r'⟩ := h2 e
        exact ⟨q, hq, r'.ext (Ext.refl _) (List.prefix_append _ _)⟩
    · have hn' : as.length ≤ n := Nat.le_of_not_lt hn
      rw [List.getElem?_append_right hn'] at hb
      rw [List.getElem?_append_right (by rw [← R.len]; exact hn')] at hc
      have e0 : n - as.length = 0 := by
        have := (List.getElem?_eq_some_iff.mp hb).1
        simp at this
        omega
      rw [e0] at hb
      rw [← R.len, e0] at hc
      obtain rfl : p = b := by simpa using hb
      obtain rfl : (⟨d, true⟩ : Cel) = c := by simpa using hc
      exact ⟨fun _ => ⟨R.gnone hp, u, upd_same, r.ext (Ext.refl _) (List.prefix_append _ _)⟩, fun z => by cases z⟩
  fr := fun b o e => by
    obtain ⟨h1, h2, h3⟩ := (R.beside hp).fr b o e
    refine ⟨h1, fun z => ?_, h3⟩
    rcases List.mem_append.mp z with z | z
    · exact h2 z
    · obtain rfl : b = p := by simpa using z
      have q := (R.fr _ _ e).1
      rw [hp] at q; cases q
theorem nd_ne {as : List Addr} (h : as.Nodup) {n m : Nat} {a b : Addr} (ha : as[n]? = some a) (hb : as[m]? = some b) (hn : n ≠ m) : a ≠ b := fun z => by
  subst z
  obtain ⟨h1, e1⟩ := List.getElem?_eq_some_iff.mp ha
  obtain ⟨h2, e2⟩ := List.getElem?_eq_some_iff.mp hb
  exact hn ((List.getElem_inj h).mp (e1.trans e2.symm))
/-- a cell is written -/
theorem Rp.write {c : Cel} {u' : HO} {d' : D} (R : Rp G H as cs Fm) (ha : as[n]? = some a) (hc : cs[n]? = some c) (hl : c.live = true) (r : Hr G as u' d') : Rp G (upd H a u') as (cs.set n ⟨d', true⟩) Fm where
  fits := fun b u e => by
    have hg := ((R.cel n a c ha hc).1 hl).1
    have nb : b ≠ a := fun z => by rw [z, hg] at e; cases e
    rcases R.fits b u e with h | ⟨z, q, h⟩
    · exact .inl (by rw [upd_ne nb]; exact h)
    · exact .inr ⟨z, q, by rw [upd_ne nb]; exact h⟩
  len := by simp [R.len]
  nd := R.nd
  cel := fun m b c' hb hc' => by
    by_cases hm : n = m
    · subst hm
      rw [ha] at hb; cases hb
      have hl' : n < cs.length := (List.getElem?_eq_some_iff.mp hc).1
      rw [List.getElem?_set_self hl'] at hc'
      cases hc'
      exact ⟨fun _ => ⟨((R.cel n a c ha hc).1 hl).1, u', upd_same, r⟩, fun z => by cases z⟩
    · rw [List.getElem?_set_ne hm] at hc'
      have nb : b ≠ a := nd_ne R.nd hb ha (Ne.symm hm)
      obtain ⟨h1, h2⟩ := R.cel m b c' hb hc'
      refine ⟨fun e => ?_, h2⟩
      obtain ⟨g, q, hq, r'⟩ := h1 e
      exact ⟨g, q, by rw [upd_ne nb]; exact hq, r'⟩
  fr := fun b o e => by
    obtain ⟨h1, h2, h3⟩ := R.fr b o e
    have nb : b ≠ a := fun z => h2 (z ▸ List.mem_of_getElem? ha)
    exact ⟨by rw [upd_ne nb]; exact h1, h2, h3⟩
/-- a cell is frozen -/
theorem Rp.freeze {c : Cel} (R : Rp G H as cs Fm) (ha : as[n]? = some a) (hc : cs[n]? = some c) (hl : c.live = true) : ∃ G', Ext G G' ∧ Rp G' H as (cs.set n ⟨c.val, false⟩) Fm ∧ Rep G' as (.ref a) c.val := by
  obtain ⟨hg, u, hu, r⟩ := (R.cel n a c ha hc).1 hl
  have x : Ext G (upd G a u) := Ext.new hg
  refine ⟨upd G a u, x, ⟨fun b o e => ?_, by simp [R.len], R.nd, fun m b c' hb hc' => ?_, fun b o e => ?_⟩, .ref upd_same (r.ext x (List.prefix_refl _))⟩
  · by_cases hb : b = a
    · subst hb; rw [upd_same] at e; cases e; exact .inl hu
    · rw [upd_ne hb] at e
      exact R.fits b o e
  · by_cases hm : n = m
    · subst hm
      rw [ha] at hb; cases hb
      rw [List.getElem?_set_self (List.getElem?_eq_some_iff.mp hc).1] at hc'
      cases hc'
      exact ⟨fun z => (by cases z), fun _ => ⟨u, upd_same, r.ext x (List.prefix_refl _)⟩⟩
    · rw [List.getElem?_set_ne hm] at hc'
      have nb : b ≠ a := nd_ne R.nd hb ha (Ne.symm hm)
      obtain ⟨h1, h2⟩ := R.cel m b c' hb hc'
      refine ⟨fun e => ?_, fun e => ?_⟩
      · obtain ⟨g, q, hq, r'⟩ := h1 e
        exact ⟨by rw [upd_ne nb]; exact g, q, hq, r'.ext x (List.prefix_refl _)⟩
      · obtain ⟨q, hq, r'⟩ := h2 e
        exact ⟨q, by rw [upd_ne nb]; exact hq, r'.ext x (List.prefix_refl _)⟩
  · obtain ⟨h1, h2, h3⟩ := R.fr b o e
    have nb : b ≠ a := fun z => h2 (z ▸ List.mem_of_getElem? ha)
    exact ⟨h1, h2, fun q hq => h3 q (by rw [upd_ne nb] at hq; exact hq)⟩
/-- a frozen dict (or list) is locked -/
theorem Rp.lock {o : Obj} (R : Rp G H as cs Fm) (hg : G a = some u) (hu : H a = some u) (nt : isDk u = true) : Rp G (upd H a (.frz o u)) as cs Fm where
  fits := fun b q e => by
    by_cases hb : b = a
    · subst hb; rw [hg] at e; cases e; exact .inr ⟨nt, o, upd_same⟩
    · rcases R.fits b q e with h | ⟨y, z, h⟩
      · exact .inl (by rw [upd_ne hb]; exact h)
      · exact .inr ⟨y, z, by rw [upd_ne hb]; exact h⟩
  len := R.len
  nd := R.nd
  cel := fun n b c hb hc => by
    obtain ⟨h1, h2⟩ := R.cel n b c hb hc
    refine ⟨fun e => ?_, h2⟩
    obtain ⟨g, q, hq, r⟩ := h1 e
    have nb : b ≠ a := fun z => by rw [z, hg] at g; cases g
    exact ⟨g, q, by rw [upd_ne nb]; exact hq, r⟩
  fr := fun b q e => by
    obtain ⟨h1, h2, h3⟩ := R.fr b q e
    have nb : b ≠ a := fun z => by
      obtain ⟨xs, e'⟩ := h3 u (by rw [z]; exact hg)
      subst e'
      cases nt
    exact ⟨by rw [upd_ne nb]; exact h1, h2, h3⟩
/-- a tuple that stands there is frozen -/
theorem Rp.adopt {vs : List V} (R : Rp G H as cs Fm) (h : H a = some (.tup vs)) (ha : a ∉ as) : ∃ G', Ext G G' ∧ Rp G' H as cs Fm ∧ G' a = some (.tup vs) := by
  cases e : G a with
  | some u =>
    refine ⟨G, Ext.refl _, R, ?_⟩
    rcases R.fits a u e with q | ⟨_, o, q⟩
    · rw [h] at q; cases q; exact e
    · rw [h] at q; cases q
  | none =>
    have x : Ext G (upd G a (.tup vs)) := Ext.new e
    refine ⟨upd G a (.tup vs), x, ⟨fun b o q => ?_, R.len, R.nd, fun m b c hb hc => ?_, fun b o q => ?_⟩, upd_same⟩
    · by_cases hb : b = a
      · subst hb; rw [upd_same] at q; cases q; exact .inl h
      · rw [upd_ne hb] at q
        exact R.fits b o q
    · have nb : b ≠ a := fun z => ha (z ▸ List.mem_of_getElem? hb)
      obtain ⟨h1, h2⟩ := R.cel m b c hb hc
      refine ⟨fun e => ?_, fun e => ?_⟩
      · obtain ⟨g, q, hq, r'⟩ := h1 e
        exact ⟨by rw [upd_ne nb]; exact g, q, hq, r'.ext x (List.prefix_refl _)⟩
      · obtain ⟨q, hq, r'⟩ := h2 e
        exact ⟨q, by rw [upd_ne nb]; exact hq, r'.ext x (List.prefix_refl _)⟩
    · obtain ⟨h1, h2, h3⟩ := R.fr b o q
      refine ⟨h1, h2, fun z hz => ?_⟩
      by_cases hb : b = a
      · subst hb; rw [upd_same] at hz; cases hz; exact ⟨_, rfl⟩
      · rw [upd_ne hb] at hz
        exact h3 z hz
/-! ### cells at the end are forgotten -/
mutual
/-- no cell from k on is named -/
def low (k : Nat) : D → Bool
  | .tup ds => lows k ds
  | .lst ds => lows k ds
  | .dic _ ks vs => lows k vs
  | .obj _ _ vs => lows k vs
  | .exc _ ds => lows k ds
  | .cel n => decide (n < k)
  | _ => true
def lows (k : Nat) : List D → Bool
  | [] => true
  | d :: ds => low k d && lows k ds
end
theorem take_get {α : Type} {as : List α} {n k : Nat} {a : α} (h : as[n]? = some a) (hn : n < k) : (as.take k)[n]? = some a := by
  rw [List.getElem?_take, if_pos hn]
  exact h
mutual
theorem Rep.low {k : Nat} : ∀ {v : V} {d : D}, Rep G as v d → MW.low k d = true → Rep G (as.take k) v d
  | _, _, .non, _ => .non
  | _, _, .bl b, _ => .bl b
  | _, _, .int i, _ => .int i
  | _, _, .str y, _ => .str y
  | _, _, .ref h r, l => .ref h (r.low l)
  | _, _, .cel h, l => .cel (take_get h (by unfold MW.low at l; exact of_decide_eq_true l))
  | _, _, .exc h h2 r, l => .exc h h2 (r.low (by unfold MW.low lows at l; exact (Bool.and_eq_true_iff.mp l).1))
  | _, _, .exc0 h, _ => .exc0 h
  | _, _, .scr h, _ => .scr h
theorem Hr.low {k : Nat} : ∀ {u : HO} {d : D}, Hr G as u d → MW.low k d = true → Hr G (as.take k) u d
  | _, _, .lst r, l => .lst (r.low (by unfold MW.low at l; exact l))
  | _, _, .tup r, l => .tup (r.low (by unfold MW.low at l; exact l))
  | _, _, .dK r, l => .dK (r.low (by unfold MW.low at l; exact l))
  | _, _, .dT r, l => .dT (r.low (by unfold MW.low at l; exact l))
  | _, _, .ins r, l => .ins (r.low (by unfold MW.low at l; exact l))
theorem Reps.low {k : Nat} : ∀ {vs : List V} {ds : List D}, Reps G as vs ds → lows k ds = true → Reps G (as.take k) vs ds
  | _, _, .nil, _ => .nil
  | _, _, .cons h t, l => by
    unfold lows at l
    obtain ⟨l1, l2⟩ := Bool.and_eq_true_iff.mp l
    exact .cons (h.low l1) (t.low l2)
end
theorem Rp.drop (R : Rp G H as cs Fm) (k : Nat) (hl : ∀ c ∈ cs.take k, low k c.val = true) : Rp G H (as.take k) (cs.take k) Fm where
  fits := R.fits
  len := by simp [R.len]
  nd := List.Nodup.sublist (List.take_sublist k as) R.nd
  cel := fun n b c hb hc => by
    obtain ⟨h1, h2⟩ := R.cel n b c (pre_get (List.take_prefix k as) hb) (pre_get (List.take_prefix k cs) hc)
    have l := hl c (List.mem_of_getElem? hc)
    refine ⟨fun e => ?_, fun e => ?_⟩
    · obtain ⟨g, q, hq, r'⟩ := h1 e
      exact ⟨g, q, hq, r'.low l⟩
    · obtain ⟨q, hq, r'⟩ := h2 e
      exact ⟨q, hq, r'.low l⟩
  fr := fun b o e => by
    obtain ⟨h1, h2, h3⟩ := R.fr b o e
    exact ⟨h1, fun z => h2 (List.mem_of_mem_take z), h3⟩
end

/-! ### ends -/
section
variable {G H : Hp} {as : List Addr} {cs : List Cel} {Fm : Hp} {Q : VK} {E : XK}
/-- .. handed on as it is -/
theorem PoE.same {w : D} {v : V} (h : PoE G as Fm Q E (ret w cs)) (R : Rp G H as cs Fm) (r : Rep G as v w) : Q v H := h v G H as (Ext.refl _) (List.prefix_refl _) R r
/-- .. a new frozen object -/
theorem PoE.new {d : D} {u : HO} {p : Addr} (h : PoE G as Fm Q E (ret d cs)) (R : Rp G H as cs Fm) (hp : H p = none) (hm : ∀ o q, u ≠ .frz o q) (r : Hr G as u d) : Q (.ref p) (upd H p u) :=
  h _ (upd G p u) _ as (Ext.new (R.gnone hp)) (List.prefix_refl _) (R.new hp hm) (Rep.ref upd_same (r.ext (Ext.new (R.gnone hp)) (List.prefix_refl _)))
/-- a new object as a cell -/
def newc (d : D) : Mo D := fun cs => some (.ok (.cel cs.length) (cs ++ [⟨d, true⟩]))
theorem PoE.newc {d : D} {u : HO} {p : Addr} (h : PoE G as Fm Q E (newc d cs)) (R : Rp G H as cs Fm) (hp : H p = none) (r : Hr G as u d) : Q (.ref p) (upd H p u) :=
  h _ G _ (as ++ [p]) (Ext.refl _) (List.prefix_append _ _) (R.newc hp r) (.cel (by rw [← R.len]; simp))
end
end MW

set_option Elab.async false
set_option linter.all false
set_option maxRecDepth 100000
/-! MwOps: operators, comparisons, and, or, not, tests, displays as data functions. -/
namespace MW
open PySem PySem.Spec PyProof.Rows L2
section
variable {X : Cx} {W : WX}

/-! ### arithmetic -/
def gAdd : F2 := fun x y cs => match vw cs x, vw cs y with
  | some (.int i), some (.int j) => ret (.int (i + j)) cs
  | some (.str a), some (.str b) => if a.length + b.length ≤ sizeLine then ret (.str (a ++ b)) cs else none
  | some (.lst a), some (.lst b) => if a.length + b.length ≤ sizeLine then ret (.lst (a ++ b)) cs else none
  | _, _ => none
theorem od_add : OpD X (binaryOp .Add) gAdd := by
  refine ⟨_, (op_add.or op_add_str).or op_cat, fun G H as cs Fm x y wx wy Q E R rx ry h => ?_⟩
  unfold gAdd at h
  split at h
  · rename_i i j e1 e2
    obtain rfl := (R.view rx e1).int_of
    obtain rfl := (R.view ry e2).int_of
    exact .inl (.inl ⟨_, _, rfl, rfl, h.same R (Rep.int _)⟩)
  · rename_i a b e1 e2
    obtain rfl := (R.view rx e1).str_of
    obtain rfl := (R.view ry e2).str_of
    split at h
    · rename_i hl
      exact .inl (.inr ⟨_, _, rfl, rfl, hl, h.same R (Rep.str _)⟩)
    · exact h.elim
  · rename_i a b e1 e2
    obtain ⟨p, vs, rfl, hp, r1⟩ := (R.view rx e1).lst_of
    obtain ⟨q, us, rfl, hq, r2⟩ := (R.view ry e2).lst_of
    split at h
    · rename_i hl
      refine .inr ⟨p, q, vs, us, rfl, rfl, hp, hq, by rw [r1.length, r2.length]; exact hl, fun z hz => ?_⟩
      exact h.new R hz (fun _ _ => nofun) (.lst (r1.append r2))
    · exact h.elim
  · exact h.elim
def gSub : F2 := fun x y cs => match vw cs x, vw cs y with
  | some (.int i), some (.int j) => ret (.int (i - j)) cs
  | _, _ => none
theorem od_sub : OpD X (binaryOp .Sub) gSub := by
  refine ⟨_, op_sub, fun G H as cs Fm x y wx wy Q E R rx ry h => ?_⟩
  unfold gSub at h
  split at h
  · rename_i i j e1 e2
    obtain rfl := (R.view rx e1).int_of
    obtain rfl := (R.view ry e2).int_of
    exact ⟨_, _, rfl, rfl, h.same R (Rep.int _)⟩
  · exact h.elim
theorem mulW_ok {i j : Int} (h : i.natAbs < 2 ^ 9000 ∧ j.natAbs < 2 ^ 9000) : CMulW i j := wide_mul h.1 h.2 (by decide) (by decide) (by decide)
def gMul : F2 := fun x y cs => match vw cs x, vw cs y with
  | some (.int i), some (.int j) => if i.natAbs < 2 ^ 9000 ∧ j.natAbs < 2 ^ 9000 then ret (.int (i * j)) cs else none
  | some (.lst a), some (.int k) => if -(2 ^ 63) ≤ k ∧ k < 2 ^ 63 ∧ a.length * k.toNat ≤ sizeLine then ret (.lst (List.replicate k.toNat a).flatten) cs else none
  | _, _ => none
theorem Reps.rep {G : Hp} {as : List Addr} {vs : List V} {ds : List D} (r : Reps G as vs ds) : ∀ n : Nat, Reps G as (List.replicate n vs).flatten (List.replicate n ds).flatten
  | 0 => .nil
  | n + 1 => by
    rw [List.replicate_succ, List.replicate_succ, List.flatten_cons, List.flatten_cons]
    exact r.append (Reps.rep r n)
theorem od_mul : OpD X (binaryOp .Mult) gMul := by
  refine ⟨_, op_mulW.or op_rep, fun G H as cs Fm x y wx wy Q E R rx ry h => ?_⟩
  unfold gMul at h
  split at h
  · rename_i i j e1 e2
    obtain rfl := (R.view rx e1).int_of
    obtain rfl := (R.view ry e2).int_of
    split at h
    · rename_i hl
      exact .inl ⟨_, _, rfl, rfl, mulW_ok hl, h.same R (Rep.int _)⟩
    · exact h.elim
  · rename_i a k e1 e2
    obtain ⟨p, vs, rfl, hp, r1⟩ := (R.view rx e1).lst_of
    obtain rfl := (R.view ry e2).int_of
    split at h
    · rename_i hl
      refine .inr ⟨p, k, vs, rfl, rfl, hp, hl.1, hl.2.1, by rw [r1.length]; exact hl.2.2, fun z hz => ?_⟩
      exact h.new R hz (fun _ _ => nofun) (.lst (r1.rep _))
    · exact h.elim
  · exact h.elim
def gMod : F2 := fun x y cs => match vw cs x, vw cs y with
  | some (.int i), some (.int j) => if 0 < j then ret (.int (i % j)) cs else none
  | _, _ => none
theorem od_mod : OpD X (binaryOp .Mod) gMod := by
  refine ⟨_, op_mod, fun G H as cs Fm x y wx wy Q E R rx ry h => ?_⟩
  unfold gMod at h
  split at h
  · rename_i i j e1 e2
    obtain rfl := (R.view rx e1).int_of
    obtain rfl := (R.view ry e2).int_of
    split at h
    · rename_i hl
      exact ⟨_, _, rfl, rfl, hl, h.same R (Rep.int _)⟩
    · exact h.elim
  · exact h.elim
def gFdiv : F2 := fun x y cs => match vw cs x, vw cs y with
  | some (.int i), some (.int j) => if 0 < j ∧ j.natAbs < 2 ^ 9000 then ret (.int (i / j)) cs else none
  | _, _ => none
theorem od_fdiv : OpD X (binaryOp .FloorDiv) gFdiv := by
  refine ⟨_, op_fdivW, fun G H as cs Fm x y wx wy Q E R rx ry h => ?_⟩
  unfold gFdiv at h
  split at h
  · rename_i i j e1 e2
    obtain rfl := (R.view rx e1).int_of
    obtain rfl := (R.view ry e2).int_of
    split at h
    · rename_i hl
      exact ⟨_, _, rfl, rfl, wide_div hl.1 hl.2 (by decide) (by decide), h.same R (Rep.int _)⟩
    · exact h.elim
  · exact h.elim
theorem op_powW : OpR X (binaryOp .Pow) (rI (fun i j => 0 ≤ j ∧ (Builtin.Int.intBits i : Int) * j ≤ 2 ^ 27) fun i j => .int (i ^ j.toNat)) := opI fun _ _ _ _ _ _ _ hc q => pow_int hc.1 hc.2 q
def gPow : F2 := fun x y cs => match vw cs x, vw cs y with
  | some (.int i), some (.int j) => if 0 ≤ j ∧ (Builtin.Int.intBits i : Int) * j ≤ 2 ^ 27 then ret (.int (i ^ j.toNat)) cs else none
  | _, _ => none
theorem od_pow : OpD X (binaryOp .Pow) gPow := by
  refine ⟨_, op_powW, fun G H as cs Fm x y wx wy Q E R rx ry h => ?_⟩
  unfold gPow at h
  split at h
  · rename_i i j e1 e2
    obtain rfl := (R.view rx e1).int_of
    obtain rfl := (R.view ry e2).int_of
    split at h
    · rename_i hl
      exact ⟨_, _, rfl, rfl, hl, h.same R (Rep.int _)⟩
    · exact h.elim
  · exact h.elim

/-! ### comparisons of ints and texts -/
theorem op_le_str : OpR X (compareOp .LtE) (fun x y H Q => ∃ i j, x = .str i ∧ y = .str j ∧ Q (.bl (!decide (j.cps.toList < i.cps.toList))) H) := by
  intro pins s σ H x y v u Q I rx ry h
  obtain ⟨i, j, rfl, rfl, q⟩ := h
  obtain ⟨t, rfl⟩ := rx
  obtain ⟨t', rfl⟩ := ry
  exact P.le_str (fin_bl I q rfl)
def sLt (a b : Str) : Bool := decide (a.cps.toList < b.cps.toList)
def sLe (a b : Str) : Bool := !decide (b.cps.toList < a.cps.toList)
def gLt : F2 := fun x y cs => match vw cs x, vw cs y with
  | some (.int i), some (.int j) => ret (.bl (decide (i < j))) cs
  | some (.str i), some (.str j) => ret (.bl (sLt i j)) cs
  | _, _ => none
theorem od_lt : OpD X (compareOp .Lt) gLt := by
  refine ⟨_, op_lt.or op_lt_str, fun G H as cs Fm x y wx wy Q E R rx ry h => ?_⟩
  unfold gLt at h
  split at h
  · rename_i i j e1 e2
    obtain rfl := (R.view rx e1).int_of
    obtain rfl := (R.view ry e2).int_of
    exact .inl ⟨_, _, rfl, rfl, h.same R (Rep.bl _)⟩
  · rename_i i j e1 e2
    obtain rfl := (R.view rx e1).str_of
    obtain rfl := (R.view ry e2).str_of
    exact .inr ⟨_, _, rfl, rfl, h.same R (Rep.bl _)⟩
  · exact h.elim
def gLe : F2 := fun x y cs => match vw cs x, vw cs y with
  | some (.int i), some (.int j) => ret (.bl (decide (i ≤ j))) cs
  | some (.str i), some (.str j) => ret (.bl (sLe i j)) cs
  | _, _ => none
theorem od_le : OpD X (compareOp .LtE) gLe := by
  refine ⟨_, op_le.or op_le_str, fun G H as cs Fm x y wx wy Q E R rx ry h => ?_⟩
  unfold gLe at h
  split at h
  · rename_i i j e1 e2
    obtain rfl := (R.view rx e1).int_of
    obtain rfl := (R.view ry e2).int_of
    exact .inl ⟨_, _, rfl, rfl, h.same R (Rep.bl _)⟩
  · rename_i i j e1 e2
    obtain rfl := (R.view rx e1).str_of
    obtain rfl := (R.view ry e2).str_of
    exact .inr ⟨_, _, rfl, rfl, h.same R (Rep.bl _)⟩
  · exact h.elim
def gGt : F2 := fun x y cs => match vw cs x, vw cs y with
  | some (.int i), some (.int j) => ret (.bl (decide (j < i))) cs
  | _, _ => none
theorem od_gt : OpD X (compareOp .Gt) gGt := by
  refine ⟨_, op_gt, fun G H as cs Fm x y wx wy Q E R rx ry h => ?_⟩
  unfold gGt at h
  split at h
  · rename_i i j e1 e2
    obtain rfl := (R.view rx e1).int_of
    obtain rfl := (R.view ry e2).int_of
    exact ⟨_, _, rfl, rfl, h.same R (Rep.bl _)⟩
  · exact h.elim
def gGe : F2 := fun x y cs => match vw cs x, vw cs y with
  | some (.int i), some (.int j) => ret (.bl (decide (j ≤ i))) cs
  | _, _ => none
theorem od_ge : OpD X (compareOp .GtE) gGe := by
  refine ⟨_, op_ge, fun G H as cs Fm x y wx wy Q E R rx ry h => ?_⟩
  unfold gGe at h
  split at h
  · rename_i i j e1 e2
    obtain rfl := (R.view rx e1).int_of
    obtain rfl := (R.view ry e2).int_of
    exact ⟨_, _, rfl, rfl, h.same R (Rep.bl _)⟩
  · exact h.elim

/-! ### is None -/
def isNonW : D → Bool
  | .non => true
  | _ => false
theorem Rep.non_iff {G : Hp} {as : List Addr} {v : V} {w : D} (r : Rep G as v w) : decide (v = .non) = isNonW w := by
  cases r with
  | ref h r => cases r <;> rfl
  | _ => rfl
def gIs : F2 := fun x y cs => match y with
  | .non => ret (.bl (isNonW x)) cs
  | _ => none
theorem od_is : OpD X (compareOp .Is) gIs := by
  refine ⟨_, op_isN, fun G H as cs Fm x y wx wy Q E R rx ry h => ?_⟩
  unfold gIs at h
  split at h
  · refine ⟨Rep.non_of ry, ?_⟩
    rw [rx.non_iff]
    exact h.same R (Rep.bl _)
  · exact h.elim
def gIsNot : F2 := fun x y cs => match y with
  | .non => ret (.bl (!isNonW x)) cs
  | _ => none
theorem od_isnot : OpD X (compareOp .IsNot) gIsNot := by
  refine ⟨_, op_notN, fun G H as cs Fm x y wx wy Q E R rx ry h => ?_⟩
  unfold gIsNot at h
  split at h
  · refine ⟨Rep.non_of ry, ?_⟩
    rw [rx.non_iff]
    exact h.same R (Rep.bl _)
  · exact h.elim

/-! ### one-place operators -/
def UnD (X : Cx) (f : Value → Sem Value) (g : D → Mo D) : Prop :=
  ∃ r : V → Hp → VK → Prop, UnR X f r ∧ ∀ (G H : Hp) (as : List Addr) (cs : List Cel) (Fm : Hp) (x : V) (wx : D) (Q : VK) (E : XK), Rp G H as cs Fm → Rep G as x wx → PoE G as Fm Q E (g wx cs) → r x H Q
def fUn (g : D → Mo D) (fa : EF) : EF := fun ρ => bnd (fa ρ) g
theorem de_un {a : Expr} {op : UnaryOp} {g : D → Mo D} {fa : EF} {pos : Pos} (ho : UnD X (unaryOp op) g) (ha : DE X W a fa) : DE X W (.UnaryOp op a pos) (fUn g fa) := by
  obtain ⟨r, hr, hg⟩ := ho
  obtain ⟨ta, pa, qa⟩ := ha
  refine ⟨_, pe_un hr pa, fun G H as cs Fm σ ρ Q R S h => ?_⟩
  refine qa G H as cs Fm σ ρ _ R S (Po.first h fun v w G1 H1 bs cs1 x1 p1 R1 w1 h1 => ?_)
  exact hg G1 H1 bs cs1 Fm v w _ _ R1 w1 h1
def gNeg : D → Mo D := fun x cs => match vw cs x with
  | some (.int i) => ret (.int (-i)) cs
  | _ => none
theorem ud_neg : UnD X (unaryOp .USub) gNeg := by
  refine ⟨_, un_neg, fun G H as cs Fm x wx Q E R rx h => ?_⟩
  unfold gNeg at h
  split at h
  · rename_i i e1
    obtain rfl := (R.view rx e1).int_of
    exact ⟨_, rfl, h.same R (Rep.int _)⟩
  · exact h.elim

/-! ### tests -/
abbrev TF := Evn → Mo Bool
abbrev PoT := @Po Bool Bool (fun _ _ b c => b = c)
def DT (X : Cx) (W : WX) (e : Expr) (f : TF) : Prop :=
  ∃ t : TT, PT X e t ∧ ∀ (G H : Hp) (as : List Addr) (cs : List Cel) (Fm : Hp) (σ : L2.St) (ρ : Evn) Q, Rp G H as cs Fm → Sl G as σ ρ → PoT G as Fm Q (fun c d H' => W c d σ H') (f ρ cs) → t σ H Q
def DW (X : Cx) (W : WX) (e : Expr) (f : TF) : Prop :=
  ∃ t : TT, PW X e t ∧ ∀ (G H : Hp) (as : List Addr) (cs : List Cel) (Fm : Hp) (σ : L2.St) (ρ : Evn) Q, Rp G H as cs Fm → Sl G as σ ρ → PoT G as Fm Q (fun c d H' => W c d σ H') (f ρ cs) → t σ H Q
theorem DW.dt {e : Expr} {f : TF} (h : DW X W e f) : DT X W e f := let ⟨t, p, q⟩ := h; ⟨t, p.pt, q⟩
def asB : D → Mo Bool := fun w => match w with
  | .bl b => ret b
  | _ => fail
def fTst (f : EF) : TF := fun ρ => bnd (f ρ) asB
theorem asB_of {G H : Hp} {as : List Addr} {cs : List Cel} {Fm : Hp} {w : D} {v : V} {Q : Bool → Hp → Prop} {E : XK} (R : Rp G H as cs Fm) (r : Rep G as v w) (h : PoT G as Fm Q E (asB w cs)) : ∃ c, v = .bl c ∧ Q c H := by
  unfold asB at h
  split at h
  · rename_i b
    obtain rfl := Rep.bl_of r
    exact ⟨b, rfl, h b G H as (Ext.refl _) (List.prefix_refl _) R rfl⟩
  · exact h.elim
theorem dt_val {e : Expr} {f : EF} (h : DE X W e f) (he : ∀ whole, isTrue e X.env whole = (do let v ← whole; standAt e.pos; holding [v] (truthy v)) := by intro _; rfl) : DT X W e (fTst f) := by
  obtain ⟨t, p, q⟩ := h
  refine ⟨_, pt_val p he, fun G H as cs Fm σ ρ Q R S h => ?_⟩
  exact q G H as cs Fm σ ρ _ R S (Po.first h fun v w G1 H1 bs cs1 x1 p1 R1 w1 h1 => asB_of R1 w1 h1)
theorem dt_cmp {a b : Expr} {op : CmpOp} {g : F2} {fa fb : EF} {pos : Pos} (ho : OpD X (compareOp op) g) (ha : DE X W a fa) (hb : DE X W b fb) (hm : behindInMarks op b = false) : DT X W (.Compare a [op] [b] pos) (fTst (fOp g fa fb)) := by
  obtain ⟨r, hr, hg⟩ := ho
  obtain ⟨ta, pa, qa⟩ := ha
  obtain ⟨tb, pb, qb⟩ := hb
  refine ⟨_, pt_cmpR hr pa pb hm, fun G H as cs Fm σ ρ Q R S h => ?_⟩
  have h' : PoT G as Fm Q (fun c d H' => W c d σ H') (bnd (fa ρ) (fun x => bnd (bnd (fb ρ) fun y => g x y) asB) cs) := by
    have e : fTst (fOp g fa fb) ρ cs = bnd (fa ρ) (fun x => bnd (bnd (fb ρ) fun y => g x y) asB) cs := by
      unfold fTst fOp bnd
      cases fa ρ cs with
      | none => rfl
      | some r => cases r <;> rfl
    rw [← e]; exact h
  refine qa G H as cs Fm σ ρ _ R S (Po.first h' fun v w G1 H1 bs cs1 x1 p1 R1 w1 h1 => ?_)
  have h1' : PoT G1 bs Fm Q (fun c d H' => W c d σ H') (bnd (fb ρ) (fun y => bnd (g w y) asB) cs1) := by
    have e : bnd (bnd (fb ρ) fun y => g w y) asB cs1 = bnd (fb ρ) (fun y => bnd (g w y) asB) cs1 := by
      unfold bnd
      cases fb ρ cs1 with
      | none => rfl
      | some r => cases r <;> rfl
    rw [← e]; exact h1
  refine qb G1 H1 bs cs1 Fm σ ρ _ R1 (S.ext x1 p1) (Po.first h1' fun v2 w2 G2 H2 bs2 cs2 x2 p2 R2 r2 h2 => ?_)
  exact hg G2 H2 bs2 cs2 Fm v v2 w w2 _ _ R2 (w1.ext x2 p2) r2 (Po.first h2 fun v w G1 H1 bs cs1 x1 p1 R1 w1 h1 => asB_of R1 w1 h1)
def fNotT (f : TF) : TF := fun ρ => bnd (f ρ) fun b => ret (!b)
theorem PoT.ret {G H : Hp} {as : List Addr} {cs : List Cel} {Fm : Hp} {b : Bool} {Q : Bool → Hp → Prop} {E : XK} (h : PoT G as Fm Q E (ret b cs)) (R : Rp G H as cs Fm) : Q b H := h b G H as (Ext.refl _) (List.prefix_refl _) R rfl
theorem dt_not {a : Expr} {f : TF} {pos : Pos} (h : DT X W a f) : DT X W (.UnaryOp .Not a pos) (fNotT f) := by
  obtain ⟨t, p, q⟩ := h
  refine ⟨_, pt_not p, fun G H as cs Fm σ ρ Q R S h => ?_⟩
  refine q G H as cs Fm σ ρ _ R S (Po.first h fun v w G1 H1 bs cs1 x1 p1 R1 w1 h1 => ?_)
  subst w1
  exact PoT.ret h1 R1
def fAndT (f g : TF) : TF := fun ρ => bnd (f ρ) fun b => if b = true then g ρ else ret false
def fOrT (f g : TF) : TF := fun ρ => bnd (f ρ) fun b => if b = true then ret true else g ρ
theorem dw_and1 {a : Expr} {f : TF} {pos : Pos} (h : DT X W a f) : DW X W (.BoolOp .And [a] pos) f := let ⟨t, p, q⟩ := h; ⟨t, pw_and1 p, q⟩
theorem dw_or1 {a : Expr} {f : TF} {pos : Pos} (h : DT X W a f) : DW X W (.BoolOp .Or [a] pos) f := let ⟨t, p, q⟩ := h; ⟨t, pw_or1 p, q⟩
theorem dw_and {a b : Expr} {rest : List Expr} {f g : TF} {pos : Pos} (ha : DT X W a f) (hb : DW X W (.BoolOp .And (b :: rest) pos) g) : DW X W (.BoolOp .And (a :: b :: rest) pos) (fAndT f g) := by
  obtain ⟨ta, pa, qa⟩ := ha
  obtain ⟨tb, pb, qb⟩ := hb
  refine ⟨_, pw_and pa pb, fun G H as cs Fm σ ρ Q R S h => ?_⟩
  refine qa G H as cs Fm σ ρ _ R S (Po.first h fun v w G1 H1 bs cs1 x1 p1 R1 w1 h1 => ?_)
  subst w1
  cases v with
  | true => exact qb G1 H1 bs cs1 Fm σ ρ _ R1 (S.ext x1 p1) h1
  | false => exact PoT.ret h1 R1
theorem dw_or {a b : Expr} {rest : List Expr} {f g : TF} {pos : Pos} (ha : DT X W a f) (hb : DW X W (.BoolOp .Or (b :: rest) pos) g) : DW X W (.BoolOp .Or (a :: b :: rest) pos) (fOrT f g) := by
  obtain ⟨ta, pa, qa⟩ := ha
  obtain ⟨tb, pb, qb⟩ := hb
  refine ⟨_, pw_or pa pb, fun G H as cs Fm σ ρ Q R S h => ?_⟩
  refine qa G H as cs Fm σ ρ _ R S (Po.first h fun v w G1 H1 bs cs1 x1 p1 R1 w1 h1 => ?_)
  subst w1
  cases v with
  | true => exact PoT.ret h1 R1
  | false => exact qb G1 H1 bs cs1 Fm σ ρ _ R1 (S.ext x1 p1) h1

/-! ### and, or, not as values; a if t else b -/
def fAnd (f g : EF) : EF := fun ρ => bnd (f ρ) fun w => bnd (asB w) fun b => if b = true then g ρ else ret (.bl false)
def fOr (f g : EF) : EF := fun ρ => bnd (f ρ) fun w => bnd (asB w) fun b => if b = true then ret (.bl true) else g ρ
def fNot (f : EF) : EF := fun ρ => bnd (f ρ) fun w => bnd (asB w) fun b => ret (.bl (!b))
theorem asB_then {α β : Type} {Rl : Hp → List Addr → β → α → Prop} {G H : Hp} {as : List Addr} {cs : List Cel} {Fm : Hp} {w : D} {v : V} {Q : β → Hp → Prop} {E : XK} {k : Bool → Mo α} (R : Rp G H as cs Fm) (r : Rep G as v w) (h : Po Rl G as Fm Q E (bnd (asB w) k cs)) :
    ∃ c, v = .bl c ∧ Po Rl G as Fm Q E (k c cs) := by
  unfold asB at h
  split at h
  · rename_i b
    obtain rfl := Rep.bl_of r
    exact ⟨b, rfl, h⟩
  · exact h.elim
theorem de_one {op} {a : Expr} {f : EF} {pos : Pos} (h : DE X W a f) : DE X W (.BoolOp op [a] pos) f := let ⟨t, p, q⟩ := h; ⟨t, pe_one p, q⟩
theorem de_and {a b : Expr} {rest : List Expr} {f g : EF} {pos : Pos} (ha : DE X W a f) (hb : DE X W (.BoolOp .And (b :: rest) pos) g) : DE X W (.BoolOp .And (a :: b :: rest) pos) (fAnd f g) := by
  obtain ⟨ta, pa, qa⟩ := ha
  obtain ⟨tb, pb, qb⟩ := hb
  refine ⟨_, pe_and pa pb, fun G H as cs Fm σ ρ Q R S h => ?_⟩
  refine qa G H as cs Fm σ ρ _ R S (Po.first h fun v w G1 H1 bs cs1 x1 p1 R1 w1 h1 => ?_)
  obtain ⟨c, rfl, h2⟩ := asB_then R1 w1 h1
  refine ⟨c, rfl, ?_⟩
  cases c with
  | true => exact qb G1 H1 bs cs1 Fm σ ρ _ R1 (S.ext x1 p1) h2
  | false => exact PoE.same h2 R1 (Rep.bl _)
theorem de_or {a b : Expr} {rest : List Expr} {f g : EF} {pos : Pos} (ha : DE X W a f) (hb : DE X W (.BoolOp .Or (b :: rest) pos) g) : DE X W (.BoolOp .Or (a :: b :: rest) pos) (fOr f g) := by
  obtain ⟨ta, pa, qa⟩ := ha
  obtain ⟨tb, pb, qb⟩ := hb
  refine ⟨_, pe_or pa pb, fun G H as cs Fm σ ρ Q R S h => ?_⟩
  refine qa G H as cs Fm σ ρ _ R S (Po.first h fun v w G1 H1 bs cs1 x1 p1 R1 w1 h1 => ?_)
  obtain ⟨c, rfl, h2⟩ := asB_then R1 w1 h1
  refine ⟨c, rfl, ?_⟩
  cases c with
  | true => exact PoE.same h2 R1 (Rep.bl _)
  | false => exact qb G1 H1 bs cs1 Fm σ ρ _ R1 (S.ext x1 p1) h2
theorem de_not {a : Expr} {f : EF} {pos : Pos} (ha : DE X W a f) : DE X W (.UnaryOp .Not a pos) (fNot f) := by
  obtain ⟨ta, pa, qa⟩ := ha
  refine ⟨_, pe_not pa, fun G H as cs Fm σ ρ Q R S h => ?_⟩
  refine qa G H as cs Fm σ ρ _ R S (Po.first h fun v w G1 H1 bs cs1 x1 p1 R1 w1 h1 => ?_)
  obtain ⟨c, rfl, h2⟩ := asB_then R1 w1 h1
  exact ⟨c, rfl, PoE.same h2 R1 (Rep.bl _)⟩
def fIf (c : TF) (f g : EF) : EF := fun ρ => bnd (c ρ) fun b => if b = true then f ρ else g ρ
theorem de_if {c a b : Expr} {fc : TF} {f g : EF} {pos : Pos} (hc : DT X W c fc) (ha : DE X W a f) (hb : DE X W b g) : DE X W (.IfExp c a b pos) (fIf fc f g) := by
  obtain ⟨tc, pc, qc⟩ := hc
  obtain ⟨ta, pa, qa⟩ := ha
  obtain ⟨tb, pb, qb⟩ := hb
  refine ⟨_, pe_ifExp pc pa pb, fun G H as cs Fm σ ρ Q R S h => ?_⟩
  refine qc G H as cs Fm σ ρ _ R S (Po.first h fun v w G1 H1 bs cs1 x1 p1 R1 w1 h1 => ?_)
  subst w1
  cases v with
  | true => exact qa G1 H1 bs cs1 Fm σ ρ _ R1 (S.ext x1 p1) h1
  | false => exact qb G1 H1 bs cs1 Fm σ ρ _ R1 (S.ext x1 p1) h1
/-- a op b op' c -/
def fChain (g g' : F2) (fa fb fc : EF) : EF := fun ρ => bnd (fa ρ) fun x => bnd (fb ρ) fun y => bnd (g x y) fun z => bnd (asB z) fun k => if k = true then bnd (fc ρ) fun w => g' y w else ret (.bl false)
theorem de_chain {a b c : Expr} {op op' : CmpOp} {g g' : F2} {fa fb fc : EF} {pos : Pos} (ho : OpD X (compareOp op) g) (ho' : OpD X (compareOp op') g') (ha : DE X W a fa) (hb : DE X W b fb) (hc : DE X W c fc)
    (hm : lastMarks [op, op'] [b, c] = false := by rfl) : DE X W (.Compare a [op, op'] [b, c] pos) (fChain g g' fa fb fc) := by
  obtain ⟨r, hr, hg⟩ := ho
  obtain ⟨r', hr', hg'⟩ := ho'
  obtain ⟨ta, pa, qa⟩ := ha
  obtain ⟨tb, pb, qb⟩ := hb
  obtain ⟨tc, pc, qc⟩ := hc
  refine ⟨_, pe_chain hr hr' pa pb pc hm, fun G H as cs Fm σ ρ Q R S h => ?_⟩
  refine qa G H as cs Fm σ ρ _ R S (Po.first h fun v w G1 H1 bs cs1 x1 p1 R1 w1 h1 => ?_)
  refine qb G1 H1 bs cs1 Fm σ ρ _ R1 (S.ext x1 p1) (Po.first h1 fun v2 w2 G2 H2 bs2 cs2 x2 p2 R2 r2 h2 => ?_)
  refine hg G2 H2 bs2 cs2 Fm v v2 w w2 _ _ R2 (w1.ext x2 p2) r2 (Po.first h2 fun v3 w3 G3 H3 bs3 cs3 x3 p3 R3 r3 h3 => ?_)
  obtain ⟨k, rfl, h4⟩ := asB_then R3 r3 h3
  refine ⟨k, rfl, ?_⟩
  cases k with
  | true =>
    refine qc G3 H3 bs3 cs3 Fm σ ρ _ R3 (((S.ext x1 p1).ext x2 p2).ext x3 p3) (Po.first h4 fun v5 w5 G5 H5 bs5 cs5 x5 p5 R5 r5 h5 => ?_)
    exact hg' G5 H5 bs5 cs5 Fm v2 v5 w2 w5 _ _ R5 ((r2.ext x3 p3).ext x5 p5) r5 h5
  | false => exact PoE.same h4 R3 (Rep.bl _)
theorem dt_chain {a b c : Expr} {op op' : CmpOp} {g g' : F2} {fa fb fc : EF} {pos : Pos} (ho : OpD X (compareOp op) g) (ho' : OpD X (compareOp op') g') (ha : DE X W a fa) (hb : DE X W b fb) (hc : DE X W c fc)
    (hm : lastMarks [op, op'] [b, c] = false := by rfl) : DT X W (.Compare a [op, op'] [b, c] pos) (fTst (fChain g g' fa fb fc)) := by
  obtain ⟨r, hr, hg⟩ := ho
  obtain ⟨r', hr', hg'⟩ := ho'
  obtain ⟨ta, pa, qa⟩ := ha
  obtain ⟨tb, pb, qb⟩ := hb
  obtain ⟨tc, pc, qc⟩ := hc
  refine ⟨_, pt_chain hr hr' pa pb pc hm, fun G H as cs Fm σ ρ Q R S h => ?_⟩
  have as1 : ∀ {α β γ : Type} (m : Mo α) (k : α → Mo β) (l : β → Mo γ) (cs : List Cel), bnd (bnd m k) l cs = bnd m (fun x => bnd (k x) l) cs := fun m k l cs => by
    unfold bnd
    cases m cs with
    | none => rfl
    | some r => cases r <;> rfl
  unfold fTst fChain at h
  rw [as1] at h
  refine qa G H as cs Fm σ ρ _ R S (Po.first h fun v w G1 H1 bs cs1 x1 p1 R1 w1 h1 => ?_)
  rw [as1] at h1
  refine qb G1 H1 bs cs1 Fm σ ρ _ R1 (S.ext x1 p1) (Po.first h1 fun v2 w2 G2 H2 bs2 cs2 x2 p2 R2 r2 h2 => ?_)
  rw [as1] at h2
  refine hg G2 H2 bs2 cs2 Fm v v2 w w2 _ _ R2 (w1.ext x2 p2) r2 (Po.first h2 fun v3 w3 G3 H3 bs3 cs3 x3 p3 R3 r3 h3 => ?_)
  rw [as1] at h3
  obtain ⟨k, rfl, h4⟩ := asB_then R3 r3 h3
  refine ⟨k, rfl, ?_⟩
  cases k with
  | true =>
    rw [if_pos rfl, as1] at h4
    refine qc G3 H3 bs3 cs3 Fm σ ρ _ R3 (((S.ext x1 p1).ext x2 p2).ext x3 p3) (Po.first h4 fun v5 w5 G5 H5 bs5 cs5 x5 p5 R5 r5 h5 => ?_)
    exact hg' G5 H5 bs5 cs5 Fm v2 v5 w2 w5 _ _ R5 ((r2.ext x3 p3).ext x5 p5) r5 (Po.first h5 fun v w G1 H1 bs cs1 x1 p1 R1 w1 h1 => asB_of R1 w1 h1)
  | false => exact ⟨false, rfl, PoT.ret h4 R3⟩

/-! ### argument lists, displays -/
def fNil : AF := fun _ => ret []
def fCons (f : EF) (g : AF) : AF := fun ρ => bnd (f ρ) fun x => bnd (g ρ) fun xs => ret (x :: xs)
theorem da_nil : DA X W [] fNil := ⟨_, pa_nil, fun G H as cs Fm σ ρ Q R S h => h [] G H as (Ext.refl _) (List.prefix_refl _) R .nil⟩
theorem da_cons {e : Expr} {es : List Expr} {f : EF} {g : AF} (ha : DE X W e f) (hr : DA X W es g) (hs : starEach (e :: es) X.env = (false, eval e X.env) :: starEach es X.env := by rfl) : DA X W (e :: es) (fCons f g) := by
  obtain ⟨ta, pa, qa⟩ := ha
  obtain ⟨tb, pb, qb⟩ := hr
  refine ⟨_, pa_cons pa pb hs, fun G H as cs Fm σ ρ Q R S h => ?_⟩
  refine qa G H as cs Fm σ ρ _ R S (Po.first h fun v w G1 H1 bs cs1 x1 p1 R1 w1 h1 => ?_)
  refine qb G1 H1 bs cs1 Fm σ ρ _ R1 (S.ext x1 p1) (Po.first h1 fun v2 w2 G2 H2 bs2 cs2 x2 p2 R2 r2 h2 => ?_)
  exact h2 (v :: v2) G2 H2 bs2 (Ext.refl _) (List.prefix_refl _) R2 (.cons (w1.ext x2 p2) r2)
/-- a new object of these parts: frozen, or a cell -/
def mkF (mk : List D → D) (ws : List D) : Mo D := if ws.length ≤ sizeLine then ret (mk ws) else fail
def mkC (mk : List D → D) (ws : List D) : Mo D := if ws.length ≤ sizeLine then newc (mk ws) else fail
def fMk (m : List D → Mo D) (g : AF) : EF := fun ρ => bnd (g ρ) m
theorem de_tup {es : List Expr} {g : AF} {x1} {pos : Pos} (h : DA X W es g) : DE X W (.Tuple es x1 pos) (fMk (mkF .tup) g) := by
  obtain ⟨t, p, q⟩ := h
  refine ⟨_, pe_tup p, fun G H as cs Fm σ ρ Q R S h => ?_⟩
  refine q G H as cs Fm σ ρ _ R S (Po.first h fun v w G1 H1 bs cs1 x1 p1 R1 w1 h1 => ?_)
  unfold mkF at h1
  split at h1
  · rename_i hl
    refine ⟨by rw [w1.length]; exact hl, fun p hp => ?_⟩
    exact PoE.new h1 R1 hp (fun _ _ => nofun) (.tup w1)
  · exact h1.elim
theorem de_lst {es : List Expr} {g : AF} {pos : Pos} (h : DA X W es g) : DE X W (.List es pos) (fMk (mkF .lst) g) := by
  obtain ⟨t, p, q⟩ := h
  refine ⟨_, pe_lst p, fun G H as cs Fm σ ρ Q R S h => ?_⟩
  refine q G H as cs Fm σ ρ _ R S (Po.first h fun v w G1 H1 bs cs1 x1 p1 R1 w1 h1 => ?_)
  unfold mkF at h1
  split at h1
  · rename_i hl
    refine ⟨by rw [w1.length]; exact hl, fun p hp => ?_⟩
    exact PoE.new h1 R1 hp (fun _ _ => nofun) (.lst w1)
  · exact h1.elim
/-- a list display that is a cell -/
theorem de_lstC {es : List Expr} {g : AF} {pos : Pos} (h : DA X W es g) : DE X W (.List es pos) (fMk (mkC .lst) g) := by
  obtain ⟨t, p, q⟩ := h
  refine ⟨_, pe_lst p, fun G H as cs Fm σ ρ Q R S h => ?_⟩
  refine q G H as cs Fm σ ρ _ R S (Po.first h fun v w G1 H1 bs cs1 x1 p1 R1 w1 h1 => ?_)
  unfold mkC at h1
  split at h1
  · rename_i hl
    refine ⟨by rw [w1.length]; exact hl, fun p hp => ?_⟩
    exact PoE.newc h1 R1 hp (.lst w1)
  · exact h1.elim
/-- {} as a cell: keys ints and texts, or tuples of them -/
def fDnew (t : Bool) : EF := fun _ => newc (.dic t [] [])
theorem de_dnewK {pos : Pos} : DE X W (.Dict [] [] pos) (fDnew false) := ⟨_, pe_dnewK, fun G H as cs Fm σ ρ Q R S h p hp => PoE.newc h R hp (Hr.dK (kvs := []) .nil)⟩
theorem de_dnewT {pos : Pos} : DE X W (.Dict [] [] pos) (fDnew true) := ⟨_, pe_dnewT, fun G H as cs Fm σ ρ Q R S h p hp => PoE.newc h R hp (Hr.dT (kvs := []) .nil)⟩
end
end MW

set_option Elab.async false
set_option linter.all false
set_option maxRecDepth 100000
/-! MwStmt: statements and whole defs as data functions. -/
namespace MW
open PySem PySem.Spec PyProof.Rows L2

/-- what a statement comes to -/
inductive SRes where
  | nx (ρ : Evn) (cs : List Cel) | ret (d : D) (cs : List Cel) | brk (ρ : Evn) (cs : List Cel) | ct (ρ : Evn) (cs : List Cel) | exc (C : Addr) (ds : List D) (ρ : Evn) (cs : List Cel)
abbrev SF := Evn → List Cel → Option SRes

def PoS (G : Hp) (as : List Addr) (Fm : Hp) (D' : Ends) (W : WX) : Option SRes → Prop
  | some (.nx ρ cs) => ∀ σ G' H bs, Ext G G' → as <+: bs → Rp G' H bs cs Fm → Sl G' bs σ ρ → D'.nx σ H
  | some (.brk ρ cs) => ∀ σ G' H bs, Ext G G' → as <+: bs → Rp G' H bs cs Fm → Sl G' bs σ ρ → D'.bk σ H
  | some (.ct ρ cs) => ∀ σ G' H bs, Ext G G' → as <+: bs → Rp G' H bs cs Fm → Sl G' bs σ ρ → D'.ct σ H
  | some (.ret d cs) => ∀ v G' H bs, Ext G G' → as <+: bs → Rp G' H bs cs Fm → Rep G' bs v d → D'.rt v H
  | some (.exc C ds ρ cs) => ∀ d σ G' H bs, Ext G G' → as <+: bs → Rp G' H bs cs Fm → Sl G' bs σ ρ → XdAt G' H bs d ds → W (.ref C) d σ H
  | none => False
theorem PoS.later {G G1 : Hp} {as bs : List Addr} {Fm : Hp} {D' : Ends} {W : WX} (x : Ext G G1) (p : as <+: bs) : ∀ {r : Option SRes}, PoS G as Fm D' W r → PoS G1 bs Fm D' W r
  | some (.nx _ _), h => fun σ G' H cs x' p' r' s' => h σ G' H cs (x.trans x') (p.trans p') r' s'
  | some (.brk _ _), h => fun σ G' H cs x' p' r' s' => h σ G' H cs (x.trans x') (p.trans p') r' s'
  | some (.ct _ _), h => fun σ G' H cs x' p' r' s' => h σ G' H cs (x.trans x') (p.trans p') r' s'
  | some (.ret _ _), h => fun v G' H cs x' p' r' s' => h v G' H cs (x.trans x') (p.trans p') r' s'
  | some (.exc _ _ _ _), h => fun d σ G' H cs x' p' r' s' => h d σ G' H cs (x.trans x') (p.trans p') r' s'
  | none, h => h

def DS (X : Cx) (W : WX) (st : Stmt) (F : SF) : Prop :=
  ∃ t : TS, PS X st t ∧ ∀ (G H : Hp) (as : List Addr) (cs : List Cel) (Fm : Hp) (σ : L2.St) (ρ : Evn) (D' : Ends), Rp G H as cs Fm → Sl G as σ ρ → PoS G as Fm D' W (F ρ cs) → t D' σ H
def DSs (X : Cx) (W : WX) (st : List Stmt) (F : SF) : Prop :=
  ∃ t : TS, PSs X st t ∧ ∀ (G H : Hp) (as : List Addr) (cs : List Cel) (Fm : Hp) (σ : L2.St) (ρ : Evn) (D' : Ends), Rp G H as cs Fm → Sl G as σ ρ → PoS G as Fm D' W (F ρ cs) → t D' σ H

/-- an expression first, then the rest -/
def bndE {α : Type} (m : Mo α) (ρ : Evn) (k : α → List Cel → Option SRes) : List Cel → Option SRes := fun cs => match m cs with
  | some (.ok x cs') => k x cs'
  | some (.exc C x cs') => some (.exc C x ρ cs')
  | none => none
theorem PoS.first {α β : Type} {R : Hp → List Addr → β → α → Prop} {G : Hp} {as : List Addr} {Fm : Hp} {D' : Ends} {W : WX} {Q : β → Hp → Prop} {m : Mo α} {σ : L2.St} {ρ : Evn} {k : α → List Cel → Option SRes} {cs : List Cel} (S : Sl G as σ ρ)
    (h : PoS G as Fm D' W (bndE m ρ k cs)) (hk : ∀ v w G' H' bs cs', Ext G G' → as <+: bs → Rp G' H' bs cs' Fm → R G' bs v w → PoS G' bs Fm D' W (k w cs') → Q v H') : Po R G as Fm Q (fun c d H' => W c d σ H') (m cs) := by
  unfold bndE at h
  cases e : m cs with
  | none => rw [e] at h; exact h
  | some r =>
    rw [e] at h
    cases r with
    | ok w cs' => exact fun v G' H' bs x p r' w' => hk v w G' H' bs cs' x p r' w' (PoS.later x p h)
    | exc C x cs' => exact fun d G' H' bs x' p r' w' => h d σ G' H' bs x' p r' (S.ext x' p) w'
/-- a statement first, then the rest -/
def sSeq (F1 F2 : SF) : SF := fun ρ cs => match F1 ρ cs with
  | some (.nx ρ' cs') => F2 ρ' cs'
  | r => r
section
variable {X : Cx} {W : WX}
def sNil : SF := fun ρ cs => some (.nx ρ cs)
theorem dss_nil : DSs X W [] sNil := ⟨_, pss_nil, fun G H as cs Fm σ ρ D' R S h => h σ G H as (Ext.refl _) (List.prefix_refl _) R S⟩
theorem PoS.seq {G : Hp} {as : List Addr} {Fm : Hp} {D' : Ends} {F2 : SF} {ρ : Evn} {F1 : SF} {cs : List Cel} {u : TS} (h : PoS G as Fm D' W (sSeq F1 F2 ρ cs))
    (q : ∀ (G H : Hp) (as : List Addr) (cs : List Cel) (Fm : Hp) (σ : L2.St) (ρ : Evn) (D' : Ends), Rp G H as cs Fm → Sl G as σ ρ → PoS G as Fm D' W (F2 ρ cs) → u D' σ H) : PoS G as Fm { D' with nx := u D' } W (F1 ρ cs) := by
  unfold sSeq at h
  cases e : F1 ρ cs with
  | none => rw [e] at h; exact h
  | some r =>
    rw [e] at h
    cases r with
    | nx ρ' cs' => exact fun σ G' H bs x p r s => q G' H bs cs' Fm σ ρ' D' r s (PoS.later x p h)
    | ret d cs' => exact h
    | brk ρ' cs' => exact h
    | ct ρ' cs' => exact h
    | exc C ds ρ' cs' => exact h
theorem dss_cons {st : Stmt} {rest : List Stmt} {F1 F2 : SF} (h1 : DS X W st F1) (h2 : DSs X W rest F2) : DSs X W (st :: rest) (sSeq F1 F2) := by
  obtain ⟨t, p, q⟩ := h1
  obtain ⟨u, p2, q2⟩ := h2
  exact ⟨_, pss_cons p p2, fun G H as cs Fm σ ρ D' R S h => q G H as cs Fm σ ρ _ R S (h.seq q2)⟩
theorem dss_one {st : Stmt} {F : SF} (h1 : DS X W st F) : DSs X W [st] F := let ⟨t, p, q⟩ := h1; ⟨_, pss_one p, q⟩
theorem ds_pass {pos : Pos} : DS X W (.Pass pos) sNil := ⟨_, ps_pass, fun G H as cs Fm σ ρ D' R S h => h σ G H as (Ext.refl _) (List.prefix_refl _) R S⟩
def sBrk : SF := fun ρ cs => some (.brk ρ cs)
def sCt : SF := fun ρ cs => some (.ct ρ cs)
theorem ds_break {pos : Pos} : DS X W (.Break pos) sBrk := ⟨_, ps_break, fun G H as cs Fm σ ρ D' R S h => h σ G H as (Ext.refl _) (List.prefix_refl _) R S⟩
theorem ds_continue {pos : Pos} : DS X W (.Continue pos) sCt := ⟨_, ps_continue, fun G H as cs Fm σ ρ D' R S h => h σ G H as (Ext.refl _) (List.prefix_refl _) R S⟩
theorem ds_doc {x j pos pos'} : DS X W (.Expr (.Constant (.str x) j pos) pos') sNil := ⟨_, ps_doc, fun G H as cs Fm σ ρ D' R S h => h σ G H as (Ext.refl _) (List.prefix_refl _) R S⟩
def sRet (f : EF) : SF := fun ρ => bndE (f ρ) ρ fun d cs => some (.ret d cs)
theorem ds_ret {e : Expr} {f : EF} {pos : Pos} (h : DE X W e f) : DS X W (.Return (some e) pos) (sRet f) := by
  obtain ⟨t, p, q⟩ := h
  refine ⟨_, ps_ret p, fun G H as cs Fm σ ρ D' R S h => ?_⟩
  exact q G H as cs Fm σ ρ _ R S (PoS.first S h fun v w G1 H1 bs cs1 x1 p1 R1 w1 h1 => h1 v G1 H1 bs (Ext.refl _) (List.prefix_refl _) R1 w1)
def sRetN : SF := fun ρ cs => some (.ret .non cs)
theorem ds_retN {pos : Pos} : DS X W (.Return none pos) sRetN := ⟨_, ps_retN, fun G H as cs Fm σ ρ D' R S h => h .non G H as (Ext.refl _) (List.prefix_refl _) R .non⟩
def sExpr (f : EF) : SF := fun ρ => bndE (f ρ) ρ fun _ cs => some (.nx ρ cs)
theorem ds_expr {e : Expr} {f : EF} {pos : Pos} (h : DE X W e f) (hs : swapsWith e none pos.line X.env = pure false := by rfl) : DS X W (.Expr e pos) (sExpr f) := by
  obtain ⟨t, p, q⟩ := h
  refine ⟨_, ps_expr p hs, fun G H as cs Fm σ ρ D' R S h => ?_⟩
  exact q G H as cs Fm σ ρ _ R S (PoS.first S h fun v w G1 H1 bs cs1 x1 p1 R1 w1 h1 => h1 σ G1 H1 bs (Ext.refl _) (List.prefix_refl _) R1 (S.ext x1 p1))
def sIf (c : TF) (F1 F2 : SF) : SF := fun ρ => bndE (c ρ) ρ fun b cs => if b = true then F1 ρ cs else F2 ρ cs
theorem ds_if {c : Expr} {a b : List Stmt} {fc : TF} {F1 F2 : SF} {pos : Pos} (hc : DT X W c fc) (ha : DSs X W a F1) (hb : DSs X W b F2) : DS X W (.If c a b pos) (sIf fc F1 F2) := by
  obtain ⟨t, p, q⟩ := hc
  obtain ⟨ta, pa, qa⟩ := ha
  obtain ⟨tb, pb, qb⟩ := hb
  refine ⟨_, ps_if p pa pb, fun G H as cs Fm σ ρ D' R S h => ?_⟩
  refine q G H as cs Fm σ ρ _ R S (PoS.first S h fun v w G1 H1 bs cs1 x1 p1 R1 w1 h1 => ?_)
  subst w1
  cases v with
  | true => exact qa G1 H1 bs cs1 Fm σ ρ D' R1 (S.ext x1 p1) h1
  | false => exact qb G1 H1 bs cs1 Fm σ ρ D' R1 (S.ext x1 p1) h1

/-! ### stores -/
/-- only these slots have changed -/
def Off (is : List Nat) (σ σ' : L2.St) : Prop := σ'.length = σ.length ∧ ∀ j, j ∉ is → σ'[j]? = σ[j]?
theorem Off.refl (is : List Nat) (σ : L2.St) : Off is σ σ := ⟨rfl, fun _ _ => rfl⟩
theorem Off.trans {is js : List Nat} {σ σ1 σ2 : L2.St} (a : Off is σ σ1) (b : Off js σ1 σ2) : Off (is ++ js) σ σ2 :=
  ⟨b.1.trans a.1, fun j hj => by
    rw [List.mem_append] at hj
    rw [b.2 j (fun z => hj (.inr z)), a.2 j (fun z => hj (.inl z))]⟩
abbrev TgF := D → Evn → List Cel → Option (Evn × List Cel)
abbrev TgsF := List D → Evn → List Cel → Option (Evn × List Cel)
/-- what is wanted behind a store -/
def PoG (G : Hp) (as : List Addr) (Fm : Hp) (is : List Nat) (σ : L2.St) (Q : L2.St → Hp → Prop) : Option (Evn × List Cel) → Prop
  | some (ρ', cs') => ∀ σ' G' H' bs, Off is σ σ' → Ext G G' → as <+: bs → Rp G' H' bs cs' Fm → Sl G' bs σ' ρ' → Q σ' H'
  | none => False
/-- a target: a value comes, the slots and cells go on -/
def DG (X : Cx) (tg : Expr) (is : List Nat) (g : TgF) : Prop :=
  ∃ t : TG, PG X tg t ∧ ∀ (G H : Hp) (as : List Addr) (cs : List Cel) (Fm : Hp) (σ : L2.St) (ρ : Evn) (v : V) (w : D) (Q : L2.St → Hp → Prop), Rp G H as cs Fm → Sl G as σ ρ → Rep G as v w → PoG G as Fm is σ Q (g w ρ cs) → t v σ H Q
def DGs (X : Cx) (tgs : List Expr) (is : List Nat) (g : TgsF) : Prop :=
  ∃ t : TGs, PGs X tgs t ∧ ∀ (G H : Hp) (as : List Addr) (cs : List Cel) (Fm : Hp) (σ : L2.St) (ρ : Evn) (vs : List V) (ws : List D) (Q : L2.St → Hp → Prop), Rp G H as cs Fm → Sl G as σ ρ → Reps G as vs ws → PoG G as Fm is σ Q (g ws ρ cs) → t vs σ H Q
def tgName (i : Nat) : TgF := fun w ρ cs => some (ρ.set i (some w), cs)
theorem off_set (i : Nat) (σ : L2.St) (o : Option V) : Off [i] σ (σ.set i o) := ⟨by simp, fun j hj => by rw [List.getElem?_set_ne (by simpa [eq_comm] using hj)]⟩
theorem dg_name {i : Nat} {x : Str} {pos : Pos} (hN : X.N.Nodup) (hi : X.N[i]? = some x := by rfl) (hx : Loc X.env.scope x := by first | exact Or.inl rfl | exact Or.inr rfl) (hf : X.fn x = true ∨ X.env.scope.names.lookup x = some .local := by first | exact .inl rfl | exact .inr rfl) : DG X (.Name x pos) [i] (tgName i) :=
  ⟨_, pg_name hN hi hx hf, fun G H as cs Fm σ ρ v w Q R S r h => h _ G H as (off_set i σ _) (Ext.refl _) (List.prefix_refl _) R (S.set r)⟩
def tgNil : TgsF := fun ws ρ cs => match ws with
  | [] => some (ρ, cs)
  | _ => none
def tgCons (f : TgF) (g : TgsF) : TgsF := fun ws ρ cs => match ws with
  | w :: r => match f w ρ cs with
    | some (ρ', cs') => g r ρ' cs'
    | none => none
  | [] => none
theorem dgs_nil : DGs X [] [] tgNil := by
  refine ⟨_, pgs_nil, fun G H as cs Fm σ ρ vs ws Q R S r h => ?_⟩
  unfold tgNil at h
  cases r with
  | nil => exact ⟨rfl, h σ G H as (Off.refl _ _) (Ext.refl _) (List.prefix_refl _) R S⟩
  | cons r t => exact h.elim
theorem dgs_cons {e : Expr} {es : List Expr} {is js : List Nat} {f : TgF} {g : TgsF} (h1 : DG X e is f) (h2 : DGs X es js g) (hs : (assignEach (e :: es) X.env).map (·.2) = assign e X.env :: (assignEach es X.env).map (·.2) := by rfl) : DGs X (e :: es) (is ++ js) (tgCons f g) := by
  obtain ⟨t, p, q⟩ := h1
  obtain ⟨u, p2, q2⟩ := h2
  refine ⟨_, pgs_cons p p2 hs, fun G H as cs Fm σ ρ vs ws Q R S r h => ?_⟩
  cases r with
  | nil => exact h.elim
  | cons r rr =>
    rename_i v w vs' ws'
    refine ⟨v, vs', rfl, q G H as cs Fm σ ρ v w _ R S r ?_⟩
    unfold tgCons at h
    cases e1 : f w ρ cs with
    | none => simp only [e1] at h; exact h.elim
    | some z =>
      obtain ⟨ρ', cs'⟩ := z
      simp only [e1] at h
      intro σ' G' H' bs o x p r' s'
      refine q2 G' H' bs cs' Fm σ' ρ' vs' ws' Q r' s' (rr.ext x p) ?_
      cases e2 : g ws' ρ' cs' with
      | none => rw [e2] at h; exact h.elim
      | some z2 =>
        obtain ⟨ρ2, cs2⟩ := z2
        rw [e2] at h
        intro σ2 G2 H2 bs2 o2 x2 p2' r2 s2
        exact h σ2 G2 H2 bs2 (o.trans o2) (x.trans x2) (p.trans p2') r2 s2
end
end MW

set_option Elab.async false
set_option linter.all false
set_option maxRecDepth 100000
/-! MwDict: dicts as data: look up, in, put; subscripts, slices, stores. -/
namespace MW
open PySem PySem.Spec PyProof.Rows L2

mutual
/-- keys are the same -/
def eqk : D → D → Bool
  | .int i, .int j => decide (i = j)
  | .str a, .str b => decide (a = b)
  | .tup as, .tup bs => eqks as bs
  | _, _ => false
def eqks : List D → List D → Bool
  | [], [] => true
  | a :: as, b :: bs => eqk a b && eqks as bs
  | _, _ => false
end
def flatK : D → Bool
  | .int _ => true | .str _ => true
  | _ => false
/-- a key of such a dict -/
def okK : Bool → D → Bool
  | false, d => flatK d
  | true, .tup ds => ds.all flatK
  | true, _ => false
def look : List D → List D → D → Option D
  | k :: ks, v :: vs, y => if eqk k y = true then some v else look ks vs y
  | _, _, _ => none
def hasK (ks : List D) (y : D) : Bool := ks.any fun k => eqk k y
def putV : List D → List D → D → D → List D
  | k :: ks, v :: vs, y, z => if eqk k y = true then z :: putV ks vs y z else v :: putV ks vs y z
  | _, _, _, _ => []
/-- the dict behind d[y] = z -/
def putD (ks vs : List D) (y z : D) : List D × List D := if hasK ks y = true then (ks, putV ks vs y z) else (ks ++ [y], vs ++ [z])

theorem flatK_of {d : D} (h : flatK d = true) : ∃ k : Key, d = kD k := by
  cases d with
  | int i => exact ⟨.inl i, rfl⟩
  | str x => exact ⟨.inr x, rfl⟩
  | _ => cases h
theorem flatKs_of : ∀ {ds : List D}, ds.all flatK = true → ∃ ks : List Key, ds = ks.map kD
  | [], _ => ⟨[], rfl⟩
  | d :: ds, h => by
    rw [List.all_cons, Bool.and_eq_true] at h
    obtain ⟨k, rfl⟩ := flatK_of h.1
    obtain ⟨ks, rfl⟩ := flatKs_of h.2
    exact ⟨k :: ks, rfl⟩
theorem eqk_kD (a b : Key) : eqk (kD a) (kD b) = decide (a = b) := by
  cases a with
  | inl i =>
    cases b with
    | inl j => simp [kD, eqk]
    | inr y => simp [kD, eqk]
  | inr x =>
    cases b with
    | inl j => simp [kD, eqk]
    | inr y => simp [kD, eqk]
theorem eqks_kD : ∀ (a b : List Key), eqks (a.map kD) (b.map kD) = decide (a = b)
  | [], [] => by simp [eqks]
  | [], _ :: _ => by simp [eqks]
  | _ :: _, [] => by simp [eqks]
  | a :: as, b :: bs => by
    simp only [List.map_cons, eqks, eqk_kD, eqks_kD as bs, List.cons.injEq, Bool.decide_and]
theorem eqk_tup (a b : List Key) : eqk (.tup (a.map kD)) (.tup (b.map kD)) = decide (a = b) := by
  rw [← eqks_kD]
  simp [eqk]
section
variable {G : Hp} {as : List Addr}
/-- a key's value tells the key -/
theorem Rep.key {v : V} {k : Key} (h : Rep G as v (kD k)) : v = kV k := by
  cases k with
  | inl i => exact Rep.int_of h
  | inr x => exact Rep.str_of h
theorem Reps.keys : ∀ {vs : List V} {ks : List Key}, Reps G as vs (ks.map kD) → vs = ks.map kV
  | [], [], _ => rfl
  | v :: vs, k :: ks, .cons h t => by
    rw [Rep.key h, t.keys]
    rfl
/-- generic: the dict's pairs of any keys -/
theorem look_gen {κ : Type} [DecidableEq κ] (e : κ → D) (he : ∀ a b, eqk (e a) (e b) = decide (a = b)) (k : κ) : ∀ {kvs : List (κ × V)} {ds : List D}, Reps G as (kvs.map (·.2)) ds →
    (∀ d, look (kvs.map fun p => e p.1) ds (e k) = some d → ∃ v, valV kvs k = some v ∧ Rep G as v d) ∧ (look (kvs.map fun p => e p.1) ds (e k) = none → valV kvs k = none)
  | [], [], .nil => ⟨fun d h => (by simp [look] at h), fun _ => rfl⟩
  | (a, v) :: kvs, d :: ds, .cons h t => by
    obtain ⟨i1, i2⟩ := look_gen e he k t
    simp only [List.map_cons, look, he]
    by_cases q : a = k
    · subst q
      rw [valV_pos rfl]
      simp only [decide_true, if_true]
      exact ⟨fun z hz => ⟨v, rfl, Option.some.inj hz ▸ h⟩, fun z => by cases z⟩
    · rw [valV_neg q]
      simp only [q, decide_false, Bool.false_eq_true, if_false]
      exact ⟨i1, i2⟩
theorem hasK_gen {κ : Type} [DecidableEq κ] (e : κ → D) (he : ∀ a b, eqk (e a) (e b) = decide (a = b)) (k : κ) (kvs : List (κ × V)) : hasK (kvs.map fun p => e p.1) (e k) = (valV kvs k).isSome := by
  rw [← valV_any]
  unfold hasK
  rw [List.any_map]
  congr 1
  funext p
  exact he _ _
theorem put_keys {κ : Type} [DecidableEq κ] (k : κ) (v : V) (kvs : List (κ × V)) (h : (valV kvs k).isSome = true) : (putK kvs k v).map (·.1) = kvs.map (·.1) := by
  unfold putK
  rw [if_pos (by rw [valV_any]; exact h), List.map_map]
  apply List.map_congr_left
  intro p _
  simp only [Function.comp]
  split <;> rfl
theorem put_gen {κ : Type} [DecidableEq κ] (e : κ → D) (he : ∀ a b, eqk (e a) (e b) = decide (a = b)) (k : κ) {v : V} {z : D} (r : Rep G as v z) {kvs : List (κ × V)} {ds : List D} (t : Reps G as (kvs.map (·.2)) ds) :
    (putD (kvs.map fun p => e p.1) ds (e k) z).1 = (putK kvs k v).map (fun p => e p.1) ∧ Reps G as ((putK kvs k v).map (·.2)) (putD (kvs.map fun p => e p.1) ds (e k) z).2 := by
  unfold putD
  rw [hasK_gen e he]
  cases q : (valV kvs k).isSome with
  | true =>
    rw [if_pos rfl]
    have h1 := put_keys k v kvs q
    refine ⟨?_, ?_⟩
    · have h2 : (putK kvs k v).map (fun p => e p.1) = ((putK kvs k v).map (·.1)).map e := by rw [List.map_map]; rfl
      rw [h2, h1, List.map_map]
      rfl
    · unfold putK
      rw [if_pos (by rw [valV_any]; exact q)]
      clear q h1
      induction kvs generalizing ds with
      | nil =>
        cases t
        exact .nil
      | cons p kvs ih =>
        obtain ⟨a, u⟩ := p
        cases t with
        | cons h t =>
          simp only [List.map_cons, putV, he]
          by_cases q : a = k
          · subst q
            simp only [decide_true, if_true]
            exact .cons r (ih t)
          · simp only [q, decide_false, Bool.false_eq_true, if_false]
            exact .cons h (ih t)
  | false =>
    rw [if_neg Bool.false_ne_true]
    have h1 : putK kvs k v = kvs ++ [(k, v)] := putK_new v (by cases hv : valV kvs k with
      | none => rfl
      | some x => rw [hv] at q; cases q)
    rw [h1, List.map_append, List.map_append]
    exact ⟨rfl, t.append (.cons r .nil)⟩
end
section
variable {X : Cx} {W : WX} {G H : Hp} {as : List Addr} {cs : List Cel} {Fm : Hp}
theorem At.dic_of {v : V} {t : Bool} {ks ds : List D} (h : At G H as v (.dic t ks ds)) :
    (t = false ∧ ∃ a kvs, v = .ref a ∧ Sd H a (.dK kvs) ∧ ks = kvs.map (fun p => kD p.1) ∧ Reps G as (kvs.map (·.2)) ds) ∨
    (t = true ∧ ∃ a kvs, v = .ref a ∧ Sd H a (.dT kvs) ∧ ks = kvs.map (fun p => .tup (p.1.map kD)) ∧ Reps G as (kvs.map (·.2)) ds) := by
  cases h with
  | ref h r =>
    cases r with
    | dK r => exact .inl ⟨rfl, _, _, rfl, h, rfl, r⟩
    | dT r => exact .inr ⟨rfl, _, _, rfl, h, rfl, r⟩
/-- a tuple of keys as it stands -/
theorem Rp.tupkey (R : Rp G H as cs Fm) {y : V} {ks : List Key} (h : Rep G as y (.tup (ks.map kD))) : ∃ b, y = .ref b ∧ H b = some (.tup (ks.map kV)) := by
  cases h with
  | ref h r =>
    cases r with
    | tup r =>
      have e := Reps.keys r
      subst e
      exact ⟨_, rfl, (R.fits _ _ h).no rfl⟩
/-- what the dict at v holds at y -/
theorem dget_of (R : Rp G H as cs Fm) {v y : V} {t : Bool} {ks ds : List D} {k : D} (h : At G H as v (.dic t ks ds)) (ry : Rep G as y k) (ok : okK t k = true) :
    ∃ a o, v = .ref a ∧ DGet H a y o ∧ (∀ d, look ks ds k = some d → ∃ u, o = some u ∧ Rep G as u d) ∧ (look ks ds k = none → o = none) ∧ hasK ks k = o.isSome := by
  rcases h.dic_of with ⟨rfl, a, kvs, rfl, hs, rfl, r⟩ | ⟨rfl, a, kvs, rfl, hs, rfl, r⟩
  · obtain ⟨q, rfl⟩ := flatK_of ok
    have e := Rep.key ry
    subst e
    obtain ⟨i1, i2⟩ := look_gen (fun k => kD k) eqk_kD q r
    exact ⟨a, _, rfl, .inl ⟨kvs, q, hs.rd, rfl, rfl⟩, i1, i2, hasK_gen (fun k => kD k) eqk_kD q kvs⟩
  · cases k with
    | tup zs =>
      obtain ⟨q, rfl⟩ := flatKs_of (by simpa [okK] using ok)
      obtain ⟨b, rfl, hb⟩ := R.tupkey ry
      obtain ⟨i1, i2⟩ := look_gen (fun k => .tup (k.map kD)) eqk_tup q r
      exact ⟨a, _, rfl, .inr ⟨kvs, q, b, hs.rd, rfl, hb, rfl⟩, i1, i2, hasK_gen (fun k => .tup (k.map kD)) eqk_tup q kvs⟩
    | _ => cases ok

/-! ### x[i] -/
def gIx : F2 := fun x y cs => match vw cs x, y with
  | some (.lst ds), .int i => match atI ds i with
    | some d => ret d cs
    | none => none
  | some (.tup ds), .int i => match atI ds i with
    | some d => ret d cs
    | none => none
  | some (.str z), .int i => if z.length ≤ sizeLine then match atI z.cps.toList i with
    | some c => ret (.str ⟨#[c]⟩) cs
    | none => none
    else none
  | _, _ => none
theorem Reps.atI {vs : List V} {ds : List D} {i : Int} {d : D} (r : Reps G as vs ds) (h : L2.atI ds i = some d) : ∃ v, L2.atI vs i = some v ∧ Rep G as v d := by
  unfold L2.atI at h ⊢
  rw [r.length]
  cases e : ixN ds.length i with
  | none => rw [e] at h; cases h
  | some j =>
    rw [e] at h
    exact r.getD h
def IxD (X : Cx) (g : F2) : Prop :=
  ∃ r : R2, IxR X r ∧ ∀ (G H : Hp) (as : List Addr) (cs : List Cel) (Fm : Hp) (x y : V) (wx wy : D) (Q : VK) (E : XK), Rp G H as cs Fm → Rep G as x wx → Rep G as y wy → PoE G as Fm Q E (g wx wy cs) → r x y H Q
theorem ixd_seq : IxD X gIx := by
  refine ⟨_, ix_seq, fun G H as cs Fm x y wx wy Q E R rx ry h => ?_⟩
  unfold gIx at h
  split at h
  · rename_i ds i e1
    obtain ⟨p, vs, rfl, hp, r1⟩ := (R.view rx e1).lst_of
    have := Rep.int_of ry
    subst this
    split at h
    · rename_i d e3
      obtain ⟨v, hv, rv⟩ := r1.atI e3
      exact .inl ⟨p, vs, i, v, rfl, rfl, SqL.of hp, hv, h.same R rv⟩
    · exact h.elim
  · rename_i ds i e1
    obtain ⟨p, vs, rfl, hp, r1⟩ := (R.view rx e1).tup_of
    have := Rep.int_of ry
    subst this
    split at h
    · rename_i d e3
      obtain ⟨v, hv, rv⟩ := r1.atI e3
      exact .inr (.inl ⟨p, vs, i, v, rfl, rfl, SqT.of hp, hv, h.same R rv⟩)
    · exact h.elim
  · rename_i z i e1
    have := (R.view rx e1).str_of
    subst this
    have := Rep.int_of ry
    subst this
    split at h
    · rename_i hl
      split at h
      · rename_i c e3
        exact .inr (.inr ⟨z, i, c, rfl, rfl, hl, e3, h.same R (Rep.str _)⟩)
      · exact h.elim
    · exact h.elim
  · exact h.elim
theorem de_ix {a b : Expr} {fa fb : EF} {pos : Pos} (ha : DE X W a fa) (hb : DE X W b fb) (hs : PlainIx b := by exact fun _ _ => rfl) : DE X W (.Subscript a b pos) (fOp gIx fa fb) := by
  obtain ⟨r, hr, hg⟩ := ixd_seq (X := X)
  obtain ⟨ta, pa, qa⟩ := ha
  obtain ⟨tb, pb, qb⟩ := hb
  refine ⟨_, pe_ix hr pa pb hs, fun G H as cs Fm σ ρ Q R S h => ?_⟩
  refine qa G H as cs Fm σ ρ _ R S (Po.first h fun v w G1 H1 bs cs1 x1 p1 R1 w1 h1 => ?_)
  refine qb G1 H1 bs cs1 Fm σ ρ _ R1 (S.ext x1 p1) (Po.first h1 fun v2 w2 G2 H2 bs2 cs2 x2 p2 R2 r2 h2 => ?_)
  exact hg G2 H2 bs2 cs2 Fm v v2 w w2 _ _ R2 (w1.ext x2 p2) r2 h2
/-! ### the script: a part of it, its length -/
abbrev FF := List D → Mo D
open Classical in
noncomputable def gLenS (K : PySem.W.Frag) : List D → Mo D := fun ws => match ws with
  | [.scr K' ns] => if K' = K then ret (.int ns.length) else fail
  | _ => fail
/-! ### d[k] -/
def rDg : R2 := fun x y H Q => ∃ a v, x = .ref a ∧ DGet H a y (some v) ∧ Q v H
theorem tail_dict {prog : Program} {w : World} {A : Around} {E : Value → Shared → Prop} {s : Shared} {value slice : Expr} {o i : Value} {T id : String} {Q : Value → Shared → Prop} (hT : s.TypeIs o T) (hl : typeLookup (.type T) "__getitem__" = pure (some (.builtin id)))
    (h : wpAny (model prog w) A (getItem o i) Q E s) (hs : subscripted slice false o i = operate [o, i] (getItem o i)) : wpAny (model prog w) A (subscriptTail value slice o i) Q E s := by
  have last : wpAny (model prog w) A (subscripted slice false o i) (fun r s₃ => wpAny (model prog w) A (letTemporaryGo value o r >>= fun _ => pure r) Q E s₃) E s := by
    rw [hs]
    refine wpAny_operating (wpAny_mono h (fun r s₃ h₃ => ?_) fun _ _ x => x)
    exact wpAny_bind (wpAny_letTemporaryGo (wpAny_pure h₃))
  unfold subscriptTail
  refine wpAny_bind ?_
  rw [getitemInPython_of_ne hT.not_modules]
  refine wpAny_bind (wpAny_specialOf hT hl ?_)
  first
    | exact wpAny_bind last
    | exact wpAny_pure (wpAny_bind last)
    | exact wpAny_bind (wpAny_pure (wpAny_bind last))
theorem ix_dict {k : Nat} (hr : Room k X.A) : IxR X rDg := by
  intro value slice pins s σ H x y v u Q I r1 r2 ⟨a, w, hx, hg, q⟩ hs
  subst hx
  cases r1
  exact tail_dict (dict_typeIs I hg) PySem.F.slot_dict_getitem.lookup (d_getItem (hu_of hr) I hg r2 fun w' s' I' rw' => ⟨w, H, I', rw', q⟩) hs
/-- x[i] of a list, a tuple, a text, a dict -/
def gAt : F2 := fun x y cs => match vw cs x with
  | some (.dic t ks vs) => if okK t y = true then match look ks vs y with
    | some d => ret d cs
    | none => none
    else none
  | _ => gIx x y cs
theorem ixd_at {k : Nat} (hr : Room k X.A) : IxD X gAt := by
  obtain ⟨r, hr1, hg1⟩ := ixd_seq (X := X)
  refine ⟨_, hr1.or (ix_dict hr), fun G H as cs Fm x y wx wy Q E R rx ry h => ?_⟩
  unfold gAt at h
  split at h
  · rename_i t ks ds e1
    split at h
    · rename_i ok
      split at h
      · rename_i d e3
        obtain ⟨a, o, rfl, hg, h5, _, _⟩ := dget_of R (R.view rx e1) ry ok
        obtain ⟨u, rfl, ru⟩ := h5 d e3
        exact .inr ⟨a, u, rfl, hg, PoE.same h R ru⟩
      · exact h.elim
    · exact h.elim
  · exact .inl (hg1 G H as cs Fm x y wx wy Q E R rx ry h)
theorem de_at {k : Nat} {a b : Expr} {fa fb : EF} {pos : Pos} (hk : Room k X.A) (ha : DE X W a fa) (hb : DE X W b fb) (hs : PlainIx b := by exact fun _ _ => rfl) : DE X W (.Subscript a b pos) (fOp gAt fa fb) := by
  obtain ⟨r, hr, hg⟩ := ixd_at hk
  obtain ⟨ta, pa, qa⟩ := ha
  obtain ⟨tb, pb, qb⟩ := hb
  refine ⟨_, pe_ix hr pa pb hs, fun G H as cs Fm σ ρ Q R S h => ?_⟩
  refine qa G H as cs Fm σ ρ _ R S (Po.first h fun v w G1 H1 bs cs1 x1 p1 R1 w1 h1 => ?_)
  refine qb G1 H1 bs cs1 Fm σ ρ _ R1 (S.ext x1 p1) (Po.first h1 fun v2 w2 G2 H2 bs2 cs2 x2 p2 R2 r2 h2 => ?_)
  exact hg G2 H2 bs2 cs2 Fm v v2 w w2 _ _ R2 (w1.ext x2 p2) r2 h2
def gDg : F2 := fun x y cs => match vw cs x with
  | some (.dic t ks vs) => if okK t y = true then match look ks vs y with
    | some d => ret d cs
    | none => none
    else none
  | _ => none
theorem de_dg {k : Nat} {o i : Expr} {fo fi : EF} {pos : Pos} (hr : Room k X.A) (ho : DE X W o fo) (hi : DE X W i fi) (hs : NoSl i := by exact fun _ _ => rfl) : DE X W (.Subscript o i pos) (fOp gDg fo fi) := by
  obtain ⟨ta, pa, qa⟩ := ho
  obtain ⟨tb, pb, qb⟩ := hi
  refine ⟨_, pe_dget (hu_of hr) pa pb hs, fun G H as cs Fm σ ρ Q R S h => ?_⟩
  refine qa G H as cs Fm σ ρ _ R S (Po.first h fun v w G1 H1 bs cs1 x1 p1 R1 w1 h1 => ?_)
  refine qb G1 H1 bs cs1 Fm σ ρ _ R1 (S.ext x1 p1) (Po.first h1 fun v2 w2 G2 H2 bs2 cs2 x2 p2 R2 r2 h2 => ?_)
  unfold gDg at h2
  split at h2
  · rename_i t ks ds e1
    split at h2
    · rename_i ok
      split at h2
      · rename_i d e3
        obtain ⟨a, o, rfl, hg, h5, _, _⟩ := dget_of R2 (R2.view (w1.ext x2 p2) e1) r2 ok
        obtain ⟨u, rfl, ru⟩ := h5 d e3
        exact ⟨a, u, rfl, hg, PoE.same h2 R2 ru⟩
      · exact h2.elim
    · exact h2.elim
  · exact h2.elim

/-! ### in -/
def rDin : R2 := fun x y H Q => ∃ a o, y = .ref a ∧ DGet H a x o ∧ Q (.bl o.isSome) H
def rDnin : R2 := fun x y H Q => ∃ a o, y = .ref a ∧ DGet H a x o ∧ Q (.bl (!o.isSome)) H
theorem op_in_dic {k : Nat} (hr : Room k X.A) : OpR X (compareOp .In) rDin := by
  intro pins s σ H x y v u Q I r1 r2 ⟨a, o, hy, g, q⟩
  subst hy
  cases r2
  exact d_in (hu_of hr) I g r1 fun s' I' => ⟨.bl _, H, I', rfl, q⟩
theorem op_nin_dic {k : Nat} (hr : Room k X.A) : OpR X (compareOp .NotIn) rDnin := by
  intro pins s σ H x y v u Q I r1 r2 ⟨a, o, hy, g, q⟩
  subst hy
  cases r2
  exact d_notIn (hu_of hr) I g r1 fun s' I' => ⟨.bl _, H, I', rfl, q⟩
/-- flat things: what list membership tells apart by itself -/
def flatD : D → Bool
  | .non => true | .bl _ => true | .int _ => true | .str _ => true
  | _ => false
def flV : D → V
  | .non => .non | .bl b => .bl b | .int i => .int i | .str x => .str x
  | _ => .non
theorem Rep.flat {v : V} {d : D} (h : Rep G as v d) (f : flatD d = true) : v = flV d ∧ flatV v = true := by
  cases d with
  | non => rw [Rep.non_of h]; exact ⟨rfl, rfl⟩
  | bl b => rw [Rep.bl_of h]; exact ⟨rfl, rfl⟩
  | int i => rw [Rep.int_of h]; exact ⟨rfl, rfl⟩
  | str x => rw [Rep.str_of h]; exact ⟨rfl, rfl⟩
  | _ => cases f
theorem Reps.flat : ∀ {vs : List V} {ds : List D}, Reps G as vs ds → ds.all flatD = true → vs = ds.map flV ∧ vs.all flatV = true
  | _, _, .nil, _ => ⟨rfl, rfl⟩
  | _, _, .cons h t, f => by
    rw [List.all_cons, Bool.and_eq_true] at f
    obtain ⟨e1, e2⟩ := h.flat f.1
    obtain ⟨e3, e4⟩ := t.flat f.2
    exact ⟨by rw [e1, e3]; rfl, by rw [List.all_cons, e2, e4]; rfl⟩
def inD (x : D) (ds : List D) : Bool := inV (flV x) (ds.map flV)
def gIn : F2 := fun x y cs => match vw cs y with
  | some (.dic t ks vs) => if okK t x = true then ret (.bl (hasK ks x)) cs else none
  | some (.lst ds) => if flatD x = true ∧ ds.all flatD = true then ret (.bl (inD x ds)) cs else none
  | some (.tup ds) => if flatD x = true ∧ ds.all flatD = true then ret (.bl (inD x ds)) cs else none
  | _ => none
def gNin : F2 := fun x y cs => match vw cs y with
  | some (.dic t ks vs) => if okK t x = true then ret (.bl (!hasK ks x)) cs else none
  | some (.lst ds) => if flatD x = true ∧ ds.all flatD = true then ret (.bl (!inD x ds)) cs else none
  | some (.tup ds) => if flatD x = true ∧ ds.all flatD = true then ret (.bl (!inD x ds)) cs else none
  | _ => none
theorem od_in {k : Nat} (hr : Room k X.A) : OpD X (compareOp .In) gIn := by
  refine ⟨_, (op_in_dic hr).or op_in_seq, fun G H as cs Fm x y wx wy Q E R rx ry h => ?_⟩
  unfold gIn at h
  split at h
  · rename_i t ks vs e
    split at h
    · rename_i ok
      obtain ⟨a, o, rfl, hg, _, _, h7⟩ := dget_of R (R.view ry e) rx ok
      exact .inl ⟨a, o, rfl, hg, by rw [← h7]; exact h.same R (Rep.bl _)⟩
    · exact h.elim
  · rename_i ds e
    split at h
    · rename_i ok
      obtain ⟨p, vs, rfl, hp, r1⟩ := (R.view ry e).lst_of
      obtain ⟨e1, e2⟩ := rx.flat ok.1
      obtain ⟨e3, e4⟩ := r1.flat ok.2
      exact .inr ⟨p, vs, rfl, .inl (SqL.of hp), e2, e4, by rw [e1, e3]; exact h.same R (Rep.bl _)⟩
    · exact h.elim
  · rename_i ds e
    split at h
    · rename_i ok
      obtain ⟨p, vs, rfl, hp, r1⟩ := (R.view ry e).tup_of
      obtain ⟨e1, e2⟩ := rx.flat ok.1
      obtain ⟨e3, e4⟩ := r1.flat ok.2
      exact .inr ⟨p, vs, rfl, .inr (SqT.of hp), e2, e4, by rw [e1, e3]; exact h.same R (Rep.bl _)⟩
    · exact h.elim
  · exact h.elim
theorem od_nin {k : Nat} (hr : Room k X.A) : OpD X (compareOp .NotIn) gNin := by
  refine ⟨_, (op_nin_dic hr).or op_notIn_seq, fun G H as cs Fm x y wx wy Q E R rx ry h => ?_⟩
  unfold gNin at h
  split at h
  · rename_i t ks vs e
    split at h
    · rename_i ok
      obtain ⟨a, o, rfl, hg, _, _, h7⟩ := dget_of R (R.view ry e) rx ok
      exact .inl ⟨a, o, rfl, hg, by rw [← h7]; exact h.same R (Rep.bl _)⟩
    · exact h.elim
  · rename_i ds e
    split at h
    · rename_i ok
      obtain ⟨p, vs, rfl, hp, r1⟩ := (R.view ry e).lst_of
      obtain ⟨e1, e2⟩ := rx.flat ok.1
      obtain ⟨e3, e4⟩ := r1.flat ok.2
      exact .inr ⟨p, vs, rfl, .inl (SqL.of hp), e2, e4, by rw [e1, e3]; exact h.same R (Rep.bl _)⟩
    · exact h.elim
  · rename_i ds e
    split at h
    · rename_i ok
      obtain ⟨p, vs, rfl, hp, r1⟩ := (R.view ry e).tup_of
      obtain ⟨e1, e2⟩ := rx.flat ok.1
      obtain ⟨e3, e4⟩ := r1.flat ok.2
      exact .inr ⟨p, vs, rfl, .inr (SqT.of hp), e2, e4, by rw [e1, e3]; exact h.same R (Rep.bl _)⟩
    · exact h.elim
  · exact h.elim
end
end MW

set_option Elab.async false
set_option linter.all false
set_option maxRecDepth 100000
/-! MwCall: slices, built-ins, methods of built-in types, attributes, defs of one's own and their calls. -/
namespace MW
open PySem PySem.Spec PyProof.Rows L2

section
variable {X : Cx} {W : WX}
/-! ### slices -/
abbrev OF := Evn → Mo (Option Int)
abbrev PoO := @Po (Option Int) (Option Int) (fun _ _ a b => a = b)
def DO (X : Cx) (W : WX) (e : Option Expr) (f : OF) : Prop :=
  ∃ t : TO, PO X e t ∧ ∀ (G H : Hp) (as : List Addr) (cs : List Cel) (Fm : Hp) (σ : L2.St) (ρ : Evn) Q, Rp G H as cs Fm → Sl G as σ ρ → PoO G as Fm Q (fun c d H' => W c d σ H') (f ρ cs) → t σ H Q
def oNone : OF := fun _ => ret none
def asI : D → Mo (Option Int) := fun d => match d with
  | .int i => ret (some i)
  | _ => fail
def oSome (f : EF) : OF := fun ρ => bnd (f ρ) asI
theorem do_none : DO X W none oNone := ⟨_, po_none, fun G H as cs Fm σ ρ Q R S h => h none G H as (Ext.refl _) (List.prefix_refl _) R rfl⟩
theorem do_some {e : Expr} {f : EF} (h : DE X W e f) : DO X W (some e) (oSome f) := by
  obtain ⟨t, p, q⟩ := h
  refine ⟨_, po_some p, fun G H as cs Fm σ ρ Q R S h => ?_⟩
  refine q G H as cs Fm σ ρ _ R S (Po.first h fun v w G1 H1 bs cs1 x1 p1 R1 w1 h1 => ?_)
  unfold asI at h1
  split at h1
  · rename_i i
    exact ⟨i, Rep.int_of w1, h1 (some i) G1 H1 bs (Ext.refl _) (List.prefix_refl _) R1 rfl⟩
  · exact h1.elim
/-- the part of a list -/
def cutD {α : Type} (xs : List α) (lo hi : Option Int) : List α := (xs.drop (HT.sIx xs.length 0 lo)).take (HT.sIx xs.length xs.length hi - HT.sIx xs.length 0 lo)
def gSl (x : D) (lo hi : Option Int) : Mo D := fun cs => match vw cs x with
  | some (.lst ds) => ret (.lst (cutD ds lo hi)) cs
  | some (.str z) => if z.length ≤ sizeLine then ret (.str (cutS z lo hi)) cs else none
  | some (.tup ds) => if HT.sIx ds.length 0 lo = 0 ∧ HT.sIx ds.length ds.length hi = ds.length then none else ret (.tup (cutD ds lo hi)) cs
  | _ => none
theorem Reps.cut {G : Hp} {as : List Addr} {vs : List V} {ds : List D} (r : Reps G as vs ds) (lo hi : Option Int) : Reps G as (cutV vs lo hi) (cutD ds lo hi) := by
  unfold cutV cutD
  rw [r.length]
  exact (r.drop _).take _
def fSl (f : EF) (l h : OF) : EF := fun ρ => bnd (f ρ) fun x => bnd (l ρ) fun lo => bnd (h ρ) fun hi => gSl x lo hi
theorem de_sl {e : Expr} {lo hi : Option Expr} {f : EF} {l h : OF} {p2 pos : Pos} (he : DE X W e f) (hl : DO X W lo l) (hh : DO X W hi h) : DE X W (.Subscript e (.Slice lo hi none p2) pos) (fSl f l h) := by
  obtain ⟨t, p, q⟩ := he
  obtain ⟨tl, pl, ql⟩ := hl
  obtain ⟨th, ph, qh⟩ := hh
  refine ⟨_, pe_slice (sl_list.or (sl_str.or sl_tup)) p pl ph, fun G H as cs Fm σ ρ Q R S h => ?_⟩
  refine q G H as cs Fm σ ρ _ R S (Po.first h fun v w G1 H1 bs cs1 x1 p1 R1 w1 h1 => ?_)
  refine ql G1 H1 bs cs1 Fm σ ρ _ R1 (S.ext x1 p1) (Po.first h1 fun v2 w2 G2 H2 bs2 cs2 x2 p2 R2 r2 h2 => ?_)
  subst r2
  refine qh G2 H2 bs2 cs2 Fm σ ρ _ R2 ((S.ext x1 p1).ext x2 p2) (Po.first h2 fun v3 w3 G3 H3 bs3 cs3 x3 p3 R3 r3 h3 => ?_)
  subst r3
  have w3 := (w1.ext x2 p2).ext x3 p3
  unfold gSl at h3
  split at h3
  · rename_i ds e
    obtain ⟨a, vs, rfl, ha, r⟩ := (R3.view w3 e).lst_of
    exact .inl ⟨a, vs, rfl, SqL.of ha, fun p hp => PoE.new h3 R3 hp (fun _ _ => nofun) (.lst (r.cut _ _))⟩
  · rename_i z e
    have := (R3.view w3 e).str_of
    subst this
    split at h3
    · rename_i hl
      exact .inr (.inl ⟨z, rfl, hl, PoE.same h3 R3 (Rep.str _)⟩)
    · exact h3.elim
  · rename_i ds e
    obtain ⟨a, vs, rfl, ha, r⟩ := (R3.view w3 e).tup_of
    split at h3
    · exact h3.elim
    · rename_i hn
      exact .inr (.inr ⟨a, vs, rfl, SqT.of ha, by rw [r.length]; exact hn, fun p hp => PoE.new h3 R3 hp (fun _ _ => nofun) (.tup (r.cut _ _))⟩)
  · exact h3.elim
/-! a part of the script -/
open Classical in
noncomputable def gSlS (K : PySem.W.Frag) (x : D) (lo hi : Option Int) : Mo D := match x with
  | .scr K' ns => if K' = K then ret (.lst ((cutD ns lo hi).map D.int)) else fail
  | _ => fail
noncomputable def fSlS (K : PySem.W.Frag) (f : EF) (l h : OF) : EF := fun ρ => bnd (f ρ) fun x => bnd (l ρ) fun lo => bnd (h ρ) fun hi => gSlS K x lo hi
theorem reps_ints {G : Hp} {as : List Addr} : ∀ ns : List Int, Reps G as (ns.map V.int) (ns.map D.int)
  | [] => .nil
  | n :: ns => .cons (.int n) (reps_ints ns)
theorem cut_map (ns : List Int) (lo hi : Option Int) : cutV (ns.map V.int) lo hi = (cutD ns lo hi).map V.int := by
  unfold cutV cutD
  rw [List.length_map, List.map_take, List.map_drop]
theorem de_slS {e : Expr} {lo hi : Option Expr} {f : EF} {l h : OF} {p2 pos : Pos} (he : DE X W e f) (hl : DO X W lo l) (hh : DO X W hi h) : DE X W (.Subscript e (.Slice lo hi none p2) pos) (fSlS X.K f l h) := by
  obtain ⟨t, p, q⟩ := he
  obtain ⟨tl, pl, ql⟩ := hl
  obtain ⟨th, ph, qh⟩ := hh
  refine ⟨_, pe_slice sl_list p pl ph, fun G H as cs Fm σ ρ Q R S h => ?_⟩
  refine q G H as cs Fm σ ρ _ R S (Po.first h fun v w G1 H1 bs cs1 x1 p1 R1 w1 h1 => ?_)
  refine ql G1 H1 bs cs1 Fm σ ρ _ R1 (S.ext x1 p1) (Po.first h1 fun v2 w2 G2 H2 bs2 cs2 x2 p2 R2 r2 h2 => ?_)
  subst r2
  refine qh G2 H2 bs2 cs2 Fm σ ρ _ R2 ((S.ext x1 p1).ext x2 p2) (Po.first h2 fun v3 w3 G3 H3 bs3 cs3 x3 p3 R3 r3 h3 => ?_)
  subst r3
  have w3 := (w1.ext x2 p2).ext x3 p3
  unfold gSlS at h3
  split at h3
  · rename_i K' ns
    split at h3
    · rename_i hK
      subst hK
      have A := R3.at_rep w3 (fun _ => nofun)
      cases A with
      | ref h r => cases r
      | scr hs => exact ⟨_, _, rfl, hs, fun p hp => PoE.new h3 R3 hp (fun _ _ => nofun) (by rw [cut_map]; exact .lst (reps_ints _))⟩
    · exact h3.elim
  · exact h3.elim
/-- xs[::-1] -/
def gRev : D → Mo D := fun x cs => match vw cs x with
  | some (.lst ds) => ret (.lst ds.reverse) cs
  | _ => none
theorem de_rev {e : Expr} {f : EF} {k : Nat} {p1 p2 p3 pos : Pos} (he : DE X W e f) : DE X W (.Subscript e (.Slice none none (some (.UnaryOp .USub (.Constant (.int 1) k p1) p2)) p3) pos) (fUn gRev f) := by
  obtain ⟨t, p, q⟩ := he
  refine ⟨_, pe_revL p, fun G H as cs Fm σ ρ Q R S h => ?_⟩
  refine q G H as cs Fm σ ρ _ R S (Po.first h fun v w G1 H1 bs cs1 x1 p1 R1 w1 h1 => ?_)
  unfold gRev at h1
  split at h1
  · rename_i ds e
    obtain ⟨a, vs, rfl, ha, r⟩ := (R1.view w1 e).lst_of
    exact ⟨a, vs, rfl, SqL.of ha, fun p hp => PoE.new h1 R1 hp (fun _ _ => nofun) (.lst r.reverse)⟩
  · exact h1.elim

/-! ### built-ins by name -/
def CallD (X : Cx) (f : Value) (g : FF) : Prop :=
  ∃ r : List V → Hp → VK → Prop, CallR X f r ∧ ∀ (G H : Hp) (as : List Addr) (cs : List Cel) (Fm : Hp) (vs : List V) (ws : List D) (Q : VK) (E : XK), Rp G H as cs Fm → Reps G as vs ws → PoE G as Fm Q E (g ws cs) → r vs H Q
def fCall (g : FF) (fa : AF) : EF := fun ρ => bnd (fa ρ) g
theorem de_callB {id : String} {g : FF} {x : Str} {p pos : Pos} {e : Expr} {es : List Expr} {fa : AF} (hc : CallD X (.builtin id) g) (hm : X.mg x = none) (ha : DA X W (e :: es) fa) (hv : bootBuiltins x = some (.builtin id) := by decide +kernel) (hg : Gl X x := by rfl)
    (hn : x ≠ "__name__" := by decide) (hdb : (x == ("__debug__" : Str)) = false := by decide) (hs : starEach (e :: es) X.env = (false, eval e X.env) :: starEach es X.env := by rfl)
    (hpl : (backTo pos (starEach es X.env)).any (·.1) = false := by rfl) : DE X W (.Call (.Name x p) (e :: es) [] pos) (fCall g fa) := by
  obtain ⟨r, hr, hq⟩ := hc
  obtain ⟨t, pa, q⟩ := ha
  refine ⟨_, pe_callB hr hg hm hv pa hn hdb hs hpl, fun G H as cs Fm σ ρ Q R S h => ?_⟩
  exact q G H as cs Fm σ ρ _ R S (Po.first h fun v w G1 H1 bs cs1 x1 p1 R1 w1 h1 => hq G1 H1 bs cs1 Fm v w _ _ R1 w1 h1)
theorem de_callTy {T : String} {g : FF} {x : Str} {p pos : Pos} {e : Expr} {es : List Expr} {fa : AF} (hc : CallD X (.type T) g) (hm : X.mg x = none) (ha : DA X W (e :: es) fa) (hv : bootBuiltins x = some (.type T) := by decide +kernel) (hg : Gl X x := by rfl)
    (hn : x ≠ "__name__" := by decide) (hdb : (x == ("__debug__" : Str)) = false := by decide) (hs : starEach (e :: es) X.env = (false, eval e X.env) :: starEach es X.env := by rfl)
    (hpl : (backTo pos (starEach es X.env)).any (·.1) = false := by rfl) : DE X W (.Call (.Name x p) (e :: es) [] pos) (fCall g fa) := by
  obtain ⟨r, hr, hq⟩ := hc
  obtain ⟨t, pa, q⟩ := ha
  refine ⟨_, pe_callTy hr hg hm hv pa hn hdb hs hpl, fun G H as cs Fm σ ρ Q R S h => ?_⟩
  exact q G H as cs Fm σ ρ _ R S (Po.first h fun v w G1 H1 bs cs1 x1 p1 R1 w1 h1 => hq G1 H1 bs cs1 Fm v w _ _ R1 w1 h1)
section
variable {G H : Hp} {as : List Addr} {vs : List V}
theorem Reps.one {d : D} (r : Reps G as vs [d]) : ∃ v, vs = [v] ∧ Rep G as v d := by
  cases r with
  | cons h t =>
    cases t
    exact ⟨_, rfl, h⟩
theorem Reps.two {d e : D} (r : Reps G as vs [d, e]) : ∃ v u, vs = [v, u] ∧ Rep G as v d ∧ Rep G as u e := by
  cases r with
  | cons h t =>
    obtain ⟨u, rfl, hu⟩ := t.one
    exact ⟨_, u, rfl, h, hu⟩
/-- a list of plain ints, bools, texts -/
theorem Reps.ints : ∀ {vs : List V} {ns : List Int}, Reps G as vs (ns.map D.int) → vs = ns.map V.int
  | [], [], _ => rfl
  | v :: vs, n :: ns, .cons h t => by
    rw [Rep.int_of h, t.ints]
    rfl
theorem Reps.bls : ∀ {vs : List V} {ns : List Bool}, Reps G as vs (ns.map D.bl) → vs = ns.map V.bl
  | [], [], _ => rfl
  | v :: vs, n :: ns, .cons h t => by
    rw [Rep.bl_of h, t.bls]
    rfl
theorem Reps.strs : ∀ {vs : List V} {ns : List Str}, Reps G as vs (ns.map D.str) → vs = ns.map V.str
  | [], [], _ => rfl
  | v :: vs, n :: ns, .cons h t => by
    rw [Rep.str_of h, t.strs]
    rfl
end
def intsD : List D → Option (List Int)
  | [] => some []
  | .int i :: r => (intsD r).map (i :: ·)
  | _ => none
def blsD : List D → Option (List Bool)
  | [] => some []
  | .bl i :: r => (blsD r).map (i :: ·)
  | _ => none
def strsD : List D → Option (List Str)
  | [] => some []
  | .str i :: r => (strsD r).map (i :: ·)
  | _ => none
theorem intsD_of : ∀ {ds : List D} {ns : List Int}, intsD ds = some ns → ds = ns.map D.int
  | [], ns, h => by cases h; rfl
  | .int i :: r, ns, h => by
    unfold intsD at h
    cases e : intsD r with
    | none => rw [e] at h; cases h
    | some m =>
      rw [e] at h
      cases h
      rw [intsD_of e]
      rfl
theorem blsD_of : ∀ {ds : List D} {ns : List Bool}, blsD ds = some ns → ds = ns.map D.bl
  | [], ns, h => by cases h; rfl
  | .bl i :: r, ns, h => by
    unfold blsD at h
    cases e : blsD r with
    | none => rw [e] at h; cases h
    | some m =>
      rw [e] at h
      cases h
      rw [blsD_of e]
      rfl
theorem strsD_of : ∀ {ds : List D} {ns : List Str}, strsD ds = some ns → ds = ns.map D.str
  | [], ns, h => by cases h; rfl
  | .str i :: r, ns, h => by
    unfold strsD at h
    cases e : strsD r with
    | none => rw [e] at h; cases h
    | some m =>
      rw [e] at h
      cases h
      rw [strsD_of e]
      rfl
theorem intsD_map : ∀ ns : List Int, intsD (ns.map D.int) = some ns
  | [] => rfl
  | n :: ns => by rw [List.map_cons, intsD, intsD_map ns]; rfl
theorem blsD_map : ∀ ns : List Bool, blsD (ns.map D.bl) = some ns
  | [] => rfl
  | n :: ns => by rw [List.map_cons, blsD, blsD_map ns]; rfl
theorem strsD_map : ∀ ns : List Str, strsD (ns.map D.str) = some ns
  | [] => rfl
  | n :: ns => by rw [List.map_cons, strsD, strsD_map ns]; rfl

def gAll : FF := fun ws cs => match ws with
  | [w] => match vw cs w with
    | some (.lst ds) => match blsD ds with
      | some bs => ret (.bl (bs.all id)) cs
      | none => none
    | _ => none
  | _ => none
def gAny : FF := fun ws cs => match ws with
  | [w] => match vw cs w with
    | some (.lst ds) => match blsD ds with
      | some bs => ret (.bl (bs.any id)) cs
      | none => none
    | _ => none
  | _ => none
def gSum : FF := fun ws cs => match ws with
  | [w] => match vw cs w with
    | some (.lst ds) => match intsD ds with
      | some bs => ret (.int bs.sum) cs
      | none => none
    | _ => none
  | _ => none
theorem cd_all (hc : X.calm = true) : CallD X (.builtin "all") gAll := by
  refine ⟨_, cr_all hc, fun G H as cs Fm vs ws Q E R r h => ?_⟩
  unfold gAll at h
  split at h
  · split at h
    · rename_i ds e
      split at h
      · rename_i bs e2
        obtain ⟨v, rfl, rv⟩ := r.one
        obtain ⟨a, us, rfl, ha, ru⟩ := (R.view rv e).lst_of
        rw [blsD_of e2] at ru
        exact ⟨a, bs, rfl, SqL.of (by rw [← ru.bls]; exact ha), h.same R (Rep.bl _)⟩
      · exact h.elim
    · exact h.elim
  · exact h.elim
theorem cd_any (hc : X.calm = true) : CallD X (.builtin "any") gAny := by
  refine ⟨_, cr_any hc, fun G H as cs Fm vs ws Q E R r h => ?_⟩
  unfold gAny at h
  split at h
  · split at h
    · rename_i ds e
      split at h
      · rename_i bs e2
        obtain ⟨v, rfl, rv⟩ := r.one
        obtain ⟨a, us, rfl, ha, ru⟩ := (R.view rv e).lst_of
        rw [blsD_of e2] at ru
        exact ⟨a, bs, rfl, SqL.of (by rw [← ru.bls]; exact ha), h.same R (Rep.bl _)⟩
      · exact h.elim
    · exact h.elim
  · exact h.elim
theorem cd_sum (hc : X.calm = true) : CallD X (.builtin "sum") gSum := by
  refine ⟨_, cr_sum hc, fun G H as cs Fm vs ws Q E R r h => ?_⟩
  unfold gSum at h
  split at h
  · split at h
    · rename_i ds e
      split at h
      · rename_i bs e2
        obtain ⟨v, rfl, rv⟩ := r.one
        obtain ⟨a, us, rfl, ha, ru⟩ := (R.view rv e).lst_of
        rw [intsD_of e2] at ru
        exact ⟨a, bs, rfl, SqL.of (by rw [← ru.ints]; exact ha), h.same R (Rep.int _)⟩
      · exact h.elim
    · exact h.elim
  · exact h.elim
/-! ### len -/
def lenD : D → Option Nat
  | .lst ds => some ds.length
  | .tup ds => some ds.length
  | .dic _ ks vs => some vs.length
  | .str x => if x.length ≤ sizeLine then some x.length else none
  | _ => none
def gLen : FF := fun ws cs => match ws with
  | [w] => match (vw cs w).bind lenD with
    | some n => ret (.int n) cs
    | none => none
  | _ => none
def rLenK : List V → Hp → VK → Prop := fun xs H Q => ∃ (p : Addr) (kvs : List (Key × V)), xs = [.ref p] ∧ Rd H p (.dK kvs) ∧ Q (.int ((kvs.length : Nat) : Int)) H
def rLenU : List V → Hp → VK → Prop := fun xs H Q => ∃ (p : Addr) (kvs : List (List Key × V)), xs = [.ref p] ∧ Rd H p (.dT kvs) ∧ Q (.int ((kvs.length : Nat) : Int)) H
theorem cr_lenK : CallR X (.builtin "len") rLenK := by
  intro pins s σ H xs us Q I r ⟨p, kvs, hx, hp, q⟩
  subst hx
  obtain ⟨u, rfl, rx⟩ := vals1 r
  cases rx
  exact d_len I hp fun t s' I' => ⟨.int ((kvs.length : Nat) : Int), H, I', ⟨_, rfl⟩, q⟩
theorem cr_lenU : CallR X (.builtin "len") rLenU := by
  intro pins s σ H xs us Q I r ⟨p, kvs, hx, hp, q⟩
  subst hx
  obtain ⟨u, rfl, rx⟩ := vals1 r
  cases rx
  obtain ⟨z, hd, ys, rel, dd⟩ := dt_rd I.hok hp
  have hl : kvs.length = ys.length := Paired.length rel
  have big : (ys.length : Int) < 2 ^ 63 := by
    rw [sizeLine_eq] at z
    omega
  refine call_len_dictH hd dd big ?_
  rw [show (ys.length : Int) = (kvs.length : Nat) from by rw [hl]]
  exact ⟨V.int (kvs.length : Nat), H, I.tok _, ⟨_, rfl⟩, q⟩
theorem CallR.or {f : Value} {r r' : List V → Hp → VK → Prop} (h : CallR X f r) (h' : CallR X f r') : CallR X f (fun xs H Q => r xs H Q ∨ r' xs H Q) := by
  intro pins s σ H xs us Q I rx q
  rcases q with q | q
  · exact h pins s σ H xs us Q I rx q
  · exact h' pins s σ H xs us Q I rx q
theorem cd_len : CallD X (.builtin "len") gLen := by
  refine ⟨_, CallR.or call_len (CallR.or cr_lenK cr_lenU), fun G H as cs Fm vs ws Q E R r h => ?_⟩
  unfold gLen at h
  split at h
  · rename_i w
    split at h
    · rename_i n e
      obtain ⟨v, rfl, rv⟩ := r.one
      cases e1 : vw cs w with
      | none => rw [e1] at e; cases e
      | some d =>
        rw [e1, Option.bind_some] at e
        have A := R.view rv e1
        cases d with
        | lst ds =>
          obtain ⟨a, us, rfl, ha, ru⟩ := A.lst_of
          cases e
          exact .inl ⟨_, _, rfl, .inl ⟨us, SqL.of ha, ru.length.symm⟩, h.same R (Rep.int _)⟩
        | tup ds =>
          obtain ⟨a, us, rfl, ha, ru⟩ := A.tup_of
          cases e
          exact .inl ⟨_, _, rfl, .inr ⟨us, SqT.of ha, ru.length.symm⟩, h.same R (Rep.int _)⟩
        | str x =>
          have := A.str_of
          subst this
          simp only [lenD] at e
          by_cases hl : x.length ≤ sizeLine
          · rw [if_pos hl] at e
            cases e
            exact .inl ⟨_, _, rfl, ⟨hl, rfl⟩, h.same R (Rep.int _)⟩
          · rw [if_neg hl] at e
            cases e
        | dic t ks us =>
          cases e
          rcases A.dic_of with ⟨rfl, a, kvs, rfl, hs, rfl, r2⟩ | ⟨rfl, a, kvs, rfl, hs, rfl, r2⟩
          · have el := r2.length
            rw [List.length_map] at el
            exact .inr (.inl ⟨a, kvs, rfl, hs.rd, by rw [el]; exact h.same R (Rep.int _)⟩)
          · have el := r2.length
            rw [List.length_map] at el
            exact .inr (.inr ⟨a, kvs, rfl, hs.rd, by rw [el]; exact h.same R (Rep.int _)⟩)
        | _ => cases e
    · exact h.elim
  · exact h.elim
theorem cd_lenS : CallD X (.builtin "len") (gLenS X.K) := by
  refine ⟨_, call_len, fun G H as cs Fm vs ws Q E R r h => ?_⟩
  unfold gLenS at h
  split at h
  · rename_i K' ns
    split at h
    · rename_i hK
      subst hK
      obtain ⟨v, rfl, rv⟩ := r.one
      have A := R.at_rep rv (fun _ => nofun)
      cases A with
      | ref h r => cases r
      | scr hs => exact ⟨_, _, rfl, .inl ⟨_, hs, (List.length_map ..).symm⟩, PoE.same h R (Rep.int _)⟩
    · exact h.elim
  · exact h.elim
/-! ### int, max, min of two -/
def gInt : FF := fun ws cs => match ws with
  | [.int i] => ret (.int i) cs
  | _ => none
theorem cd_int : CallD X (.type "int") gInt := by
  refine ⟨_, call_int1, fun G H as cs Fm vs ws Q E R r h => ?_⟩
  unfold gInt at h
  split at h
  · obtain ⟨v, rfl, rv⟩ := r.one
    have := Rep.int_of rv
    subst this
    exact .inl ⟨_, rfl, h.same R (Rep.int _)⟩
  · exact h.elim
def gMax2 : FF := fun ws cs => match ws with
  | [.int i, .int j] => ret (.int (if j > i then j else i)) cs
  | _ => none
def gMin2 : FF := fun ws cs => match ws with
  | [.int i, .int j] => ret (.int (if j < i then j else i)) cs
  | _ => none
theorem cd_max2 (hc : X.calm = true) : CallD X (.builtin "max") gMax2 := by
  refine ⟨_, call_max2 hc, fun G H as cs Fm vs ws Q E R r h => ?_⟩
  unfold gMax2 at h
  split at h
  · obtain ⟨v, u, rfl, rv, ru⟩ := r.two
    have := Rep.int_of rv
    subst this
    have := Rep.int_of ru
    subst this
    exact ⟨_, _, rfl, h.same R (Rep.int _)⟩
  · exact h.elim
theorem cd_min2 (hc : X.calm = true) : CallD X (.builtin "min") gMin2 := by
  refine ⟨_, call_min2 hc, fun G H as cs Fm vs ws Q E R r h => ?_⟩
  unfold gMin2 at h
  split at h
  · obtain ⟨v, u, rfl, rv, ru⟩ := r.two
    have := Rep.int_of rv
    subst this
    have := Rep.int_of ru
    subst this
    exact ⟨_, _, rfl, h.same R (Rep.int _)⟩
  · exact h.elim
/-! ### list(x): of a list, a tuple; a new frozen list, or a cell -/
def seqD : D → Option (List D)
  | .lst ds => some ds
  | .tup ds => some ds
  | _ => none
def gListF : FF := fun ws cs => match ws with
  | [w] => match (vw cs w).bind seqD with
    | some ds => ret (.lst ds) cs
    | none => none
  | _ => none
def gListC : FF := fun ws cs => match ws with
  | [w] => match (vw cs w).bind seqD with
    | some ds => newc (.lst ds) cs
    | none => none
  | _ => none
theorem seq_view {G H : Hp} {as : List Addr} {cs : List Cel} {Fm : Hp} {K : PySem.W.Frag} {v : V} {w : D} {ds : List D} (R : Rp G H as cs Fm) (rv : Rep G as v w) (e : (vw cs w).bind seqD = some ds) :
    ∃ p us, v = .ref p ∧ (SqL K H p us ∨ SqT K H p us) ∧ Reps G as us ds := by
  cases e1 : vw cs w with
  | none => rw [e1] at e; cases e
  | some d =>
    rw [e1, Option.bind_some] at e
    have A := R.view rv e1
    cases d with
    | lst ds =>
      obtain ⟨a, us, rfl, ha, ru⟩ := A.lst_of
      cases e
      exact ⟨a, us, rfl, .inl (SqL.of ha), ru⟩
    | tup ds =>
      obtain ⟨a, us, rfl, ha, ru⟩ := A.tup_of
      cases e
      exact ⟨a, us, rfl, .inr (SqT.of ha), ru⟩
    | _ => cases e
theorem cd_listF : CallD X (.type "list") gListF := by
  refine ⟨_, call_list_of, fun G H as cs Fm vs ws Q E R r h => ?_⟩
  unfold gListF at h
  split at h
  · split at h
    · rename_i ds e
      obtain ⟨v, rfl, rv⟩ := r.one
      obtain ⟨p, us, rfl, hs, ru⟩ := seq_view (K := X.K) R rv e
      exact ⟨p, us, rfl, hs, fun l hl => h.new R hl (fun _ _ => nofun) (.lst ru)⟩
    · exact h.elim
  · exact h.elim
theorem cd_listC : CallD X (.type "list") gListC := by
  refine ⟨_, call_list_of, fun G H as cs Fm vs ws Q E R r h => ?_⟩
  unfold gListC at h
  split at h
  · split at h
    · rename_i ds e
      obtain ⟨v, rfl, rv⟩ := r.one
      obtain ⟨p, us, rfl, hs, ru⟩ := seq_view (K := X.K) R rv e
      exact ⟨p, us, rfl, hs, fun l hl => PoE.newc h R hl (.lst ru)⟩
    · exact h.elim
  · exact h.elim

/-! ### methods of built-in types -/
abbrev MF := D → List D → Mo D
def MtD (X : Cx) (id : String) (g : MF) : Prop :=
  ∃ r : V → List V → Hp → VK → Prop, MtR X id r ∧ ∀ (G H : Hp) (as : List Addr) (cs : List Cel) (Fm : Hp) (x : V) (wx : D) (vs : List V) (ws : List D) (Q : VK) (E : XK), Rp G H as cs Fm → Rep G as x wx → Reps G as vs ws → PoE G as Fm Q E (g wx ws cs) → r x vs H Q
/-- the receiver is of that type (a dict: a live cell) -/
def tyD (T : String) (x : D) : Mo Unit := fun cs => match x with
  | .cel n => match cs[n]? with
    | some c => match c.val with
      | .lst _ => if T = "list" then ret () cs else none
      | .dic _ _ _ => if T = "dict" ∧ c.live = true then ret () cs else none
      | _ => none
    | none => none
  | .lst _ => if T = "list" then ret () cs else none
  | .str _ => if T = "str" then ret () cs else none
  | .int _ => if T = "int" then ret () cs else none
  | _ => none
theorem tyD_of {G H : Hp} {as : List Addr} {cs : List Cel} {Fm : Hp} {K : PySem.W.Frag} {T : String} {v : V} {w : D} {α : Type} {Q : α → Hp → Prop} {E : XK} {β : Type} {Rl : Hp → List Addr → α → β → Prop} {k : Unit → Mo β}
    (R : Rp G H as cs Fm) (rv : Rep G as v w) (h : Po Rl G as Fm Q E (bnd (tyD T w) k cs)) : tyV K T v H ∧ Po Rl G as Fm Q E (k () cs) := by
  unfold tyD bnd at h
  cases w with
  | cel n =>
    cases rv with
    | ref h r => cases r
    | cel ha =>
      cases hc : cs[n]? with
      | none => simp [hc] at h; exact h.elim
      | some c =>
        simp only [hc] at h
        have A := R.cell_at ha hc
        cases hv : c.val with
        | lst ds =>
          simp only [hv] at h
          rw [hv] at A
          obtain ⟨a, us, e, hs, ru⟩ := A.lst_of
          cases e
          by_cases ht : T = "list"
          · rw [if_pos ht] at h
            exact ⟨.inl ⟨ht, us, SqL.of hs⟩, h⟩
          · rw [if_neg ht] at h; exact h.elim
        | dic t ks us =>
          simp only [hv] at h
          by_cases ht : T = "dict" ∧ c.live = true
          · rw [if_pos ht] at h
            obtain ⟨_, u, hu, r⟩ := (R.cel n _ c ha hc).1 ht.2
            rw [hv] at r
            refine ⟨.inr (.inr (.inl ⟨ht.1, ?_⟩)), h⟩
            cases r with
            | dK r => exact .inl ⟨_, hu⟩
            | dT r => exact .inr ⟨_, hu⟩
          · rw [if_neg ht] at h; exact h.elim
        | _ => simp only [hv] at h; exact h.elim
  | lst ds =>
    obtain ⟨a, us, rfl, hs, ru⟩ := (R.at_rep rv nofun).lst_of
    by_cases ht : T = "list"
    · simp only [if_pos ht] at h
      exact ⟨.inl ⟨ht, us, SqL.of hs⟩, h⟩
    · simp only [if_neg ht] at h; exact h.elim
  | str x =>
    have := Rep.str_of rv
    subst this
    by_cases ht : T = "str"
    · simp only [if_pos ht] at h
      exact ⟨ht, h⟩
    · simp only [if_neg ht] at h; exact h.elim
  | int x =>
    have := Rep.int_of rv
    subst this
    by_cases ht : T = "int"
    · simp only [if_pos ht] at h
      exact ⟨ht, h⟩
    · simp only [if_neg ht] at h; exact h.elim
  | _ => exact h.elim
def fBm (T : String) (g : MF) (fo : EF) (fa : AF) : EF := fun ρ => bnd (fo ρ) fun x => bnd (tyD T x) fun _ => bnd (fa ρ) fun ws => g x ws
def fBm0 (T : String) (g : MF) (fo : EF) : EF := fun ρ => bnd (fo ρ) fun x => bnd (tyD T x) fun _ => g x []
theorem de_bm {T id : String} {name : Str} {g : MF} {o e : Expr} {es : List Expr} {fo : EF} {fa : AF} {apos cpos : Pos} (pa : PlainAttrs T) (slot : Slot T name id) (hty : typeOf (.builtin id) = pure (.type "method_descriptor")) (hm : MtD X id g) (ho : DE X W o fo) (ha : DA X W (e :: es) fa)
    (hbase : attributeBase o name X.env (eval o X.env) = eval o X.env := by rfl)
    (hfew : ((backTo cpos (starEach (e :: es) X.env)).all (fun x => !x.1) && (backToKw cpos (keywordEach [] X.env)).all (fun x => x.1.isSome)
        && decide ((e :: es).length + ([] : List Keyword).length + (if ([] : List Keyword).isEmpty then 0 else 1) < 30)) = true := by rfl)
    (hline : (apos.endLine == cpos.line) = true := by rfl) (hs : starEach (e :: es) X.env = (false, eval e X.env) :: starEach es X.env := by rfl)
    (hplain : (backTo cpos (starEach es X.env)).any (·.1) = false := by rfl) : DE X W (.Call (.Attribute o name apos) (e :: es) [] cpos) (fBm T g fo fa) := by
  obtain ⟨r, hr, hg⟩ := hm
  obtain ⟨ta, p1, q1⟩ := ho
  obtain ⟨tb, p2, q2⟩ := ha
  refine ⟨_, pe_bm pa slot hty hr p1 p2 hbase hfew hline hs hplain, fun G H as cs Fm σ ρ Q R S h => ?_⟩
  refine q1 G H as cs Fm σ ρ _ R S (Po.first h fun v w G1 H1 bs cs1 x1 p1 R1 w1 h1 => ?_)
  obtain ⟨ht, h1⟩ := tyD_of (K := X.K) R1 w1 h1
  refine ⟨ht, ?_⟩
  refine q2 G1 H1 bs cs1 Fm σ ρ _ R1 (S.ext x1 p1) (Po.first h1 fun v2 w2 G2 H2 bs2 cs2 x2 p2 R2 r2 h2 => ?_)
  exact hg G2 H2 bs2 cs2 Fm v w v2 w2 _ _ R2 (w1.ext x2 p2) r2 h2
theorem de_bm0 {T id : String} {name : Str} {g : MF} {o : Expr} {fo : EF} {apos cpos : Pos} (pa : PlainAttrs T) (slot : Slot T name id) (hty : typeOf (.builtin id) = pure (.type "method_descriptor")) (hm : MtD X id g) (ho : DE X W o fo)
    (hbase : attributeBase o name X.env (eval o X.env) = eval o X.env := by rfl) (hline : (apos.endLine == cpos.line) = true := by rfl) : DE X W (.Call (.Attribute o name apos) [] [] cpos) (fBm0 T g fo) := by
  obtain ⟨r, hr, hg⟩ := hm
  obtain ⟨ta, p1, q1⟩ := ho
  refine ⟨_, pe_bm0 pa slot hty hr p1 hbase hline, fun G H as cs Fm σ ρ Q R S h => ?_⟩
  refine q1 G H as cs Fm σ ρ _ R S (Po.first h fun v w G1 H1 bs cs1 x1 p1 R1 w1 h1 => ?_)
  obtain ⟨ht, h1⟩ := tyD_of (K := X.K) R1 w1 h1
  exact ⟨ht, hg G1 H1 bs cs1 Fm v w [] [] _ _ R1 w1 .nil h1⟩
/-- the live cell that a value names -/
def liveD (x : D) (cs : List Cel) : Option (Nat × D) := match x with
  | .cel n => match cs[n]? with
    | some c => if c.live = true then some (n, c.val) else none
    | none => none
  | _ => none
theorem live_of {G H : Hp} {as : List Addr} {cs : List Cel} {Fm : Hp} {v : V} {x d : D} {n : Nat} (R : Rp G H as cs Fm) (rv : Rep G as v x) (e : liveD x cs = some (n, d)) :
    ∃ a c u, v = .ref a ∧ as[n]? = some a ∧ cs[n]? = some c ∧ c.live = true ∧ c.val = d ∧ H a = some u ∧ Hr G as u d := by
  unfold liveD at e
  split at e
  · rename_i m
    split at e
    · rename_i c hc
      split at e
      · rename_i hl
        cases e
        cases rv with
        | ref h r => cases r
        | cel ha =>
          obtain ⟨_, u, hu, r⟩ := (R.cel n _ c ha hc).1 hl
          exact ⟨_, c, u, rfl, ha, hc, hl, rfl, hu, r⟩
      · cases e
    · cases e
  · cases e
/-- it is written -/
def wrC (n : Nat) (d : D) : Mo Unit := fun cs => some (.ok () (cs.set n ⟨d, true⟩))
theorem PoE.wrote {G H : Hp} {as : List Addr} {cs : List Cel} {Fm : Hp} {Q : VK} {E : XK} {n : Nat} {a : Addr} {c : Cel} {d w : D} {u : HO} {v : V} (h : PoE G as Fm Q E (some (.ok w (cs.set n ⟨d, true⟩)))) (R : Rp G H as cs Fm) (ha : as[n]? = some a) (hc : cs[n]? = some c) (hl : c.live = true)
    (r : Hr G as u d) (rv : Rep G as v w) : Q v (upd H a u) := h v G _ as (Ext.refl _) (List.prefix_refl _) (R.write ha hc hl r) rv
def gAppend : MF := fun x ws cs => match liveD x cs, ws with
  | some (n, .lst ds), [w] => if ds.length < sizeLine then some (.ok .non (cs.set n ⟨.lst (ds ++ [w]), true⟩)) else none
  | _, _ => none
theorem md_append : MtD X "list.append" gAppend := by
  refine ⟨_, mt_append, fun G H as cs Fm x wx vs ws Q E R rx r h => ?_⟩
  unfold gAppend at h
  split at h
  · rename_i n ds w e
    split at h
    · rename_i hl
      obtain ⟨v, rfl, rv⟩ := r.one
      obtain ⟨a, c, u, rfl, ha, hc, hlv, hv, hu, hr⟩ := live_of R rx e
      cases hr with
      | lst hr => exact ⟨a, _, v, rfl, rfl, hu, by rw [hr.length]; exact hl, PoE.wrote h R ha hc hlv (.lst (hr.append (.cons rv .nil))) .non⟩
    · exact h.elim
  · exact h.elim
def gInsert : MF := fun x ws cs => match liveD x cs, ws with
  | some (n, .lst ds), [.int i, w] => if ds.length < sizeLine ∧ 0 ≤ i ∧ i < 2 ^ 63 then some (.ok .non (cs.set n ⟨.lst (ds.take i.toNat ++ [w] ++ ds.drop i.toNat), true⟩)) else none
  | _, _ => none
theorem md_insert : MtD X "list.insert" gInsert := by
  refine ⟨_, mt_insert, fun G H as cs Fm x wx vs ws Q E R rx r h => ?_⟩
  unfold gInsert at h
  split at h
  · rename_i n ds i w e
    split at h
    · rename_i hl
      obtain ⟨v, u, rfl, rv, ru⟩ := r.two
      have := Rep.int_of rv
      subst this
      obtain ⟨a, c, u', rfl, ha, hc, hlv, hv, hu, hr⟩ := live_of R rx e
      cases hr with
      | lst hr => exact ⟨a, _, i, u, rfl, rfl, hu, by rw [hr.length]; exact hl.1, hl.2.1, hl.2.2, PoE.wrote h R ha hc hlv (.lst (((hr.take _).append (.cons ru .nil)).append (hr.drop _))) .non⟩
    · exact h.elim
  · exact h.elim
def gPop : MF := fun x ws cs => match liveD x cs, ws with
  | some (n, .lst ds), [] => match ds[ds.length - 1]? with
    | some d => some (.ok d (cs.set n ⟨.lst ds.dropLast, true⟩))
    | none => none
  | _, _ => none
theorem Reps.dropLast {G : Hp} {as : List Addr} {vs : List V} {ds : List D} (r : Reps G as vs ds) : Reps G as vs.dropLast ds.dropLast := by
  rw [List.dropLast_eq_take, List.dropLast_eq_take, r.length]
  exact r.take _
theorem md_pop : MtD X "list.pop" gPop := by
  refine ⟨_, mt_pop, fun G H as cs Fm x wx vs ws Q E R rx r h => ?_⟩
  unfold gPop at h
  split at h
  · rename_i n ds e
    split at h
    · rename_i d hd
      cases r
      obtain ⟨a, c, u', rfl, ha, hc, hlv, hv, hu, hr⟩ := live_of R rx e
      cases hr with
      | lst hr =>
        obtain ⟨y, hy, ry⟩ := hr.getD hd
        exact ⟨a, _, y, rfl, rfl, hu, by rw [hr.length]; exact hy, PoE.wrote h R ha hc hlv (.lst hr.dropLast) ry⟩
    · exact h.elim
  · exact h.elim
/-- n.bit_length() -/
def gBits : D → Mo D := fun x cs => match x with
  | .int i => ret (.int (Builtin.Int.intBits i : Nat)) cs
  | _ => none
theorem de_bits {o : Expr} {fo : EF} {apos pos : Pos} (ho : DE X W o fo) (hbase : attributeBase o "bit_length" X.env (eval o X.env) = eval o X.env := by rfl) (hline : (apos.endLine == pos.line) = true := by rfl) : DE X W (.Call (.Attribute o "bit_length" apos) [] [] pos) (fUn gBits fo) := by
  obtain ⟨t, p, q⟩ := ho
  refine ⟨_, pe_bits p hbase hline, fun G H as cs Fm σ ρ Q R S h => ?_⟩
  refine q G H as cs Fm σ ρ _ R S (Po.first h fun v w G1 H1 bs cs1 x1 p1 R1 w1 h1 => ?_)
  unfold gBits at h1
  split at h1
  · have := Rep.int_of w1
    subst this
    exact ⟨_, rfl, PoE.same h1 R1 (Rep.int _)⟩
  · exact h1.elim
/-- s.join(list of texts) -/
def gJoin : MF := fun x ws cs => match x, ws with
  | .str a, [w] => match (vw cs w).bind seqD with
    | some ds => match strsD ds with
      | some ys => if (ys.map (·.length)).sum + ys.length * a.length ≤ 16777216 then ret (.str (Txt.join a ys)) cs else none
      | none => none
    | none => none
  | _, _ => none
theorem md_join : MtD X "str.join" gJoin := by
  refine ⟨_, mt_join, fun G H as cs Fm x wx vs ws Q E R rx r h => ?_⟩
  unfold gJoin at h
  split at h
  · split at h
    · rename_i ds e
      split at h
      · rename_i ys e2
        split at h
        · rename_i hl
          obtain ⟨v, rfl, rv⟩ := r.one
          have := Rep.str_of rx
          subst this
          obtain ⟨p, us, rfl, hs, ru⟩ := seq_view (K := X.K) R rv e
          rw [strsD_of e2] at ru
          rw [ru.strs] at hs
          exact ⟨_, p, ys, rfl, rfl, hs, hl, h.same R (Rep.str _)⟩
        · exact h.elim
      · exact h.elim
    · exact h.elim
  · exact h.elim

/-! ### attributes -/
def lookN : List Str → List D → Str → Option D
  | n :: ns, d :: ds, f => if (f == n) = true then some d else lookN ns ds f
  | _, _, _ => none
theorem lookN_of {G : Hp} {as : List Addr} {f : Str} : ∀ {fs : List (Str × V)} {ds : List D}, Reps G as (fs.map (·.2)) ds → ∀ {d : D}, lookN (fs.map (·.1)) ds f = some d → ∃ v, fs.lookup f = some v ∧ Rep G as v d
  | [], _, .nil, d, h => by simp [lookN] at h
  | (n, v) :: fs, d0 :: ds, .cons r t, d, h => by
    simp only [List.map_cons, lookN] at h
    rw [List.lookup_cons]
    cases e : f == n with
    | true =>
      rw [e, if_pos rfl] at h
      cases h
      exact ⟨v, rfl, r⟩
    | false =>
      rw [e, if_neg Bool.false_ne_true] at h
      exact lookN_of t h
/-- o.f, o an instance of the class at C -/
def gFld (C : Addr) (f : Str) : D → Mo D := fun x cs => match vw cs x with
  | some (.obj C' ns ds) => if C' = C then match lookN ns ds f with
    | some d => ret d cs
    | none => none
    else none
  | _ => none
theorem de_fld {C : Addr} {o : Expr} {f : Str} {fo : EF} {pos : Pos} (cl : Cls X.K C) (na : NoAttr X.K C f) (ho : DE X W o fo) (hb : attributeBase o f X.env (eval o X.env) = eval o X.env := by rfl) : DE X W (.Attribute o f pos) (fUn (gFld C f) fo) := by
  obtain ⟨t, p, q⟩ := ho
  refine ⟨_, pe_fld p hb, fun G H as cs Fm σ ρ Q R S h => ?_⟩
  refine q G H as cs Fm σ ρ _ R S (Po.first h fun v w G1 H1 bs cs1 x1 p1 R1 w1 h1 => ?_)
  unfold gFld at h1
  split at h1
  · rename_i C' ns ds e
    split at h1
    · rename_i hC
      subst hC
      split at h1
      · rename_i d hd
        obtain ⟨a, dx, fs, rfl, ha, rfl, r⟩ := (R1.view w1 e).obj_of
        obtain ⟨v, hv, rv⟩ := lookN_of r hd
        exact ⟨a, C', dx, fs, v, rfl, ha, cl, na, hv, PoE.same h1 R1 rv⟩
      · exact h1.elim
    · exact h1.elim
  · exact h1.elim
end

end MW

set_option Elab.async false
set_option linter.all false
set_option maxRecDepth 100000
/-! MwDef: defs of one's own: what leaves them, their promise, their calls; stores. -/
namespace MW
open PySem PySem.Spec PyProof.Rows L2

mutual
theorem Rep.lowAll {G : Hp} {as : List Addr} : ∀ {v : V} {d : D}, Rep G as v d → low as.length d = true
  | _, _, .non => rfl
  | _, _, .bl b => rfl
  | _, _, .int i => rfl
  | _, _, .str y => rfl
  | _, _, .ref h r => r.lowAll
  | _, _, .cel h => by
    unfold low
    exact decide_eq_true (List.getElem?_eq_some_iff.mp h).1
  | _, _, .exc h h2 r => by
    unfold low lows lows
    rw [r.lowAll]
    rfl
  | _, _, .exc0 h => by
    unfold low lows
    rfl
  | _, _, .scr h => rfl
theorem Hr.lowAll {G : Hp} {as : List Addr} : ∀ {u : HO} {d : D}, Hr G as u d → low as.length d = true
  | _, _, .lst r => by unfold low; exact r.lowAll
  | _, _, .tup r => by unfold low; exact r.lowAll
  | _, _, .dK r => by unfold low; exact r.lowAll
  | _, _, .dT r => by unfold low; exact r.lowAll
  | _, _, .ins r => by unfold low; exact r.lowAll
theorem Reps.lowAll {G : Hp} {as : List Addr} : ∀ {vs : List V} {ds : List D}, Reps G as vs ds → lows as.length ds = true
  | _, _, .nil => by unfold lows; rfl
  | _, _, .cons h t => by
    unfold lows
    rw [h.lowAll, t.lowAll]
    rfl
end
theorem Rp.lowCell {G H : Hp} {as : List Addr} {cs : List Cel} {Fm : Hp} (R : Rp G H as cs Fm) {n : Nat} {c : Cel} (hc : cs[n]? = some c) : low cs.length c.val = true := by
  have hn := (List.getElem?_eq_some_iff.mp hc).1
  have hn' : n < as.length := by rw [R.len]; exact hn
  obtain ⟨h1, h2⟩ := R.cel n as[n] c (List.getElem?_eq_getElem hn') hc
  rw [← R.len]
  cases e : c.live with
  | true =>
    obtain ⟨_, u, _, r⟩ := h1 e
    exact r.lowAll
  | false =>
    obtain ⟨u, _, r⟩ := h2 e
    exact r.lowAll

/-- what leaves a def: a local cell's content -/
def exitV (k : Nat) (d : D) (cs : List Cel) : Option D := match d with
  | .cel n => if n < k then some (.cel n) else (cs[n]?).map (·.val)
  | d => some d
/-- the callers' cells name no local one -/
def Okx (cs cs' : List Cel) : Prop := cs.length ≤ cs'.length ∧ ∀ n c, n < cs.length → cs'[n]? = some c → cs[n]? = some c ∨ low cs.length c.val = true
open Classical in
noncomputable def exitK (cs : List Cel) (d : D) (cs' : List Cel) : Option (Res D) := match exitV cs.length d cs' with
  | some d' => if low cs.length d' = true ∧ Okx cs cs' then some (.ok d' (cs'.take cs.length)) else none
  | none => none
open Classical in
noncomputable def exitR (cs : List Cel) : Option SRes → Option (Res D)
  | some (.ret d cs') => exitK cs d cs'
  | some (.nx _ cs') => exitK cs .non cs'
  | some (.exc C ds _ cs') => if lows cs.length ds = true ∧ Okx cs cs' then some (.exc C ds (cs'.take cs.length)) else none
  | _ => none
/-- a def with N slots -/
noncomputable def mkFn (N : Nat) (F : SF) : FF := fun ds cs => exitR cs (F (ds.map some ++ List.replicate (N - ds.length) none) cs)

/-- a def that keeps the cells that it made -/
def mkFnK (N : Nat) (F : SF) : FF := fun ds cs => match F (ds.map some ++ List.replicate (N - ds.length) none) cs with
  | some (.ret d cs') => some (.ok d cs')
  | some (.nx _ cs') => some (.ok .non cs')
  | some (.exc C ds _ cs') => some (.exc C ds cs')
  | _ => none
theorem Okx.refl (cs : List Cel) : Okx cs cs := ⟨Nat.le_refl _, fun _ _ _ h => .inl h⟩
theorem Okx.app (cs l : List Cel) : Okx cs (cs ++ l) := ⟨by simp, fun n c hn h => .inl (by rw [List.getElem?_append_left hn] at h; exact h)⟩
theorem Okx.set {cs cs' : List Cel} (o : Okx cs cs') (n : Nat) (d : D) (b : Bool) (h : low cs.length d = true) : Okx cs (cs'.set n ⟨d, b⟩) := by
  refine ⟨by rw [List.length_set]; exact o.1, fun m c hm hc => ?_⟩
  by_cases e : n = m
  · subst e
    by_cases hl : n < cs'.length
    · rw [List.getElem?_set_self hl] at hc
      cases hc
      exact .inr h
    · rw [List.getElem?_eq_none (by rw [List.length_set]; omega)] at hc
      cases hc
  · rw [List.getElem?_set_ne e] at hc
    exact o.2 m c hm hc
theorem Okx.more {cs cs' : List Cel} (o : Okx cs cs') (l : List Cel) : Okx cs (cs' ++ l) := by
  refine ⟨by rw [List.length_append]; have := o.1; omega, fun m c hm hc => ?_⟩
  rw [List.getElem?_append_left (Nat.lt_of_lt_of_le hm o.1)] at hc
  exact o.2 m c hm hc
theorem exitK_of {cs cs' : List Cel} {d d' : D} (hv : exitV cs.length d cs' = some d') (hl : low cs.length d' = true) (o : Okx cs cs') : exitK cs d cs' = some (.ok d' (cs'.take cs.length)) := by
  unfold exitK
  rw [hv]
  exact if_pos ⟨hl, o⟩

/-- a def's promise: it hands back what g says -/
def spD (n : Nat) (g : FF) : Sp := fun vs H Q E => ∃ G as cs Fm ds, Rp G H as cs Fm ∧ Reps G as vs ds ∧ ds.length = n ∧ PoE G as Fm Q E (g ds cs)

theorem okx_low {G H : Hp} {as : List Addr} {cs cs' : List Cel} {Fm : Hp} (R : Rp G H as cs Fm) (o : Okx cs cs') : ∀ c ∈ cs'.take cs.length, low cs.length c.val = true := fun c hc => by
  obtain ⟨n, hn⟩ := List.getElem?_of_mem hc
  have h1 : n < cs.length := by
    have := (List.getElem?_eq_some_iff.mp hn).1
    rw [List.length_take] at this
    omega
  have h2 := pre_get (List.take_prefix cs.length cs') hn
  rcases o.2 n c h1 h2 with z | z
  · exact R.lowCell z
  · exact z
theorem pre_take {α : Type} {as bs : List α} (p : as <+: bs) : bs.take as.length = as := by
  obtain ⟨t, rfl⟩ := p
  simp
section
variable {P : Program} {w : World} {K : PySem.W.Frag} {mg : Str → Option Value} {base : Heap}
theorem exit_po {G H G' H' : Hp} {as bs : List Addr} {cs cs' : List Cel} {Fm : Hp} {Q : VK} {E : XK} {v : V} {d : D} (R : Rp G H as cs Fm) (x : Ext G G') (p : as <+: bs) (R' : Rp G' H' bs cs' Fm) (rv : Rep G' bs v d) (h : PoE G as Fm Q E (exitK cs d cs')) : Q v H' := by
  unfold exitK at h
  split at h
  · rename_i d' hv
    split at h
    · rename_i ok
      have hk : as.length = cs.length := R.len
      have fin : ∀ G2 cs2, Ext G' G2 → Rp G2 H' bs cs2 Fm → Rep G2 bs v d' → cs2.take cs.length = cs'.take cs.length ∨ (∀ c ∈ cs2.take cs.length, low cs.length c.val = true) ∧ cs2.take cs.length = cs'.take cs.length → Q v H' := fun G2 cs2 x2 R2 r2 hc => by
        have e1 : cs2.take cs.length = cs'.take cs.length := by
          rcases hc with z | z
          · exact z
          · exact z.2
        have D2 := R2.drop cs.length (by rw [e1]; exact okx_low R ok.2)
        have r3 := r2.low ok.1
        rw [e1] at D2
        rw [← hk, pre_take p] at D2 r3
        rw [hk] at D2
        exact h v G2 H' as (x.trans x2) (List.prefix_refl _) D2 r3
      unfold exitV at hv
      split at hv
      · rename_i n
        split at hv
        · cases hv
          exact fin G' cs' (Ext.refl _) R' rv (.inl rfl)
        · rename_i hn
          cases hc : cs'[n]? with
          | none => rw [hc] at hv; cases hv
          | some c =>
            rw [hc] at hv
            obtain rfl : c.val = d' := Option.some.inj hv
            cases rv with
            | ref h r => cases r
            | cel ha =>
              cases hl : c.live with
              | true =>
                obtain ⟨G2, x2, R2, r2⟩ := R'.freeze ha hc hl
                refine fin G2 _ x2 R2 r2 (.inl ?_)
                exact List.take_set_of_le (by omega)
              | false =>
                obtain ⟨u, hu, r⟩ := (R'.cel n _ c ha hc).2 hl
                exact fin G' cs' (Ext.refl _) R' (.ref hu r) (.inl rfl)
      · cases hv
        exact fin G' cs' (Ext.refl _) R' rv (.inl rfl)
    · exact h.elim
  · exact h.elim
theorem sl_start {G : Hp} {as : List Addr} {vs : List V} {ds : List D} (N : List Str) (r : Reps G as vs ds) : Sl G as (L2.start N vs) (ds.map some ++ List.replicate (N.length - ds.length) none) := by
  have hl := r.length
  refine ⟨by simp [L2.start, hl], fun i w e => ?_⟩
  by_cases hi : i < ds.length
  · rw [List.getElem?_append_left (by simpa using hi), List.getElem?_map] at e
    cases hd : ds[i]? with
    | none => rw [hd] at e; cases e
    | some d =>
      rw [hd] at e
      cases e
      obtain ⟨v, hv, rv⟩ := r.getD hd
      refine ⟨v, ?_, rv⟩
      unfold L2.start
      rw [List.getElem?_append_left (by rw [List.length_map, hl]; exact hi), List.getElem?_map, hv]
      rfl
  · rw [List.getElem?_append_right (by simpa using Nat.le_of_not_lt hi)] at e
    have := List.mem_of_getElem? e
    rw [List.mem_replicate] at this
    cases this.2
theorem body_ok {X : Cx} {body : List Stmt} {F : SF} {N : List Str} {n : Nat} {vs : List V} {H : Hp} {Q : VK} {E : XK} (hb : DSs X (fun c d _ H => E c d H) body F) (h : spD n (mkFn N.length F) vs H Q E) :
    ∃ t, PSs X body t ∧ t { nx := fun _ H' => Q .non H', rt := Q } (L2.start N vs) H := by
  obtain ⟨G, as, cs, Fm, ds, R, r, hl, h⟩ := h
  obtain ⟨t, p, q⟩ := hb
  refine ⟨t, p, q G H as cs Fm _ _ _ R (sl_start N r) ?_⟩
  unfold mkFn exitR at h
  split at h
  · rename_i d cs' e
    rw [e]
    exact fun v G' H' bs x p R' rv => exit_po R x p R' rv h
  · rename_i ρ cs' e
    rw [e]
    exact fun σ G' H' bs x p R' s' => exit_po R x p R' .non h
  · rename_i C ds' ρ cs' e
    rw [e]
    intro d σ G' H' bs x p R' s' xd
    split at h
    · rename_i ok
      have hk : as.length = cs.length := R.len
      have D2 := R'.drop cs.length (okx_low R ok.2)
      rw [← hk, pre_take p] at D2
      rw [hk] at D2
      refine h d G' H' as x (List.prefix_refl _) D2 ?_
      cases ds' with
      | nil => exact xd
      | cons w ws =>
        obtain ⟨dd, v, e1, e2, e3⟩ := xd
        have l1 := ok.1
        unfold lows at l1
        have r3 := e3.low (Bool.and_eq_true_iff.mp l1).1
        rw [← hk, pre_take p] at r3
        exact ⟨dd, v, e1, e2, r3⟩
    · exact h.elim
  · exact h.elim

/-- THE RULE for a def -/
theorem fn_ok {x qual : Str} {st : Stmt} {f : Addr} {fd : FuncData} {N ps : List Str} {k : Nat} {F : SF} (Fn : Fun K x qual st f fd) (S : FnScope N ps (defScope st))
    (hb : ∀ (cdv : Value) (A : Around) (outer : List Env) (s : Shared) (H : Hp) (E : XK), Room k (A.deeper (envOfC qual (defScope st) s.heap.objs.size f cdv)) →
      Takes (cxOf (L2.CX P w) P w K mg base N qual (defScope st) f cdv A outer s H E) (fun c d _ H => E c d H) →
      DSs (cxOf (L2.CX P w) P w K mg base N qual (defScope st) f cdv A outer s H E) (fun c d _ H => E c d H) (defBody st) F) :
    FnOk P w K mg base (L2.CX P w) (k + 1) f fd ps (spD ps.length (mkFn N.length F)) := by
  refine Fn.okX S (fun vs H Q E h => ?_) (fun cdv A outer s H vs Q E hr h => ?_)
  · obtain ⟨G, as, cs, Fm, ds, _, r, hl, _⟩ := h
    rw [r.length, hl]
  · exact body_ok (hb cdv A outer s H E hr (takes_of rfl rfl rfl rfl)) h
end

theorem fn_okK {P : Program} {w : World} {K : PySem.W.Frag} {mg : Str → Option Value} {base : Heap} {x qual : Str} {st : Stmt} {f : Addr} {fd : FuncData} {N ps : List Str} {k : Nat} {F : SF} (Fn : Fun K x qual st f fd) (S : FnScope N ps (defScope st))
    (hb : ∀ (cdv : Value) (A : Around) (outer : List Env) (s : Shared) (H : Hp) (E : XK), Room k (A.deeper (envOfC qual (defScope st) s.heap.objs.size f cdv)) →
      Takes (cxOf (L2.CX P w) P w K mg base N qual (defScope st) f cdv A outer s H E) (fun c d _ H => E c d H) →
      DSs (cxOf (L2.CX P w) P w K mg base N qual (defScope st) f cdv A outer s H E) (fun c d _ H => E c d H) (defBody st) F) :
    FnOk P w K mg base (L2.CX P w) (k + 1) f fd ps (spD ps.length (mkFnK N.length F)) := by
  refine Fn.okX S (fun vs H Q E h => ?_) (fun cdv A outer s H vs Q E hr h => ?_)
  · obtain ⟨G, as, cs, Fm, ds, _, r, hl, _⟩ := h
    rw [r.length, hl]
  · obtain ⟨G, as, cs, Fm, ds, R, r, hl, h⟩ := h
    obtain ⟨t, p, q⟩ := hb cdv A outer s H E hr (takes_of rfl rfl rfl rfl)
    refine ⟨t, p, q G H as cs Fm _ _ _ R (sl_start N r) ?_⟩
    unfold mkFnK at h
    split at h
    · rename_i d cs' e
      rw [e]
      exact h
    · rename_i ρ cs' e
      rw [e]
      exact fun σ G' H' bs x p R' s' => h .non G' H' bs x p R' .non
    · rename_i C ds' ρ cs' e
      rw [e]
      exact fun d σ G' H' bs x p R' s' xd => h d G' H' bs x p R' xd
    · exact h.elim

/-! ### calls -/
section
variable {X : Cx} {W : WX} {k n : Nat} {g : FF} {f : Addr} {fd : FuncData} {ps : List Str} {x : Str} {p pos : Pos} {e : Expr} {es : List Expr} {fa : AF}
def arg (n : Nat) (g : FF) : FF := fun ws => if ws.length = n then g ws else fail
theorem de_call (F : FnOk X.prog X.w X.K X.mg X.base (L2.CX X.prog X.w) k f fd ps (spD n g)) (tk : Takes X W) (hr : Room k X.A) (hm : X.mg x = some (.ref f)) (hk : PySem.W.keepIn X.K (.ref f) = true) (hb : Binds X.K fd ps []) (ha : DA X W (e :: es) fa)
    (hg : Gl X x := by rfl) (hdb : (x == ("__debug__" : Str)) = false := by decide) (he : starEach (e :: es) X.env = (false, eval e X.env) :: starEach es X.env := by rfl) (hpl : (backTo pos (starEach es X.env)).any (·.1) = false := by rfl) :
    DE X W (.Call (.Name x p) (e :: es) [] pos) (fCall (arg n g) fa) := by
  obtain ⟨t, pa, q⟩ := ha
  refine ⟨_, pe_callS F hr hg hm hk hb (fun σ => passAt tk σ) pa hdb he hpl, fun G H as cs Fm σ ρ Q R S h => ?_⟩
  refine q G H as cs Fm σ ρ _ R S (Po.first h fun v w G1 H1 bs cs1 x1 p1 R1 w1 h1 => ?_)
  unfold arg at h1
  split at h1
  · rename_i hl
    exact ⟨G1, bs, cs1, Fm, w, R1, w1, hl, h1⟩
  · exact h1.elim
/-- no exception is let out of it -/
def noX {α : Type} (m : Mo α) : Mo α := fun cs => match m cs with
  | some (.ok x cs') => some (.ok x cs')
  | _ => none
theorem Po.noX {α β : Type} {R : Hp → List Addr → β → α → Prop} {G : Hp} {as : List Addr} {Fm : Hp} {Q : β → Hp → Prop} {E E' : XK} {m : Mo α} {cs : List Cel} (h : Po R G as Fm Q E (MW.noX m cs)) : Po R G as Fm Q E' (m cs) := by
  unfold MW.noX at h
  split at h
  · rename_i x cs' e
    rw [e]
    exact h
  · exact h.elim
theorem de_call0 (F : FnOk X.prog X.w X.K X.mg X.base (L2.CX X.prog X.w) k f fd ps (spD 0 g)) (hr : Room k X.A) (hm : X.mg x = some (.ref f)) (hk : PySem.W.keepIn X.K (.ref f) = true) (hb : Binds X.K fd ps [])
    (hg : Gl X x := by rfl) (hdb : (x == ("__debug__" : Str)) = false := by decide) : DE X W (.Call (.Name x p) [] [] pos) (fun _ => noX (g [])) := by
  refine ⟨_, pe_call0 F hr hg hm hk hb .nil passL hdb, fun G H as cs Fm σ ρ Q R S h => ?_⟩
  exact ⟨G, as, cs, Fm, [], R, .nil, rfl, Po.noX h⟩
end

/-! ### stores -/
section
variable {X : Cx} {W : WX}
def tgTup (n : Nat) (g : TgsF) : TgF := fun w ρ cs => match vw cs w with
  | some (.tup ds) => if ds.length = n then g ds ρ cs else none
  | _ => none
theorem dg_tup {es : List Expr} {k : Nat} {is : List Nat} {g : TgsF} {n : Nat} {pos : Pos} (hc : X.calm = true) (h : DGs X es is g) (hn : (assignEach es X.env).length = n := by rfl) (hst : (assignEach es X.env).findIdx? (·.1) = none := by rfl) : DG X (.Tuple es k pos) is (tgTup n g) := by
  obtain ⟨t, p, q⟩ := h
  refine ⟨_, pg_tup hc p hn hst, fun G H as cs Fm σ ρ v w Q R S r h => ?_⟩
  unfold tgTup at h
  cases e : vw cs w with
  | none => simp only [e] at h; exact h.elim
  | some d =>
    cases d with
    | tup ds =>
      obtain ⟨a, vs, rfl, ha, rv⟩ := (R.view r e).tup_of
      simp only [e] at h
      by_cases hl : ds.length = n
      · rw [if_pos hl] at h
        exact ⟨a, vs, rfl, SqT.of ha, by rw [rv.length]; exact hl, q G H as cs Fm σ ρ vs ds Q R S rv h⟩
      · rw [if_neg hl] at h
        exact h.elim
    | _ => simp only [e] at h; exact h.elim
def sAsg (f : EF) (g : TgF) : SF := fun ρ => bndE (f ρ) ρ fun d cs => match g d ρ cs with
  | some (ρ', cs') => some (.nx ρ' cs')
  | none => none
theorem ds_asg {tg e : Expr} {f : EF} {is : List Nat} {g : TgF} {pos : Pos} (he : DE X W e f) (hg : DG X tg is g) (hs : swapsWithSole [tg] e pos.line X.env = pure false := by rfl) (hw : swappedStores [tg] e X.env = pure none := by rfl)
    (h1 : (assignEach [tg] X.env).map (·.2) = [assign tg X.env] := by rfl) : DS X W (.Assign [tg] e pos) (sAsg f g) := by
  obtain ⟨t, p, q⟩ := he
  obtain ⟨u, p2, q2⟩ := hg
  refine ⟨_, ps_asg p p2 hs hw h1, fun G H as cs Fm σ ρ D' R S h => ?_⟩
  refine q G H as cs Fm σ ρ _ R S (PoS.first S h fun v w G1 H1 bs cs1 x1 p1 R1 w1 h1 => ?_)
  refine q2 G1 H1 bs cs1 Fm σ ρ v w _ R1 (S.ext x1 p1) w1 ?_
  cases e1 : g w ρ cs1 with
  | none => rw [e1] at h1; exact h1.elim
  | some z =>
    obtain ⟨ρ', cs'⟩ := z
    rw [e1] at h1
    exact fun σ' G' H' bs' o x p r s => h1 σ' G' H' bs' x p r s
theorem ds_set {i : Nat} {x : Str} {e : Expr} {f : EF} {pos' pos : Pos} (hN : X.N.Nodup) (he : DE X W e f) (hi : X.N[i]? = some x := by rfl) (hx : Loc X.env.scope x := by first | exact Or.inl rfl | exact Or.inr rfl)
    (hs : swapsWith e (some (.Name x pos')) pos.line X.env = pure false := by rfl) (hf : X.fn x = true ∨ X.env.scope.names.lookup x = some .local := by first | exact .inl rfl | exact .inr rfl) : DS X W (.Assign [.Name x pos'] e pos) (sAsg f (tgName i)) := by
  obtain ⟨t, p, q⟩ := he
  refine ⟨_, ps_set hN hi hx p hs hf, fun G H as cs Fm σ ρ D' R S h => ?_⟩
  refine q G H as cs Fm σ ρ _ R S (PoS.first S h fun v w G1 H1 bs cs1 x1 p1 R1 w1 h1 => ?_)
  exact h1 _ G1 H1 bs (Ext.refl _) (List.prefix_refl _) R1 ((S.ext x1 p1).set w1)
def sPar (i j : Nat) (f : AF) : SF := fun ρ => bndE (f ρ) ρ fun ds cs => match ds with
  | [a, b] => some (.nx ((ρ.set i (some a)).set j (some b)) cs)
  | _ => none
theorem ds_par {i j : Nat} {x y : Str} {a b : Expr} {f : AF} {px py pt pos : Pos} {kt k2 pt2} (hc : X.calm = true) (hN : X.N.Nodup) (ha : DA X W [a, b] f) (hi : X.N[i]? = some x := by rfl) (hj : X.N[j]? = some y := by rfl) (hij : i ≠ j := by decide)
    (hx : X.env.scope.names.lookup x = some .local := by rfl) (hy : X.env.scope.names.lookup y = some .local := by rfl)
    (hw : swappedStores [.Tuple [.Name x px, .Name y py] kt pt] (.Tuple [a, b] k2 pt2) X.env = pure (some [x, y]) := by rfl)
    (hs : swapsWithSole [.Tuple [.Name x px, .Name y py] kt pt] (.Tuple [a, b] k2 pt2) pos.line X.env = pure false := by rfl) :
    DS X W (.Assign [.Tuple [.Name x px, .Name y py] kt pt] (.Tuple [a, b] k2 pt2) pos) (sPar i j f) := by
  obtain ⟨t, p, q⟩ := ha
  refine ⟨_, ps_par hc hN hi hj hij hx hy p hw hs, fun G H as cs Fm σ ρ D' R S h => ?_⟩
  refine q G H as cs Fm σ ρ _ R S (PoS.first S h fun v w G1 H1 bs cs1 x1 p1 R1 w1 h1 => ?_)
  cases w1 with
  | nil => exact h1.elim
  | cons r1 t1 =>
    cases t1 with
    | nil => exact h1.elim
    | cons r2 t2 =>
      cases t2 with
      | nil => exact ⟨_, _, rfl, h1 _ G1 H1 bs (Ext.refl _) (List.prefix_refl _) R1 (((S.ext x1 p1).set r1).set r2)⟩
      | cons r3 t3 => exact h1.elim
end
end MW

set_option Elab.async false
set_option linter.all false
set_option maxRecDepth 100000
/-! MwLoop: stores by place and key, what is walked, for, list comprehensions. -/
namespace MW
open PySem PySem.Spec PyProof.Rows L2
section
variable {X : Cx} {W : WX}

/-! ### x[i] = v -/
theorem PSet.or {t t' : TSet} (h : PSet X t) (h' : PSet X t') : PSet X (fun o i v H Q => t o i v H Q ∨ t' o i v H Q) := by
  intro pins s σ H o i v ov iv u Q I r1 r2 r3 q
  rcases q with q | q
  · exact h pins s σ H o i v ov iv u Q I r1 r2 r3 q
  · exact h' pins s σ H o i v ov iv u Q I r1 r2 r3 q
def rSetD : TSet := fun o i v H Q => ∃ a H', o = .ref a ∧ DPut H a i v H' ∧ Q H'
theorem set_dict {k : Nat} (hr : Room k X.A) : PSet X rSetD := by
  intro pins s σ H o i v ov iv u Q I r1 r2 r3 ⟨a, H', ho, hp, q⟩
  subst ho
  cases r1
  exact d_setItem (hu_of hr) I hp r2 r3 fun s' I' => ⟨H', I', q⟩
/-- o[i] = v on a live cell -/
def setC (o i v : D) (cs : List Cel) : Option (List Cel) := match liveD o cs with
  | some (n, .lst ds) => match i with
    | .int j => match ixN ds.length j with
      | some m => some (cs.set n ⟨.lst (ds.set m v), true⟩)
      | none => none
    | _ => none
  | some (n, .dic t ks vs) => if okK t i = true ∧ vs.length < sizeLine then some (cs.set n ⟨.dic t (putD ks vs i v).1 (putD ks vs i v).2, true⟩) else none
  | _ => none
theorem set_of {G H : Hp} {as : List Addr} {cs cs' : List Cel} {Fm : Hp} {o i v : V} {wo wi wv : D} {Q : Hp → Prop} (R : Rp G H as cs Fm) (r1 : Rep G as o wo) (r2 : Rep G as i wi) (r3 : Rep G as v wv) (e : setC wo wi wv cs = some cs')
    (h : ∀ H', Rp G H' as cs' Fm → Q H') : rSetL o i v H Q ∨ rSetD o i v H Q := by
  unfold setC at e
  cases e1 : liveD wo cs with
  | none => rw [e1] at e; cases e
  | some z =>
    obtain ⟨n, d⟩ := z
    rw [e1] at e
    obtain ⟨a, c, u, rfl, ha, hc, hl, hv, hu, hr⟩ := live_of R r1 e1
    cases d with
    | lst ds =>
      cases wi with
      | int j =>
        simp only at e
        cases e2 : ixN ds.length j with
        | none => rw [e2] at e; cases e
        | some m =>
          rw [e2] at e
          cases e
          have := Rep.int_of r2
          subst this
          cases hr with
          | lst hr => exact .inl ⟨a, _, j, m, rfl, rfl, hu, by rw [hr.length]; exact e2, h _ (R.write ha hc hl (.lst (hr.set r3 m)))⟩
      | _ => cases e
    | dic t ks vs =>
      simp only at e
      by_cases ok : okK t wi = true ∧ vs.length < sizeLine
      · rw [if_pos ok] at e
        cases e
        cases hr with
        | dK hr =>
          rename_i kvs
          obtain ⟨k, hk⟩ := flatK_of ok.1
          subst hk
          have := Rep.key r2
          subst this
          obtain ⟨p1, p2⟩ := put_gen (fun k => kD k) eqk_kD k r3 hr
          have el := hr.length
          rw [List.length_map] at el
          refine .inr ⟨a, _, rfl, .inl ⟨kvs, k, hu, rfl, by rw [el]; exact ok.2, rfl⟩, h _ (R.write ha hc hl ?_)⟩
          rw [p1]
          exact .dK p2
        | dT hr =>
          rename_i kvs
          have ok1 := ok.1
          cases wi with
          | tup zs =>
            obtain ⟨k, hk⟩ := flatKs_of (by simpa [okK] using ok1)
            subst hk
            obtain ⟨b, rfl, hb⟩ := R.tupkey r2
            obtain ⟨p1, p2⟩ := put_gen (fun k => .tup (k.map kD)) eqk_tup k r3 hr
            have el := hr.length
            rw [List.length_map] at el
            refine .inr ⟨a, _, rfl, .inr ⟨kvs, k, b, hu, rfl, hb, by rw [el]; exact ok.2, rfl⟩, h _ (R.write ha hc hl ?_)⟩
            rw [p1]
            exact .dT p2
          | _ => cases ok1
      · rw [if_neg ok] at e
        cases e
    | _ => cases e
/-- a target o[i] -/
def tgSub (fo fi : EF) : TgF := fun w ρ cs => match bnd (fo ρ) (fun o => bnd (fi ρ) fun i => fun cs => (setC o i w cs).map fun cs' => Res.ok () cs') cs with
  | some (.ok () cs') => some (ρ, cs')
  | _ => none
theorem dg_sub {k : Nat} {o i : Expr} {fo fi : EF} {pos : Pos} (hr : Room k X.A) (ho : DE X W o fo) (hi : DE X W i fi)
    (ha : ∀ v, assign (.Subscript o i pos) X.env v = (do
        let ov ← holding [v] (eval o X.env)
        let iv ← holding [v, ov] (eval i X.env)
        standAt pos
        holding [v, ov, iv] (setItem ov iv v)
        release [v, ov, iv] []) := by intro _; rfl) : DG X (.Subscript o i pos) [] (tgSub fo fi) := by
  obtain ⟨ta, p, q⟩ := ho
  obtain ⟨tb, p2, q2⟩ := hi
  refine ⟨_, pg_sub p p2 (PSet.or set_list (set_dict hr)) ha, fun G H as cs Fm σ ρ v w Q R S r h => ?_⟩
  unfold tgSub at h
  cases e1 : fo ρ cs with
  | none => simp [bnd, e1, PoG] at h
  | some z =>
    cases z with
    | exc C x c => simp [bnd, e1, PoG] at h
    | ok wo cs1 =>
      refine q G H as cs Fm σ ρ _ R S ?_
      rw [e1]
      intro vo G1 H1 bs x1 p1 R1 ro
      cases e2 : fi ρ cs1 with
      | none => simp [bnd, e1, e2, PoG] at h
      | some z2 =>
        cases z2 with
        | exc C x c => simp [bnd, e1, e2, PoG] at h
        | ok wi cs2 =>
          refine q2 G1 H1 bs cs1 Fm σ ρ _ R1 (S.ext x1 p1) ?_
          rw [e2]
          intro vi G2 H2 bs2 x2 p2 R2 ri
          cases e3 : setC wo wi w cs2 with
          | none => simp [bnd, e1, e2, e3, PoG] at h
          | some cs3 =>
            simp only [bnd, e1, e2, e3, Option.map_some] at h
            refine set_of R2 (ro.ext x2 p2) ri ((r.ext x1 p1).ext x2 p2) e3 fun H' R' => ?_
            exact h σ G2 H' bs2 (Off.refl _ _) (x1.trans x2) (p1.trans p2) R' ((S.ext x1 p1).ext x2 p2)

/-! ### what is walked -/
/-- a list that must stand as it stood: its cell, its items -/
abbrev Gd := Option (Nat × List D)
def gOk : Gd → List Cel → Prop
  | none, _ => True
  | some p, cs => cs[p.1]? = some ⟨.lst p.2, true⟩
open Classical in
noncomputable def gdo {α : Type} (g : Gd) (m : List Cel → Option α) : List Cel → Option α := match g with
  | none => m
  | some p => fun cs => if gOk (some p) cs then m cs else none
theorem gdo_ok {α : Type} {g : Gd} {m : List Cel → Option α} {cs : List Cel} {P : Option α → Prop} (hn : ¬ P none) (h : P (gdo g m cs)) : gOk g cs ∧ P (m cs) := by
  cases g with
  | none => exact ⟨trivial, h⟩
  | some p =>
    unfold gdo at h
    dsimp only at h
    by_cases q : gOk (some p) cs
    · rw [if_pos q] at h
      exact ⟨q, h⟩
    · rw [if_neg q] at h
      exact (hn h).elim
theorem gdo_pos {α : Type} {g : Gd} {m : List Cel → Option α} {cs : List Cel} (h : gOk g cs) : gdo g m cs = m cs := by
  cases g with
  | none => rfl
  | some p =>
    unfold gdo
    dsimp only
    rw [if_pos h]
/-- these come, one by one -/
def Yl (J : It) (G : Hp) (as : List Addr) (Fm : Hp) (q : List D × Gd) : Prop :=
  ∀ i G' H' bs cs', Ext G G' → as <+: bs → Rp G' H' bs cs' Fm → gOk q.2 cs' →
    (∀ d, q.1[i]? = some d → J.go i H' ∧ ∀ x H2, J.yld i H' x H2 → ∃ G2, Ext G' G2 ∧ Rp G2 H2 bs cs' Fm ∧ Rep G2 bs x d) ∧ (q.1.length ≤ i → J.stop i H')
/-- kept when the frame grows -/
abbrev IF := Evn → Mo (List D × Gd)
abbrev PoI := @Po (List D × Gd) It (fun _ _ _ _ => True)
def DI (X : Cx) (W : WX) (tg e : Expr) (f : IF) : Prop :=
  ∃ wi : TI, PI X tg e wi ∧ ∀ (G H : Hp) (as : List Addr) (cs : List Cel) (Fm : Hp) (σ : L2.St) (ρ : Evn) (R' : It → Hp → Prop), Rp G H as cs Fm → Sl G as σ ρ →
    (match f ρ cs with
      | some (.ok items cs') => ∀ J G' H' bs, Ext G G' → as <+: bs → Rp G' H' bs cs' Fm → (∀ Fm', (∀ a o, Fm a = some o → Fm' a = some o) → Yl J G' bs Fm' items) → R' J H'
      | some (.exc C x cs') => ∀ d G' H' bs, Ext G G' → as <+: bs → Rp G' H' bs cs' Fm → XdAt G' H' bs d x → W (.ref C) d σ H'
      | none => False) → wi σ H R'
/-- a list as it stands -/
def frzL (x : D) : Mo (List D × Gd) := fun cs => match x with
  | .cel n => match cs[n]? with
    | some c => match c.val with
      | .lst ds => if c.live = true then some (.ok (ds, some (n, ds)) cs) else some (.ok (ds, none) cs)
      | _ => none
    | none => none
  | .lst ds => ret (ds, none) cs
  | _ => none
theorem yl_cel {K : PySem.W.Frag} {G : Hp} {as : List Addr} {Fm : Hp} {a : Addr} {n : Nat} {ds : List D} (ha : as[n]? = some a) : Yl (Itl K a) G as Fm (ds, some (n, ds)) := by
  intro i G' H' bs cs' x p R gk
  have gk2 : cs'[n]? = some ⟨.lst ds, true⟩ := gk
  obtain ⟨_, u, hu, r⟩ := (R.cel n a _ (pre_get p ha) gk2).1 rfl
  cases r with
  | lst r =>
    rename_i vs
    have hl := r.length
    refine ⟨fun d hi => ?_, fun hi => ⟨vs, SqL.of hu, by rw [hl]; exact hi⟩⟩
    obtain ⟨v, hv, rv⟩ := r.getD hi
    refine ⟨⟨vs, v, SqL.of hu, hv⟩, fun y H2 hy => ?_⟩
    obtain ⟨rfl, hy⟩ := hy
    have e := hy vs (SqL.of hu)
    rw [hv] at e
    cases e
    exact ⟨G', Ext.refl _, R, rv⟩
theorem yl_list {K : PySem.W.Frag} {G : Hp} {as : List Addr} {Fm : Hp} {a : Addr} {vs : List V} {ds : List D} (hg : G a = some (.lst vs)) (r : Reps G as vs ds) : Yl (Itl K a) G as Fm (ds, none) := by
  intro i G' H' bs cs' x p R _
  have ha : H' a = some (.lst vs) := (R.fits a _ (x _ _ hg)).no rfl
  have hl := r.length
  refine ⟨fun d hi => ?_, fun hi => ⟨vs, SqL.of ha, by rw [hl]; exact hi⟩⟩
  obtain ⟨v, hv, rv⟩ := r.getD hi
  refine ⟨⟨vs, v, SqL.of ha, hv⟩, fun y H2 hy => ?_⟩
  obtain ⟨rfl, hy⟩ := hy
  have e := hy vs (SqL.of ha)
  rw [hv] at e
  cases e
  exact ⟨G', Ext.refl _, R, rv.ext x p⟩
theorem yl_tup {K : PySem.W.Frag} {G : Hp} {as : List Addr} {Fm : Hp} {a : Addr} {vs : List V} {ds : List D} (hg : G a = some (.tup vs)) (r : Reps G as vs ds) : Yl (Itt K a) G as Fm (ds, none) := by
  intro i G' H' bs cs' x p R _
  have ha : H' a = some (.tup vs) := (R.fits a _ (x _ _ hg)).no rfl
  have hl := r.length
  refine ⟨fun d hi => ?_, fun hi => ⟨vs, SqT.of ha, by rw [hl]; exact hi⟩⟩
  obtain ⟨v, hv, rv⟩ := r.getD hi
  refine ⟨⟨vs, v, SqT.of ha, hv⟩, fun y H2 hy => ?_⟩
  obtain ⟨rfl, hy⟩ := hy
  have e := hy vs (SqT.of ha)
  rw [hv] at e
  cases e
  exact ⟨G', Ext.refl _, R, rv.ext x p⟩
/-- for x in a list -/
def iL (f : EF) : IF := fun ρ => bnd (f ρ) frzL
theorem di_list {tg e : Expr} {f : EF} (h : DE X W e f) : DI X W tg e (iL f) := by
  obtain ⟨t, p, q⟩ := h
  refine ⟨_, pi_list p, fun G H as cs Fm σ ρ R' R S h => ?_⟩
  unfold iL bnd at h
  cases e1 : f ρ cs with
  | none => rw [e1] at h; exact h.elim
  | some z =>
    rw [e1] at h
    cases z with
    | exc C x c => exact q G H as cs Fm σ ρ _ R S (by rw [e1]; exact fun d G' H' bs a b c d' => h d G' H' bs a b c d')
    | ok w cs1 =>
      refine q G H as cs Fm σ ρ _ R S ?_
      rw [e1]
      intro v G1 H1 bs x1 p1 R1 rv
      unfold frzL at h
      cases w with
      | cel n =>
        cases hc : cs1[n]? with
        | none => (simp only [hc] at h) <;> exact h.elim
        | some c =>
          simp only [hc] at h
          cases hv : c.val with
          | lst ds =>
            simp only [hv] at h
            cases rv with
            | ref h r => cases r
            | cel ha =>
              rename_i a
              cases hl : c.live with
              | true =>
                simp only [hl, if_true] at h
                obtain ⟨_, u, hu, r⟩ := (R1.cel n a c ha hc).1 hl
                rw [hv] at r
                cases r with
                | lst r => exact ⟨a, rfl, ⟨_, SqL.of hu⟩, h _ G1 H1 bs x1 p1 R1 fun Fm' _ => yl_cel ha⟩
              | false =>
                simp only [hl, Bool.false_eq_true, if_false] at h
                obtain ⟨u, hu, r⟩ := (R1.cel n a c ha hc).2 hl
                rw [hv] at r
                cases r with
                | lst r =>
                  have hh := (R1.fits _ _ hu).no rfl
                  exact ⟨a, rfl, ⟨_, SqL.of hh⟩, h _ G1 H1 bs x1 p1 R1 fun Fm' _ => yl_list hu r⟩
          | _ => (simp only [hv] at h); try exact h.elim
      | lst ds =>
        cases rv with
        | ref hg r =>
          cases r with
          | lst r =>
            have hh := (R1.fits _ _ hg).no rfl
            exact ⟨_, rfl, ⟨_, SqL.of hh⟩, h _ G1 H1 bs x1 p1 R1 fun Fm' _ => yl_list hg r⟩
      | _ => exact h.elim
def iT (f : EF) : IF := fun ρ => bnd (f ρ) fun x => match x with
  | .tup ds => ret (ds, none)
  | _ => fail
theorem di_tup {tg e : Expr} {f : EF} (h : DE X W e f) : DI X W tg e (iT f) := by
  obtain ⟨t, p, q⟩ := h
  refine ⟨_, pi_tup p, fun G H as cs Fm σ ρ R' R S h => ?_⟩
  unfold iT bnd at h
  cases e1 : f ρ cs with
  | none => rw [e1] at h; exact h.elim
  | some z =>
    rw [e1] at h
    cases z with
    | exc C x c => exact q G H as cs Fm σ ρ _ R S (by rw [e1]; exact fun d G' H' bs a b c d' => h d G' H' bs a b c d')
    | ok w cs1 =>
      refine q G H as cs Fm σ ρ _ R S ?_
      rw [e1]
      intro v G1 H1 bs x1 p1 R1 rv
      cases w with
      | tup ds =>
        cases rv with
        | ref hg r =>
          cases r with
          | tup r =>
            have hh := (R1.fits _ _ hg).no rfl
            exact ⟨_, rfl, ⟨_, SqT.of hh⟩, h _ G1 H1 bs x1 p1 R1 fun Fm' _ => yl_tup hg r⟩
      | _ => exact h.elim
/-- for i in range(n), range(m, n) -/
def rgD (lo : Int) (n : Nat) : List D := (List.range n).map fun i : Nat => .int (lo + (i : Int))
theorem yl_range {G : Hp} {as : List Addr} {Fm : Hp} (lo : Int) (n : Nat) : Yl (Itr lo n) G as Fm (rgD lo n, none) := by
  intro i G' H' bs cs' x p R _
  refine ⟨fun d hi => ?_, fun hi => (show n ≤ i from by simpa [rgD] using hi)⟩
  unfold rgD at hi
  rw [List.getElem?_map] at hi
  by_cases hn : i < n
  · rw [List.getElem?_range hn] at hi
    cases hi
    refine ⟨hn, fun y H2 hy => ?_⟩
    obtain ⟨rfl, rfl⟩ := hy
    exact ⟨G', Ext.refl _, R, Rep.int _⟩
  · rw [List.getElem?_eq_none (by simpa using hn)] at hi
    cases hi
def asR1 : List D → Option Int
  | [.int j] => if j < 2 ^ 62 ∧ -(2 ^ 62) ≤ j then some j else none
  | _ => none
def asR2 : List D → Option (Int × Int)
  | [.int i, .int j] => if i < 2 ^ 62 ∧ -(2 ^ 62) ≤ i ∧ j < 2 ^ 62 ∧ -(2 ^ 62) ≤ j then some (i, j) else none
  | _ => none
theorem asR1_of {ws : List D} {j : Int} (h : asR1 ws = some j) : ws = [.int j] ∧ j < 2 ^ 62 ∧ -(2 ^ 62) ≤ j := by
  unfold asR1 at h
  split at h
  · rename_i i
    by_cases q : i < 2 ^ 62 ∧ -(2 ^ 62) ≤ i
    · rw [if_pos q] at h
      cases h
      exact ⟨rfl, q⟩
    · rw [if_neg q] at h
      cases h
  · cases h
theorem asR2_of {ws : List D} {i j : Int} (h : asR2 ws = some (i, j)) : ws = [.int i, .int j] ∧ i < 2 ^ 62 ∧ -(2 ^ 62) ≤ i ∧ j < 2 ^ 62 ∧ -(2 ^ 62) ≤ j := by
  unfold asR2 at h
  split at h
  · rename_i i j
    by_cases q : i < 2 ^ 62 ∧ -(2 ^ 62) ≤ i ∧ j < 2 ^ 62 ∧ -(2 ^ 62) ≤ j
    · rw [if_pos q] at h
      cases h
      exact ⟨rfl, q⟩
    · rw [if_neg q] at h
      cases h
  · cases h
def iR1 (f : AF) : IF := fun ρ => bnd (f ρ) fun ws => match asR1 ws with
  | some j => ret (rgD 0 j.toNat, none)
  | none => fail
def iR2 (f : AF) : IF := fun ρ => bnd (f ρ) fun ws => match asR2 ws with
  | some (i, j) => ret (rgD i (j - i).toNat, none)
  | none => fail
theorem di_range1 {tg a : Expr} {f : AF} {p pos : Pos} (hm : X.mg "range" = none) (ha : DA X W [a] f) (hg : Gl X "range" := by rfl) (hs : starEach [a] X.env = [(false, eval a X.env)] := by rfl) : DI X W tg (.Call (.Name "range" p) [a] [] pos) (iR1 f) := by
  obtain ⟨t, p, q⟩ := ha
  refine ⟨_, pi_range1 hg hm p hs, fun G H as cs Fm σ ρ R' R S h => ?_⟩
  unfold iR1 bnd at h
  cases e1 : f ρ cs with
  | none => rw [e1] at h; exact h.elim
  | some z =>
    rw [e1] at h
    cases z with
    | exc C x c => exact q G H as cs Fm σ ρ _ R S (by rw [e1]; exact fun d G' H' bs a b c d' => h d G' H' bs a b c d')
    | ok w cs1 =>
      refine q G H as cs Fm σ ρ _ R S ?_
      rw [e1]
      intro v G1 H1 bs x1 p1 R1 rv
      simp only at h
      cases e2 : asR1 w with
      | none => rw [e2] at h; exact h.elim
      | some j =>
        rw [e2] at h
        obtain ⟨rfl, hj⟩ := asR1_of e2
        obtain ⟨y, rfl, ry⟩ := rv.one
        have := Rep.int_of ry
        subst this
        exact ⟨j, rfl, hj.2, hj.1, h _ G1 H1 bs x1 p1 R1 fun Fm' _ => yl_range 0 j.toNat⟩
theorem di_range2 {tg a b : Expr} {f : AF} {p pos : Pos} (hm : X.mg "range" = none) (ha : DA X W [a, b] f) (hg : Gl X "range" := by rfl) (hs : starEach [a, b] X.env = [(false, eval a X.env), (false, eval b X.env)] := by rfl) (hs2 : starEach [b] X.env = [(false, eval b X.env)] := by rfl) : DI X W tg (.Call (.Name "range" p) [a, b] [] pos) (iR2 f) := by
  obtain ⟨t, p, q⟩ := ha
  refine ⟨_, pi_range2 hg hm p hs hs2, fun G H as cs Fm σ ρ R' R S h => ?_⟩
  unfold iR2 bnd at h
  cases e1 : f ρ cs with
  | none => rw [e1] at h; exact h.elim
  | some z =>
    rw [e1] at h
    cases z with
    | exc C x c => exact q G H as cs Fm σ ρ _ R S (by rw [e1]; exact fun d G' H' bs a b c d' => h d G' H' bs a b c d')
    | ok w cs1 =>
      refine q G H as cs Fm σ ρ _ R S ?_
      rw [e1]
      intro v G1 H1 bs x1 p1 R1 rv
      simp only at h
      cases e2 : asR2 w with
      | none => rw [e2] at h; exact h.elim
      | some z =>
        obtain ⟨i, j⟩ := z
        rw [e2] at h
        obtain ⟨rfl, hj⟩ := asR2_of e2
        obtain ⟨y, z, rfl, ry, rz⟩ := rv.two
        have := Rep.int_of ry
        subst this
        have := Rep.int_of rz
        subst this
        exact ⟨i, j, rfl, ⟨hj.2.1, hj.1, hj.2.2.2, hj.2.2.1⟩, h _ G1 H1 bs x1 p1 R1 fun Fm' _ => yl_range i (j - i).toNat⟩

/-! ### for -/
noncomputable def loopF (q : Gd) (tg : TgF) (body : SF) : List D → SF
  | [] => fun ρ => gdo q fun cs => some (.nx ρ cs)
  | d :: ds => fun ρ => gdo q fun cs => match tg d ρ cs with
    | none => none
    | some (ρ1, cs1) => match body ρ1 cs1 with
      | some (.nx ρ2 cs2) => loopF q tg body ds ρ2 cs2
      | some (.ct ρ2 cs2) => loopF q tg body ds ρ2 cs2
      | some (.brk ρ2 cs2) => some (.nx ρ2 cs2)
      | r => r
noncomputable def sFor (fi : IF) (tg : TgF) (body : SF) : SF := fun ρ => bndE (fi ρ) ρ fun items => loopF items.2 tg body items.1 ρ
theorem ds_for {tg iter : Expr} {body : List Stmt} {fi : IF} {is : List Nat} {g : TgF} {F : SF} {pos : Pos} (hp : PassesOwn (model X.prog X.w) X.A X.env X.xe) (hc : X.calm = true) (hi : DI X W tg iter fi) (hg : DG X tg is g) (hb : DSs X W body F)
    (hs : ∀ x, foldedSetIterable iter X.env x = pure x := by intro _; rfl) : DS X W (.For tg iter body [] pos) (sFor fi g F) := by
  obtain ⟨wi, p1, q1⟩ := hi
  obtain ⟨tg', p2, q2⟩ := hg
  obtain ⟨tb, p3, q3⟩ := hb
  refine ⟨_, ps_for hp hc p1 p2 p3 hs, fun G H as cs Fm σ ρ D' R S h => ?_⟩
  unfold sFor bndE at h
  refine q1 G H as cs Fm σ ρ _ R S ?_
  cases e1 : fi ρ cs with
  | none => rw [e1] at h; exact h.elim
  | some z =>
    rw [e1] at h
    cases z with
    | exc C x c => exact fun d G' H' bs a b c d' => h d σ G' H' bs a b c (S.ext a b) d'
    | ok its cs1 =>
      obtain ⟨items, gd⟩ := its
      intro J G1 H1 bs x1 pr1 R1 hy
      have hy := hy Fm fun _ _ z => z
      let I : Nat → L2.St → Hp → Prop := fun i σ' H' => ∃ G' as' cs' ρ', Ext G1 G' ∧ bs <+: as' ∧ Rp G' H' as' cs' Fm ∧ Sl G' as' σ' ρ' ∧ PoS G' as' Fm D' W (loopF gd g F (items.drop i) ρ' cs')
      refine ⟨fun i m σ' H' => i + m = items.length ∧ I i σ' H', ⟨items.length, by omega, G1, bs, cs1, ρ, Ext.refl _, List.prefix_refl _, R1, S.ext x1 pr1, PoS.later x1 pr1 h⟩, fun i m σ' H' hW => ?_⟩
      obtain ⟨him, G', as', cs', ρ', x', p', R', S', hl⟩ := hW
      cases hd : items[i]? with
      | none =>
        have hge := List.getElem?_eq_none_iff.mp hd
        rw [List.drop_of_length_le hge] at hl
        unfold loopF at hl
        obtain ⟨hgd, hl⟩ := gdo_ok (P := PoS G' as' Fm D' W) id hl
        obtain ⟨y1, y2⟩ := hy i G' H' as' cs' x' p' R' hgd
        exact .inl ⟨y2 hge, hl σ' G' H' as' (Ext.refl _) (List.prefix_refl _) R' S'⟩
      | some d =>
        obtain ⟨hlt, hd2⟩ := List.getElem?_eq_some_iff.mp hd
        rw [List.drop_eq_getElem_cons hlt, hd2] at hl
        unfold loopF at hl
        obtain ⟨hgd, hl⟩ := gdo_ok (P := PoS G' as' Fm D' W) id hl
        obtain ⟨y1, y2⟩ := hy i G' H' as' cs' x' p' R' hgd
        obtain ⟨go, yl⟩ := y1 d hd
        refine .inr ⟨go, I (i + 1), fun σ2 H2 hI => ⟨m - 1, by omega, by omega, hI⟩, fun v H2 hv => ?_⟩
        obtain ⟨G2, x2, R2, rv⟩ := yl v H2 hv
        have hl2 := PoS.later x2 (List.prefix_refl _) hl
        refine q2 G2 H2 as' cs' Fm σ' ρ' v d _ R2 (S'.ext x2 (List.prefix_refl _)) rv ?_
        cases e2 : g d ρ' cs' with
        | none => simp only [e2] at hl2; exact hl2.elim
        | some z =>
          obtain ⟨ρ3, cs3⟩ := z
          simp only [e2] at hl2
          intro σ3 G3 H3 bs3 o3 x3 p3' R3 S3
          refine q3 G3 H3 bs3 cs3 Fm σ3 ρ3 _ R3 S3 ?_
          have hl3 := PoS.later x3 p3' hl2
          cases e3 : F ρ3 cs3 with
          | none => simp only [e3] at hl3; exact hl3.elim
          | some r =>
            simp only [e3] at hl3
            cases r with
            | nx ρ4 cs4 => exact fun σ4 G4 H4 bs4 x4 p4 R4 S4 => ⟨G4, bs4, cs4, ρ4, ((x'.trans x2).trans x3).trans x4, (p'.trans p3').trans p4, R4, S4, PoS.later x4 p4 hl3⟩
            | ct ρ4 cs4 => exact fun σ4 G4 H4 bs4 x4 p4 R4 S4 => ⟨G4, bs4, cs4, ρ4, ((x'.trans x2).trans x3).trans x4, (p'.trans p3').trans p4, R4, S4, PoS.later x4 p4 hl3⟩
            | brk ρ4 cs4 => exact hl3
            | ret d4 cs4 => exact hl3
            | exc C ds4 ρ4 cs4 => exact hl3
end
end MW

set_option Elab.async false
set_option linter.all false
set_option maxRecDepth 100000
/-! MwComp: list comprehensions as data functions. -/
namespace MW
open PySem PySem.Spec PyProof.Rows L2

/-! ### readings that hang on the data alone -/
abbrev W0 : WX := fun _ _ _ _ => False
def teD (f : EF) : TE := fun σ H Q => ∃ G as cs Fm ρ, Rp G H as cs Fm ∧ Sl G as σ ρ ∧ PoE G as Fm Q (fun _ _ _ => False) (f ρ cs)
def ttD (f : TF) : TT := fun σ H Q => ∃ G as cs Fm ρ, Rp G H as cs Fm ∧ Sl G as σ ρ ∧ PoT G as Fm Q (fun _ _ _ => False) (f ρ cs)
def tgD (is : List Nat) (g : TgF) : TG := fun v σ H Q => ∃ G as cs Fm ρ w, Rp G H as cs Fm ∧ Sl G as σ ρ ∧ Rep G as v w ∧ PoG G as Fm is σ Q (g w ρ cs)
section
variable {X : Cx} {W : WX}
theorem DE.pe {e : Expr} {f : EF} (h : DE X W0 e f) : PE X e (teD f) := by
  obtain ⟨t, p, q⟩ := h
  exact ⟨fun pins s σ H Q I ⟨G, as, cs, Fm, ρ, R, S, h⟩ => p.run pins s σ H Q I (q G H as cs Fm σ ρ Q R S h)⟩
theorem DT.pt {e : Expr} {f : TF} (h : DT X W0 e f) : PT X e (ttD f) := by
  obtain ⟨t, p, q⟩ := h
  exact ⟨fun pins s σ H Q I ⟨G, as, cs, Fm, ρ, R, S, h⟩ => p.run pins s σ H Q I (q G H as cs Fm σ ρ Q R S h)⟩
theorem DG.pg {e : Expr} {is : List Nat} {g : TgF} (h : DG X e is g) : PG X e (tgD is g) := by
  obtain ⟨t, p, q⟩ := h
  exact ⟨fun pins s σ H v u Q I r ⟨G, as, cs, Fm, ρ, w, R, S, rv, h⟩ => p.run pins s σ H v u Q I r (q G H as cs Fm σ ρ v w Q R S rv h)⟩

/-- the comprehension's own slots forgotten -/
def wipeE (ρ : Evn) : List Nat → Evn
  | [] => ρ
  | v :: vs => (wipeE ρ vs).set v none
theorem wipe_get (σ : L2.St) : ∀ (vs : List Nat) (j : Nat), (wipe σ vs)[j]? = if j ∈ vs ∧ j < σ.length then some none else σ[j]?
  | [], j => by simp [wipe]
  | v :: vs, j => by
    unfold wipe
    by_cases h : v = j
    · subst h
      by_cases hl : v < σ.length
      · rw [List.getElem?_set_self (by rw [wipe_length]; exact hl), if_pos ⟨List.mem_cons_self, hl⟩]
      · rw [List.getElem?_eq_none (by rw [List.length_set, wipe_length]; omega), if_neg (fun z => hl z.2), List.getElem?_eq_none (by omega)]
    · rw [List.getElem?_set_ne h, wipe_get σ vs j]
      have e : (j ∈ v :: vs ∧ j < σ.length) = (j ∈ vs ∧ j < σ.length) := by
        rw [List.mem_cons]
        exact propext ⟨fun z => ⟨z.1.resolve_left fun q => h q.symm, z.2⟩, fun z => ⟨.inr z.1, z.2⟩⟩
      simp only [e]
theorem sl_wipe {G : Hp} {as : List Addr} {σ : L2.St} {ρ : Evn} (S : Sl G as σ ρ) : ∀ vs : List Nat, Sl G as (wipe σ vs) (wipeE ρ vs)
  | [] => S
  | v :: vs => by
    have S' := sl_wipe S vs
    refine ⟨by unfold wipe wipeE; simp [S'.len], fun i w e => ?_⟩
    unfold wipeE at e
    by_cases h : v = i
    · subst h
      by_cases hl : v < (wipeE ρ vs).length
      · rw [List.getElem?_set_self hl] at e
        cases e
      · rw [List.getElem?_eq_none (by rw [List.length_set]; omega)] at e
        cases e
    · rw [List.getElem?_set_ne h] at e
      unfold wipe
      rw [List.getElem?_set_ne h]
      exact S'.at_ i w e
theorem off_wipe {σ σ2 : L2.St} {is vs : List Nat} (o : Off is (wipe σ vs) σ2) (h : ∀ i ∈ is, i ∈ vs) : wipe σ2 vs = wipe σ vs := by
  have hl : σ2.length = σ.length := by rw [o.1, wipe_length]
  apply List.ext_getElem?
  intro j
  rw [wipe_get, wipe_get, hl]
  by_cases q : j ∈ vs ∧ j < σ.length
  · rw [if_pos q, if_pos q]
  · rw [if_neg q, if_neg q]
    by_cases hj : j ∈ is
    · have h1 : ¬ j < σ.length := fun z => q ⟨h j hj, z⟩
      rw [List.getElem?_eq_none (by omega), List.getElem?_eq_none (by omega)]
    · rw [o.2 j hj, wipe_get, if_neg q]

/-! ### [elt for tg in iter if test] -/
noncomputable def compF (q : Gd) (tg : TgF) (test : TF) (elt : EF) (ρ : Evn) : List D → Mo (List D)
  | [] => gdo q (ret [])
  | d :: ds => gdo q fun cs => match tg d ρ cs with
    | none => none
    | some (ρ1, cs1) => bnd (noX (test ρ1)) (fun b => if b = true then bnd (noX (elt ρ1)) fun y => bnd (compF q tg test elt ρ ds) fun ys => ret (y :: ys) else compF q tg test elt ρ ds) cs1
def tfY : TF := fun _ => ret true
noncomputable def fLc (vs : List Nat) (fi : IF) (tg : TgF) (test : TF) (elt : EF) (m : List D → Mo D) : EF := fun ρ => bnd (fi ρ) fun items => if items.1.length ≤ sizeLine then bnd (compF items.2 tg test elt (wipeE ρ vs) items.1) m else fail
/-- the tests -/
def DTs (X : Cx) (ifs : List Expr) (f : TF) : Prop := PTs X ifs (ttD f)
theorem dts_nil : DTs X [] tfY := ⟨fun pins s σ H Q I ⟨G, as, cs, Fm, ρ, R, S, h⟩ => (pts_nil (X := X)).run pins s σ H Q I (PoT.ret h R)⟩
theorem dts_one {c : Expr} {f : TF} (h : DT X W0 c f) : DTs X [c] f := pts_one h.pt
theorem Rp.unhold {G H : Hp} {as : List Addr} {cs : List Cel} {Fm : Hp} {p : Addr} {o : HO} (hf : Fm p = none) (R : Rp G H as cs (upd Fm p o)) : Rp G H as cs Fm := R.less fun a o e => by
  rw [upd_ne (ne_of_none e hf)]
  exact e
/-- what is in the frame and of no kind that is frozen is not frozen -/
theorem Rp.frame_free {G H : Hp} {as : List Addr} {cs : List Cel} {Fm : Hp} {p : Addr} {xs : List V} (R : Rp G H as cs Fm) (h : Fm p = some (.lst xs)) : G p = none ∧ H p = some (.lst xs) := by
  obtain ⟨h1, h2, h3⟩ := R.fr p _ h
  refine ⟨?_, h1⟩
  cases e : G p with
  | none => rfl
  | some u =>
    obtain ⟨ys, rfl⟩ := h3 u e
    have := (R.fits p _ e).no rfl
    rw [h1] at this
    cases this
/-- a held list is frozen at last -/
theorem Rp.settle {G H : Hp} {as : List Addr} {cs : List Cel} {Fm : Hp} {p : Addr} {xs : List V} (hf : Fm p = none) (R : Rp G H as cs (upd Fm p (.lst xs))) : Rp (upd G p (.lst xs)) H as cs Fm ∧ Ext G (upd G p (.lst xs)) := by
  obtain ⟨hg, hp⟩ := R.frame_free upd_same
  have x : Ext G (upd G p (.lst xs)) := Ext.new hg
  have na : p ∉ as := (R.fr p _ upd_same).2.1
  refine ⟨⟨fun b o e => ?_, R.len, R.nd, fun n b c hb hc => ?_, fun b o e => ?_⟩, x⟩
  · by_cases hb : b = p
    · subst hb; rw [upd_same] at e; cases e; exact .inl hp
    · rw [upd_ne hb] at e
      exact R.fits b o e
  · have nb : b ≠ p := fun z => na (z ▸ List.mem_of_getElem? hb)
    obtain ⟨h1, h2⟩ := R.cel n b c hb hc
    refine ⟨fun e => ?_, fun e => ?_⟩
    · obtain ⟨g, u, hu, r⟩ := h1 e
      exact ⟨by rw [upd_ne nb]; exact g, u, hu, r.ext x (List.prefix_refl _)⟩
    · obtain ⟨u, hu, r⟩ := h2 e
      exact ⟨u, by rw [upd_ne nb]; exact hu, r.ext x (List.prefix_refl _)⟩
  · have nb : b ≠ p := fun z => by rw [z, hf] at e; cases e
    obtain ⟨h1, h2, h3⟩ := R.fr b o (by rw [upd_ne nb]; exact e)
    exact ⟨h1, h2, fun u hu => h3 u (by rw [upd_ne nb] at hu; exact hu)⟩
/-- .. or becomes a cell -/
theorem Rp.settleC {G H : Hp} {as : List Addr} {cs : List Cel} {Fm : Hp} {p : Addr} {xs : List V} {ds : List D} (hf : Fm p = none) (R : Rp G H as cs (upd Fm p (.lst xs))) (r : Reps G as xs ds) : Rp G H (as ++ [p]) (cs ++ [⟨.lst ds, true⟩]) Fm := by
  obtain ⟨hg, hp⟩ := R.frame_free upd_same
  have na : p ∉ as := (R.fr p _ upd_same).2.1
  refine ⟨R.fits, by simp [R.len], ?_, fun n b c hb hc => ?_, fun b o e => ?_⟩
  · rw [List.nodup_append]
    refine ⟨R.nd, by simp, fun x hx y hy => ?_⟩
    obtain rfl : y = p := by simpa using hy
    exact fun z => na (z ▸ hx)
  · by_cases hn : n < as.length
    · rw [List.getElem?_append_left hn] at hb
      rw [List.getElem?_append_left (by rw [← R.len]; exact hn)] at hc
      obtain ⟨h1, h2⟩ := R.cel n b c hb hc
      refine ⟨fun e => ?_, fun e => ?_⟩
      · obtain ⟨g, u, hu, r⟩ := h1 e
        exact ⟨g, u, hu, r.ext (Ext.refl _) (List.prefix_append _ _)⟩
      · obtain ⟨u, hu, r⟩ := h2 e
        exact ⟨u, hu, r.ext (Ext.refl _) (List.prefix_append _ _)⟩
    · have hn' : as.length ≤ n := Nat.le_of_not_lt hn
      rw [List.getElem?_append_right hn'] at hb
      rw [List.getElem?_append_right (by rw [← R.len]; exact hn')] at hc
      have e0 : n - as.length = 0 := by
        have := (List.getElem?_eq_some_iff.mp hb).1
        simp at this
        omega
      rw [e0] at hb
      rw [← R.len, e0] at hc
      obtain rfl : p = b := by simpa using hb
      obtain rfl : (⟨.lst ds, true⟩ : Cel) = c := by simpa using hc
      exact ⟨fun _ => ⟨hg, _, hp, .lst (r.ext (Ext.refl _) (List.prefix_append _ _))⟩, fun z => by cases z⟩
  · have nb : b ≠ p := fun z => by rw [z, hf] at e; cases e
    obtain ⟨h1, h2, h3⟩ := R.fr b o (by rw [upd_ne nb]; exact e)
    refine ⟨h1, fun z => ?_, h3⟩
    rcases List.mem_append.mp z with z | z
    · exact h2 z
    · exact nb (by simpa using z)
theorem Rp.fresh {G H : Hp} {as : List Addr} {cs : List Cel} {Fm : Hp} {p : Addr} (R : Rp G H as cs Fm) (hp : H p = none) : Fm p = none := by
  cases e : Fm p with
  | none => rfl
  | some o =>
    have := (R.fr p o e).1
    rw [hp] at this
    cases this
/-- the finished list is frozen -/
def mkL (ys : List D) : Mo D := ret (.lst ys)
/-- .. a cell -/
def mkLC (ys : List D) : Mo D := newc (.lst ys)
/-- what may be done with the finished list -/
def MkOk (m : List D → Mo D) : Prop := ∀ (G H : Hp) (as : List Addr) (cs : List Cel) (Fm : Hp) (p : Addr) (xs : List V) (ys : List D) (Q : VK) (E : XK), Fm p = none → Rp G H as cs (upd Fm p (.lst xs)) → Reps G as xs ys → PoE G as Fm Q E (m ys cs) → Q (.ref p) H
theorem mkL_ok : MkOk mkL := fun G H as cs Fm p xs ys Q E hf R r h => by
  obtain ⟨R2, x⟩ := R.settle hf
  exact h _ _ H as x (List.prefix_refl _) R2 (.ref upd_same (.lst (r.ext x (List.prefix_refl _))))
theorem mkLC_ok : MkOk mkLC := fun G H as cs Fm p xs ys Q E hf R r h => by
  have R2 := R.settleC hf r
  exact h _ G H _ (Ext.refl _) (List.prefix_append _ _) R2 (.cel (by rw [← R.len]; simp))
theorem de_lc {elt tg iter : Expr} {ifs : List Expr} {scope : Scope} {own : List (Str × Nat)} {pos : Pos} {fi : IF} {is : List Nat} {g : TgF} {ft : TF} {fe : EF} {m : List D → Mo D} (hm : MkOk m) (hc : X.calm = true) (hN : X.N.Nodup) (hi : DI X W tg iter fi) (ok : blkC X.N X.env.scope scope own = true)
    (hg : ∀ (s : Shared) (H : Hp) (C : Addr) (cl : List (Str × Addr)) (fp : List Addr), DG (X.blk s H scope (compEnvC scope cl C X.env) fp) tg is g)
    (ht : ∀ (s : Shared) (H : Hp) (C : Addr) (cl : List (Str × Addr)) (fp : List Addr), DTs (X.blk s H scope (compEnvC scope cl C X.env) fp) ifs ft)
    (he : ∀ (s : Shared) (H : Hp) (C : Addr) (cl : List (Str × Addr)) (fp : List Addr), DE (X.blk s H scope (compEnvC scope cl C X.env) fp) W0 elt fe)
    (hv : ∀ i ∈ is, i ∈ own.map (·.2) := by decide) (hs : ∀ x, foldedSetIterable iter X.env x = pure x := by intro _; rfl) : DE X W (.ListComp elt [⟨tg, iter, ifs, 0⟩] scope pos) (fLc (own.map (·.2)) fi g ft fe m) := by
  obtain ⟨wi, p1, q1⟩ := hi
  refine ⟨_, pe_lc hc hN p1 (blkOk_by ok) (fun s H C cl fp => (hg s H C cl fp).pg) (fun s H C cl fp => ht s H C cl fp) (fun s H C cl fp => (he s H C cl fp).pe) hs, fun G H as cs Fm σ ρ Q R S h => ?_⟩
  unfold fLc at h
  refine q1 G H as cs Fm σ ρ _ R S ?_
  unfold bnd at h
  cases e1 : fi ρ cs with
  | none => rw [e1] at h; exact h.elim
  | some z =>
    rw [e1] at h
    cases z with
    | exc C x c => exact h
    | ok its cs1 =>
      obtain ⟨items, gd⟩ := its
      intro J G1 H1 bs x1 pr1 R1 hy
      simp only at h
      intro Dl hD
      have hF := R1.fresh hD
      have h1 := Po.later x1 pr1 h
      -- at turn i: so much is made, so much is to come
      let I : Nat → Hp → Prop := fun i H' => ∃ G' as' cs' xs ys, Ext G1 G' ∧ bs <+: as' ∧ Rp G' H' as' cs' (upd Fm Dl (.lst xs)) ∧ Reps G' as' xs ys ∧ xs.length ≤ i ∧
        PoE G' as' Fm Q (fun c d H' => W c d σ H') (bnd (compF gd g ft fe (wipeE ρ (own.map (·.2))) (items.drop i)) (fun zs => m (ys ++ zs)) cs')
      by_cases hbig : items.length ≤ sizeLine
      · rw [if_pos hbig] at h1
        refine ⟨fun i k H' => i + k = items.length ∧ I i H', ⟨items.length, by omega, G1, bs, cs1, [], [], Ext.refl _, List.prefix_refl _, R1.hold hD, .nil, Nat.zero_le _, ?_⟩, fun i k H' hW => ?_⟩
        · rw [List.drop_zero]
          exact h1
        · obtain ⟨hik, G', as', cs', xs, ys, x', p', R', r', hxs, hl⟩ := hW
          cases hd : items[i]? with
          | none =>
            have hge := List.getElem?_eq_none_iff.mp hd
            rw [List.drop_of_length_le hge] at hl
            have hgd : gOk gd cs' := by
              by_cases z : gOk gd cs'
              · exact z
              · exfalso
                unfold bnd compF at hl
                cases gd with
                | none => exact z trivial
                | some p =>
                  unfold gdo at hl
                  dsimp only at hl
                  rw [if_neg z] at hl
                  exact hl
            obtain ⟨y1, y2⟩ := hy (upd Fm Dl (.lst xs)) (fun a o e => by rw [upd_ne (ne_of_none e hF)]; exact e) i G' H' as' cs' x' p' R' hgd
            have hl2 : PoE G' as' Fm Q (fun c d H' => W c d σ H') (m ys cs') := by
              have e : bnd (compF gd g ft fe (wipeE ρ (own.map (·.2))) []) (fun zs => m (ys ++ zs)) cs' = m ys cs' := by
                unfold compF bnd
                rw [gdo_pos hgd]
                show m (ys ++ []) cs' = m ys cs'
                rw [List.append_nil]
              rw [← e]
              exact hl
            exact .inl ⟨y2 hge, hm G' H' as' cs' Fm Dl xs ys Q _ hF R' r' hl2⟩
          | some d =>
            obtain ⟨hlt, hd2⟩ := List.getElem?_eq_some_iff.mp hd
            rw [List.drop_eq_getElem_cons hlt, hd2] at hl
            have hgd : gOk gd cs' := by
              by_cases z : gOk gd cs'
              · exact z
              · exfalso
                unfold bnd compF at hl
                cases gd with
                | none => exact z trivial
                | some p =>
                  unfold gdo at hl
                  dsimp only at hl
                  rw [if_neg z] at hl
                  exact hl
            obtain ⟨y1, y2⟩ := hy (upd Fm Dl (.lst xs)) (fun a o e => by rw [upd_ne (ne_of_none e hF)]; exact e) i G' H' as' cs' x' p' R' hgd
            obtain ⟨go, yl⟩ := y1 d hd
            refine .inr ⟨go, I (i + 1), fun H2 hI => ⟨k - 1, by omega, by omega, hI⟩, fun v H2 hv' => ?_⟩
            obtain ⟨G2, x2, R2, rv⟩ := yl v H2 hv'
            have S2 := sl_wipe ((S.ext x1 pr1).ext (x'.trans x2) p') (own.map (·.2))
            refine ⟨G2, as', cs', upd Fm Dl (.lst xs), wipeE ρ (own.map (·.2)), d, R2, S2, rv, ?_⟩
            have hl2 := Po.later x2 (List.prefix_refl _) hl
            unfold compF at hl2
            unfold bnd at hl2
            rw [gdo_pos hgd] at hl2
            cases e2 : g d (wipeE ρ (own.map (·.2))) cs' with
            | none => simp only [e2] at hl2; exact hl2.elim
            | some z =>
              obtain ⟨ρ3, cs3⟩ := z
              simp only [e2] at hl2
              intro σ3 G3 H3 bs3 o3 x3 p3 R3 S3
              refine ⟨off_wipe o3 hv, ?_⟩
              have hl3 : PoE G3 bs3 Fm Q (fun c d H' => W c d σ H') (bnd (bnd (noX (ft ρ3)) (fun b => if b = true then bnd (noX (fe ρ3)) fun y => bnd (compF gd g ft fe (wipeE ρ (own.map (·.2))) (items.drop (i + 1))) fun ys => ret (y :: ys) else compF gd g ft fe (wipeE ρ (own.map (·.2))) (items.drop (i + 1)))) (fun zs => m (ys ++ zs)) cs3) := Po.later x3 p3 hl2
              refine ⟨G3, bs3, cs3, upd Fm Dl (.lst xs), ρ3, R3, S3, ?_⟩
              unfold bnd at hl3
              cases e3 : noX (ft ρ3) cs3 with
              | none => simp only [e3] at hl3; exact hl3.elim
              | some z =>
                cases z with
                | exc C x c =>
                  unfold noX at e3
                  split at e3 <;> cases e3
                | ok b cs4 =>
                  simp only [e3] at hl3
                  refine Po.noX (E := fun _ _ _ => False) ?_
                  rw [e3]
                  intro b' G4 H4 bs4 x4 p4 R4 hb
                  subst hb
                  have hl4 := Po.later x4 p4 hl3
                  cases b' with
                  | false =>
                    rw [if_neg Bool.false_ne_true]
                    simp only [Bool.false_eq_true, if_false] at hl4
                    exact ⟨G4, bs4, cs4, xs, ys, ((x'.trans x2).trans x3).trans x4, (p'.trans p3).trans p4, R4, r'.ext ((x2.trans x3).trans x4) (p3.trans p4), by omega, hl4⟩
                  | true =>
                    rw [if_pos rfl]
                    simp only [if_true] at hl4
                    refine ⟨G4, bs4, cs4, upd Fm Dl (.lst xs), ρ3, R4, S3.ext x4 p4, ?_⟩
                    cases e5 : noX (fe ρ3) cs4 with
                    | none => simp only [e5] at hl4; exact hl4.elim
                    | some z =>
                      cases z with
                      | exc C x c =>
                        unfold noX at e5
                        split at e5 <;> cases e5
                      | ok y cs5 =>
                        simp only [e5] at hl4
                        refine Po.noX (E := fun _ _ _ => False) ?_
                        rw [e5]
                        intro u G5 H5 bs5 x5 p5 R5 ru
                        have hl5 := Po.later x5 p5 hl4
                        obtain ⟨hg5, hp5⟩ := R5.frame_free upd_same
                        have R6 := R5.held (o' := .lst (xs ++ [u])) upd_same hg5
                        rw [upd_upd] at R6
                        have rr := r'.ext (((x2.trans x3).trans x4).trans x5) ((p3.trans p4).trans p5)
                        refine ⟨xs, hp5, by omega, G5, bs5, cs5, xs ++ [u], ys ++ [y], (((x'.trans x2).trans x3).trans x4).trans x5, ((p'.trans p3).trans p4).trans p5, R6, rr.append (.cons ru .nil), by simp; omega, ?_⟩
                        unfold bnd
                        cases e6 : compF gd g ft fe (wipeE ρ (own.map (·.2))) (items.drop (i + 1)) cs5 with
                        | none => simp only [e6] at hl5; exact hl5.elim
                        | some z =>
                          cases z with
                          | exc C x c =>
                            simp only [e6] at hl5
                            exact hl5
                          | ok zs cs6 =>
                            simp only [e6] at hl5
                            have e7 : ys ++ [y] ++ zs = ys ++ (y :: zs) := by simp
                            show PoE G5 bs5 Fm Q _ (m (ys ++ [y] ++ zs) cs6)
                            rw [e7]
                            exact hl5
      · rw [if_neg hbig] at h1
        exact h1.elim
end
end MW

set_option Elab.async false
set_option linter.all false
set_option maxRecDepth 100000
set_option maxHeartbeats 4000000
/-! MwExc: the own exceptions (an __init__ that says super().__init__() and keeps value): made, raised, caught, their value. -/
namespace MW
open PySem PySem.Spec PyProof.Rows L2 PySem.HandSPX
/-! ### the class called with keywords -/
section
variable {M : Model} {A : Around} {E : Value → Shared → Prop} {h : Heap} {g : Array GenState} {d : Drawn} {t : Nat} {os : OsState}
variable {nm q : Str} {C N : Addr} {bs bm bmB : List Value} {hdct : Bool} {sn : List Str} {sub : List Value} {ab : Bool} {col : Option Bool} {dd : Option Addr} {k0 k1 k2 k3 k5 : Option Value} {B newId initId : String}
theorem check_newK (F : ExcBaseFacts B newId initId bmB) (hT : ∀ X : String, bm.contains (.type X) = bmB.contains (.type X)) {kw : List (Str × Value)} {Q : Unit → Shared → Prop}
    (hC : h.get? C = some (excClassObj nm q C N bs bm hdct sn sub ab col dd k0 k1 k2 k3 k5 newId)) (hq : Q () ⟨h, g, d, t, os⟩) : wpAny M A (checkBuiltinCall newId ⟨[.ref C], kw⟩) Q E ⟨h, g, d, t, os⟩ := by
  have hcont : (Value.ref C :: bm).contains (.type B) = true := by rw [List.contains_cons, hT, F.hasB, Bool.or_true]
  have hstar := F.noStar
  simp only [checkBuiltinCall, F.newKind, F.newSplit, F.newRow]
  repeat (first | refine wpAny_loadPart_at hC ?_ | (refine wpAny_isSubtype_exc hC ?_; rw [hcont]) | refine wpAny_staticBase_exc hC ?_ | refine wpAny_madeBy_exc hC ?_ | simp only [bne_self_eq_false, Bool.false_eq_true, if_false] | wp_step)
  exact hq
end
section
variable {prog : Program} {w : World} {A : Around} {E : Value → Shared → Prop} {R : Result → Shared → Prop} {h : Heap} {g : Array GenState} {d : Drawn} {t : Nat} {os : OsState}
variable {nm q : Str} {C N : Addr} {bs bm bmB : List Value} {hdct : Bool} {sn : List Str} {sub : List Value} {ab : Bool} {col : Option Bool} {dd : Option Addr} {k0 k1 k2 k3 k5 : Option Value} {B newId initId : String}
theorem new_ownK (F : ExcBaseFacts B newId initId bmB) (hT : ∀ X : String, bm.contains (.type X) = bmB.contains (.type X)) {kw : List (Str × Value)}
    (hC : h.get? C = some (excClassObj nm q C N bs bm hdct sn sub ab col dd k0 k1 k2 k3 k5 newId))
    (hq : R (.ok (.ret (.ref (h.objs.size + 1)))) ⟨(h.push { cls := .type "tuple", data := .seq #[] }).push
      { cls := .ref C, data := .fields #[.ref h.objs.size, .none, .none, .none, .bool false, .none] }, g, d, t, os⟩) :
    codeAny (model prog w) A (.builtin newId ⟨[.ref C], kw⟩) R ⟨h, g, d, t, os⟩ := by
  have hends := F.ends
  have hcB : (Value.ref C :: bm).contains (.type B) = true := by rw [List.contains_cons, hT, F.hasB, Bool.or_true]
  have hcA : (Value.ref C :: bm).contains (.type "AttributeError") = false := by rw [List.contains_cons, hT, F.noAttr]; rfl
  have hcN : (Value.ref C :: bm).contains (.type "NameError") = false := by rw [List.contains_cons, hT, F.noName]; rfl
  refine codeAny_builtinAt F.entry ?_
  unfold Builtin.«BaseException.__new__»
  refine PySem.wpAt_bind ?_
  show PySem.wpAt _ _ _ (stack >>= _) _ _ _
  refine PySem.wpAt_bind (PySem.wpAt_stack fun p below => wpAt_of_wpAny ?_)
  wp_walk
  refine wpAt_of_wpAny ?_
  rw [F.owner]
  repeat (first | with_reducible refine wpAny_madeHere_exc F.canon hC ?_ | with_reducible refine wpAny_loadPart_at hC ?_ | (with_reducible refine wpAny_isSubtype_exc hC ?_; first | rw [hcB] | rw [hcA] | rw [hcN]) | wp_step)
  show R _ _
  rw [Heap.size_push]
  exact hq
end
section
variable {prog : Program} {w : World} {A : Around} {E : Value → Shared → Prop} {R : Result → Shared → Prop} {h : Heap} {g : Array GenState} {d : Drawn} {t : Nat} {os : OsState}
variable {nm q : Str} {C N : Addr} {bs bm bmB : List Value} {hdct : Bool} {sn : List Str} {sub : List Value} {ab : Bool} {col : Option Bool} {dd : Option Addr} {k0 k1 k2 k3 k5 : Option Value} {B newId initId : String}
theorem type_call_ownK (F : ExcBaseFacts B newId initId bmB) (hT : ∀ X : String, bm.contains (.type X) = bmB.contains (.type X)) {kw : List (Str × Value)} {fI : Addr} {Q : PySem.Fin → Shared → Prop}
    (hC : h.get? C = some (excClassObj nm q C N bs bm hdct sn sub ab col dd k0 k1 k2 k3 k5 newId))
    (hi : W.Looks (model prog w) h (typeLookup (.ref C) "__init__") (some (.ref fI))) (hb : ∀ self, W.Looks (model prog w) h (bindSpecial (.ref fI) self) (.ref fI, [self]))
    (hq : codeAny (model prog w) A (.call (.ref fI) ⟨[.ref (h.objs.size + 1)], kw⟩)
      (fun r s' => match r with | .ok (.ret v) => v = .none ∧ Q (.done (.ret (.ref (h.objs.size + 1)))) s' | .ok _ => False | .error e => E e s')
      ⟨(h.push (W.kdv_tup [])).push (excO C h.objs.size), g, d, t, os⟩) :
    wpAny (model prog w) A (Builtin.«type.__call__» ⟨[.ref C], kw⟩) Q E ⟨h, g, d, t, os⟩ := by
  repeat (first | with_reducible refine wpAny_loadPart_at hC ?_ | with_reducible refine wpAny_madeBy_exc hC ?_ | wp_step)
  refine codeAny_call_builtin_code (Code.quiet_builtin _ F.quiet) (check_newK F hT hC ?_)
  refine new_ownK F hT hC ?_
  show wpAny _ _ _ _ _ _
  have k : ∀ b o, h.get? b = some o → ((h.push (W.kdv_tup [])).push (excO C h.objs.size)).get? b = some o := fun b o e => Heap.get?_push_of_some _ (Heap.get?_push_of_some _ e)
  have hC₁ := k _ _ hC
  have hget : ((h.push (W.kdv_tup [])).push (excO C h.objs.size)).get? (h.objs.size + 1) = some (excO C h.objs.size) := by heap_get
  have hcC : (Value.ref C :: bm).contains (.ref C) = true := by simp
  have i1 := hi.keeps k
  have b1 := (hb (.ref (h.objs.size + 1))).keeps k
  unfold isInstance
  repeat (first | with_reducible refine wpAny_loadPart_at hget ?_ | (with_reducible refine wpAny_isSubtype_exc hC₁ ?_; rw [hcC]) | wp_step)
  show wpAny _ _ (typeLookup (.ref C) _) _ _ _
  refine i1.at ?_
  refine wpAny_holding (wpAny_bind (b1.at ?_))
  refine wpAny_bind (wpAny_call (codeAny_mono hq fun r s' z => ?_))
  rcases r with e | (v | _ | _ | _) <;> first | exact z | exact z.elim | skip
  obtain ⟨rfl, z⟩ := z
  first
    | exact wpAny_pure (wpAny_pure z)
    | (wp_walk; exact z)
theorem call_ownK (F : ExcBaseFacts B newId initId bmB) (hT : ∀ X : String, bm.contains (.type X) = bmB.contains (.type X)) {kw : List (Str × Value)} {fI : Addr}
    (hC : h.get? C = some (excClassObj nm q C N bs bm hdct sn sub ab col dd k0 k1 k2 k3 k5 newId))
    (hi : W.Looks (model prog w) h (typeLookup (.ref C) "__init__") (some (.ref fI))) (hb : ∀ self, W.Looks (model prog w) h (bindSpecial (.ref fI) self) (.ref fI, [self]))
    (hq : codeAny (model prog w) (A.under (.builtin "type.__call__" ⟨[.ref C], kw⟩)) (.call (.ref fI) ⟨[.ref (h.objs.size + 1)], kw⟩) (W.InitBack (h.objs.size + 1) R)
      ⟨(h.push (W.kdv_tup [])).push (excO C h.objs.size), g, d, t, os⟩) :
    codeAny (model prog w) A (.call (.ref C) ⟨[], kw⟩) R ⟨h, g, d, t, os⟩ := by
  have f1 := tc_lookup
  have f2 := tc_bind (.ref C)
  have hTy : (⟨h, g, d, t, os⟩ : Shared).TypeIs (.ref C) "type" := ⟨_, hC, rfl⟩
  refine codeAny_of_tree ?_
  show wpAny _ _ (callAny (.ref C) _) _ _ _
  repeat (any_goals (first | assumption | with_reducible refine wpAny_loadPart_at hC ?_ | wp_step))
  refine ⟨rfl, ?_⟩
  refine codeAny_call_builtin_at (Code.quiet_builtin _ (by decide +kernel)) entry_typeCall (wpAny_check_type_call_sub hC (type_call_ownK F hT hC hi hb ?_))
  refine codeAny_mono hq fun r s' z => ?_
  rcases r with e | (v | _ | _ | _) <;> exact z
end
end MW
namespace MW
open PySem PySem.Spec PyProof.Rows L2

/-- what the written part says of an own exception's class at C -/
structure ExC (K : PySem.W.Frag) (C : Addr) : Prop where
  oe : OexC K C
  no : PySem.W.findIn K (.ref C) "value" = some none
  sup : PySem.W.ks_superIn K C C "__init__" = some (some (.builtin "ValueError.__init__"))
  ve : PySem.W.subIn K (.ref C) (.type "ValueError") = some true
  own : PySem.W.mroIn K C (.ref C) = some true
  st : PySem.W.nsIn K cStatics "thirdparty.any" = some none
/-- __init__'s promise -/
def spIni (C : Addr) : Sp := fun vs H Q _ => ∃ (a : Addr) (y : V), vs = [.ref a, y] ∧ H a = some (exo a C none) ∧ ∀ dx, H dx = none → dx ≠ a → Q .non (upd (upd H dx (exd dx [("value", y)])) a (exo a C (some dx)))

section
variable {CX : CXT} {P : Program} {w : World} {K : PySem.W.Frag} {mg : Str → Option Value} {base : Heap} {k : Nat} {f C cc cda : Addr} {name qual : Str} {params : Arguments} {scope : Scope} {dV kV doc pm ct oc ccl cl : Value} {an od cdd cld : Option Addr}
  {osl ccs csl : Array (Option Value)} {vs0 : Array Value} {file : Str} {tf : Tok} {r1 r2 : Arg} {p0 p1 p2 p3 p4 p5 p6 p7 p8 : Pos}
theorem exc_ini (T : ExC K C)
    (lk : K.lookup f = some ⟨oc, od, .func (PySem.W.ksFn name qual params [.Expr (.Call (.Attribute (.Call (.Name "super" p0) [] [] p1) "__init__" p2) [] [] p3) p4, .Assign [.Attribute (.Name "self" p5) "value" p6] (.Name "value" p7) p8] scope dV kV doc pm an (.ref cda) ct cc), osl⟩)
    (hcd : PySem.W.codeIn K (.ref cda) qual = true) (lcc : K.lookup cc = some ⟨cl, cld, .cell (some (.ref C)), csl⟩) (lcd : K.lookup cda = some ⟨ccl, cdd, .fields vs0, ccs⟩) (hvs : vs0[2]? = some (.str file tf)) (hfile : ((P.main.file : Str) == file) = true)
    (htop : (P.main.scope.names.lookup ("super" : Str)).isSome = false) (hms : mg "super" = none)
    (hp : (params.posonlyargs ++ params.args).head? = some r1) (hr1 : r1.arg = "self")
    (hks : scope.names.lookup ("super" : Str) = some .globalImplicit) (hkc : scope.names.lookup ("__class__" : Str) = some .free) (hs1 : scope.names.lookup ("self" : Str) = some .local) (hs2 : scope.names.lookup ("value" : Str) = some .local)
    (hcell : ∀ x ∈ scope.names, x.2 ≠ .cell) (hco : scope.isCoroutine = false) (hgen : scope.isGenerator = false) (hk : scope.kind = .function) {pl : Sem Bool}
    (he : ∀ L, eval (.Call (.Attribute (.Call (.Name "super" p0) [] [] p1) "__init__" p2) [] [] p3) (PySem.W.ksEnv qual scope L f (.ref cda) cc) = (do
      let ov ← attributeBase (.Call (.Name "super" p0) [] [] p1) "__init__" (PySem.W.ksEnv qual scope L f (.ref cda) cc) (eval (.Call (.Name "super" p0) [] [] p1) (PySem.W.ksEnv qual scope L f (.ref cda) cc))
      standAt p2.atName
      let (fz, first) ← holding [ov] (getMethod ov "__init__" pl)
      callWith p3 fz first (backTo p3 (starEach [] (PySem.W.ksEnv qual scope L f (.ref cda) cc))) []))
    (hi : ∀ L, interactive (PySem.W.ksEnv qual scope L f (.ref cda) cc) = false)
    (hw1 : ∀ L, swapsWith (.Call (.Attribute (.Call (.Name "super" p0) [] [] p1) "__init__" p2) [] [] p3) none p4.line (PySem.W.ksEnv qual scope L f (.ref cda) cc) = pure false)
    (hw2 : ∀ L, swapsWith (.Name "value" p7) (some (.Attribute (.Name "self" p5) "value" p6)) p8.line (PySem.W.ksEnv qual scope L f (.ref cda) cc) = pure false) :
    FnOk P w K mg base CX (k + 1) f (PySem.W.ksFn name qual params [.Expr (.Call (.Attribute (.Call (.Name "super" p0) [] [] p1) "__init__" p2) [] [] p3) p4, .Assign [.Attribute (.Name "self" p5) "value" p6] (.Name "value" p7) p8] scope dV kV doc pm an (.ref cda) ct cc) ["self", "value"] (spIni C) := by
  refine ⟨fun vs H Q E q => ?_, fun A outer s H args us vs Q E hr e0 hb r hsp => ?_⟩
  · obtain ⟨a, y, rfl, _⟩ := q
    rfl
  obtain ⟨a, y, rfl, ha, hq⟩ := hsp
  obtain ⟨u, rfl, ru⟩ : ∃ u, us = [.ref a, u] ∧ RelV y u := by
    cases r with
    | @cons _ u0 _ ur ra rw' =>
      obtain rfl : u0 = Value.ref a := ra
      cases rw' with
      | @cons _ u1 _ ur1 rb rn =>
        cases rn
        exact ⟨u1, rfl, rb⟩
  have KX : K.In s.heap := e0.mod.kin.keeps fun b o e => (e0.bs b o e).1
  have lim : s.heap.NoLimit := e0.mod.nolimit.keeps fun b o e => (e0.bs b o e).1
  obtain ⟨t0, hoe⟩ := exo_at e0.hok ha
  obtain ⟨nm, q, N, bs, bm, sn, sub, ab, col, dd, k0, k1, k2, k3, k5, hC, hbm⟩ := T.oe.cls
  have hcl : PySem.W.clsIn K C = some { name := nm, bases := bs, mro := .ref C :: bm, ns := N, qualname := q, hasDict := true, slotNames := sn, subclasses := sub, abstract := ab, collection := col, hasDel := false } := by unfold PySem.W.clsIn; rw [hC] <;> rfl
  refine PySem.ks_codeAny_call_defAt (binds := [("self", .ref a), ("value", u)]) hr.depth (KX _ _ lk) rfl lim (PySem.W.codeRec_of KX hcd) rfl hb hcell (fun x hx => ?_) (fun h0 hns hk0 => ?_) hco hgen hk
  · rcases List.mem_cons.mp hx with rfl | hx
    · exact hs1
    · rcases List.mem_cons.mp hx with rfl | hx
      · exact hs2
      · cases hx
  have X0 : K.In h0 := KX.keeps hk0
  obtain ⟨mb, hmb1, hmb2⟩ := e0.mod.blt
  have hC0 := X0 _ _ hC
  refine ks_wpAt_execs_cons (ks_wpAt_Expr_any (ks_wpAt_MethodCall ?_ (he _)) (hi _) (hw1 _))
  refine ks_wpAt_super_base (env := PySem.W.ksEnv qual scope s.heap.objs.size f (.ref cda) cc) hks hkc rfl rfl (X0 _ _ lk) rfl hp rfl (X0 _ _ lcd) rfl hvs hfile htop ?_
  refine PySem.W.ks_loadName_global hk hks (Calls.loadGlobal_builtin (env := PySem.W.ksEnv qual scope s.heap.objs.size f (.ref cda) cc) (e0.mod.glob.keeps fun b o e => hk0 _ _ (e0.bs b o e).1) hms (hmb1.keeps fun b o e => hk0 _ _ (e0.bs b o e).1) ((hmb2 "super" (by decide)).trans PyProof.Rows.Boot.«super») ⟨rfl, ?_⟩)
  refine wpAny_loadName_free hk hkc rfl ⟨_, X0 _ _ lcc, rfl⟩ ?_
  rw [hr1]
  refine wpAny_loadName_local hk hs1 hns rfl ?_
  refine ks_wpAny_isType_cls hC0 rfl ⟨rfl, ?_⟩
  refine ks_wpAny_call_super hC0 rfl (hk0 _ _ hoe) rfl (fun c e => by cases e) (PySem.W.looks_mroIn X0 T.own) (fun h1 e1 k1 => ?_)
  have X1 : K.In h1 := X0.keeps k1
  have hoe1 := k1 _ _ (hk0 _ _ hoe)
  have I1 : PySem.W.InstAt h1 a { cls := .ref C, dict := none, data := .fields #[.ref t0, .none, .none, .none, .bool false, .none] } C none := ⟨hoe1, rfl, rfl, trivial⟩
  have hm : PySem.W.alongIn K "__init__" (((Value.ref C :: bm).dropWhile (· != .ref C)).drop 1) = some (some (.builtin "ValueError.__init__")) := by
    have z := T.sup
    unfold PySem.W.ks_superIn at z
    rw [hcl] at z
    exact z
  refine PySem.W.kxs_getMethod PySem.W.kxs_ValueError e1 (PySem.W.looks_opaque X1 T.st) (l₀ := .ref C :: bm) ?_ rfl X1 hm (I1.type.andThen (PySem.W.looks_subIn X1 T.ve)) (PySem.W.ks_ne X1 I1 hcl) rfl ?_
  · exact fun A Q E s k q => wpAny_bind ((PySem.W.looks_clsIn X1 hcl) A _ E s k (wpAny_pure q))
  have k2 : ∀ b o, h1.get? b = some o → (h1.push (PySem.W.kxs_mw "ValueError.__init__" a)).get? b = some o := fun b o e => Heap.get?_push_of_some _ e
  have hu : (h1.push (PySem.W.kxs_mw "ValueError.__init__" a)).get? h1.objs.size = some (PySem.W.kxs_mw "ValueError.__init__" a) := Heap.get?_push_at rfl rfl
  refine PySem.W.kxs_callWith (i := "ValueError.__init__") (x := a) rfl (evalArgs_empty ⟨hu, ?_⟩)
  have hC2 := k2 _ _ (k1 _ _ hC0)
  have hoe2 := k2 _ _ hoe1
  refine wpAny_call (codeAny_of_tree ?_)
  show wpAny _ _ (callAny (.ref h1.objs.size) ⟨[], []⟩) _ _ _
  simp only [callAny]
  refine wpAny_bind (wpAny_load hu ?_)
  simp only [PySem.W.kxs_mw, show (Value.type "method-wrapper" == Value.type "method" || Value.type "method-wrapper" == Value.type "builtin_function_or_method" || Value.type "method-wrapper" == Value.type "method-wrapper") = true by decide, if_true]
  refine PySem.W.KFB.if_so (by decide) ?_
  refine wpAny_bind (PySem.W.check_bound_init F.excBase_ValueError.toExcCallFacts hC2 hoe2 rfl ?_)
  refine wpAny_bind (wpAny_pure (wpAny_pure ?_))
  refine ⟨PySem.plainId_quiet F.excBase_ValueError.init.plain _, codeAny_builtin F.excBase_ValueError.initEntry ?_⟩
  refine PySem.W.exc_init_tree (cls := .ref C) (t0 := t0) (dv := none) (c2 := .none) (c3 := .none) (b4 := .bool false) hoe2 (by show 0 ≤ sizeLine; exact Nat.zero_le _) (fun h3 k3 e3 t3 => ?_)
  have hL : ∀ {b o}, s.heap.get? b = some o → b ≠ s.heap.objs.size := fun {b o} e => Nat.ne_of_lt (Heap.lt_size e)
  have haL : a ≠ s.heap.objs.size := hL hoe
  have ke : ∀ b o, b ≠ a → h0.get? b = some o → h3.get? b = some o := fun b o n e => k3 b o n (k2 _ _ (k1 _ _ e))
  have hns3 : h3.Ns s.heap.objs.size (fun x => [(("self" : Str), Value.ref a), ("value", u)].reverse.lookup x) := by
    obtain ⟨o, es, ep, e, r⟩ := hns
    exact ⟨o, es, ep, ke _ _ (Ne.symm haL) e, r⟩
  refine ks_wpAt_execs_cons (ks_wpAt_Assign_Attr ?_ (hw2 _))
  refine wpAt_of_wpAny (wpAny_Name (wpAny_loadName_local hk hs2 hns3 rfl ?_) (by decide))
  refine wpAny_Name (wpAny_loadName_local hk hs1 hns3 rfl ?_) (by decide)
  have X3 : K.In h3 := e0.mod.kin.keeps fun b o e => ke b o (fun z => by
    have n := (e0.bs b o e).2
    rw [z, ha] at n
    cases n) (hk0 _ _ (e0.bs b o e).1)
  refine PySem.W.set_plain X3 (ox := { cls := .ref C, dict := none, data := .fields #[.ref (h1.push (PySem.W.kxs_mw "ValueError.__init__" a)).objs.size, .none, .none, .none, .bool false, .none] }) (od := none) ⟨e3, rfl, rfl, trivial⟩ T.oe.sa ?_
  refine PySem.HandSPX.exc_osa X3 e3 hcl (show PySem.HandSPX.refsVE (.ref C :: bm) = true from hbm) rfl T.no (fun h' tk' dx kx dn dne hx hn => ?_)
  have kk : ∀ b o, b ≠ a → s.heap.get? b = some o → h'.get? b = some o := fun b o n e => kx b o n (ke b o n (hk0 _ _ e))
  have dn0 : s.heap.get? dx = none := by
    cases z : s.heap.get? dx with
    | none => rfl
    | some o =>
      have n : dx ≠ a := dne
      exact absurd (Heap.lt_size (ke dx o n (hk0 _ _ z))) (Nat.not_lt.mpr dn)
  have hnd : H dx = none := e0.hok.gone dn0
  have nd : ∀ {b : Addr} {o : Obj}, s.heap.get? b = some o → b ≠ dx := fun {b o} q z => by
    rw [z, dn0] at q
    cases q
  have na : ∀ {b : Addr}, H b = none → b ≠ a := fun {b} n z => by
    rw [z, ha] at n
    cases n
  show PySem.wpAt _ _ _ (execs [] _) _ _ _
  refine wpAt_of_wpAny (wpAny_pure ?_)
  refine ⟨.non, upd (upd H dx (exd dx [("value", y)])) a (exo a C (some dx)), rfl, e0.bare, ?_, ?_, rfl, hq dx hnd dne⟩
  · exact {
      keep := fun b o q n _ _ => kk b o (na n) q
      slot := fun b o q n _ _ => ⟨o.slots, kk b o (na n) q⟩
      free := fun b o q n _ => by rw [upd_ne (na n), upd_ne (nd q)]; exact n
      there := fun b o q _ => by
        by_cases hb : b = a
        · exact ⟨_, by rw [hb]; exact hx⟩
        · exact ⟨o, kk b o hb q⟩
      tups := fun b xs q => by rw [upd_ne (at_ne ha q exo_tup), upd_ne (ne_of_none q hnd)]; exact q
      frzs := fun b o v q => by rw [upd_ne (at_ne ha q exo_frz), upd_ne (ne_of_none q hnd)]; exact q
      tbls := fun b ps q => ⟨#[], by rw [upd_ne (at_ne ha q exo_tbl), upd_ne (ne_of_none q hnd), q]; simp⟩ }
  · intro b o q
    by_cases hb : b = a
    · subst hb
      rw [upd_same] at q
      cases q
      exact exo_ok hx
    · rw [upd_ne hb] at q
      by_cases hd : b = dx
      · subst hd
        rw [upd_same] at q
        cases q
        exact exd_ok hn (relO_put (fs := []) ru fun g => True.intro)
      · rw [upd_ne hd] at q
        exact (e0.hok b o q).stay (fun c v hc z => kk c v (by
            rcases hc with hc | hc
            · rw [hc]
              exact hb
            · exact at_ne ha hc exo_own) z)
          (fun c hc => by rw [upd_ne (at_ne ha hc exo_own), upd_ne (ne_of_none hc hnd)]; exact hc) (fun c xs hc => by rw [upd_ne (at_ne ha hc exo_tup), upd_ne (ne_of_none hc hnd)]; exact hc)
end

/-! ### made -/
theorem upd_over {H : Hp} {a dx : Addr} {u u0 o : HO} (n : dx ≠ a) : upd (upd (upd H a u0) dx o) a u = upd (upd H dx o) a u := by
  funext b
  by_cases hb : b = a
  · rw [hb, upd_same, upd_same]
  · rw [upd_ne hb, upd_ne hb]
    by_cases hd : b = dx
    · rw [hd, upd_same, upd_same]
    · rw [upd_ne hd, upd_ne hd, upd_ne hb]
theorem upd_twice {H : Hp} {a : Addr} {u o : HO} : upd (upd H a o) a u = upd H a u := by
  funext b
  by_cases hb : b = a
  · rw [hb, upd_same, upd_same]
  · rw [upd_ne hb, upd_ne hb, upd_ne hb]
theorem upd_swap {H : Hp} {a b : Addr} {u o : HO} (n : a ≠ b) : upd (upd H a u) b o = upd (upd H b o) a u := by
  funext c
  by_cases h1 : c = b
  · subst h1
    rw [upd_same, upd_ne (Ne.symm n), upd_same]
  · rw [upd_ne h1]
    by_cases h2 : c = a
    · subst h2
      rw [upd_same, upd_same]
    · rw [upd_ne h2, upd_ne h2, upd_ne h1]
section
variable {X : Cx} {pins : List (Addr × Obj)} {σ : L2.St} {H : Hp} {s : Shared}
/-- what is tracked is known in other words -/
theorem Inv.other {a : Addr} {o u : HO} (I : Inv X pins σ H s) (e : H a = some o) (ho : (∀ x, o ≠ .own x) ∧ (∀ xs, o ≠ .tup xs) ∧ (∀ ob v, o ≠ .frz ob v) ∧ ∀ ps, o ≠ .tbl ps) (new : ObjOk X.prog X.w (upd H a u) s.heap a u) : Inv X pins σ (upd H a u) s := by
  have ne : ∀ {b q}, H b = some q → q ≠ o → b ≠ a := fun h n z => n (by rw [z, e] at h; exact (Option.some.inj h).symm)
  have nn : ∀ {b}, H b = none → b ≠ a := fun h z => by rw [z, e] at h; cases h
  refine I.un (t' := s.toks) ⟨fun b o q _ _ _ => q, fun b o q _ _ _ => ⟨o.slots, q⟩, fun b _ q n _ => by rw [upd_ne (nn n)]; exact n, fun b o q _ => ⟨o, q⟩, fun b xs q => by rw [upd_ne (ne q (fun z => ho.2.1 _ z.symm))]; exact q, fun b o v q => by rw [upd_ne (ne q (fun z => ho.2.2.1 _ _ z.symm))]; exact q,
    fun b ps q => ⟨#[], by rw [upd_ne (ne q (fun z => ho.2.2.2 _ z.symm)), q]; simp⟩⟩ fun b ob q => ?_
  by_cases hb : b = a
  · subst hb
    rw [upd_same] at q
    cases q
    exact new
  · rw [upd_ne hb] at q
    exact (I.hok b ob q).stay (fun c v _ z => z) (fun c hc => by rw [upd_ne (ne hc (fun z => ho.1 _ z.symm))]; exact hc) (fun c xs hc => by rw [upd_ne (ne hc (fun z => ho.2.1 _ z.symm))]; exact hc)
theorem Inv.exD {a dx C : Addr} {y : V} {H0 : Hp} (I : Inv X pins σ (upd (upd H0 dx (exd dx [("value", y)])) a (exo a C (some dx))) s) (n : dx ≠ a) : Inv X pins σ (upd (upd H0 dx (.xd [("value", y)])) a (ExD C dx a)) s := by
  obtain ⟨t1, he⟩ := exo_at I.hok (show _ = some (exo a C (some dx)) from upd_same)
  obtain ⟨mA, hns, rel⟩ := exd_at I.hok (show _ = some (exd dx [("value", y)]) from by rw [upd_ne n, upd_same])
  have J := Inv.other I (a := a) (u := ExD C dx a) upd_same ⟨fun _ => exo_own, fun _ => exo_tup, fun _ _ => exo_frz, fun _ => exo_tbl⟩ ⟨⟨_, _, he, ⟨rfl, rfl⟩, rfl⟩, ⟨_, he⟩, fun _ _ ⟨o, v, q, r⟩ k => ⟨o, v, k o q, r⟩⟩
  rw [upd_twice, upd_swap n] at J
  have J2 := Inv.other J (a := dx) (o := exd dx [("value", y)]) (u := .xd [("value", y)]) upd_same ⟨fun _ => exd_own, fun _ => exd_tup, fun _ _ z => (by
    have z' : HO.ext _ = HO.frz _ _ := z
    cases z'), fun _ z => (by
    have z' : HO.ext _ = HO.tbl _ := z
    cases z')⟩ ⟨mA, hns, rel⟩
  rw [upd_twice, ← upd_swap n] at J2
  exact J2
end
section
variable {X : Cx} {W : WX} {k : Nat} {C fI : Addr} {fd : FuncData}
/-- behind the call of an own exception's class -/
theorem run_exc {pins : List (Addr × Obj)} {σ : L2.St} {H : Hp} {s : Shared} {Q : VK} {us ds : List Value} {u : Value} {y : V} (T : ExC X.K C) (iC : PySem.W.findIn X.K (.ref C) "__init__" = some (some (.ref fI))) (tI : PySem.W.typeIn X.K (.ref fI) = some (.type "function"))
    (F1 : FnOk X.prog X.w X.K X.mg X.base (L2.CX X.prog X.w) k fI fd ["self", "value"] (spIni C)) (tk : Takes X W) (hr : Room (k + 1) X.A) (hb : Binds X.K fd ["self", "value"] ds) (hl : us ++ ds = [u]) (ry : RelV y u) (I : Inv X pins σ H s)
    (q : ∀ a dx, H a = none → H dx = none → dx ≠ a → Q (.ref a) (upd (upd H dx (.xd [("value", y)])) a (ExD C dx a))) : wpAny (model X.prog X.w) X.A (call (.ref C) us) (EP X pins σ Q) X.xe s := by
  obtain ⟨nm, q', N, bs, bm, sn, sub, ab, col, dd, k0, k1, k2, k3, k5, hC, hbm⟩ := T.oe.cls
  obtain ⟨hp, g, dr, t, os⟩ := s
  have hsz : hp.objs.size ≤ hp.objs.size + 1 := Nat.le_succ _
  have hn : H (hp.objs.size + 1) = none := I.hok.fresh hsz
  have kk : ∀ b o, hp.get? b = some o → ((hp.push (PySem.W.kdv_tup us)).push (PySem.HandSPX.excO C hp.objs.size)).get? b = some o := fun b o e => Heap.get?_push_of_some _ (Heap.get?_push_of_some _ e)
  have hget : ((hp.push (PySem.W.kdv_tup us)).push (PySem.HandSPX.excO C hp.objs.size)).get? (hp.objs.size + 1) = some (PySem.HandSPX.excO C hp.objs.size) := by heap_get
  have I2 : Inv X pins σ (upd H (hp.objs.size + 1) (exo (hp.objs.size + 1) C none)) ⟨(hp.push (PySem.W.kdv_tup us)).push (PySem.HandSPX.excO C hp.objs.size), g, dr, t, os⟩ :=
    I.laid (t' := t) (a := hp.objs.size + 1) (o := exo (hp.objs.size + 1) C none) (h' := (hp.push (PySem.W.kdv_tup us)).push (PySem.HandSPX.excO C hp.objs.size)) kk hsz (exo_ok hget)
  have r2 : Vals [V.ref (hp.objs.size + 1), y] (Value.ref (hp.objs.size + 1) :: (us ++ ds)) := by
    rw [hl]
    exact .cons rfl (.cons ry .nil)
  have hus : us.length ≤ sizeLine := by
    have e := congrArg List.length hl
    rw [List.length_append] at e
    have : us.length ≤ 1 := by simp at e; omega
    rw [sizeLine_eq]
    omega
  have hsp : spIni C [V.ref (hp.objs.size + 1), y] (upd H (hp.objs.size + 1) (exo (hp.objs.size + 1) C none)) (fun v H2 => v = .non ∧ ∃ dx, H dx = none ∧ dx ≠ hp.objs.size + 1 ∧ H2 = upd (upd H dx (exd dx [("value", y)])) (hp.objs.size + 1) (exo (hp.objs.size + 1) C (some dx))) (fun _ _ _ => False) :=
    ⟨_, _, rfl, upd_same, fun dx e n => ⟨rfl, dx, by rw [upd_ne n] at e; exact e, n, upd_over n⟩⟩
  refine wpAny_call (PySem.HandSPX.call_own F.excBase_ValueError (fun Y => PySem.HandSPX.refsVE_contains Y bm hbm) (I.kIn _ _ hC) (PySem.W.looks_findIn I.kIn iC) (fun self => PySem.W.bind_fn I.kIn self tI) hus
    (codeAny_mono (F1.run _ X.stack _ _ ⟨Value.ref (hp.objs.size + 1) :: us, []⟩ (Value.ref (hp.objs.size + 1) :: (us ++ ds)) _ _ (fun _ _ _ => False) (hr.make C us []) (I2.env0.make C us []) (hb _ (Value.ref (hp.objs.size + 1) :: us) I2.kIn (by rw [List.cons_append, hl]; rfl)) r2 hsp) fun r s' hq' => ?_))
  cases r with
  | error er => exact passes_call tk (E := fun _ _ _ => False) (fun _ _ _ _ h => h.elim) pins σ _ _ er s' I2 hq'
  | ok fl =>
    cases fl with
    | ret v =>
      have E2 := I2.after hq'
      obtain ⟨v', H', J, rv, e, dx, e2, n, e3⟩ := E2
      subst e
      subst e3
      exact ⟨rv, .ref (hp.objs.size + 1), _, Inv.exD J n, rfl, q _ _ hn e2 n⟩
    | next => exact False.elim hq'
    | brk => exact False.elim hq'
    | cont => exact False.elim hq'
/-- .. value=u -/
theorem run_excK {pins : List (Addr × Obj)} {σ : L2.St} {H : Hp} {s : Shared} {Q : VK} {u : Value} {y : V} (T : ExC X.K C) (iC : PySem.W.findIn X.K (.ref C) "__init__" = some (some (.ref fI))) (tI : PySem.W.typeIn X.K (.ref fI) = some (.type "function"))
    (F1 : FnOk X.prog X.w X.K X.mg X.base (L2.CX X.prog X.w) k fI fd ["self", "value"] (spIni C)) (tk : Takes X W) (hr : Room (k + 1) X.A) (hb : ∀ (s : Shared) (e u : Value), X.K.In s.heap → BindsTo s fd ⟨[e], [("value", u)]⟩ [("self", e), ("value", u)]) (ry : RelV y u) (I : Inv X pins σ H s)
    (q : ∀ a dx, H a = none → H dx = none → dx ≠ a → Q (.ref a) (upd (upd H dx (.xd [("value", y)])) a (ExD C dx a))) : wpAny (model X.prog X.w) X.A (call (.ref C) [] [("value", u)]) (EP X pins σ Q) X.xe s := by
  obtain ⟨nm, q', N, bs, bm, sn, sub, ab, col, dd, k0, k1, k2, k3, k5, hC, hbm⟩ := T.oe.cls
  obtain ⟨hp, g, dr, t, os⟩ := s
  have hsz : hp.objs.size ≤ hp.objs.size + 1 := Nat.le_succ _
  have hn : H (hp.objs.size + 1) = none := I.hok.fresh hsz
  have kk : ∀ b o, hp.get? b = some o → ((hp.push (PySem.W.kdv_tup [])).push (PySem.HandSPX.excO C hp.objs.size)).get? b = some o := fun b o e => Heap.get?_push_of_some _ (Heap.get?_push_of_some _ e)
  have hget : ((hp.push (PySem.W.kdv_tup [])).push (PySem.HandSPX.excO C hp.objs.size)).get? (hp.objs.size + 1) = some (PySem.HandSPX.excO C hp.objs.size) := by heap_get
  have I2 : Inv X pins σ (upd H (hp.objs.size + 1) (exo (hp.objs.size + 1) C none)) ⟨(hp.push (PySem.W.kdv_tup [])).push (PySem.HandSPX.excO C hp.objs.size), g, dr, t, os⟩ :=
    I.laid (t' := t) (a := hp.objs.size + 1) (o := exo (hp.objs.size + 1) C none) (h' := (hp.push (PySem.W.kdv_tup [])).push (PySem.HandSPX.excO C hp.objs.size)) kk hsz (exo_ok hget)
  have r2 : Vals [V.ref (hp.objs.size + 1), y] [Value.ref (hp.objs.size + 1), u] := .cons rfl (.cons ry .nil)
  have hsp : spIni C [V.ref (hp.objs.size + 1), y] (upd H (hp.objs.size + 1) (exo (hp.objs.size + 1) C none)) (fun v H2 => v = .non ∧ ∃ dx, H dx = none ∧ dx ≠ hp.objs.size + 1 ∧ H2 = upd (upd H dx (exd dx [("value", y)])) (hp.objs.size + 1) (exo (hp.objs.size + 1) C (some dx))) (fun _ _ _ => False) :=
    ⟨_, _, rfl, upd_same, fun dx e n => ⟨rfl, dx, by rw [upd_ne n] at e; exact e, n, upd_over n⟩⟩
  refine wpAny_call (call_ownK F.excBase_ValueError (fun Y => PySem.HandSPX.refsVE_contains Y bm hbm) (I.kIn _ _ hC) (PySem.W.looks_findIn I.kIn iC) (fun self => PySem.W.bind_fn I.kIn self tI)
    (codeAny_mono (F1.run _ X.stack _ _ ⟨[Value.ref (hp.objs.size + 1)], [("value", u)]⟩ [Value.ref (hp.objs.size + 1), u] _ _ (fun _ _ _ => False) (hr.make C [] _) (I2.env0.make C [] _) (hb _ _ _ I2.kIn) r2 hsp) fun r s' hq' => ?_))
  cases r with
  | error er => exact passes_call tk (E := fun _ _ _ => False) (fun _ _ _ _ h => h.elim) pins σ _ _ er s' I2 hq'
  | ok fl =>
    cases fl with
    | ret v =>
      have E2 := I2.after hq'
      obtain ⟨v', H', J, rv, e, dx, e2, n, e3⟩ := E2
      subst e
      subst e3
      exact ⟨rv, .ref (hp.objs.size + 1), _, Inv.exD J n, rfl, q _ _ hn e2 n⟩
    | next => exact False.elim hq'
    | brk => exact False.elim hq'
    | cont => exact False.elim hq'
end

/-- an own exception's class x, at C; its __init__ runs in k -/
structure EC (P : Program) (w : World) (K : PySem.W.Frag) (mg : Str → Option Value) (base : Heap) (x : Str) (C : Addr) (k : Nat) : Prop where
  exc : ExC K C
  gm : mg x = some (.ref C)
  ini : ∃ (fI : Addr) (fd : FuncData), PySem.W.findIn K (.ref C) "__init__" = some (some (.ref fI)) ∧ PySem.W.typeIn K (.ref fI) = some (.type "function") ∧ FnOk P w K mg base (L2.CX P w) k fI fd ["self", "value"] (spIni C) ∧ Binds K fd ["self", "value"] [] ∧ Binds K fd ["self", "value"] [.none] ∧
    ∀ (s : Shared) (e u : Value), K.In s.heap → BindsTo s fd ⟨[e], [("value", u)]⟩ [("self", e), ("value", u)]
section
variable {X : Cx} {W : WX} {k : Nat} {C : Addr} {x : Str} {e : Expr} {f : EF} {p pos : Pos}
theorem Rp.newE {G H : Hp} {as : List Addr} {cs : List Cel} {Fm : Hp} {a dx : Addr} {v : V} {d : D} (R : Rp G H as cs Fm) (r : Rep G as v d) (ha : H a = none) (hd : H dx = none) (n : dx ≠ a) :
    Ext G (upd (upd G dx (.xd [("value", v)])) a (ExD C dx a)) ∧ Rp (upd (upd G dx (.xd [("value", v)])) a (ExD C dx a)) (upd (upd H dx (.xd [("value", v)])) a (ExD C dx a)) as cs Fm ∧ Rep (upd (upd G dx (.xd [("value", v)])) a (ExD C dx a)) as (.ref a) (.exc C [d]) := by
  have R1 := R.new hd (u := .xd [("value", v)]) (fun _ _ z => by cases z)
  have ha2 : upd H dx (.xd [("value", v)]) a = none := by rw [upd_ne (Ne.symm n)]; exact ha
  have R2 := R1.new ha2 (u := ExD C dx a) (fun _ _ z => by
    have z' : HO.ext _ = HO.frz _ _ := z
    cases z')
  have x1 : Ext G (upd G dx (.xd [("value", v)])) := Ext.new (R.gnone hd)
  have x2 : Ext (upd G dx (.xd [("value", v)])) (upd (upd G dx (.xd [("value", v)])) a (ExD C dx a)) := Ext.new (R1.gnone ha2)
  exact ⟨x1.trans x2, R2, .exc upd_same (by rw [upd_ne n, upd_same]) (r.ext (x1.trans x2) (List.prefix_refl _))⟩
def fExc (C : Addr) (f : EF) : EF := fun ρ => bnd (f ρ) fun d => ret (.exc C [d])
theorem de_exc (E : EC X.prog X.w X.K X.mg X.base x C k) (tk : Takes X W) (hr : Room (k + 1) X.A) (ha : DE X W e f) (hg : Gl X x := by rfl) (hdb : (x == ("__debug__" : Str)) = false := by decide)
    (he : starEach [e] X.env = (false, eval e X.env) :: starEach [] X.env := by rfl) (hpl : (backTo pos (starEach [] X.env)).any (·.1) = false := by rfl) : DE X W (.Call (.Name x p) [e] [] pos) (fExc C f) := by
  obtain ⟨t, pa, q⟩ := ha
  obtain ⟨T, hm, fI, fd, iC, tI, F1, b1, b2, b3⟩ := E
  refine ⟨fun σ H Q => t σ H fun y H1 => ∀ a dx, H1 a = none → H1 dx = none → dx ≠ a → Q (.ref a) (upd (upd H1 dx (.xd [("value", y)])) a (ExD C dx a)), ⟨fun pins s σ H Q I h => ?_⟩, fun G H as cs Fm σ ρ Q R S h => ?_⟩
  · refine wpAny_Call_Name_kw (ld_glob I hg hm ?_ hdb)
    refine PySem.W.callWith_K (h₀ := X.base) I.ok.mod.kin T.oe.kC ?_ he hpl
    rw [he]
    show wpAny _ _ (spliced ((false, eval e X.env) :: backTo pos (starEach [] X.env))) _ _ s
    refine Calls.spliced_cons (thn (pa.run pins s σ H _ I h) fun u s1 ⟨y, H1, I1, r1, q1⟩ => ?_)
    exact Calls.spliced_nil ⟨I1.kIn, run_exc T iC tI F1 tk hr b1 rfl r1 I1 q1⟩
  · refine q G H as cs Fm σ ρ _ R S (Po.first h fun v w G1 H1 bs cs1 x1 p1 R1 w1 h1 => ?_)
    intro a dx na nd n
    obtain ⟨y1, y2, y3⟩ := R1.newE (C := C) w1 na nd n
    exact h1 _ _ _ bs y1 (List.prefix_refl _) y2 y3
theorem de_exc0 (E : EC X.prog X.w X.K X.mg X.base x C k) (tk : Takes X W) (hr : Room (k + 1) X.A) (hg : Gl X x := by rfl) (hdb : (x == ("__debug__" : Str)) = false := by decide) : DE X W (.Call (.Name x p) [] [] pos) (fun _ => ret (.exc C [.non])) := by
  obtain ⟨T, hm, fI, fd, iC, tI, F1, b1, b2, b3⟩ := E
  refine ⟨fun σ H Q => ∀ a dx, H a = none → H dx = none → dx ≠ a → Q (.ref a) (upd (upd H dx (.xd [("value", .non)])) a (ExD C dx a)), ⟨fun pins s σ H Q I h => ?_⟩, fun G H as cs Fm σ ρ Q R S h => ?_⟩
  · refine wpAny_Call_Name_kw (ld_glob I hg hm ?_ hdb)
    exact PySem.W.callWith_K0 I.kIn T.oe.kC (run_exc (us := []) (ds := [.none]) (y := .non) T iC tI F1 tk hr b2 rfl rfl I h)
  · intro a dx na nd n
    obtain ⟨y1, y2, y3⟩ := R.newE (C := C) (v := .non) .non na nd n
    exact h _ _ _ as y1 (List.prefix_refl _) y2 y3
theorem de_excK {kpos : Pos} (E : EC X.prog X.w X.K X.mg X.base x C k) (tk : Takes X W) (hr : Room (k + 1) X.A) (ha : DE X W e f) (hg : Gl X x := by rfl) (hdb : (x == ("__debug__" : Str)) = false := by decide)
    (hall : (backToKw pos (keywordEach [⟨some "value", e, kpos⟩] X.env)).all (·.1.isSome) = true := by rfl) (hks : (backToKw pos (keywordEach [⟨some "value", e, kpos⟩] X.env)).filterMap (·.1) = [("value" : Str)] := by rfl)
    (hpl : ((backTo pos (starEach [] X.env)).any (·.1) || (backToKw pos (keywordEach [⟨some "value", e, kpos⟩] X.env)).any (·.1.isNone)) = false := by rfl) : DE X W (.Call (.Name x p) [] [⟨some "value", e, kpos⟩] pos) (fExc C f) := by
  obtain ⟨t, pa, q⟩ := ha
  obtain ⟨T, hm, fI, fd, iC, tI, F1, b1, b2, b3⟩ := E
  refine ⟨fun σ H Q => tCons t tNil σ H fun ys H1 => ∃ y, ys = [y] ∧ ∀ a dx, H1 a = none → H1 dx = none → dx ≠ a → Q (.ref a) (upd (upd H1 dx (.xd [("value", y)])) a (ExD C dx a)), ⟨fun pins s σ H Q I h => ?_⟩, fun G H as cs Fm σ ρ Q R S h => ?_⟩
  · refine wpAny_Call_Name_kw (ld_glob I hg hm ?_ hdb)
    refine PySem.W.callWith_KW0 (h₀ := X.base) I.ok.mod.kin T.oe.kC hall (thn ((pk_cons pa pk_nil).run pos pins s σ H _ I h) fun us s1 ⟨ys, H1, I1, r1, y, e1, q1⟩ => ⟨I1.kIn, ?_⟩) hpl
    subst e1
    cases r1 with
    | @cons _ u _ ur ra rn =>
      cases rn
      rw [hks]
      exact run_excK T iC tI F1 tk hr b3 ra I1 q1
  · refine q G H as cs Fm σ ρ _ R S (Po.first h fun v w G1 H1 bs cs1 x1 p1 R1 w1 h1 => ?_)
    refine ⟨v, rfl, fun a dx na nd n => ?_⟩
    obtain ⟨y1, y2, y3⟩ := R1.newE (C := C) w1 na nd n
    exact h1 _ _ _ bs y1 (List.prefix_refl _) y2 y3

/-! ### e.value -/
/-- what an own exception class must have for its instances' fields to be read -/
structure XfK (K : PySem.W.Frag) (C : Addr) : Prop where
  ga : PySem.W.findIn K (.ref C) "__getattribute__" = some (some (.builtin "BaseException.__getattribute__"))
  gg : PySem.W.findIn K (.ref C) "__getattr__" = some none
  exC : PySem.W.subIn K (.ref C) (.type "BaseException") = some true
  hdC : PySem.W.hasDictIn K C = true
  no : PySem.W.findIn K (.ref C) "value" = some none
/-- the classes of which isX says so -/
def gVal (isX : Addr → Bool) : D → Mo D := fun w cs => match vw cs w with
  | some (.exc C [d]) => if isX C = true then some (.ok d cs) else none
  | _ => none
def tVal (K : PySem.W.Frag) (te : TE) : TE := fun σ H Q => te σ H fun x H1 => ∃ (a C dd : Addr) (v : V), x = .ref a ∧ H1 a = some (ExD C dd a) ∧ XfK K C ∧ H1 dd = some (.xd [(("value" : Str), v)]) ∧ Q v H1
theorem at_exc {G H : Hp} {as : List Addr} {v : V} {C : Addr} {d : D} {cs : List Cel} {Fm : Hp} (R : Rp G H as cs Fm) (h : At G H as v (.exc C [d])) : ∃ a dd u, v = .ref a ∧ H a = some (ExD C dd a) ∧ H dd = some (.xd [(("value" : Str), u)]) ∧ Rep G as u d := by
  cases h with
  | ref h r => cases r
  | exc h h2 r => exact ⟨_, _, _, rfl, h, h2, r⟩
theorem de_val {isX : Addr → Bool} (hX : ∀ C, isX C = true → XfK X.K C) (ha : DE X W e f) (hb : attributeBase e "value" X.env (eval e X.env) = eval e X.env := by rfl) : DE X W (.Attribute e "value" pos) (fun ρ => bnd (f ρ) (gVal isX)) := by
  obtain ⟨t, pa, q⟩ := ha
  refine ⟨tVal X.K t, ⟨fun pins s σ H Q I h => ?_⟩, fun G H as cs Fm σ ρ Q R S h => ?_⟩
  · refine attr_of hb (thn (pa.run pins s σ H _ I h) fun u s1 hh => ?_)
    obtain ⟨x, H1, I1, rx, a, C, dd, v, ex, ea, T, ed, q⟩ := hh
    subst ex
    obtain rfl : u = Value.ref a := rx
    have hxa : ObjOk X.prog X.w H1 s1.heap a (.ext fun h => ∃ (oe : Obj) (vs : Array Value), h.get? a = some oe ∧ Zc (.ref C) (some dd) oe ∧ oe.data = .fields vs) := I1.hok a _ ea
    obtain ⟨⟨oe, vs, ho, hz, hd⟩, _, _⟩ := hxa
    have hx : ObjOk X.prog X.w H1 s1.heap dd (.xd [(("value" : Str), v)]) := I1.hok dd _ ed
    obtain ⟨mA, hns, hr⟩ := hx
    obtain ⟨od, ho2, hl⟩ := lookIn_ns hns
    obtain ⟨u2, hu, ru⟩ := RelO.some_of (v := v) (o := mA "value") (hr "value")
    have J : PySem.W.InstAt s1.heap a oe C (some od) := ⟨ho, hz.1, by unfold PySem.W.notCls; rw [hd] <;> rfl, by rw [hz.2]; exact ho2⟩
    exact HandSPX.exc_get I1.kIn J T.ga T.gg T.exC (PySem.W.findObj_own T.hdC T.no rfl (by rw [hl, hu])) (handed_of ru) ⟨v, H1, I1.tok _, ru, q⟩
  · refine q G H as cs Fm σ ρ _ R S (Po.first h fun v w G1 H1 bs cs1 x1 p1 R1 w1 h1 => ?_)
    unfold gVal at h1
    cases e1 : vw cs1 w with
    | none => simp only [e1] at h1; exact h1.elim
    | some d =>
      cases d with
      | exc C ds =>
        cases ds with
        | nil => simp only [e1] at h1; exact h1.elim
        | cons d0 dr =>
          cases dr with
          | nil =>
            simp only [e1] at h1
            split at h1
            · rename_i hc
              obtain ⟨a, dd, u, e2, e3, e4, r⟩ := at_exc R1 (R1.view w1 e1)
              exact ⟨a, C, dd, u, e2, e3, hX C hc, e4, h1 u G1 H1 bs (Ext.refl _) (List.prefix_refl _) R1 r⟩
            · exact h1.elim
          | cons _ _ => simp only [e1] at h1; exact h1.elim
      | _ => simp only [e1] at h1; exact h1.elim
end
end MW

set_option Elab.async false
set_option linter.all false
set_option maxRecDepth 100000
/-! MwData: data as plain values: ==, !=, repr. -/
namespace MW
open PySem PySem.Spec PyProof.Rows L2

def mapO {α β : Type} (f : α → Option β) : List α → Option (List β)
  | [] => some []
  | x :: r => match f x, mapO f r with
    | some a, some b => some (a :: b)
    | _, _ => none
theorem mapO_cons {α β : Type} {f : α → Option β} {x : α} {r : List α} {l : List β} (h : mapO f (x :: r) = some l) : ∃ a b, f x = some a ∧ mapO f r = some b ∧ l = a :: b := by
  unfold mapO at h
  cases e1 : f x with
  | none => rw [e1] at h; cases h
  | some a =>
    cases e2 : mapO f r with
    | none => rw [e1, e2] at h; cases h
    | some b => rw [e1, e2] at h; cases h; exact ⟨a, b, rfl, rfl, rfl⟩
/-- the plain data that it is -/
def toP (cs : List Cel) : Nat → D → Option PyData
  | 0, _ => none
  | n + 1, d => match d with
    | .non => some .none
    | .bl b => some (.bool b)
    | .int i => some (.int i)
    | .str x => some (.str x)
    | .tup ds => (mapO (toP cs n) ds).map .tuple
    | .lst ds => (mapO (toP cs n) ds).map .list
    | .dic false ks vs => match mapO (toP cs n) ks, mapO (toP cs n) vs with
      | some a, some b => some (.dict (a.zip b))
      | _, _ => none
    | .cel i => (cs[i]?).bind fun c => toP cs n c.val
    | _ => none
def kP : Key → PyData
  | .inl i => .int i
  | .inr x => .str x
theorem toP_keys {cs : List Cel} {n : Nat} : ∀ {ks : List Key} {a : List PyData}, mapO (toP cs n) (ks.map kD) = some a → a = ks.map kP
  | [], a, h => by
    cases h
    rfl
  | k :: ks, a, h => by
    obtain ⟨x, b, h1, h2, rfl⟩ := mapO_cons h
    rw [toP_keys h2]
    cases n with
    | zero => cases h1
    | succ n =>
      cases k with
      | inl i => cases h1; rfl
      | inr y => cases h1; rfl
theorem mapO_len {α β : Type} {f : α → Option β} : ∀ {l : List α} {m : List β}, mapO f l = some m → m.length = l.length
  | [], m, h => by cases h; rfl
  | x :: r, m, h => by
    obtain ⟨a, b, h1, h2, rfl⟩ := mapO_cons h
    simp [mapO_len h2]

section
variable {X : Cx} {pins : List (Addr × Obj)} {σ : L2.St} {G H : Hp} {as : List Addr} {cs : List Cel} {Fm : Hp} {s : Shared}
def Tracked (H : Hp) (bs : List Addr) : Prop := ∀ b ∈ bs, ∃ o, H b = some o
theorem sd_dk {P : Program} {w : World} {h : Heap} {a : Addr} {kvs : List (Key × V)} (ok : HOk P w H h) (e : Sd H a (.dK kvs)) : ∃ vs, KV kvs vs ∧ h.DictOf (mixKind P w) a vs := by
  obtain ⟨_, _, vs, h1, h2⟩ := dk_rd ok e.rd
  exact ⟨vs, h1, h2⟩
theorem reads_keys {P : Program} {w : World} {h : Heap} : ∀ {es : List DictEntry} {vs : List (Key × Value)}, Pairs (mixKind P w) es vs → ReadsAll h (es.map (·.key)) (vs.map fun p => kP p.1) []
  | _, _, .nil => .nil
  | _, _, .cons (e := e) (kv := kv) h1 h2 t => by
    have r : Reads h e.key (kP kv.1) [] := by
      obtain ⟨k, v⟩ := kv
      rcases keyIs_shape h1 with ⟨i, t, e1, e2⟩ | ⟨x, t, e1, e2⟩
      · have e1' : k = .inl i := e1
        rw [e2, e1']
        exact .int i t
      · have e1' : k = .inr x := e1
        rw [e2, e1']
        exact .str x t
    exact ReadsAll.cons r (reads_keys t)
theorem pairs_vals {P : Program} {w : World} : ∀ {es : List DictEntry} {vs : List (Key × Value)}, Pairs (mixKind P w) es vs → es.map (·.val) = vs.map (·.2)
  | _, _, .nil => rfl
  | _, _, .cons (e := e) (kv := kv) h1 h2 t => by
    show e.val :: _ = kv.2 :: _
    rw [h2, pairs_vals t]
theorem kv_keys {kvs : List (Key × V)} {vs : List (Key × Value)} (h : KV kvs vs) : kvs.map (·.1) = vs.map (·.1) := by
  unfold KV at h
  induction h with
  | nil => rfl
  | cons h t k => simp only [List.map_cons, h.1, k]
theorem kv_vals {kvs : List (Key × V)} {vs : List (Key × Value)} (h : KV kvs vs) : Vals (kvs.map (·.2)) (vs.map (·.2)) := by
  unfold KV at h
  induction h with
  | nil => exact .nil
  | cons h t k => exact .cons h.2 k
theorem tracked_app {bs ds : List Addr} (h1 : Tracked H bs) (h2 : Tracked H ds) : Tracked H (bs ++ ds) := fun b hb => (List.mem_append.mp hb).elim (h1 b) (h2 b)
theorem zip_1 {α β : Type} : ∀ {a : List α} {b : List β}, a.length = b.length → (a.zip b).map (·.1) = a
  | [], [], _ => rfl
  | _ :: _, _ :: _, h => by simp [zip_1 (by simpa using h)]
theorem zip_2 {α β : Type} : ∀ {a : List α} {b : List β}, a.length = b.length → (a.zip b).map (·.2) = b
  | [], [], _ => rfl
  | _ :: _, _ :: _, h => by simp [zip_2 (by simpa using h)]
/-- it is read -/
def RdN (X : Cx) (G H : Hp) (as : List Addr) (cs : List Cel) (s : Shared) (n : Nat) : Prop := ∀ (d : D) (p : PyData) (v : V) (u : Value), At G H as v d → toP cs n d = some p → RelV v u → ∃ bs, Reads s.heap u p bs ∧ Tracked H bs
theorem rd_rep (R : Rp G H as cs Fm) {n : Nat} (ih : ∀ m, m < n + 1 → RdN X G H as cs s m) {d : D} {p : PyData} {v : V} {u : Value} (r : Rep G as v d) (h : toP cs n d = some p) (rv : RelV v u) : ∃ bs, Reads s.heap u p bs ∧ Tracked H bs := by
  by_cases hc : ∃ i, d = .cel i
  · obtain ⟨i, rfl⟩ := hc
    cases n with
    | zero => cases h
    | succ n =>
      change (cs[i]?).bind (fun c => toP cs n c.val) = some p at h
      cases e : cs[i]? with
      | none => rw [e] at h; cases h
      | some c =>
        rw [e] at h
        exact ih n (by omega) c.val p v u (R.view (d := c.val) r (by show (cs[i]?).map (·.val) = _; rw [e]; rfl)) h rv
  · exact ih n (by omega) d p v u (R.at_rep r fun k z => hc ⟨k, z⟩) h rv
theorem rd_reps (R : Rp G H as cs Fm) {n : Nat} (ih : ∀ m, m < n + 1 → RdN X G H as cs s m) : ∀ {ds : List D} {ps : List PyData} {vs : List V} {us : List Value}, Reps G as vs ds → mapO (toP cs n) ds = some ps → Vals vs us → ∃ bs, ReadsAll s.heap us ps bs ∧ Tracked H bs
  | _, _, _, _, .nil, h, rv => by
    cases h
    cases rv
    exact ⟨[], .nil, fun _ h => nomatch h⟩
  | _, _, _, _, .cons r t, h, rv => by
    obtain ⟨a, b, h1, h2, rfl⟩ := mapO_cons h
    cases rv with
    | cons r1 r2 =>
      obtain ⟨b1, q1, t1⟩ := rd_rep R ih r h1 r1
      obtain ⟨b2, q2, t2⟩ := rd_reps R ih t h2 r2
      exact ⟨b1 ++ b2, .cons q1 q2, tracked_app t1 t2⟩
theorem rdN (I : Inv X pins σ H s) (R : Rp G H as cs Fm) : ∀ n, RdN X G H as cs s n := by
  intro n
  induction n using Nat.strongRecOn with
  | _ n ih =>
    intro d p v u at_ h rv
    cases n with
    | zero => cases h
    | succ n =>
      have tr1 : ∀ {a : Addr} {o : HO} {bs : List Addr}, Sd H a o → Tracked H bs → Tracked H (a :: bs) := fun {a o bs} e t b hb => by
        rcases List.mem_cons.mp hb with rfl | hb
        · exact e.some
        · exact t b hb
      cases at_ with
      | non => cases h; cases rv; exact ⟨_, .none, fun _ h => nomatch h⟩
      | bl b => cases h; cases rv; exact ⟨_, .bool b, fun _ h => nomatch h⟩
      | int i =>
        cases h
        obtain ⟨t, rfl⟩ := rv
        exact ⟨_, .int i t, fun _ h => nomatch h⟩
      | str x =>
        cases h
        obtain ⟨t, rfl⟩ := rv
        exact ⟨_, .str x t, fun _ h => nomatch h⟩
      | exc h1 h2 r => cases h
      | exc0 h1 => cases h
      | scr h1 => cases h
      | ref e r =>
        cases rv
        cases r with
        | lst r =>
          rename_i vs ds
          change (mapO (toP cs n) ds).map PyData.list = some p at h
          cases e1 : mapO (toP cs n) ds with
          | none => rw [e1] at h; cases h
          | some ps =>
            rw [e1] at h
            cases h
            obtain ⟨_, its, k, rv, ho⟩ := (show ObjOk X.prog X.w H s.heap _ (.lst vs) from I.hok _ _ (e.no rfl))
            obtain ⟨bs, q, t⟩ := rd_reps R ih r e1 rv
            exact ⟨_, .list ho rfl rfl q, tr1 e t⟩
        | tup r =>
          rename_i vs ds
          change (mapO (toP cs n) ds).map PyData.tuple = some p at h
          cases e1 : mapO (toP cs n) ds with
          | none => rw [e1] at h; cases h
          | some ps =>
            rw [e1] at h
            cases h
            obtain ⟨_, its, rv, ⟨o, ho, hc, k, hd⟩⟩ := (show ObjOk X.prog X.w H s.heap _ (.tup vs) from I.hok _ _ (e.no rfl))
            obtain ⟨bs, q, t⟩ := rd_reps R ih r e1 rv
            exact ⟨_, .tuple ho hc hd q, t⟩
        | dK r =>
          rename_i kvs ds
          change (match mapO (toP cs n) (kvs.map fun p => kD p.1), mapO (toP cs n) ds with
            | some a, some b => some (PyData.dict (a.zip b))
            | _, _ => none) = some p at h
          cases e1 : mapO (toP cs n) (kvs.map fun p => kD p.1) with
          | none => rw [e1] at h; cases h
          | some ks =>
            cases e2 : mapO (toP cs n) ds with
            | none => rw [e1, e2] at h; cases h
            | some ps =>
              rw [e1, e2] at h
              cases h
              obtain ⟨vs, hkv, o, es, ep, ho, hx, hd, _, hp, _⟩ := sd_dk I.hok e
              obtain ⟨bs, q, t⟩ := rd_reps R ih r e2 (kv_vals hkv)
              have hk : ks = vs.map fun p => kP p.1 := by
                have := toP_keys (ks := kvs.map (·.1)) (by rw [List.map_map]; exact e1)
                rw [this, kv_keys hkv, List.map_map]
                rfl
              have hl : ks.length = ps.length := by
                rw [mapO_len e2, ← r.length, mapO_len e1, List.length_map, List.length_map]
              have rk := reads_keys (h := s.heap) hp
              rw [← hk] at rk
              refine ⟨_, .dict (as := []) (bs := bs) ho hx.1 hd ?_ ?_, tr1 e t⟩
              · rw [zip_1 hl]
                exact rk
              · rw [zip_2 hl, pairs_vals hp]
                exact q
        | dT r => cases h
        | ins r => cases h
/-- .. of a value -/
theorem rd_val (I : Inv X pins σ H s) (R : Rp G H as cs Fm) {n : Nat} {d : D} {p : PyData} {v : V} {u : Value} (r : Rep G as v d) (h : toP cs n d = some p) (rv : RelV v u) : ∃ bs, Reads s.heap u p bs ∧ Tracked H bs := rd_rep R (fun m _ => rdN I R m) r h rv
end

/-! ### ==, != -/
def eqP (p q : PyData) : Option Bool := if SeqAt.shaped p = true ∧ SeqAt.shaped q = true then some (PyData.eqv p q) else none
def eqD (cs : List Cel) (x y : D) : Option Bool := match toP cs 60 x, toP cs 60 y with
  | some p, some q => eqP p q
  | _, _ => none
/-- two texts -/
def strs2 : D → D → Option Bool
  | .str a, .str b => some (a == b)
  | _, _ => none
theorem strs2_of {x y : D} {b : Bool} (h : strs2 x y = some b) : ∃ a c : Str, x = .str a ∧ y = .str c ∧ b = (a == c) := by
  unfold strs2 at h
  split at h
  · cases h
    exact ⟨_, _, rfl, rfl, rfl⟩
  · cases h
def gEq : F2 := fun x y cs => match strs2 x y with
  | some b => some (.ok (.bl b) cs)
  | none => match eqD cs x y with
    | some b => some (.ok (.bl b) cs)
    | none => none
def gNe : F2 := fun x y cs => match strs2 x y with
  | some b => some (.ok (.bl (!b)) cs)
  | none => match eqD cs x y with
    | some b => some (.ok (.bl (!b)) cs)
    | none => none
section
variable {X : Cx}
def rEqR : R2 := fun x y H Q => ∃ b, Q (.bl b) H ∧ ∀ (pins : List (Addr × Obj)) (σ : L2.St) (s : Shared) (v u : Value), Inv X pins σ H s → RelV x v → RelV y u → ∃ p q as bs, Reads s.heap v p as ∧ Reads s.heap u q bs ∧ SeqAt.shaped p = true ∧ SeqAt.shaped q = true ∧ PyData.eqv p q = b
def rNeR : R2 := fun x y H Q => ∃ b, Q (.bl (!b)) H ∧ ∀ (pins : List (Addr × Obj)) (σ : L2.St) (s : Shared) (v u : Value), Inv X pins σ H s → RelV x v → RelV y u → ∃ p q as bs, Reads s.heap v p as ∧ Reads s.heap u q bs ∧ SeqAt.shaped p = true ∧ SeqAt.shaped q = true ∧ PyData.eqv p q = b
theorem eqD_of {G H : Hp} {as : List Addr} {cs : List Cel} {Fm : Hp} {x y : V} {wx wy : D} {b : Bool} (R : Rp G H as cs Fm) (rx : Rep G as x wx) (ry : Rep G as y wy) (e : eqD cs wx wy = some b) (pins : List (Addr × Obj)) (σ : L2.St) (s : Shared) (v u : Value) (I : Inv X pins σ H s) (hv : RelV x v) (hu : RelV y u) :
    ∃ p q as bs, Reads s.heap v p as ∧ Reads s.heap u q bs ∧ SeqAt.shaped p = true ∧ SeqAt.shaped q = true ∧ PyData.eqv p q = b := by
  unfold eqD at e
  cases e1 : toP cs 60 wx with
  | none => rw [e1] at e; cases e
  | some p =>
    cases e2 : toP cs 60 wy with
    | none => rw [e1, e2] at e; cases e
    | some q =>
      rw [e1, e2] at e
      unfold eqP at e
      simp only at e
      split at e
      · rename_i hs
        obtain ⟨b1, r1, _⟩ := rd_val I R rx e1 hv
        obtain ⟨b2, r2, _⟩ := rd_val I R ry e2 hu
        exact ⟨p, q, b1, b2, r1, r2, hs.1, hs.2, Option.some.inj e⟩
      · cases e
theorem od_eq (hu : X.A.units + 64 < cLine) : OpD X (compareOp .Eq) gEq := by
  have r1 : OpR X (compareOp .Eq) (rEqR (X := X)) := by
    intro pins s σ H x y v u Q I rx ry h
    obtain ⟨b, q, h⟩ := h
    obtain ⟨p, q', as, bs, r1, r2, sd, se, rfl⟩ := h pins σ s v u I rx ry
    exact SeqAt.compareEq_shaped r1 r2 sd se hu ⟨.bl _, H, I, rfl, q⟩
  refine ⟨_, op_eq.or r1, fun G H as cs Fm x y wx wy Q E R rx ry h => ?_⟩
  unfold gEq at h
  cases e0 : strs2 wx wy with
  | some b =>
    rw [e0] at h
    obtain ⟨a, c, rfl, rfl, rfl⟩ := strs2_of e0
    obtain rfl := rx.str_of
    obtain rfl := ry.str_of
    refine .inl ⟨rfl, ?_⟩
    have k := h (.bl ((a == c))) G H as (Ext.refl _) (List.prefix_refl _) R (.bl _)
    rw [dec_str]
    exact k
  | none =>
    rw [e0] at h
    dsimp only at h
    cases e : eqD cs wx wy with
    | none => rw [e] at h; exact h.elim
    | some b =>
      rw [e] at h
      exact .inr ⟨b, h (.bl (b)) G H as (Ext.refl _) (List.prefix_refl _) R (.bl _), eqD_of R rx ry e⟩
theorem od_ne (hu : X.A.units + 64 < cLine) : OpD X (compareOp .NotEq) gNe := by
  have r1 : OpR X (compareOp .NotEq) (rNeR (X := X)) := by
    intro pins s σ H x y v u Q I rx ry h
    obtain ⟨b, q, h⟩ := h
    obtain ⟨p, q', as, bs, r1, r2, sd, se, rfl⟩ := h pins σ s v u I rx ry
    exact SeqAt.compareNe_shaped r1 r2 sd se hu ⟨.bl _, H, I, rfl, q⟩
  refine ⟨_, op_ne.or r1, fun G H as cs Fm x y wx wy Q E R rx ry h => ?_⟩
  unfold gNe at h
  cases e0 : strs2 wx wy with
  | some b =>
    rw [e0] at h
    obtain ⟨a, c, rfl, rfl, rfl⟩ := strs2_of e0
    obtain rfl := rx.str_of
    obtain rfl := ry.str_of
    refine .inl ⟨rfl, ?_⟩
    have k := h (.bl (!(a == c))) G H as (Ext.refl _) (List.prefix_refl _) R (.bl _)
    rw [dec_str]
    exact k
  | none =>
    rw [e0] at h
    dsimp only at h
    cases e : eqD cs wx wy with
    | none => rw [e] at h; exact h.elim
    | some b =>
      rw [e] at h
      exact .inr ⟨b, h (.bl (!b)) G H as (Ext.refl _) (List.prefix_refl _) R (.bl _), eqD_of R rx ry e⟩

end
end MW

set_option Elab.async false
set_option linter.all false
set_option maxRecDepth 100000
/-! MwIs: isinstance. -/
namespace MW
open PySem PySem.Spec PyProof.Rows L2

inductive TyK where
  | b (n : String) | o (C : Addr) | x (C : Addr)
def TyK.val : TyK → Value
  | .b n => .type n
  | .o C => .ref C
  | .x C => .ref C
/-- what the class of an exception must say -/
structure IsX (K : PySem.W.Frag) (C : Addr) : Prop where
  cl : (PySem.W.clsIn K C).isSome = true
  ga : PySem.W.findIn K (.ref C) "__getattribute__" = some (some (.builtin "BaseException.__getattribute__"))
  gt : PySem.W.findIn K (.ref C) "__getattr__" = some none
  sb : PySem.W.subIn K (.ref C) (.type "BaseException") = some true
  ca : PySem.W.findIn K (.ref C) "__class__" = some (some (.builtin "object.__class__"))
  hn : PySem.W.specialIn K (.builtin "object.__class__") "__get__" = some (some (.builtin "getset_descriptor.__get__"))
  ht : PySem.W.takesIn K (.builtin "object.__class__") = some true
  hm : PySem.W.mroIn K C (.type "object") = some true
/-- .. of an instance -/
structure IsO (K : PySem.W.Frag) (C : Addr) : Prop where
  cl : Cls K C
  ca : PySem.W.findIn K (.ref C) "__class__" = some (some (.builtin "object.__class__"))
  hn : PySem.W.specialIn K (.builtin "object.__class__") "__get__" = some (some (.builtin "getset_descriptor.__get__"))
  ht : PySem.W.takesIn K (.builtin "object.__class__") = some true
  hm : PySem.W.mroIn K C (.type "object") = some true
def TyK.ok (K : PySem.W.Frag) : TyK → Prop
  | .b _ => True
  | .o C => IsO K C
  | .x C => IsX K C
def tyK : D → Option TyK
  | .non => some (.b "NoneType")
  | .bl _ => some (.b "bool")
  | .int _ => some (.b "int")
  | .str _ => some (.b "str")
  | .tup _ => some (.b "tuple")
  | .lst _ => some (.b "list")
  | .dic _ _ _ => some (.b "dict")
  | .obj C _ _ => some (.o C)
  | .exc C _ => some (.x C)
  | _ => none
section
variable {X : Cx} {W : WX} {pins : List (Addr × Obj)} {σ : L2.St} {G H : Hp} {as : List Addr} {cs : List Cel} {Fm : Hp} {s : Shared}
def KitU (K : PySem.W.Frag) (u t : Value) (h : Heap) : Prop := ∃ P : Heap → Prop, PySem.W.KitX K u t P ∧ P h ∧ u ≠ .builtin "__main__.__loader__#opaque"
theorem kit_at (I : Inv X pins σ H s) {v : V} {d : D} {u : Value} {t : TyK} (a : At G H as v d) (e : tyK d = some t) (k : t.ok X.K) (r : RelV v u) : KitU X.K u t.val s.heap := by
  have ex : ∀ {a C : Addr} {od : Option Addr}, t = .x C → (∃ (oe : Obj) (vs : Array Value), s.heap.get? a = some oe ∧ Zc (.ref C) od oe ∧ oe.data = .fields vs) → (∀ dd, od = some dd → ∃ o, s.heap.get? dd = some o) → u = .ref a → KitU X.K u t.val s.heap := fun {a C od} e1 e2 e3 e4 => by
    subst e1
    subst e4
    obtain ⟨oe, vs, h1, h2, h3⟩ := e2
    have J : ∃ o2, PySem.W.InstAt s.heap a oe C o2 := by
      cases od with
      | none => exact ⟨none, h1, h2.1, by unfold PySem.W.notCls; rw [h3] <;> rfl, by rw [h2.2]; exact True.intro⟩
      | some dd =>
        obtain ⟨o, ho⟩ := e3 dd rfl
        exact ⟨some o, h1, h2.1, by unfold PySem.W.notCls; rw [h3] <;> rfl, by rw [h2.2]; exact ho⟩
    obtain ⟨o2, J⟩ := J
    exact ⟨_, PySem.W.kitx_exc k.cl k.ga k.gt k.sb k.ca k.hn k.ht k.hm, J, fun z => nomatch z⟩
  cases a with
  | non => cases e; cases (show u = Value.none from r); exact ⟨_, PySem.W.kitx_none, True.intro, fun z => nomatch z⟩
  | bl b => cases e; cases (show u = Value.bool b from r); exact ⟨_, PySem.W.kitx_bool, True.intro, fun z => nomatch z⟩
  | int i => cases e; obtain ⟨t, q⟩ := (show ∃ t, u = Value.int i t from r); cases q; exact ⟨_, PySem.W.kitx_int, True.intro, fun z => nomatch z⟩
  | str y => cases e; obtain ⟨t, q⟩ := (show ∃ t, u = Value.str y t from r); cases q; exact ⟨_, PySem.W.kitx_str, True.intro, fun z => nomatch z⟩
  | exc h h2 r2 =>
    rename_i C dd a v2 d2
    cases e
    have h' : ObjOk X.prog X.w H s.heap a (.ext fun h => ∃ (oe : Obj) (vs : Array Value), h.get? a = some oe ∧ Zc (.ref C) (some dd) oe ∧ oe.data = .fields vs) := I.hok a _ h
    obtain ⟨mA, ⟨o, es, ep, ho, _⟩, _⟩ := (show ObjOk X.prog X.w H s.heap dd (.xd _) from I.hok dd _ h2)
    exact ex rfl h'.1 (fun d' e' => by cases e'; exact ⟨o, ho⟩) r
  | exc0 h =>
    rename_i C a
    cases e
    have h' : ObjOk X.prog X.w H s.heap a (.ext fun h => ∃ (oe : Obj) (vs : Array Value), h.get? a = some oe ∧ Zc (.ref C) none oe ∧ oe.data = .fields vs) := I.hok a _ h
    exact ex rfl h'.1 (fun d' e' => by cases e') r
  | scr h => cases e
  | ref h r2 =>
    rename_i a o
    cases (show u = Value.ref a from r)
    cases r2 with
    | lst r2 =>
      cases e
      obtain ⟨_, its, n, _, h1⟩ := (show ObjOk X.prog X.w H s.heap a (.lst _) from I.hok a _ (h.no rfl))
      exact ⟨_, PySem.W.kitx_list, ⟨_, h1, rfl⟩, fun z => nomatch z⟩
    | tup r2 =>
      cases e
      obtain ⟨_, its, _, o, h1, h2, _⟩ := (show ObjOk X.prog X.w H s.heap a (.tup _) from I.hok a _ (h.no rfl))
      exact ⟨_, PySem.W.kitx_tuple, ⟨o, h1, h2⟩, fun z => nomatch z⟩
    | dK r2 =>
      cases e
      obtain ⟨_, _, vs, _, o, es, ep, h1, h2, _⟩ := dk_rd I.hok h.rd
      exact ⟨_, PySem.W.kitx_dict, ⟨o, h1, h2.1⟩, fun z => nomatch z⟩
    | dT r2 =>
      cases e
      obtain ⟨_, _, xs, _, o, es, ep, h1, h2, _⟩ := dt_rd I.hok h.rd
      exact ⟨_, PySem.W.kitx_dict, ⟨o, h1, h2.1⟩, fun z => nomatch z⟩
    | ins r2 =>
      cases e
      obtain ⟨mA, O, _⟩ := ins_get I.hok (h.no rfl)
      obtain ⟨od, J, _⟩ := O.look
      exact ⟨_, PySem.W.kitx_own (k.cl.get _) k.cl.hd k.ca k.hn k.ht k.hm, J, fun z => nomatch z⟩

/-- isinstance(x, c): kit says what is answered for each kind of value -/
def gIsi (kit : TyK → Option Bool) : D → Mo D := fun w cs => match (vw cs w).bind tyK with
  | some t => match kit t with
    | some b => some (.ok (.bl b) cs)
    | none => none
  | none => none
theorem gIsi_some {kit : TyK → Option Bool} {w : D} {cs : List Cel} {α : Type} {Q : V → Hp → Prop} {E : XK} (h : PoE G as Fm Q E (gIsi kit w cs)) : ∃ d t b, vw cs w = some d ∧ tyK d = some t ∧ kit t = some b ∧ PoE G as Fm Q E (ret (.bl b) cs) := by
  unfold gIsi at h
  cases e : vw cs w with
  | none => rw [e] at h; exact h.elim
  | some d =>
    rw [e] at h
    simp only [Option.bind_some] at h
    cases e1 : tyK d with
    | none => rw [e1] at h; exact h.elim
    | some t =>
      rw [e1] at h
      simp only at h
      cases e2 : kit t with
      | none => rw [e2] at h; exact h.elim
      | some b =>
        rw [e2] at h
        exact ⟨d, t, b, rfl, e1, e2, h⟩
def rIsA (X : Cx) : List V → Hp → VK → Prop := fun xs H Q => ∃ (x c : V) (cu : Value) (b : Bool), xs = [x, c] ∧ ClsV c cu ∧ Q (.bl b) H ∧ ∀ (pins : List (Addr × Obj)) (σ : L2.St) (s : Shared) (u : Value), Inv X pins σ H s → RelV x u → ∃ t, KitU X.K u t s.heap ∧ PySem.W.kitOne X.K t cu = some b
def rIsT (X : Cx) : List V → Hp → VK → Prop := fun xs H Q => ∃ (x : V) (tp : Addr) (cs : List V) (us : List Value) (b : Bool), xs = [x, .ref tp] ∧ H tp = some (.tup cs) ∧ Paired ClsV cs us ∧ Q (.bl b) H ∧ ∀ (pins : List (Addr × Obj)) (σ : L2.St) (s : Shared) (u : Value), Inv X pins σ H s → RelV x u → ∃ t, KitU X.K u t s.heap ∧ PySem.W.kitAny X.K t us = some b
theorem call_isA : CallR X (.builtin "isinstance") (rIsA X) := by
  intro pins s σ H xs us Q I r h
  obtain ⟨x, c, cu, b, rfl, k, q, hk⟩ := h
  obtain ⟨u1, u2, rfl, r1, r2⟩ := vals2 r
  have e2 := k.eq r2
  subst e2
  obtain ⟨t, ⟨P, Z, p, hx⟩, e⟩ := hk pins σ s u1 I r1
  exact PySem.W.kia_one Z I.kIn p e hx fun tk => ⟨.bl b, H, I.tok tk, rfl, q⟩
theorem call_isT : CallR X (.builtin "isinstance") (rIsT X) := by
  intro pins s σ H xs us Q I r h
  obtain ⟨x, tp, cs, ws, b, rfl, hT, k, q, hk⟩ := h
  obtain ⟨u1, u2, rfl, r1, r2⟩ := vals2 r
  cases (show u2 = Value.ref tp from r2)
  obtain ⟨t, ⟨P, Z, p, hx⟩, e⟩ := hk pins σ s u1 I r1
  obtain ⟨_, its, rv, o, h1, h2, n, h3⟩ := (show ObjOk X.prog X.w H s.heap tp (.tup cs) from I.hok tp _ hT)
  have e3 := ClsV.all k rv
  subst e3
  obtain ⟨oc, od, dt, sl⟩ := o
  simp only at h2 h3
  subst h2 h3
  exact PySem.W.kia_tup Z I.kIn p h1 e hx fun tk => ⟨.bl b, H, I.tok tk, rfl, q⟩
/-- class names, and their values -/
def PCl (X : Cx) (es : List Expr) (cs : List V) (us : List Value) : Prop := PA X es (fun _ H Q => Q cs H) ∧ Paired ClsV cs us
theorem pcl_nil : PCl X [] [] [] := ⟨pa_nil, .nil⟩
theorem pcl_own {y : Str} {C : Addr} {p : Pos} {es : List Expr} {cs : List V} {us : List Value} (h : PCl X es cs us) (hm : X.mg y = some (.ref C)) (hg : Gl X y := by rfl) (hd : (y == ("__debug__" : Str)) = false := by decide)
    (hs : starEach (.Name y p :: es) X.env = (false, eval (.Name y p) X.env) :: starEach es X.env := by rfl) : PCl X (.Name y p :: es) (.ref C :: cs) (.ref C :: us) :=
  ⟨pa_cons (pe_glob hg hm (v := .ref C) rfl hd) h.1 hs, .cons (.own C) h.2⟩
theorem pcl_ty {y : Str} {n : String} {p : Pos} {es : List Expr} {cs : List V} {us : List Value} (h : PCl X es cs us) (hm : X.mg y = none) (hv : bootBuiltins y = some (.type n)) (hg : Gl X y := by rfl) (hn : y ≠ "__name__" := by decide) (hd : (y == ("__debug__" : Str)) = false := by decide)
    (hs : starEach (.Name y p :: es) X.env = (false, eval (.Name y p) X.env) :: starEach es X.env := by rfl) : PCl X (.Name y p :: es) (.ty n :: cs) (.type n :: us) :=
  ⟨pa_cons (pe_bltn hg hm hv (v := .ty n) rfl hn hd) h.1 hs, .cons (.ty n) h.2⟩
/-- what kit answers is what K says -/
def KitOk (K : PySem.W.Frag) (kit : TyK → Option Bool) (cs : List Value) : Prop := ∀ t b, kit t = some b → PySem.W.kitAny K t.val cs = some b ∧ t.ok K
theorem kit_one {K : PySem.W.Frag} {t c : Value} {b : Bool} (h : PySem.W.kitAny K t [c] = some b) : PySem.W.kitOne K t c = some b := by
  unfold PySem.W.kitAny at h
  cases e : PySem.W.kitOne K t c with
  | none => rw [e] at h; cases h
  | some x =>
    rw [e] at h
    cases x with
    | true => exact h
    | false => exact h
theorem de_isi {e c : Expr} {f : EF} {cv : V} {cu : Value} {kit : TyK → Option Bool} {p pos : Pos} (ha : DE X W e f) (hc : PCl X [c] [cv] [cu]) (hk : KitOk X.K kit [cu]) (hm : X.mg "isinstance" = none) (hg : Gl X "isinstance" := by rfl)
    (hs : starEach [e, c] X.env = (false, eval e X.env) :: starEach [c] X.env := by rfl) (hpl : (backTo pos (starEach [c] X.env)).any (·.1) = false := by rfl) :
    DE X W (.Call (.Name "isinstance" p) [e, c] [] pos) (fun ρ => bnd (f ρ) (gIsi kit)) := by
  obtain ⟨t, pa, q⟩ := ha
  refine ⟨_, pe_callB (r := rIsA X) call_isA hg hm PyProof.Rows.Boot.«isinstance» (pa_cons pa hc.1 hs) (by decide) (by decide) hs hpl, fun G H as cs Fm σ ρ Q R S h => ?_⟩
  refine q G H as cs Fm σ ρ _ R S (Po.first h fun v w G1 H1 bs cs1 x1 p1 R1 w1 h1 => ?_)
  obtain ⟨d, t, b, e1, e2, e3, h2⟩ := gIsi_some (α := Unit) h1
  have hcl : ClsV cv cu := by
    cases hc.2 with
    | cons a b => exact a
  obtain ⟨k1, k2⟩ := hk t b e3
  exact ⟨v, cv, cu, b, rfl, hcl, h2 (.bl b) G1 H1 bs (Ext.refl _) (List.prefix_refl _) R1 (.bl b), fun pins σ s u I r => ⟨t.val, kit_at I (R1.view w1 e1) e2 k2 r, kit_one k1⟩⟩
theorem de_isiT {e : Expr} {es : List Expr} {f : EF} {cvs : List V} {cus : List Value} {kit : TyK → Option Bool} {p pos p2 : Pos} {j} (ha : DE X W e f) (hc : PCl X es cvs cus) (hk : KitOk X.K kit cus) (hl : cvs.length ≤ 100) (hm : X.mg "isinstance" = none) (hg : Gl X "isinstance" := by rfl)
    (hs : starEach [e, .Tuple es j p2] X.env = (false, eval e X.env) :: starEach [.Tuple es j p2] X.env := by rfl) (hs2 : starEach [.Tuple es j p2] X.env = (false, eval (.Tuple es j p2) X.env) :: starEach [] X.env := by rfl) (hpl : (backTo pos (starEach [.Tuple es j p2] X.env)).any (·.1) = false := by rfl) :
    DE X W (.Call (.Name "isinstance" p) [e, .Tuple es j p2] [] pos) (fun ρ => bnd (f ρ) (gIsi kit)) := by
  obtain ⟨t, pa, q⟩ := ha
  refine ⟨_, pe_callB (r := rIsT X) call_isT hg hm PyProof.Rows.Boot.«isinstance» (pa_cons pa (pa_cons (pe_tup hc.1) pa_nil hs2) hs) (by decide) (by decide) hs hpl, fun G H as cs Fm σ ρ Q R S h => ?_⟩
  refine q G H as cs Fm σ ρ _ R S (Po.first h fun v w G1 H1 bs cs1 x1 p1 R1 w1 h1 => ?_)
  obtain ⟨d, t, b, e1, e2, e3, h2⟩ := gIsi_some (α := Unit) h1
  obtain ⟨k1, k2⟩ := hk t b e3
  refine ⟨by rw [sizeLine_eq]; omega, fun tp hp => ?_⟩
  have R2 := R1.beside (u := .tup cvs) hp
  exact ⟨v, tp, cvs, cus, b, rfl, upd_same, hc.2, h2 (.bl b) G1 _ bs (Ext.refl _) (List.prefix_refl _) R2 (.bl b), fun pins σ s u I r => ⟨t.val, kit_at I (R2.view w1 e1) e2 k2 r, k1⟩⟩
end
end MW

set_option Elab.async false
set_option linter.all false
set_option maxRecDepth 100000
/-! MwRepr: repr of data; defs that know that no repr is under way. -/
namespace MW
open PySem PySem.Spec PyProof.Rows L2
section
variable {X : Cx}
def isI : PyData → Bool
  | .int _ => true
  | _ => false
def rRepr (X : Cx) : List V → Hp → VK → Prop := fun xs H Q => ∃ (x : V) (p : PyData), xs = [x] ∧ p.showable = true ∧ (isI p = true ∨ p.shown.length ≤ sizeLine) ∧ p.depth ≤ 60 ∧ Q (.str p.shown) H ∧
  ∀ (pins : List (Addr × Obj)) (σ : L2.St) (s : Shared) (u : Value), Inv X pins σ H s → RelV x u → ∃ bs, Reads s.heap u p bs ∧ sysModules ∉ bs
theorem call_repr (hg : X.A.guards = some []) (hu : X.A.units + 64 < cLine) : CallR X (.builtin "repr") (rRepr X) := by
  intro pins s σ H xs us Q I r h
  obtain ⟨x, p, rfl, h1, h2, h3, q, hr⟩ := h
  obtain ⟨u, rfl, ru⟩ : ∃ u, us = [u] ∧ RelV x u := by
    cases r with
    | cons a b => cases b; exact ⟨_, rfl, a⟩
  obtain ⟨bs, rd, ns⟩ := hr pins σ s u I ru
  have fin : ∀ {tk : Nat} {t : Tok}, EP X pins σ Q (.str p.shown t) { s with toks := tk } := fun {tk t} => ⟨.str p.shown, H, I.tok tk, ⟨t, rfl⟩, q⟩
  cases rd with
  | none => exact P.repr_of_none (by have := @fin (s.toks + 1) s.toks; simpa [PyData.shown] using this)
  | bool b =>
    refine P.repr_of_bool ?_
    have := @fin (s.toks + 1) s.toks
    cases b <;> simpa [PyData.shown] using this
  | int i t =>
    refine P.repr_of_int (by simpa [PyData.showable] using h1) ?_
    have := @fin (s.toks + 1) s.toks
    simpa [PyData.shown] using this
  | str y t =>
    refine P.repr_of_str (by have := @fin (s.toks + 1) s.toks; simpa [PyData.shown] using this) (by simpa [PyData.shown, isI] using h2)
  | list e1 e2 e3 e4 => exact repr_of_reads' (.list e1 e2 e3 e4) h1 (fun _ => ns) hg (by omega) (fun _ _ z => z) (fun h' u tk hk => ⟨.str _, H, I.kept (t' := tk) hk, ⟨u, rfl⟩, q⟩) (h2.resolve_left nofun)
  | tuple e1 e2 e3 e4 => exact repr_of_reads' (.tuple e1 e2 e3 e4) h1 (fun _ => ns) hg (by omega) (fun _ _ z => z) (fun h' u tk hk => ⟨.str _, H, I.kept (t' := tk) hk, ⟨u, rfl⟩, q⟩) (h2.resolve_left nofun)
  | dict e1 e2 e3 e4 e5 => exact repr_of_reads' (.dict e1 e2 e3 e4 e5) h1 (fun _ => ns) hg (by omega) (fun _ _ z => z) (fun h' u tk hk => ⟨.str _, H, I.kept (t' := tk) hk, ⟨u, rfl⟩, q⟩) (h2.resolve_left nofun)
def reprD (cs : List Cel) (d : D) : Option Str := match toP cs 60 d with
  | some p => if p.showable = true ∧ (isI p = true ∨ p.shown.length ≤ sizeLine) ∧ p.depth ≤ 60 then some p.shown else none
  | none => none
def gRepr : FF := fun ws cs => match ws with
  | [w] => match reprD cs w with
    | some x => some (.ok (.str x) cs)
    | none => none
  | _ => none
theorem cd_repr (hg : X.A.guards = some []) (hu : X.A.units + 64 < cLine) (hs : (X.K.lookup sysModules).isSome = true) : CallD X (.builtin "repr") gRepr := by
  refine ⟨rRepr X, call_repr hg hu, fun G H as cs Fm vs ws Q E R r h => ?_⟩
  unfold gRepr at h
  cases r with
  | nil => exact h.elim
  | cons r t =>
    cases t with
    | cons _ _ => exact h.elim
    | nil =>
      rename_i v w
      simp only at h
      unfold reprD at h
      cases e : toP cs 60 w with
      | none => rw [e] at h; exact h.elim
      | some p =>
        rw [e] at h
        simp only at h
        by_cases hp : p.showable = true ∧ (isI p = true ∨ p.shown.length ≤ sizeLine) ∧ p.depth ≤ 60
        · rw [if_pos hp] at h
          refine ⟨v, p, rfl, hp.1, hp.2.1, hp.2.2, h (.str p.shown) G H as (Ext.refl _) (List.prefix_refl _) R (.str _), fun pins σ s u I ru => ?_⟩
          obtain ⟨bs, q, tr⟩ := rd_val I R r e ru
          refine ⟨bs, q, fun hm => ?_⟩
          obtain ⟨o, ho⟩ := tr _ hm
          obtain ⟨ob, hob⟩ := Option.isSome_iff_exists.mp hs
          have n := (I.bs _ _ (I.ok.mod.kin _ _ hob)).2
          rw [ho] at n
          cases n
        · rw [if_neg hp] at h
          exact h.elim
end

/-! ### a def that is called where no repr is under way -/
structure FnG (P : Program) (w : World) (K : PySem.W.Frag) (mg : Str → Option Value) (base : Heap) (CX : CXT) (k : Nat) (f : Addr) (fd : FuncData) (ps : List Str) (sp : Sp) : Prop where
  len : ∀ vs H Q E, sp vs H Q E → vs.length = ps.length
  run : ∀ (A : Around) (outer : List Env) (s : Shared) (H : Hp) (args : Args) (us : List Value) (vs : List V) (Q : VK) (E : XK), Room k A → A.guards = some [] → Env0 P w K mg base A outer s H → BindsTo s fd args (ps.zip us) → Vals vs us → sp vs H Q E →
    codeAny (model P w) A (.call (.ref f) args) (CR CX outer P w H s Q E) s
theorem fn_ofG {CX : CXT} {P : Program} {w : World} {K : PySem.W.Frag} {mg : Str → Option Value} {base : Heap} {k : Nat} {f : Addr} {name qual : Str} {params : Arguments} {body : List Stmt} {scope : Scope} {dV kV doc pm cdv ct oc : Value} {an od : Option Addr}
    {osl : Array (Option Value)} {N ps : List Str} {sp : Sp} (lk : K.lookup f = some ⟨oc, od, .func (PySem.W.fnOf name qual params body scope dV kV doc pm an cdv ct), osl⟩) (hcd : PySem.W.codeIn K cdv qual = true) (S : FnScope N ps scope)
    (len : ∀ vs H Q E, sp vs H Q E → vs.length = ps.length)
    (hbody : ∀ (A : Around) (outer : List Env) (s : Shared) (H : Hp) (vs : List V) (Q : VK) (E : XK), Room k (A.deeper (envOfC qual scope s.heap.objs.size f cdv)) → A.guards = some [] → sp vs H Q E →
      ∃ t, PSs (cxOf CX P w K mg base N qual scope f cdv A outer s H E) body t ∧ t { nx := fun _ H' => Q .non H', rt := Q } (start N vs) H) :
    FnG P w K mg base CX (k + 1) f (PySem.W.fnOf name qual params body scope dV kV doc pm an cdv ct) ps sp := by
  refine ⟨len, fun A outer s H args us vs Q E hr hgu e0 hb r hsp => ?_⟩
  have hl := len _ _ _ _ hsp
  have KX : K.In s.heap := e0.mod.kin.keeps fun b o e => (e0.bs b o e).1
  have lim : s.heap.NoLimit := e0.mod.nolimit.keeps fun b o e => (e0.bs b o e).1
  have hkind : ∀ y ∈ ps.zip us, scope.names.lookup y.1 = some .local ∨ (scope.names.lookup y.1 = some .cell ∧ ((cellsFrom (s.heap.objs.size + 1) scope.names []).lookup y.1).isSome = true) := fun ⟨n, v⟩ hy => by
    rcases S.par n (List.of_mem_zip hy).1 with q | q
    · exact .inl q
    · exact .inr ⟨q, PySem.W.cellsFrom_some _ _ _ (.inl q)⟩
  refine codeAny_call_function hr.depth (KX _ _ lk) rfl S.co S.gen rfl (PySem.W.codeRec_of KX hcd) (hb _ _ _ _ ?_)
  refine wpAny_newFunctionEnv_cells S.kind hkind fun env he s1 x => ?_
  subst he
  refine ⟨lim.keeps x.toInCall.keep, codeAny_func ?_⟩
  obtain ⟨t, ht, hq⟩ := hbody A outer s H vs Q E (hr.deeper _) hgu hsp
  have I : Inv (cxOf CX P w K mg base N qual scope f cdv A outer s H E) [] (start N vs) H s1 := inv_start S hr.hd e0 hl r x
  refine wpAny_mono (ht.run [] s1 (start N vs) H _ I hq) (fun fl s' hs => ?_) fun e s' hs => hs
  have fin : ∀ {σ' : L2.St} {H' : Hp} {v : V} {u : Value}, Inv (cxOf CX P w K mg base N qual scope f cdv A outer s H E) [] σ' H' s' → RelV v u → Q v H' → CE outer P w H s Q u s' :=
    fun {σ' H' v u} J rv q => ⟨v, H', J.os, J.bare, J.base, J.hok, rv, q⟩
  cases fl with
  | ret u =>
    obtain ⟨v, σ', H', J, rv, q⟩ := hs
    exact fin J rv q
  | next =>
    obtain ⟨σ', H', J, q⟩ := hs
    exact fin (v := V.non) (u := Value.none) J rfl q
  | brk =>
    obtain ⟨_, _, _, q⟩ := hs
    exact False.elim q
  | cont =>
    obtain ⟨_, _, _, q⟩ := hs
    exact False.elim q
theorem fn_okG {P : Program} {w : World} {K : PySem.W.Frag} {mg : Str → Option Value} {base : Heap} {x qual : Str} {st : Stmt} {f : Addr} {fd : FuncData} {N ps : List Str} {k : Nat} {F : SF} (Fn : Fun K x qual st f fd) (S : FnScope N ps (defScope st))
    (hb : ∀ (cdv : Value) (A : Around) (outer : List Env) (s : Shared) (H : Hp) (E : XK), Room k (A.deeper (envOfC qual (defScope st) s.heap.objs.size f cdv)) → A.guards = some [] →
      Takes (cxOf (L2.CX P w) P w K mg base N qual (defScope st) f cdv A outer s H E) (fun c d _ H => E c d H) →
      DSs (cxOf (L2.CX P w) P w K mg base N qual (defScope st) f cdv A outer s H E) (fun c d _ H => E c d H) (defBody st) F) :
    FnG P w K mg base (L2.CX P w) (k + 1) f fd ps (spD ps.length (mkFn N.length F)) := by
  obtain ⟨oc, od, kV, doc, pm, an, cdv, ct, osl, rfl, lk, hcd⟩ := Fn.ex
  refine fn_ofG lk hcd S (fun vs H Q E h => ?_) (fun A outer s H vs Q E hr hg h => ?_)
  · obtain ⟨G, as, cs, Fm, ds, _, r, hl, _⟩ := h
    rw [r.length, hl]
  · exact body_ok (hb cdv A outer s H E hr hg (takes_of rfl rfl rfl rfl)) h
end MW

set_option Elab.async false
set_option linter.all false
set_option maxRecDepth 100000
/-! MwDisp: dict displays; three names at once; calls of guarded defs; the bare error. -/
namespace MW
open PySem PySem.Spec PyProof.Rows L2

/-! ### what the frame holds becomes ours -/
theorem Rp.free_of {G H : Hp} {as : List Addr} {cs : List Cel} {Fm : Hp} {p : Addr} {u : HO} (R : Rp G H as cs Fm) (h : Fm p = some u) (nt : ∀ xs, u ≠ .tup xs) : G p = none ∧ H p = some u := by
  obtain ⟨h1, h2, h3⟩ := R.fr p _ h
  refine ⟨?_, h1⟩
  cases e : G p with
  | none => rfl
  | some o =>
    obtain ⟨ys, rfl⟩ := h3 o e
    have := (R.fits p _ e).no rfl
    rw [h1] at this
    cases this
    exact absurd rfl (nt ys)
theorem Rp.settleU {G H : Hp} {as : List Addr} {cs : List Cel} {Fm : Hp} {p : Addr} {u : HO} (nt : ∀ xs, u ≠ .tup xs) (hf : Fm p = none) (R : Rp G H as cs (upd Fm p u)) : Rp (upd G p u) H as cs Fm ∧ Ext G (upd G p u) := by
  obtain ⟨hg, hp⟩ := R.free_of upd_same nt
  have x : Ext G (upd G p u) := Ext.new hg
  have na : p ∉ as := (R.fr p _ upd_same).2.1
  refine ⟨⟨fun b o e => ?_, R.len, R.nd, fun n b c hb hc => ?_, fun b o e => ?_⟩, x⟩
  · by_cases hb : b = p
    · subst hb; rw [upd_same] at e; cases e; exact .inl hp
    · rw [upd_ne hb] at e
      exact R.fits b o e
  · have nb : b ≠ p := fun z => na (z ▸ List.mem_of_getElem? hb)
    obtain ⟨h1, h2⟩ := R.cel n b c hb hc
    refine ⟨fun e => ?_, fun e => ?_⟩
    · obtain ⟨g, u, hu, r⟩ := h1 e
      exact ⟨by rw [upd_ne nb]; exact g, u, hu, r.ext x (List.prefix_refl _)⟩
    · obtain ⟨u, hu, r⟩ := h2 e
      exact ⟨u, by rw [upd_ne nb]; exact hu, r.ext x (List.prefix_refl _)⟩
  · have nb : b ≠ p := fun z => by rw [z, hf] at e; cases e
    obtain ⟨h1, h2, h3⟩ := R.fr b o (by rw [upd_ne nb]; exact e)
    exact ⟨h1, h2, fun u hu => h3 u (by rw [upd_ne nb] at hu; exact hu)⟩
theorem Rp.settleCU {G H : Hp} {as : List Addr} {cs : List Cel} {Fm : Hp} {p : Addr} {u : HO} {d : D} (nt : ∀ xs, u ≠ .tup xs) (hf : Fm p = none) (R : Rp G H as cs (upd Fm p u)) (r : Hr G as u d) : Rp G H (as ++ [p]) (cs ++ [⟨d, true⟩]) Fm := by
  obtain ⟨hg, hp⟩ := R.free_of upd_same nt
  have na : p ∉ as := (R.fr p _ upd_same).2.1
  refine ⟨R.fits, by simp [R.len], ?_, fun n b c hb hc => ?_, fun b o e => ?_⟩
  · rw [List.nodup_append]
    refine ⟨R.nd, by simp, fun x hx y hy => ?_⟩
    obtain rfl : y = p := by simpa using hy
    exact fun z => na (z ▸ hx)
  · by_cases hn : n < as.length
    · rw [List.getElem?_append_left hn] at hb
      rw [List.getElem?_append_left (by rw [← R.len]; exact hn)] at hc
      obtain ⟨h1, h2⟩ := R.cel n b c hb hc
      refine ⟨fun e => ?_, fun e => ?_⟩
      · obtain ⟨g, u, hu, r⟩ := h1 e
        exact ⟨g, u, hu, r.ext (Ext.refl _) (List.prefix_append _ _)⟩
      · obtain ⟨u, hu, r⟩ := h2 e
        exact ⟨u, hu, r.ext (Ext.refl _) (List.prefix_append _ _)⟩
    · have hn' : as.length ≤ n := Nat.le_of_not_lt hn
      rw [List.getElem?_append_right hn'] at hb
      rw [List.getElem?_append_right (by rw [← R.len]; exact hn')] at hc
      have e0 : n - as.length = 0 := by
        have := (List.getElem?_eq_some_iff.mp hb).1
        simp at this
        omega
      rw [e0] at hb
      rw [← R.len, e0] at hc
      obtain rfl : p = b := by simpa using hb
      obtain rfl : (⟨d, true⟩ : Cel) = c := by simpa using hc
      exact ⟨fun _ => ⟨hg, _, hp, r.ext (Ext.refl _) (List.prefix_append _ _)⟩, fun z => by cases z⟩
  · have nb : b ≠ p := fun z => by rw [z, hf] at e; cases e
    obtain ⟨h1, h2, h3⟩ := R.fr b o (by rw [upd_ne nb]; exact e)
    refine ⟨h1, fun z => ?_, h3⟩
    rcases List.mem_append.mp z with z | z
    · exact h2 z
    · exact nb (by simpa using z)

/-! ### {k: v, ..} -/
abbrev PF := List (EF × EF)
def fPairs : PF → Evn → Mo (List (D × D))
  | [], _ => ret []
  | p :: r, ρ => bnd (p.1 ρ) fun k => bnd (p.2 ρ) fun v => bnd (fPairs r ρ) fun ps => ret ((k, v) :: ps)
def RPs (G : Hp) (as : List Addr) (vs : List (V × V)) (ds : List (D × D)) : Prop := Reps G as (vs.map (·.1)) (ds.map (·.1)) ∧ Reps G as (vs.map (·.2)) (ds.map (·.2))
def DPs (X : Cx) (W : WX) (pos : Pos) (keys : List (Option Expr)) (values : List Expr) (prs : PF) : Prop :=
  ∃ trs, PPs X pos keys values trs ∧ ∀ (G H : Hp) (as : List Addr) (cs : List Cel) (Fm : Hp) (σ : L2.St) (ρ : Evn) (Q : List (V × V) → Hp → Prop), Rp G H as cs Fm → Sl G as σ ρ → Po RPs G as Fm Q (fun c d H' => W c d σ H') (fPairs prs ρ cs) → tPairs trs σ H Q
def dispD : List (D × D) → List D × List D → List D × List D
  | [], p => p
  | q :: r, p => dispD r (putD p.1 p.2 q.1 q.2)
def mkD (p : List D × List D) : Mo D := ret (.dic false p.1 p.2)
def mkDC (p : List D × List D) : Mo D := newc (.dic false p.1 p.2)
def MkDOk (m : List D × List D → Mo D) : Prop := ∀ (G H : Hp) (as : List Addr) (cs : List Cel) (Fm : Hp) (p : Addr) (kvs : List (Key × V)) (ys : List D) (Q : VK) (E : XK), Fm p = none → Rp G H as cs (upd Fm p (.dK kvs)) → Reps G as (kvs.map (·.2)) ys → PoE G as Fm Q E (m (kvs.map (fun p => kD p.1), ys) cs) → Q (.ref p) H
theorem mkD_ok : MkDOk mkD := fun G H as cs Fm p kvs ys Q E hf R r h => by
  obtain ⟨R2, x⟩ := R.settleU (fun _ z => by cases z) hf
  exact h _ _ H as x (List.prefix_refl _) R2 (.ref upd_same (.dK (r.ext x (List.prefix_refl _))))
theorem mkDC_ok : MkDOk mkDC := fun G H as cs Fm p kvs ys Q E hf R r h => by
  have R2 := R.settleCU (fun _ z => by cases z) hf (.dK r)
  exact h _ G H _ (Ext.refl _) (List.prefix_append _ _) R2 (.cel (by rw [← R.len]; simp))
def fDisp (m : List D × List D → Mo D) (prs : PF) : EF := fun ρ => bnd (fPairs prs ρ) fun ps => if ps.all (fun p => flatK p.1) = true then m (dispD ps ([], [])) else fail
section
variable {X : Cx} {W : WX}
theorem dps_nil {pos : Pos} : DPs X W pos [] [] [] := ⟨_, pps_nil, fun G H as cs Fm σ ρ Q R S h => h [] G H as (Ext.refl _) (List.prefix_refl _) R ⟨.nil, .nil⟩⟩
theorem dps_cons {pos : Pos} {k v : Expr} {ks : List (Option Expr)} {vs : List Expr} {fk fv : EF} {prs : PF} (hk : DE X W k fk) (hv : DE X W v fv) (hr : DPs X W pos ks vs prs) : DPs X W pos (some k :: ks) (v :: vs) ((fk, fv) :: prs) := by
  obtain ⟨t1, p1, q1⟩ := hk
  obtain ⟨t2, p2, q2⟩ := hv
  obtain ⟨t3, p3, q3⟩ := hr
  refine ⟨_, pps_cons p1 p2 p3, fun G H as cs Fm σ ρ Q R S h => ?_⟩
  refine q1 G H as cs Fm σ ρ _ R S (Po.first h fun x wx G1 H1 bs cs1 x1 e1 R1 r1 h1 => ?_)
  refine q2 G1 H1 bs cs1 Fm σ ρ _ R1 (S.ext x1 e1) (Po.first h1 fun y wy G2 H2 bs2 cs2 x2 e2 R2 r2 h2 => ?_)
  refine q3 G2 H2 bs2 cs2 Fm σ ρ _ R2 ((S.ext x1 e1).ext x2 e2) (Po.first h2 fun ps ws G3 H3 bs3 cs3 x3 e3 R3 r3 h3 => ?_)
  exact h3 _ G3 H3 bs3 (Ext.refl _) (List.prefix_refl _) R3 ⟨.cons ((r1.ext x2 e2).ext x3 e3) r3.1, .cons (r2.ext x3 e3) r3.2⟩
theorem merge_put : ∀ {ps : List (D × D)} {kvs : List (Key × V)} {acc : List (Key × V)} {ys : List D} {G : Hp} {as : List Addr}, ps.map (·.1) = kvs.map (fun p => kD p.1) → Reps G as (kvs.map (·.2)) (ps.map (·.2)) → Reps G as (acc.map (·.2)) ys →
    (dispD ps (acc.map (fun p => kD p.1), ys)).1 = (mergeK acc kvs).map (fun p => kD p.1) ∧ Reps G as ((mergeK acc kvs).map (·.2)) (dispD ps (acc.map (fun p => kD p.1), ys)).2
  | [], [], _, _, _, _, _, _, h => ⟨rfl, h⟩
  | [], _ :: _, _, _, _, _, h, _, _ => by simp at h
  | _ :: _, [], _, _, _, _, h, _, _ => by simp at h
  | (k, d) :: ps, (k', v) :: kvs, acc, ys, G, as, h1, h2, h3 => by
    have hk : k = kD k' := (List.cons.inj h1).1
    subst hk
    cases h2 with
    | cons r t =>
      obtain ⟨a1, a2⟩ := put_gen (fun k => kD k) eqk_kD k' r h3
      have key := merge_put (ps := ps) (kvs := kvs) (acc := putK acc k' v) (ys := (putD (acc.map fun p => kD p.1) ys (kD k') d).2) (List.cons.inj h1).2 t a2
      have e0 : dispD ((kD k', d) :: ps) (acc.map (fun p => kD p.1), ys) = dispD ps (putD (acc.map fun p => kD p.1) ys (kD k') d) := rfl
      have e : putD (acc.map fun p => kD p.1) ys (kD k') d = ((putK acc k' v).map (fun p => kD p.1), (putD (acc.map fun p => kD p.1) ys (kD k') d).2) := by
        rw [← a1]
      rw [e0, e]
      exact key
theorem keys_of : ∀ {ps : List (D × D)} {vs : List (V × V)} {G : Hp} {as : List Addr}, (ps.all fun p => flatK p.1) = true → RPs G as vs ps → ∃ kvs : List (Key × V), vs = kvs.map (fun kv => (kV kv.1, kv.2)) ∧ ps.map (·.1) = kvs.map (fun p => kD p.1)
  | [], [], _, _, _, _ => ⟨[], rfl, rfl⟩
  | [], _ :: _, _, _, _, ⟨r, _⟩ => by cases r
  | _ :: _, [], _, _, _, ⟨r, _⟩ => by cases r
  | (k, d) :: ps, (x, y) :: vs, G, as, h, ⟨r1, r2⟩ => by
    rw [List.all_cons, Bool.and_eq_true] at h
    cases r1 with
    | cons a1 b1 =>
      cases r2 with
      | cons a2 b2 =>
        obtain ⟨kvs, e1, e2⟩ := keys_of h.2 ⟨b1, b2⟩
        obtain ⟨q, hq⟩ := flatK_of h.1
        have hq' : k = kD q := hq
        subst hq'
        have ex := Rep.key a1
        exact ⟨(q, y) :: kvs, by rw [List.map_cons, ← e1, ← ex], by rw [List.map_cons, List.map_cons, e2]⟩
theorem de_disp {keys : List (Option Expr)} {values : List Expr} {prs : PF} {m : List D × List D → Mo D} {pos : Pos} (hm : MkDOk m) (h : DPs X W pos keys values prs) (hall : keys.all (·.isSome) = true := by rfl) (hl : keys.length = values.length := by rfl) (h0 : keys ≠ [] := by nofun)
    (h15 : keys.length ≤ 15 := by decide) (hp15 : prs.length ≤ 15 := by decide) : DE X W (.Dict keys values pos) (fDisp m prs) := by
  obtain ⟨trs, p, q⟩ := h
  refine ⟨_, pe_disp p hall hl h0 h15, fun G H as cs Fm σ ρ Q R S h => ?_⟩
  intro a ha
  have hF := R.fresh ha
  have R0 := R.hold (u := .dK []) ha
  refine q G _ as cs (upd Fm a (.dK [])) σ ρ _ R0 S ?_
  unfold fDisp bnd at h
  have plen : ∀ {prs : PF} {ρ : Evn} {cs cs' : List Cel} {ps : List (D × D)}, fPairs prs ρ cs = some (.ok ps cs') → ps.length = prs.length := by
    intro prs
    induction prs with
    | nil =>
      intro ρ cs cs' ps h
      cases h
      rfl
    | cons pr prs ih =>
      intro ρ cs cs' ps h
      unfold fPairs bnd at h
      cases e1 : pr.1 ρ cs with
      | none => rw [e1] at h; cases h
      | some z =>
        rw [e1] at h
        cases z with
        | exc C d c => cases h
        | ok k c1 =>
          dsimp only at h
          cases e2 : pr.2 ρ c1 with
          | none => rw [e2] at h; cases h
          | some z =>
            rw [e2] at h
            cases z with
            | exc C d c => cases h
            | ok v c2 =>
              dsimp only at h
              cases e3 : fPairs prs ρ c2 with
              | none => rw [e3] at h; cases h
              | some z =>
                rw [e3] at h
                cases z with
                | exc C d c => cases h
                | ok qs c3 =>
                  cases h
                  rw [List.length_cons, List.length_cons, ih e3]
  cases e : fPairs prs ρ cs with
  | none => rw [e] at h; exact h.elim
  | some z =>
    rw [e] at h
    cases z with
    | exc C ds cs1 => exact fun d G' H' bs x1 p1 R1 xd => h d G' H' bs x1 p1 (R1.unhold hF) xd
    | ok ps cs1 =>
      have hlen := plen e
      simp only at h
      intro vs G1 H1 bs x1 p1 R1 rp
      by_cases hfl : (ps.all fun p => flatK p.1) = true
      · rw [if_pos hfl] at h
        obtain ⟨kvs, e1, e2⟩ := keys_of hfl rp
        have hr2 : Reps G1 bs (kvs.map (·.2)) (ps.map (·.2)) := by
          have := rp.2
          rw [e1, List.map_map] at this
          exact this
        obtain ⟨m1, m2⟩ := merge_put (acc := []) (ys := []) e2 hr2 .nil
        obtain ⟨hg, hH⟩ := R1.free_of upd_same (fun _ z => by cases z)
        have R2 := R1.held (o' := .dK (mergeK [] kvs)) upd_same hg
        rw [MW.upd_twice] at R2
        refine ⟨hH, kvs, e1, ?_, ?_⟩
        · have : kvs.length = ps.length := by
            have := congrArg List.length e2
            simpa using this.symm
          omega
        · have h2 := Po.later x1 p1 h
          refine hm G1 _ bs cs1 Fm a _ (dispD ps ([], [])).2 Q (fun c d H' => W c d σ H') hF R2 m2 ?_
          rw [← m1]
          exact h2
      · rw [if_neg hfl] at h
        exact h.elim

/-! ### a, b, c = x, y, z -/
def sPar3 (i j l : Nat) (f : AF) : SF := fun ρ => bndE (f ρ) ρ fun ds cs => match ds with
  | [a, b, c] => some (.nx (((ρ.set i (some a)).set j (some b)).set l (some c)) cs)
  | _ => none
theorem ds_par3 {i j l : Nat} {x y z : Str} {a b c : Expr} {f : AF} {px py pz pt pos : Pos} {kt k2 pt2} (hc : X.calm = true) (hN : X.N.Nodup) (ha : DA X W [a, b, c] f) (hi : X.N[i]? = some x := by rfl) (hj : X.N[j]? = some y := by rfl) (hl : X.N[l]? = some z := by rfl) (hij : i ≠ j := by decide) (hil : i ≠ l := by decide) (hjl : j ≠ l := by decide)
    (hx : X.env.scope.names.lookup x = some .local := by rfl) (hy : X.env.scope.names.lookup y = some .local := by rfl) (hz : X.env.scope.names.lookup z = some .local := by rfl)
    (hw : swappedStores [.Tuple [.Name x px, .Name y py, .Name z pz] kt pt] (.Tuple [a, b, c] k2 pt2) X.env = pure (some [x, y, z]) := by rfl)
    (hs : swapsWithSole [.Tuple [.Name x px, .Name y py, .Name z pz] kt pt] (.Tuple [a, b, c] k2 pt2) pos.line X.env = pure false := by rfl) :
    DS X W (.Assign [.Tuple [.Name x px, .Name y py, .Name z pz] kt pt] (.Tuple [a, b, c] k2 pt2) pos) (sPar3 i j l f) := by
  obtain ⟨t, p, q⟩ := ha
  refine ⟨_, ps_par3 hc hN hi hj hl hij hil hjl hx hy hz p hw hs, fun G H as cs Fm σ ρ D' R S h => ?_⟩
  refine q G H as cs Fm σ ρ _ R S (PoS.first S h fun v w G1 H1 bs cs1 x1 p1 R1 w1 h1 => ?_)
  cases w1 with
  | nil => exact h1.elim
  | cons r1 t1 =>
    cases t1 with
    | nil => exact h1.elim
    | cons r2 t2 =>
      cases t2 with
      | nil => exact h1.elim
      | cons r3 t3 =>
        cases t3 with
        | nil => exact ⟨_, _, _, rfl, h1 _ G1 H1 bs (Ext.refl _) (List.prefix_refl _) R1 ((((S.ext x1 p1).set r1).set r2).set r3)⟩
        | cons _ _ => exact h1.elim

/-! ### calls of defs that know that no repr is under way -/
theorem de_callG {k n : Nat} {g : FF} {f : Addr} {fd : FuncData} {ps : List Str} {x : Str} {p pos : Pos} {e : Expr} {es : List Expr} {fa : AF} (F : FnG X.prog X.w X.K X.mg X.base (L2.CX X.prog X.w) k f fd ps (spD n g)) (tk : Takes X W) (hr : Room k X.A) (hgu : X.A.guards = some []) (hm : X.mg x = some (.ref f)) (hk : PySem.W.keepIn X.K (.ref f) = true) (hb : Binds X.K fd ps []) (ha : DA X W (e :: es) fa)
    (hg : Gl X x := by rfl) (hdb : (x == ("__debug__" : Str)) = false := by decide) (he : starEach (e :: es) X.env = (false, eval e X.env) :: starEach es X.env := by rfl) (hpl : (backTo pos (starEach es X.env)).any (·.1) = false := by rfl) :
    DE X W (.Call (.Name x p) (e :: es) [] pos) (fCall (arg n g) fa) := by
  obtain ⟨t, pa, q⟩ := ha
  refine ⟨tCallS (spD n g) (WE W) t, ⟨fun pins s σ H Q I h => ?_⟩, fun G H as cs Fm σ ρ Q R S h => ?_⟩
  · refine wpAny_Call_Name_kw (ld_glob I hg hm ?_ hdb)
    refine PySem.W.callWith_K (h₀ := X.base) I.ok.mod.kin hk (thn (pa.run pos pins s σ H _ I h) fun us s1 ⟨vs, H1, I1, r, q⟩ => ⟨I1.kIn, ?_⟩) he hpl
    have hl : us.length = ps.length := by rw [← r.length]; exact F.len _ _ _ _ q
    have b := hb s1 us I1.kIn (by rw [List.append_nil]; exact hl)
    rw [List.append_nil] at b
    refine wpAny_call (codeAny_mono (F.run X.A X.stack s1 H1 ⟨us, []⟩ us vs Q (WE W σ) hr hgu I1.env0 b r q) fun r s' hq => ?_)
    cases r with
    | error e => exact passAt tk σ pins H1 s1 e s' I1 hq
    | ok fl =>
      cases fl with
      | ret u => exact I1.after hq
      | next => exact False.elim hq
      | brk => exact False.elim hq
      | cont => exact False.elim hq
  · refine q G H as cs Fm σ ρ _ R S (Po.first h fun v w G1 H1 bs cs1 x1 p1 R1 w1 h1 => ?_)
    unfold arg at h1
    split at h1
    · rename_i hl
      exact ⟨G1, bs, cs1, Fm, w, R1, w1, hl, h1⟩
    · exact h1.elim

/-! ### an own exception's class without own __init__ -/
theorem de_excB {C : Addr} {bmB : List Value} {B newId initId : String} {x : Str} {p pos : Pos} (F : ExcBaseFacts B newId initId bmB) (q : PySem.W.excIn X.K C bmB newId = true) (gC : X.mg x = some (.ref C)) (kC : PySem.W.keepIn X.K (.ref C) = true) (hg : Gl X x := by rfl) (hdb : (x == ("__debug__" : Str)) = false := by decide) :
    DE X W (.Call (.Name x p) [] [] pos) (fun _ => ret (.exc C [])) := by
  refine ⟨fun σ H Q => ∀ a, H a = none → Q (.ref a) (upd H a (Ex0 C a)), ⟨fun pins s σ H Q I h => ?_⟩, fun G H as cs Fm σ ρ Q R S h => ?_⟩
  · refine wpAny_Call_Name_kw (ld_glob I hg gC ?_ hdb)
    refine PySem.W.callWith_K0 I.kIn kC ?_
    show wpAny _ _ (call (.ref C) []) _ _ _
    obtain ⟨bm, N, nm, qn, bs, hdct, sn, sub, ab, col, dd, k0, k1, k2, k3, k5, mN, hC, hN, hni, T⟩ := exc_obj I.kIn q
    refine wpAny_call_exc_subT F T hC hN hni (fun h' a hm => ?_) (by show 0 ≤ sizeLine; exact Nat.zero_le _)
    have hn : H a = none := I.hok.gone hm.new
    obtain ⟨t, ht, _, _⟩ := hm.there
    exact ⟨.ref a, upd H a (Ex0 C a), I.laidN hm.keeps hm.new hn ⟨⟨_, _, ht, ⟨rfl, rfl⟩, rfl⟩, ⟨_, ht⟩, fun _ _ ⟨o, v, q, r⟩ k => ⟨o, v, k o q, r⟩⟩, rfl, h a hn⟩
  · intro a na
    have R1 := R.new na (u := Ex0 C a) (fun _ _ z => by
      have z' : HO.ext _ = HO.frz _ _ := z
      cases z')
    exact h _ _ _ as (Ext.new (R.gnone na)) (List.prefix_refl _) R1 (.exc0 upd_same)
end
end MW

set_option Elab.async false
set_option linter.all false
set_option maxRecDepth 100000
/-! MwLaw: what the printed proofs of a law's defs lean on. -/
namespace MW
open PySem PySem.Spec PyProof.Rows L2

/-- the built-in names are not shadowed -/
structure Bl (mg : Str → Option Value) : Prop where
  len : mg "len" = none
  int : mg "int" = none
  sum : mg "sum" = none
  max : mg "max" = none
  min : mg "min" = none
  range : mg "range" = none
  all : mg "all" = none
  any : mg "any" = none
  repr : mg "repr" = none
  isinstance : mg "isinstance" = none
  list : mg "list" = none
  dict : mg "dict" = none
  tuple : mg "tuple" = none
  str : mg "str" = none
  bool : mg "bool" = none
  sorted : mg "sorted" = none
  zip : mg "zip" = none
  enumerate : mg "enumerate" = none
  set : mg "set" = none
  vErr : mg "ValueError" = none
/-- a def of the law -/
def Cl (P : Program) (w : World) (K : PySem.W.Frag) (mg : Str → Option Value) (base : Heap) (k : Nat) (x : Str) (n : Nat) (g : FF) : Prop :=
  ∃ (f : Addr) (fd : FuncData) (ps : List Str), FnOk P w K mg base (L2.CX P w) k f fd ps (spD n g) ∧ mg x = some (.ref f) ∧ PySem.W.keepIn K (.ref f) = true ∧ Binds K fd ps []
def ClG (P : Program) (w : World) (K : PySem.W.Frag) (mg : Str → Option Value) (base : Heap) (k : Nat) (x : Str) (n : Nat) (g : FF) : Prop :=
  ∃ (f : Addr) (fd : FuncData) (ps : List Str), FnG P w K mg base (L2.CX P w) k f fd ps (spD n g) ∧ mg x = some (.ref f) ∧ PySem.W.keepIn K (.ref f) = true ∧ Binds K fd ps []
section
variable {X : Cx} {W : WX} {k n : Nat} {g : FF} {x : Str} {p pos : Pos} {e : Expr} {es : List Expr} {fa : AF}
theorem de_cl (c : Cl X.prog X.w X.K X.mg X.base k x n g) (tk : Takes X W) (hr : Room k X.A) (ha : DA X W (e :: es) fa) (hg : Gl X x := by rfl) (hdb : (x == ("__debug__" : Str)) = false := by decide)
    (he : starEach (e :: es) X.env = (false, eval e X.env) :: starEach es X.env := by rfl) (hpl : (backTo pos (starEach es X.env)).any (·.1) = false := by rfl) : DE X W (.Call (.Name x p) (e :: es) [] pos) (fCall (arg n g) fa) := by
  obtain ⟨f, fd, ps, F, hm, hk, hb⟩ := c
  exact de_call F tk hr hm hk hb ha hg hdb he hpl
theorem de_clG (c : ClG X.prog X.w X.K X.mg X.base k x n g) (tk : Takes X W) (hr : Room k X.A) (hgu : X.A.guards = some []) (ha : DA X W (e :: es) fa) (hg : Gl X x := by rfl) (hdb : (x == ("__debug__" : Str)) = false := by decide)
    (he : starEach (e :: es) X.env = (false, eval e X.env) :: starEach es X.env := by rfl) (hpl : (backTo pos (starEach es X.env)).any (·.1) = false := by rfl) : DE X W (.Call (.Name x p) (e :: es) [] pos) (fCall (arg n g) fa) := by
  obtain ⟨f, fd, ps, F, hm, hk, hb⟩ := c
  exact de_callG F tk hr hgu hm hk hb ha hg hdb he hpl
theorem de_cl0 (c : Cl X.prog X.w X.K X.mg X.base k x 0 g) (hr : Room k X.A) (hg : Gl X x := by rfl) (hdb : (x == ("__debug__" : Str)) = false := by decide) : DE X W (.Call (.Name x p) [] [] pos) (fun _ => noX (g [])) := by
  obtain ⟨f, fd, ps, F, hm, hk, hb⟩ := c
  exact de_call0 F hr hm hk hb hg hdb
end
/-- built-in classes -/
def kB (T : String) : TyK → Option Bool := fun t => match t with
  | .b n => kitB n T
  | _ => none
theorem kB_ok {T : String} (K : PySem.W.Frag) : KitOk K (kB T) [.type T] := fun t b h => by
  cases t with
  | b n => exact ⟨kitAny_cons (kit_ty h) (fun e => by rw [e]; exact kitAny_nil) (fun e => e), True.intro⟩
  | o C => cases h
  | x C => cases h
end MW

set_option Elab.async false
set_option linter.all false
set_option maxRecDepth 100000
/-! MwEnd: the written part's word on the own exceptions; the end of a law. -/
namespace MW
open PySem PySem.Spec PyProof.Rows L2

/-- all that is asked of an own exception's class, to be evaluated -/
def clsB (K : PySem.W.Frag) (C : Addr) : Bool := match K.lookup C with
  | some ⟨.type "type", _, .cls cd, sl⟩ => (match cd.mro, sl.toList with
    | .ref C' :: bm, [_, _, _, _, some (.builtin n), _] => C' == C && (n == "ValueError.__new__" && (!cd.hasDel && (cd.hasDict && PySem.HandSPX.refsVE bm)))
    | _, _ => false)
  | _ => false
def leafB (K : PySem.W.Frag) (C : Addr) : Bool := decide (PySem.W.ks_superIn K C C "__init__" = some (some (.builtin "ValueError.__init__"))) && (decide (PySem.W.subIn K (.ref C) (.type "ValueError") = some true) && decide (PySem.W.mroIn K C (.ref C) = some true))
def excB (K : PySem.W.Frag) (C : Addr) : Bool := clsB K C && (decide (PySem.W.findIn K (.ref C) "__setattr__" = some (some (.builtin "object.__setattr__"))) && (decide (PySem.W.subIn K (.ref C) (.type "BaseException") = some true) && (decide (PySem.W.typeIn K (.ref C) = some (.type "type")) &&
  (PySem.W.keepIn K (.ref C) && (decide (PySem.W.findIn K (.ref C) "value" = some none) && (decide (PySem.W.nsIn K cStatics "thirdparty.any" = some none) && (decide (PySem.W.findIn K (.ref C) "__getattribute__" = some (some (.builtin "BaseException.__getattribute__"))) &&
  (decide (PySem.W.findIn K (.ref C) "__getattr__" = some none) && (PySem.W.hasDictIn K C && ((PySem.W.clsIn K C).isSome && (decide (PySem.W.findIn K (.ref C) "__class__" = some (some (.builtin "object.__class__"))) &&
  (decide (PySem.W.specialIn K (.builtin "object.__class__") "__get__" = some (some (.builtin "getset_descriptor.__get__"))) && (decide (PySem.W.takesIn K (.builtin "object.__class__") = some true) && decide (PySem.W.mroIn K C (.type "object") = some true))))))))))))))
theorem clsB_ok {K : PySem.W.Frag} {C : Addr} (q : clsB K C = true) : ∃ nm q N bs bm sn sub ab col dd k0 k1 k2 k3 k5, K.lookup C = some (excClassObj nm q C N bs bm true sn sub ab col dd k0 k1 k2 k3 k5 "ValueError.__new__") ∧ PySem.HandSPX.refsVE bm = true := by
  unfold clsB at q
  split at q
  · rename_i dct cda slo hob
    split at q
    · rename_i C2 bm2 j0 j1 j2 j3 nn j5 hmr hsl
      simp only [Bool.and_eq_true, beq_iff_eq, Bool.not_eq_true'] at q
      obtain ⟨e1, e2, e3, e4, e5⟩ := q
      subst e1
      subst e2
      obtain ⟨nm, bs, mro, ns, qn, hd, sn, sub, ab, col, del⟩ := cda
      dsimp only at hmr e3 e4
      subst hmr
      subst e3
      subst e4
      have e6 : slo = #[j0, j1, j2, j3, some (.builtin "ValueError.__new__"), j5] := by
        obtain ⟨l⟩ := slo
        exact congrArg Array.mk hsl
      subst e6
      exact ⟨nm, qn, ns, bs, bm2, sn, sub, ab, col, dct, j0, j1, j2, j3, j5, hob, e5⟩
    · cases q
  · cases q
structure ExcFacts (K : PySem.W.Frag) (C : Addr) : Prop where
  oe : OexC K C
  no : PySem.W.findIn K (.ref C) "value" = some none
  st : PySem.W.nsIn K cStatics "thirdparty.any" = some none
  xf : XfK K C
  ix : IsX K C
theorem excB_ok {K : PySem.W.Frag} {C : Addr} (q : excB K C = true) : ExcFacts K C := by
  unfold excB at q
  simp only [Bool.and_eq_true, decide_eq_true_eq] at q
  obtain ⟨a1, a2, a3, a4, a5, a6, a7, a8, a9, b1, b2, b3, b4, b5, b6⟩ := q
  exact ⟨⟨clsB_ok a1, a2, a3, a4, a5⟩, a6, a7, ⟨a8, a9, a3, b1, a6⟩, ⟨b2, a8, a9, a3, b3, b4, b5, b6⟩⟩
theorem leaf_ok {K : PySem.W.Frag} {C : Addr} (q : excB K C = true) (l : leafB K C = true) : ExC K C := by
  obtain ⟨h1, h2, h3, _, _⟩ := excB_ok q
  unfold leafB at l
  simp only [Bool.and_eq_true, decide_eq_true_eq] at l
  exact ⟨h1, h2, l.1, l.2.1, l.2.2, h3⟩
/-- isinstance among them -/
def crossB (K : PySem.W.Frag) (all : List Addr) (Ds : List Addr) : Bool := Ds.all fun D => all.all fun C => decide (PySem.W.kitOne K (.ref C) (.ref D) = some (C == D))
def rootB (K : PySem.W.Frag) (all : List Addr) (t : Value) : Bool := all.all fun C => decide (PySem.W.kitOne K (.ref C) t = some true)
theorem kit_any1 {K : PySem.W.Frag} {t c : Value} {b : Bool} (h : PySem.W.kitOne K t c = some b) : PySem.W.kitAny K t [c] = some b := kitAny_cons h (fun e => by rw [e]; exact kitAny_nil) (fun e => e)

theorem one_of {us : List Value} {v : Value} {n : Nat} (h : (us ++ [v]).length = n) (hn : n = 2) : ∃ a, us = [a] := by
  rw [List.length_append] at h
  match us, h with
  | [a], _ => exact ⟨a, rfl⟩
  | [], h => simp at h; omega
  | _ :: _ :: _, h => simp at h; omega
/-! ### the end of a law whose def knows that no repr is under way -/
theorem law_end {P : Program} {w : World} {K : PySem.W.Frag} {mg mb : Str → Option Value} {k : Nat} {fa a : Addr} {fd : FuncData} {x : Str} {g : FF} {s1 : Shared} {vs : List Value} {ns : List Int}
    (kx : K.In s1.heap) (hG : s1.heap.Ns mainGlobals mg) (hB : s1.heap.Ns builtinsNs mb) (hBB : ∀ x : Str, x ≠ "__name__" → mb x = bootBuiltins x) (hL : s1.heap.NoLimit) (hgen : s1.gens = #[])
    (hob : s1.heap.get? a = some { cls := .type "list", data := .seq vs.toArray }) (hint : IntsAre vs ns) (hle : ns.length ≤ sizeLine) (hro : Room k callerA)
    (F : ∀ base : Heap, K.In base → base.Ns mainGlobals mg → FnG P w K mg base (L2.CX P w) k fa fd [x] (spD 1 g)) (hbi : ∀ (s : Shared) (u : Value), BindsTo s fd ⟨[u], []⟩ [(x, u)])
    (law : ∃ cs, g [.scr K ns] [] = some (.ok (.bl true) cs)) :
    codeAny (model P w) callerA (.call (.ref fa) ⟨[.ref a], []⟩) (fun r s' => r = .ok (.ret (.bool true)) ∧ PySem.OldK s1.heap s'.heap ∧ s'.os = s1.os ∧ AllBare s'.gens) s1 := by
  obtain ⟨csl, hlaw⟩ := law
  have vints := vals_ints hint
  have vlen := hint.length
  have main1 : ∀ Hs : Hp, Only Hs → SqL K Hs a (ns.map V.int) → HOk P w Hs s1.heap → (∀ b, Hs b ≠ none → b = a) → (Hs a ≠ none → K.lookup a = none) →
      codeAny (model P w) callerA (.call (.ref fa) ⟨[.ref a], []⟩) (fun r s' => r = .ok (.ret (.bool true)) ∧ PySem.OldK s1.heap s'.heap ∧ s'.os = s1.os ∧ AllBare s'.gens) s1 := by
    intro Hs only sq okH onlyA notK
    have free_of_dict : ∀ {b : Addr} {o : Obj} {es : Array DictEntry} {ep : Nat}, s1.heap.get? b = some o → o.data = .dict es ep → Hs b = none := fun {b o es ep} e d => by
      by_cases z : Hs b = none
      · exact z
      · have ba := onlyA b z
        subst ba
        rw [hob] at e
        cases e
        cases (show Data.seq vs.toArray _ = Data.dict es ep from d)
    have spaces : ∀ {b : Addr} {m : Str → Option Value}, s1.heap.Ns b m → (hidT s1.heap Hs).Ns b m := fun {b m} ⟨o, es, ep, e, d, r⟩ => ⟨o, es, ep, hidT_get e (free_of_dict e d), d, r⟩
    have inB : K.In (hidT s1.heap Hs) := fun b o e => hidT_get (kx b o e) (by
      by_cases z : Hs b = none
      · exact z
      · have ba := onlyA b z
        subst ba
        rw [notK z] at e
        cases e)
    have modB : Mod K mg (hidT s1.heap Hs) := ⟨inB, spaces hG, ⟨mb, spaces hB, hBB⟩, let ⟨mc, h1, h2⟩ := hL; ⟨mc, spaces h1, h2⟩⟩
    have start0 : Env0 P w K mg (hidT s1.heap Hs) callerA [] s1 Hs := ⟨rfl, modB, fun b o e => of_hidT e, Nat.le_of_eq (hidT_size _ _), trivial, fun b hb => (List.not_mem_nil hb).elim, okH, .of_eq hgen⟩
    have R0 : Rp Hs Hs [] [] (fun _ => none) := ⟨fun b u e => .inl e, rfl, List.nodup_nil, fun n b c e => by simp at e, fun b o e => by cases e⟩
    have rep0 : Rep Hs [] (.ref a) (.scr K ns) := by
      rcases sq with (e | ⟨o, e⟩) | e
      · rcases only a with z | ⟨o, xs, z⟩
        · rw [e] at z; cases z
        · rw [e] at z; cases z
      · exact .scr (.inl ⟨o, e⟩)
      · exact .scr (.inr e)
    have want : spD 1 g [.ref a] Hs (fun v _ => v = .bl true) (fun _ _ _ => False) := ⟨Hs, [], [], fun _ => none, [.scr K ns], R0, .cons rep0 .nil, rfl, by
      rw [hlaw]
      exact fun v G' H' bs _ _ _ r => Rep.bl_of r⟩
    refine codeAny_mono ((F _ inB (spaces hG)).run callerA [] s1 Hs ⟨[.ref a], []⟩ [.ref a] [.ref a] _ _ hro rfl start0 (hbi s1 (.ref a)) (.cons rfl .nil) want) fun r s' h => ?_
    cases r with
    | error e =>
      obtain ⟨_, _, _, _, _, _, _, _, _, _, _, _, z⟩ := h
      exact z.elim
    | ok fl =>
      cases fl with
      | next => exact h.elim
      | brk => exact h.elim
      | cont => exact h.elim
      | ret u =>
        obtain ⟨v, H', osE, bareE, unE, okE, rv, qv⟩ := h
        have qv2 : v = .bl true := qv
        subst qv2
        obtain rfl : u = Value.bool true := rv
        refine ⟨rfl, PySem.OldK.of_keep fun b o e => ?_, osE, bareE⟩
        rcases only b with z | ⟨ob, xs, z⟩
        · exact unE.keep b o e z (fun y => (List.not_mem_nil y).elim) (fun y => (List.not_mem_nil y).elim)
        · obtain ⟨e1, _⟩ := okH b _ z
          obtain ⟨e2, _⟩ := okE b _ (unE.frzs b ob _ z)
          rw [e] at e1
          cases e1
          exact e2
  cases hk : K.lookup a with
  | some o =>
    have e := kx a o hk
    rw [hob] at e
    cases e
    exact main1 (fun _ => none) (fun _ => .inl rfl) (.inr ⟨_, vs.toArray, _, hk, rfl, rfl, rfl, by rw [List.size_toArray, vlen]; exact hle, by simpa using vints⟩) (fun b u z => by cases z) (fun b z => (z rfl).elim) fun z => (z rfl).elim
  | none =>
    refine main1 (upd (fun _ => none) a (.frz { cls := .type "list", data := .seq vs.toArray } (.lst (ns.map V.int)))) (fun b => ?_) (.inl (.inr ⟨_, upd_same⟩)) (fun b u z => ?_) (fun b z => ?_) fun _ => hk
    · by_cases ba : b = a
      · subst ba
        exact .inr ⟨_, _, upd_same⟩
      · exact .inl (upd_ne ba)
    · by_cases ba : b = a
      · subst ba
        rw [upd_same] at z
        cases z
        exact ⟨hob, by rw [List.length_map]; exact hle, vs, _, vints, hob⟩
      · rw [upd_ne ba] at z
        cases z
    · by_cases ba : b = a
      · exact ba
      · exact (z (upd_ne ba)).elim
theorem walk_G {l : PySem.W.OpenLaw} {n k : Nat} {q : Program} {loose : List Str} {XP : (Str → Option Value) → Heap → Prop} {YP : World → Heap → Prop} {d : DefRec} {K : Params → PySem.W.Frag} {g : World → FF} {x : Str}
    (hn : l.most = some n) (hn2 : n ≤ sizeLine) (hdf : d.params.defaults = []) (hr : Room k callerA) (hY : ∀ (w : World) (h : Heap), YP w h → (K w.params).In h)
    (F : ∀ (w : World) (mg : Str → Option Value) (fa : Addr) (h : Heap), (K w.params).In h → h.Ns mainGlobals mg → mg d.name = some (.ref fa) →
      ∃ fd : FuncData, (∀ (s : Shared) (u : Value), BindsTo s fd ⟨[u], []⟩ [(x, u)]) ∧ ∀ base : Heap, (K w.params).In base → base.Ns mainGlobals mg → FnG l.prog w (K w.params) mg base (L2.CX l.prog w) k fa fd [x] (spD 1 (g w)))
    (law : ∀ (w : World) (ns : List Int), ns.length ≤ n → ∃ cs, g w [.scr (K w.params) ns] [] = some (.ok (.bl true) cs)) :
    PySem.W.WalkO q loose XP YP l.row.toRowW d [] (fun f vs => PySem.call f vs) := by
  refine Att.attach_call hn hdf fun w s0 s1 mg mb fa o pm cd doc a vs ns Gr Yp ho hd hcd hmg hobj hints hlen hgn => ?_
  have kx := hY w _ Yp
  obtain ⟨fd, hb, hF⟩ := F w mg fa _ kx Gr.T.g hmg
  exact law_end kx Gr.T.g Gr.T.b Gr.T.builtins Gr.T.nolimit hgn hobj hints (Nat.le_trans hlen hn2) hr hF hb (law w ns hlen)
theorem walk_GK {l : PySem.W.OpenLaw} {n k : Nat} {q : Program} {loose : List Str} {XP : (Str → Option Value) → Heap → Prop} {YP : World → Heap → Prop} {d : DefRec} {K : Params → PySem.W.Frag} {g : PySem.W.Frag → FF} {x : Str}
    (hn : l.most = some n) (hn2 : n ≤ sizeLine) (hdf : d.params.defaults = []) (hr : Room k callerA) (hY : ∀ (w : World) (h : Heap), YP w h → (K w.params).In h)
    (F : ∀ (w : World) (mg : Str → Option Value) (fa : Addr) (h : Heap), (K w.params).In h → h.Ns mainGlobals mg → mg d.name = some (.ref fa) →
      ∃ fd : FuncData, (∀ (s : Shared) (u : Value), BindsTo s fd ⟨[u], []⟩ [(x, u)]) ∧ ∀ base : Heap, (K w.params).In base → base.Ns mainGlobals mg → FnG l.prog w (K w.params) mg base (L2.CX l.prog w) k fa fd [x] (spD 1 (g (K w.params))))
    (law : ∀ (K : PySem.W.Frag) (ns : List Int), ns.length ≤ n → ∃ cs, g K [.scr K ns] [] = some (.ok (.bl true) cs)) :
    PySem.W.WalkO q loose XP YP l.row.toRowW d [] (fun f vs => PySem.call f vs) :=
  walk_G (g := fun w => g (K w.params)) hn hn2 hdf hr hY F (fun w ns h => law (K w.params) ns h)
end MW

set_option Elab.async false
set_option linter.all false
set_option maxRecDepth 100000
set_option maxHeartbeats 2000000
/-! MwHook: the head's facts, read by a Hook: the defs, the own exceptions' __init__s, and one Bool over the written part. -/
namespace MW
open PySem PySem.Spec PyProof.Rows L2
/-- an own exception's __init__: class, method's facts -/
structure IniD where
  cls : Str
  qual : Str
  params : Arguments
  body : List Stmt
  scope : Scope
abbrev IniV : Type := Option (Str × Str × Arguments × FuncBody × Scope × Addr × List Str × Addr)
def iniObs (K : PySem.W.Frag) (C : Str) : IniV := match K.lookup (He.ma K (He.ga K C) "__init__") with
  | some ⟨_, _, .func fd, _⟩ => some (fd.name, fd.qualname, fd.params, fd.body, fd.scope, fd.globals, fd.closure.map (·.1), fd.builtins)
  | _ => none
def IniD.val (d : IniD) : IniV := some ("__init__", d.qual, d.params, .stmts d.body, d.scope, mainGlobals, ["__class__"], builtinsNs)
abbrev AlM : Type := List He.FnV × List IniV × Bool
def obsM (fn : List He.FnD) (ins : List IniD) (ex : PySem.W.Frag → Bool) (K : PySem.W.Frag) : AlM :=
  (fn.map fun d => He.fnObs K d.at_, ins.map fun d => iniObs K d.cls, (fn.all fun d => (He.Fa.code d.at_ d.qual).ok K) && ex K)
def valM (fn : List He.FnD) (ins : List IniD) : AlM := (fn.map He.FnD.val, ins.map IniD.val, true)
def SaysM (fn : List He.FnD) (ins : List IniD) (ex : PySem.W.Frag → Bool) (K : PySem.W.Frag) : Prop := obsM fn ins ex K = valM fn ins
def hookM (n : Nat) (fn : List He.FnD) (ins : List IniD) (ex : PySem.W.Frag → Bool) : PySem.W.Hook where
  α := AlM
  obs := fun s => obsM fn ins ex (He.frG s.heap.get? (List.range n))
  val := fun _ => valM fn ins
  says := fun _ h => ∃ K : PySem.W.Frag, K.In h ∧ SaysM fn ins ex K
  of := fun _ _ e => ⟨_, He.frG_in, e⟩
  keeps := fun _ _ _ ⟨K, hK, c⟩ k => ⟨K, PySem.W.Frag.In.keeps hK k, c⟩
def obsMG (n : Nat) (fn : List He.FnD) (ins : List IniD) (ex : PySem.W.Frag → Bool) (g : Addr → Option Obj) : AlM := obsM fn ins ex (He.frG g (List.range n))
theorem obsMG_eq {n : Nat} {fn : List He.FnD} {ins : List IniD} {ex : PySem.W.Frag → Bool} {g : Addr → Option Obj} {s : Shared} (h : ∀ a, g a = s.heap.get? a) : obsMG n fn ins ex g = (hookM n fn ins ex).obs s := by
  have e : g = s.heap.get? := funext h
  rw [e] <;> rfl
section
variable {fn : List He.FnD} {ins : List IniD} {ex : PySem.W.Frag → Bool} {K : PySem.W.Frag}
theorem SaysM.all (c : SaysM fn ins ex K) : (fn.all fun d => (He.Fa.code d.at_ d.qual).ok K) = true ∧ ex K = true := He.ba (congrArg (fun z : AlM => z.2.2) c)
theorem SaysM.def_ (c : SaysM fn ins ex K) (i : Nat) {d : He.FnD} (h : fn[i]? = some d := by rfl) :
    ∃ oc od osl kV doc pm an cdv ct, K.lookup (He.fAd K d.at_) = some ⟨oc, od, .func (PySem.W.fnOf d.name d.qual d.params d.body d.scope .none kV doc pm an cdv ct), osl⟩ ∧ PySem.W.codeIn K cdv d.qual = true := by
  have e : (fn.map fun d => He.fnObs K d.at_) = fn.map He.FnD.val := congrArg (fun z : AlM => z.1) c
  have e2 := congrArg (fun l : List He.FnV => l[i]?) e
  simp only [List.getElem?_map, h, Option.map_some, Option.some.injEq] at e2
  exact He.fn_ok e2 (List.all_eq_true.mp c.all.1 d (List.mem_of_getElem? h))
theorem ini_ok {d : IniD} (e : iniObs K d.cls = d.val) :
    ∃ oc od osl dV kV doc pm an cdv ct cc, K.lookup (He.ma K (He.ga K d.cls) "__init__") = some ⟨oc, od, .func (PySem.W.ksFn "__init__" d.qual d.params d.body d.scope dV kV doc pm an cdv ct cc), osl⟩ := by
  unfold iniObs at e
  cases q : K.lookup (He.ma K (He.ga K d.cls) "__init__") with
  | none =>
    rw [q] at e
    cases e
  | some o =>
    obtain ⟨oc, od, dt, osl⟩ := o
    rw [q] at e
    cases dt with
    | func fd =>
      obtain ⟨n1, n2, n3, n4, n5, n6, n7, n8, n9, n10, n11, n12, n13, n14, n15⟩ := fd
      have e2 : (some (n1, n2, n3, n4, n5, n6, n7.map (·.1), n15) : IniV) = some (("__init__" : Str), d.qual, d.params, FuncBody.stmts d.body, d.scope, mainGlobals, [("__class__" : Str)], builtinsNs) := e
      simp only [Option.some.injEq, Prod.mk.injEq] at e2
      obtain ⟨h1, h2, h3, h4, h5, h6, h7, h8⟩ := e2
      subst h1 h2 h3 h4 h5 h6 h8
      match n7, h7 with
      | [(x, cc)], h7 =>
        have hx : x = "__class__" := by simpa using h7
        subst hx
        exact ⟨oc, od, osl, n8, n9, n10, n11, n12, n13, n14, cc, rfl⟩
    | _ => cases e
theorem SaysM.ini (c : SaysM fn ins ex K) (i : Nat) {d : IniD} (h : ins[i]? = some d := by rfl) :
    ∃ oc od osl dV kV doc pm an cdv ct cc, K.lookup (He.ma K (He.ga K d.cls) "__init__") = some ⟨oc, od, .func (PySem.W.ksFn "__init__" d.qual d.params d.body d.scope dV kV doc pm an cdv ct cc), osl⟩ := by
  have e : (ins.map fun d => iniObs K d.cls) = ins.map IniD.val := congrArg (fun z : AlM => z.2.1) c
  have e2 := congrArg (fun l : List IniV => l[i]?) e
  simp only [List.getElem?_map, h, Option.map_some, Option.some.injEq] at e2
  exact ini_ok e2
end
/-- an own exception's __init__: its defaults, its code's file, its closure -/
def iniB (K : PySem.W.Frag) (file : Str) (C : Addr) (q : Str) : Bool := He.eqO (PySem.W.findIn K (.ref C) "__init__") (some (some (.ref (He.ma K C "__init__")))) && (decide (PySem.W.typeIn K (.ref (He.ma K C "__init__")) = some (.type "function")) && (match K.lookup (He.ma K C "__init__") with
  | some ⟨_, _, .func fd, _⟩ => PySem.W.codeIn K fd.code q && ((match fd.defaults with
    | .ref T => (match K.lookup T with
      | some ⟨.type t, _, .seq ⟨[.none]⟩ _, _⟩ => decide (t = "tuple")
      | _ => false)
    | _ => false) && ((match fd.code with
    | .ref cda => (match K.lookup cda with
      | some ⟨_, _, .fields vs, _⟩ => (match (vs[2]? : Option Value) with
        | some (Value.str f _) => file == f
        | _ => false)
      | _ => false)
    | _ => false) && (match fd.closure with
    | [(_, cc)] => (match K.lookup cc with
      | some ⟨_, _, .cell (some (.ref C')), _⟩ => C' == C
      | _ => false)
    | _ => false)))
  | _ => false))
structure IniK (K : PySem.W.Frag) (file : Str) (C : Addr) (q : Str) (dV cdv : Value) (cc : Addr) : Prop where
  i : PySem.W.findIn K (.ref C) "__init__" = some (some (.ref (He.ma K C "__init__")))
  t : PySem.W.typeIn K (.ref (He.ma K C "__init__")) = some (.type "function")
  d : ∃ T odT n slT, dV = .ref T ∧ K.lookup T = some ⟨.type "tuple", odT, .seq #[.none] n, slT⟩
  c : ∃ cda ccl cdd vs ccs f tf, cdv = .ref cda ∧ PySem.W.codeIn K (.ref cda) q = true ∧ K.lookup cda = some ⟨ccl, cdd, .fields vs, ccs⟩ ∧ vs[2]? = some (.str f tf) ∧ (file == f) = true
  z : ∃ cl cld csl, K.lookup cc = some ⟨cl, cld, .cell (some (.ref C)), csl⟩
theorem iniB_ok {K : PySem.W.Frag} {file : Str} {C : Addr} {q qual : Str} {params : Arguments} {body : List Stmt} {scope : Scope} {oc dV kV doc pm cdv ct : Value} {od an : Option Addr} {osl : Array (Option Value)} {cc : Addr} (h : iniB K file C q = true)
    (lk : K.lookup (He.ma K C "__init__") = some ⟨oc, od, .func (PySem.W.ksFn "__init__" qual params body scope dV kV doc pm an cdv ct cc), osl⟩) : IniK K file C q dV cdv cc := by
  obtain ⟨h1, h2⟩ := He.ba h
  obtain ⟨h3, h4⟩ := He.ba h2
  rw [lk] at h4
  obtain ⟨h5, h6⟩ := He.ba h4
  obtain ⟨h7, h8⟩ := He.ba h6
  obtain ⟨h9, h10⟩ := He.ba h8
  refine ⟨He.eqO_ok h1, of_decide_eq_true h3, ?_, ?_, ?_⟩
  · dsimp only [PySem.W.ksFn, PySem.W.fnX] at h7
    split at h7
    · split at h7
      · rename_i lk2
        have e := of_decide_eq_true h7
        subst e
        exact ⟨_, _, _, _, rfl, lk2⟩
      · cases h7
    · cases h7
  · dsimp only [PySem.W.ksFn, PySem.W.fnX] at h9 h5
    split at h9
    · split at h9
      · rename_i lk2
        split at h9
        · rename_i e
          exact ⟨_, _, _, _, _, _, _, rfl, h5, lk2, e, h9⟩
        · cases h9
      · cases h9
    · cases h9
  · dsimp only [PySem.W.ksFn, PySem.W.fnX] at h10
    split at h10
    · rename_i lk2
      have e := beq_iff_eq.mp h10
      subst e
      exact ⟨_, _, _, lk2⟩
    · cases h10
theorem ga_of {K : PySem.W.Frag} {x : Str} {a : Addr} (h : PySem.W.nsIn K mainGlobals x = some (some (.ref a))) : He.ga K x = a := by
  unfold He.ga
  rw [h]
theorem walk_GE {l : PySem.W.OpenLaw} {n k : Nat} {q : Program} {loose : List Str} {XP : (Str → Option Value) → Heap → Prop} {YP : World → Heap → Prop} {d : DefRec} {g : PySem.W.Frag → FF} {x : Str}
    (hn : l.most = some n) (hn2 : n ≤ sizeLine) (hdf : d.params.defaults = []) (hr : Room k callerA)
    (F : ∀ (w : World) (mg : Str → Option Value) (fa : Addr) (h : Heap), YP w h → h.Ns mainGlobals mg → mg d.name = some (.ref fa) →
      ∃ (K : PySem.W.Frag) (fd : FuncData), K.In h ∧ (∀ (s : Shared) (u : Value), BindsTo s fd ⟨[u], []⟩ [(x, u)]) ∧ ∀ base : Heap, K.In base → base.Ns mainGlobals mg → FnG l.prog w K mg base (L2.CX l.prog w) k fa fd [x] (spD 1 (g K)))
    (law : ∀ (K : PySem.W.Frag) (ns : List Int), ns.length ≤ n → ∃ cs, g K [.scr K ns] [] = some (.ok (.bl true) cs)) :
    PySem.W.WalkO q loose XP YP l.row.toRowW d [] (fun f vs => PySem.call f vs) := by
  refine Att.attach_call hn hdf fun w s0 s1 mg mb fa o pm cd doc a vs ns Gr Yp ho hd hcd hmg hobj hints hlen hgn => ?_
  obtain ⟨K, fd, kx, hb, hF⟩ := F w mg fa _ Yp Gr.T.g hmg
  exact law_end kx Gr.T.g Gr.T.b Gr.T.builtins Gr.T.nolimit hgn hobj hints (Nat.le_trans hlen hn2) hr hF hb (law K ns hlen)
end MW

set_option Elab.async false
set_option linter.all false
set_option maxRecDepth 100000
namespace K01
open PySem PySem.Spec PyProof.Rows L2 MW
def top (i : Nat) : Stmt := PySem.Challenge.pw_manywrite_k01_errors_made.main.body.getD i (.Pass ⟨0, 0, 0, 0⟩)
abbrev iInvalidKind : Stmt := inClass (top 2) 0
abbrev iInvalidTable : Stmt := inClass (top 3) 0
abbrev iInvalidKinds : Stmt := inClass (top 4) 0
abbrev iInvalidPairs : Stmt := inClass (top 5) 0
abbrev iInvalidWord : Stmt := inClass (top 6) 0
abbrev iInvalidRule : Stmt := inClass (top 7) 0
abbrev iInvalidMap : Stmt := inClass (top 8) 0
abbrev iInvalidNames : Stmt := inClass (top 9) 0
abbrev iInvalidBook : Stmt := inClass (top 10) 0
abbrev iInvalidName : Stmt := inClass (top 11) 0
abbrev iInvalidLog : Stmt := inClass (top 12) 0
abbrev iInvalidLogs : Stmt := inClass (top 13) 0
abbrev iInvalidMerging : Stmt := inClass (top 14) 0
abbrev iInvalidStrike : Stmt := inClass (top 15) 0
abbrev iInvalidRoad : Stmt := inClass (top 16) 0
abbrev iInvalidPlaces : Stmt := inClass (top 17) 0
abbrev iInvalidCount : Stmt := inClass (top 18) 0
abbrev iInvalidFuture : Stmt := inClass (top 19) 0
abbrev iInvalidValue : Stmt := inClass (top 20) 0
abbrev iInvalidStore : Stmt := inClass (top 21) 0
abbrev iInvalidInputs : Stmt := inClass (top 22) 0
abbrev iInvalidFolding : Stmt := inClass (top 23) 0
abbrev iInvalidJournal : Stmt := inClass (top 24) 0
abbrev iInvalidSpot : Stmt := inClass (top 25) 0
abbrev iInvalidScript : Stmt := inClass (top 26) 0
abbrev iInvalidText : Stmt := inClass (top 27) 0
abbrev iInvalidRecord : Stmt := inClass (top 28) 0
abbrev iUnlike : Stmt := inClass (top 29) 0
abbrev iApart : Stmt := inClass (top 30) 0
abbrev iUnsettled : Stmt := inClass (top 31) 0
abbrev iBoundless : Stmt := inClass (top 32) 0
abbrev iRefused : Stmt := inClass (top 33) 0
abbrev sz_law_purse : Stmt := top 37
abbrev sz_law_mixed : Stmt := top 38
abbrev sz_law_draw : Stmt := top 39
abbrev sz_law_purses : Stmt := top 40
abbrev sz_law_one_of : Stmt := top 41
abbrev sz_law_word : Stmt := top 42
abbrev sz_law_first : Stmt := top 43
abbrev sz_law_called : Stmt := top 44
abbrev sz_law_bare : Stmt := top 45
abbrev sz_law_code : Stmt := top 46
abbrev sz_law_is_error : Stmt := top 47
abbrev sz_law_right : Stmt := top 48
abbrev slaw : Stmt := top 49
end K01

set_option Elab.async false
set_option linter.all false
set_option maxRecDepth 100000
set_option maxHeartbeats 0

namespace K01
open PySem PySem.Spec PyProof.Rows L2 MW
abbrev RR : PySem.W.OpenRow := PySem.W.OpenLaw.row PySem.Challenge.rw_manywrite_k01_errors_made
def lo0 : List PySem.Str := ["__name__", "CoreError", "InvalidKind", "InvalidTable", "InvalidKinds", "InvalidPairs", "InvalidWord", "InvalidRule", "InvalidMap", "InvalidNames", "InvalidBook", "InvalidName", "InvalidLog", "InvalidLogs", "InvalidMerging", "InvalidStrike", "InvalidRoad", "InvalidPlaces", "InvalidCount", "InvalidFuture", "InvalidValue", "InvalidStore", "InvalidInputs", "InvalidFolding", "InvalidJournal", "InvalidSpot", "InvalidScript", "InvalidText", "InvalidRecord", "Unlike"]
def lo1 : List PySem.Str := ["Apart", "Unsettled", "Boundless", "Refused", "NothingToUndo", "NothingToRedo", "__name__", "_law_purse", "_law_mixed", "_law_draw", "_law_purses", "_law_one_of", "_law_word", "_law_first", "_law_called", "_law_bare", "_law_code", "_law_is_error", "_law_right"]
def los : List PySem.Str := lo0 ++ lo1
def fdz_law_purse : He.FnD := ⟨("_law_purse", none), "_law_purse", "_law_purse", defArgs sz_law_purse, defBody sz_law_purse, defScope sz_law_purse⟩
def fdz_law_mixed : He.FnD := ⟨("_law_mixed", none), "_law_mixed", "_law_mixed", defArgs sz_law_mixed, defBody sz_law_mixed, defScope sz_law_mixed⟩
def fdz_law_draw : He.FnD := ⟨("_law_draw", none), "_law_draw", "_law_draw", defArgs sz_law_draw, defBody sz_law_draw, defScope sz_law_draw⟩
def fdz_law_purses : He.FnD := ⟨("_law_purses", none), "_law_purses", "_law_purses", defArgs sz_law_purses, defBody sz_law_purses, defScope sz_law_purses⟩
def fdz_law_one_of : He.FnD := ⟨("_law_one_of", none), "_law_one_of", "_law_one_of", defArgs sz_law_one_of, defBody sz_law_one_of, defScope sz_law_one_of⟩
def fdz_law_word : He.FnD := ⟨("_law_word", none), "_law_word", "_law_word", defArgs sz_law_word, defBody sz_law_word, defScope sz_law_word⟩
def fdz_law_first : He.FnD := ⟨("_law_first", none), "_law_first", "_law_first", defArgs sz_law_first, defBody sz_law_first, defScope sz_law_first⟩
def fdz_law_called : He.FnD := ⟨("_law_called", none), "_law_called", "_law_called", defArgs sz_law_called, defBody sz_law_called, defScope sz_law_called⟩
def fdz_law_bare : He.FnD := ⟨("_law_bare", none), "_law_bare", "_law_bare", defArgs sz_law_bare, defBody sz_law_bare, defScope sz_law_bare⟩
def fdz_law_code : He.FnD := ⟨("_law_code", none), "_law_code", "_law_code", defArgs sz_law_code, defBody sz_law_code, defScope sz_law_code⟩
def fdz_law_is_error : He.FnD := ⟨("_law_is_error", none), "_law_is_error", "_law_is_error", defArgs sz_law_is_error, defBody sz_law_is_error, defScope sz_law_is_error⟩
def fdz_law_right : He.FnD := ⟨("_law_right", none), "_law_right", "_law_right", defArgs sz_law_right, defBody sz_law_right, defScope sz_law_right⟩
def fdlaw : He.FnD := ⟨("law", none), "law", "law", defArgs slaw, defBody slaw, defScope slaw⟩
def fns : List He.FnD := [fdz_law_purse, fdz_law_mixed, fdz_law_draw, fdz_law_purses, fdz_law_one_of, fdz_law_word, fdz_law_first, fdz_law_called, fdz_law_bare, fdz_law_code, fdz_law_is_error, fdz_law_right, fdlaw]
def inInvalidKind : IniD := ⟨"InvalidKind", "InvalidKind.__init__", defArgs iInvalidKind, defBody iInvalidKind, defScope iInvalidKind⟩
def inInvalidTable : IniD := ⟨"InvalidTable", "InvalidTable.__init__", defArgs iInvalidTable, defBody iInvalidTable, defScope iInvalidTable⟩
def inInvalidKinds : IniD := ⟨"InvalidKinds", "InvalidKinds.__init__", defArgs iInvalidKinds, defBody iInvalidKinds, defScope iInvalidKinds⟩
def inInvalidPairs : IniD := ⟨"InvalidPairs", "InvalidPairs.__init__", defArgs iInvalidPairs, defBody iInvalidPairs, defScope iInvalidPairs⟩
def inInvalidWord : IniD := ⟨"InvalidWord", "InvalidWord.__init__", defArgs iInvalidWord, defBody iInvalidWord, defScope iInvalidWord⟩
def inInvalidRule : IniD := ⟨"InvalidRule", "InvalidRule.__init__", defArgs iInvalidRule, defBody iInvalidRule, defScope iInvalidRule⟩
def inInvalidMap : IniD := ⟨"InvalidMap", "InvalidMap.__init__", defArgs iInvalidMap, defBody iInvalidMap, defScope iInvalidMap⟩
def inInvalidNames : IniD := ⟨"InvalidNames", "InvalidNames.__init__", defArgs iInvalidNames, defBody iInvalidNames, defScope iInvalidNames⟩
def inInvalidBook : IniD := ⟨"InvalidBook", "InvalidBook.__init__", defArgs iInvalidBook, defBody iInvalidBook, defScope iInvalidBook⟩
def inInvalidName : IniD := ⟨"InvalidName", "InvalidName.__init__", defArgs iInvalidName, defBody iInvalidName, defScope iInvalidName⟩
def inInvalidLog : IniD := ⟨"InvalidLog", "InvalidLog.__init__", defArgs iInvalidLog, defBody iInvalidLog, defScope iInvalidLog⟩
def inInvalidLogs : IniD := ⟨"InvalidLogs", "InvalidLogs.__init__", defArgs iInvalidLogs, defBody iInvalidLogs, defScope iInvalidLogs⟩
def inInvalidMerging : IniD := ⟨"InvalidMerging", "InvalidMerging.__init__", defArgs iInvalidMerging, defBody iInvalidMerging, defScope iInvalidMerging⟩
def inInvalidStrike : IniD := ⟨"InvalidStrike", "InvalidStrike.__init__", defArgs iInvalidStrike, defBody iInvalidStrike, defScope iInvalidStrike⟩
def inInvalidRoad : IniD := ⟨"InvalidRoad", "InvalidRoad.__init__", defArgs iInvalidRoad, defBody iInvalidRoad, defScope iInvalidRoad⟩
def inInvalidPlaces : IniD := ⟨"InvalidPlaces", "InvalidPlaces.__init__", defArgs iInvalidPlaces, defBody iInvalidPlaces, defScope iInvalidPlaces⟩
def inInvalidCount : IniD := ⟨"InvalidCount", "InvalidCount.__init__", defArgs iInvalidCount, defBody iInvalidCount, defScope iInvalidCount⟩
def inInvalidFuture : IniD := ⟨"InvalidFuture", "InvalidFuture.__init__", defArgs iInvalidFuture, defBody iInvalidFuture, defScope iInvalidFuture⟩
def inInvalidValue : IniD := ⟨"InvalidValue", "InvalidValue.__init__", defArgs iInvalidValue, defBody iInvalidValue, defScope iInvalidValue⟩
def inInvalidStore : IniD := ⟨"InvalidStore", "InvalidStore.__init__", defArgs iInvalidStore, defBody iInvalidStore, defScope iInvalidStore⟩
def inInvalidInputs : IniD := ⟨"InvalidInputs", "InvalidInputs.__init__", defArgs iInvalidInputs, defBody iInvalidInputs, defScope iInvalidInputs⟩
def inInvalidFolding : IniD := ⟨"InvalidFolding", "InvalidFolding.__init__", defArgs iInvalidFolding, defBody iInvalidFolding, defScope iInvalidFolding⟩
def inInvalidJournal : IniD := ⟨"InvalidJournal", "InvalidJournal.__init__", defArgs iInvalidJournal, defBody iInvalidJournal, defScope iInvalidJournal⟩
def inInvalidSpot : IniD := ⟨"InvalidSpot", "InvalidSpot.__init__", defArgs iInvalidSpot, defBody iInvalidSpot, defScope iInvalidSpot⟩
def inInvalidScript : IniD := ⟨"InvalidScript", "InvalidScript.__init__", defArgs iInvalidScript, defBody iInvalidScript, defScope iInvalidScript⟩
def inInvalidText : IniD := ⟨"InvalidText", "InvalidText.__init__", defArgs iInvalidText, defBody iInvalidText, defScope iInvalidText⟩
def inInvalidRecord : IniD := ⟨"InvalidRecord", "InvalidRecord.__init__", defArgs iInvalidRecord, defBody iInvalidRecord, defScope iInvalidRecord⟩
def inUnlike : IniD := ⟨"Unlike", "Unlike.__init__", defArgs iUnlike, defBody iUnlike, defScope iUnlike⟩
def inApart : IniD := ⟨"Apart", "Apart.__init__", defArgs iApart, defBody iApart, defScope iApart⟩
def inUnsettled : IniD := ⟨"Unsettled", "Unsettled.__init__", defArgs iUnsettled, defBody iUnsettled, defScope iUnsettled⟩
def inBoundless : IniD := ⟨"Boundless", "Boundless.__init__", defArgs iBoundless, defBody iBoundless, defScope iBoundless⟩
def inRefused : IniD := ⟨"Refused", "Refused.__init__", defArgs iRefused, defBody iRefused, defScope iRefused⟩
def inis : List IniD := [inInvalidKind, inInvalidTable, inInvalidKinds, inInvalidPairs, inInvalidWord, inInvalidRule, inInvalidMap, inInvalidNames, inInvalidBook, inInvalidName, inInvalidLog, inInvalidLogs, inInvalidMerging, inInvalidStrike, inInvalidRoad, inInvalidPlaces, inInvalidCount, inInvalidFuture, inInvalidValue, inInvalidStore, inInvalidInputs, inInvalidFolding, inInvalidJournal, inInvalidSpot, inInvalidScript, inInvalidText, inInvalidRecord, inUnlike, inApart, inUnsettled, inBoundless, inRefused]
def gl : List PySem.Str := [("_law_purse" : PySem.Str), ("_law_mixed" : PySem.Str), ("_law_draw" : PySem.Str), ("_law_purses" : PySem.Str), ("_law_one_of" : PySem.Str), ("_law_word" : PySem.Str), ("_law_first" : PySem.Str), ("_law_called" : PySem.Str), ("_law_bare" : PySem.Str), ("_law_code" : PySem.Str), ("_law_is_error" : PySem.Str), ("_law_right" : PySem.Str), ("law" : PySem.Str)]
def fr : List PySem.Str := [("len" : PySem.Str), ("int" : PySem.Str), ("sum" : PySem.Str), ("max" : PySem.Str), ("min" : PySem.Str), ("range" : PySem.Str), ("all" : PySem.Str), ("any" : PySem.Str), ("repr" : PySem.Str), ("isinstance" : PySem.Str), ("list" : PySem.Str), ("dict" : PySem.Str), ("tuple" : PySem.Str), ("str" : PySem.Str), ("bool" : PySem.Str), ("sorted" : PySem.Str), ("zip" : PySem.Str), ("enumerate" : PySem.Str), ("set" : PySem.Str), ("ValueError" : PySem.Str), ("super" : PySem.Str)]
def ad : List (PySem.Str × Addr) := [(("CoreError", 24) : PySem.Str × Addr), (("InvalidKind", 47) : PySem.Str × Addr), (("InvalidTable", 69) : PySem.Str × Addr), (("InvalidKinds", 91) : PySem.Str × Addr), (("InvalidPairs", 113) : PySem.Str × Addr), (("InvalidWord", 135) : PySem.Str × Addr), (("InvalidRule", 157) : PySem.Str × Addr), (("InvalidMap", 179) : PySem.Str × Addr), (("InvalidNames", 201) : PySem.Str × Addr), (("InvalidBook", 223) : PySem.Str × Addr), (("InvalidName", 245) : PySem.Str × Addr), (("InvalidLog", 267) : PySem.Str × Addr), (("InvalidLogs", 289) : PySem.Str × Addr), (("InvalidMerging", 311) : PySem.Str × Addr), (("InvalidStrike", 333) : PySem.Str × Addr), (("InvalidRoad", 355) : PySem.Str × Addr), (("InvalidPlaces", 377) : PySem.Str × Addr), (("InvalidCount", 399) : PySem.Str × Addr), (("InvalidFuture", 421) : PySem.Str × Addr), (("InvalidValue", 443) : PySem.Str × Addr), (("InvalidStore", 465) : PySem.Str × Addr), (("InvalidInputs", 487) : PySem.Str × Addr), (("InvalidFolding", 509) : PySem.Str × Addr), (("InvalidJournal", 531) : PySem.Str × Addr), (("InvalidSpot", 553) : PySem.Str × Addr), (("InvalidScript", 575) : PySem.Str × Addr), (("InvalidText", 597) : PySem.Str × Addr), (("InvalidRecord", 619) : PySem.Str × Addr), (("Unlike", 641) : PySem.Str × Addr), (("Apart", 663) : PySem.Str × Addr), (("Unsettled", 685) : PySem.Str × Addr), (("Boundless", 707) : PySem.Str × Addr), (("Refused", 729) : PySem.Str × Addr), (("NothingToUndo", 741) : PySem.Str × Addr), (("NothingToRedo", 753) : PySem.Str × Addr)]
def lv : List (Addr × PySem.Str) := [((47, "InvalidKind.__init__") : Addr × PySem.Str), ((69, "InvalidTable.__init__") : Addr × PySem.Str), ((91, "InvalidKinds.__init__") : Addr × PySem.Str), ((113, "InvalidPairs.__init__") : Addr × PySem.Str), ((135, "InvalidWord.__init__") : Addr × PySem.Str), ((157, "InvalidRule.__init__") : Addr × PySem.Str), ((179, "InvalidMap.__init__") : Addr × PySem.Str), ((201, "InvalidNames.__init__") : Addr × PySem.Str), ((223, "InvalidBook.__init__") : Addr × PySem.Str), ((245, "InvalidName.__init__") : Addr × PySem.Str), ((267, "InvalidLog.__init__") : Addr × PySem.Str), ((289, "InvalidLogs.__init__") : Addr × PySem.Str), ((311, "InvalidMerging.__init__") : Addr × PySem.Str), ((333, "InvalidStrike.__init__") : Addr × PySem.Str), ((355, "InvalidRoad.__init__") : Addr × PySem.Str), ((377, "InvalidPlaces.__init__") : Addr × PySem.Str), ((399, "InvalidCount.__init__") : Addr × PySem.Str), ((421, "InvalidFuture.__init__") : Addr × PySem.Str), ((443, "InvalidValue.__init__") : Addr × PySem.Str), ((465, "InvalidStore.__init__") : Addr × PySem.Str), ((487, "InvalidInputs.__init__") : Addr × PySem.Str), ((509, "InvalidFolding.__init__") : Addr × PySem.Str), ((531, "InvalidJournal.__init__") : Addr × PySem.Str), ((553, "InvalidSpot.__init__") : Addr × PySem.Str), ((575, "InvalidScript.__init__") : Addr × PySem.Str), ((597, "InvalidText.__init__") : Addr × PySem.Str), ((619, "InvalidRecord.__init__") : Addr × PySem.Str), ((641, "Unlike.__init__") : Addr × PySem.Str), ((663, "Apart.__init__") : Addr × PySem.Str), ((685, "Unsettled.__init__") : Addr × PySem.Str), ((707, "Boundless.__init__") : Addr × PySem.Str), ((729, "Refused.__init__") : Addr × PySem.Str)]
def al : List Addr := [24, 47, 69, 91, 113, 135, 157, 179, 201, 223, 245, 267, 289, 311, 333, 355, 377, 399, 421, 443, 465, 487, 509, 531, 553, 575, 597, 619, 641, 663, 685, 707, 729, 741, 753]
def le : List Addr := [47, 69, 91, 113, 135, 157, 179, 201, 223, 245, 267, 289, 311, 333, 355, 377, 399, 421, 443, 465, 487, 509, 531, 553, 575, 597, 619, 641, 663, 685, 707, 729]
def nr : List Addr := [47, 69, 91, 113, 135, 157, 179, 201, 223, 245, 267, 289, 311, 333, 355, 377, 399, 421, 443, 465, 487, 509, 531, 553, 575, 597, 619, 641, 663, 685, 707, 729, 741, 753]
def rt : List PySem.Value := [.ref 24, .type "ValueError"]
def rc : List Addr := [24, 741, 753]
def exB (K : PySem.W.Frag) : Bool := (gl.all fun x => He.eqO (PySem.W.nsIn K mainGlobals x) (some (some (.ref (He.ga K x)))) && PySem.W.keepIn K (.ref (He.ga K x))) &&
  ((fr.all fun x => He.eqO (PySem.W.nsIn K mainGlobals x) (some none)) && ((ad.all fun p => He.eqO (PySem.W.nsIn K mainGlobals p.1) (some (some (.ref p.2)))) && ((lv.all fun p => iniB K (PySem.Challenge.pw_manywrite_k01_errors_made.main.file : Str) p.1 p.2) &&
  ((al.all fun C => excB K C) && ((le.all fun C => leafB K C) && (crossB K al nr && ((rt.all fun t => rootB K al t) && ((rc.all fun C => PySem.W.keepIn K (.ref C) && PySem.W.excIn K C PySem.HandSPX.veTail "ValueError.__new__") && (K.lookup sysModules).isSome))))))))
abbrev hk : PySem.W.Hook := hookM 900 fns inis exB
def ob (s : PySem.W.SharedT) : AlM := obsMG 900 fns inis exB (HandSHeadRun.getT s)
theorem ob_eq (s : PySem.W.SharedT) : ob s = hk.obs s.abs := obsMG_eq (HandSHeadRun.getT_eq s)
theorem run (w : World) : HandSHeadRun.RunEq RR (PySem.W.view RR.prog [49]) hk ob 12000 los w := by
  intro os
  kernel_rfl
end K01

set_option Elab.async false
set_option linter.all false
set_option maxRecDepth 100000
set_option exponentiation.threshold 100
/-! MwEv: data functions evaluated, step by step. -/
namespace MW
open PySem PySem.Spec PyProof.Rows L2

/-- it comes to x, the cells then cs' -/
def Ev {α : Type} (m : Mo α) (cs : List Cel) (x : α) (cs' : List Cel) : Prop := m cs = some (.ok x cs')
theorem Ev.bnd {α β : Type} {m : Mo α} {k : α → Mo β} {cs c1 c2 : List Cel} {x : α} {y : β} (h : Ev m cs x c1) (h2 : Ev (k x) c1 y c2) : Ev (MW.bnd m k) cs y c2 := by
  unfold Ev MW.bnd at *
  rw [h]
  exact h2
theorem ev_ret {α : Type} {x : α} {cs : List Cel} : Ev (ret x) cs x cs := rfl
theorem Ev.det {α : Type} {m : Mo α} {cs c1 c2 : List Cel} {x y : α} (h : Ev m cs x c1) (h2 : Ev m cs y c2) : x = y ∧ c1 = c2 := by
  unfold Ev at *
  rw [h] at h2
  cases h2
  exact ⟨rfl, rfl⟩
section
variable {ρ ρ1 ρ2 : Evn} {cs c1 c2 c3 : List Cel} {d x y z : D} {ds ws : List D} {b : Bool} {f fa fb fc : EF} {g : F2} {n i : Nat}
theorem ev_var (h : ρ[i]? = some (some d)) : Ev (fVar i ρ) cs d cs := by
  unfold Ev fVar
  rw [h]
theorem ev_c : Ev (fC d ρ) cs d cs := rfl
theorem ev_op (h1 : Ev (fa ρ) cs x c1) (h2 : Ev (fb ρ) c1 y c2) (h3 : Ev (g x y) c2 z c3) : Ev (fOp g fa fb ρ) cs z c3 := h1.bnd (h2.bnd h3)
theorem ev_un {g : D → Mo D} (h1 : Ev (fa ρ) cs x c1) (h2 : Ev (g x) c1 y c2) : Ev (fUn g fa ρ) cs y c2 := h1.bnd h2
theorem ev_call {g : FF} {fa : AF} (h1 : Ev (fa ρ) cs ws c1) (h2 : Ev (g ws) c1 y c2) : Ev (fCall g fa ρ) cs y c2 := h1.bnd h2
theorem ev_arg {g : FF} (hl : ws.length = n) (h : Ev (g ws) cs y c1) : Ev (arg n g ws) cs y c1 := by
  unfold arg
  rw [if_pos hl]
  exact h
theorem ev_nil : Ev (fNil ρ) cs [] cs := rfl
theorem ev_cons {g : AF} (h1 : Ev (f ρ) cs x c1) (h2 : Ev (g ρ) c1 ws c2) : Ev (fCons f g ρ) cs (x :: ws) c2 := h1.bnd (h2.bnd rfl)
theorem ev_mkF {mk : List D → D} {g : AF} (h1 : Ev (g ρ) cs ws c1) (hl : ws.length ≤ sizeLine) : Ev (fMk (mkF mk) g ρ) cs (mk ws) c1 := h1.bnd (by
  unfold mkF
  rw [if_pos hl]
  rfl)
theorem ev_mkC {mk : List D → D} {g : AF} (h1 : Ev (g ρ) cs ws c1) (hl : ws.length ≤ sizeLine) : Ev (fMk (mkC mk) g ρ) cs (.cel c1.length) (c1 ++ [⟨mk ws, true⟩]) := h1.bnd (by
  unfold mkC
  rw [if_pos hl]
  rfl)
theorem ev_tst (h : Ev (f ρ) cs (.bl b) c1) : Ev (fTst f ρ) cs b c1 := h.bnd rfl
theorem ev_notT {t : TF} (h : Ev (t ρ) cs b c1) : Ev (fNotT t ρ) cs (!b) c1 := h.bnd rfl
theorem ev_andT0 {s t : TF} (h : Ev (s ρ) cs false c1) : Ev (fAndT s t ρ) cs false c1 := h.bnd rfl
theorem ev_andT1 {s t : TF} (h : Ev (s ρ) cs true c1) (h2 : Ev (t ρ) c1 b c2) : Ev (fAndT s t ρ) cs b c2 := h.bnd h2
theorem ev_orT1 {s t : TF} (h : Ev (s ρ) cs true c1) : Ev (fOrT s t ρ) cs true c1 := h.bnd rfl
theorem ev_orT0 {s t : TF} (h : Ev (s ρ) cs false c1) (h2 : Ev (t ρ) c1 b c2) : Ev (fOrT s t ρ) cs b c2 := h.bnd h2
theorem ev_and1 (h : Ev (fa ρ) cs (.bl true) c1) (h2 : Ev (fb ρ) c1 x c2) : Ev (fAnd fa fb ρ) cs x c2 := h.bnd (Ev.bnd (x := true) (c1 := c1) rfl h2)
theorem ev_and0 (h : Ev (fa ρ) cs (.bl false) c1) : Ev (fAnd fa fb ρ) cs (.bl false) c1 := h.bnd (Ev.bnd (x := false) (c1 := c1) rfl rfl)
theorem ev_or0 (h : Ev (fa ρ) cs (.bl false) c1) (h2 : Ev (fb ρ) c1 x c2) : Ev (fOr fa fb ρ) cs x c2 := h.bnd (Ev.bnd (x := false) (c1 := c1) rfl h2)
theorem ev_or1 (h : Ev (fa ρ) cs (.bl true) c1) : Ev (fOr fa fb ρ) cs (.bl true) c1 := h.bnd (Ev.bnd (x := true) (c1 := c1) rfl rfl)
theorem ev_not (h : Ev (fa ρ) cs (.bl b) c1) : Ev (fNot fa ρ) cs (.bl (!b)) c1 := h.bnd (Ev.bnd (x := b) (c1 := c1) rfl rfl)
theorem ev_ifT {t : TF} (h : Ev (t ρ) cs true c1) (h2 : Ev (fa ρ) c1 x c2) : Ev (fIf t fa fb ρ) cs x c2 := h.bnd h2
theorem ev_ifF {t : TF} (h : Ev (t ρ) cs false c1) (h2 : Ev (fb ρ) c1 x c2) : Ev (fIf t fa fb ρ) cs x c2 := h.bnd h2
theorem ev_sl {l h : OF} {lo hi : Option Int} (h1 : Ev (f ρ) cs x c1) (h2 : Ev (l ρ) c1 lo c2) (h3 : Ev (h ρ) c2 hi c3) {c4 : List Cel} (h4 : Ev (gSl x lo hi) c3 y c4) : Ev (fSl f l h ρ) cs y c4 := h1.bnd (h2.bnd (h3.bnd h4))
theorem ev_oNone : Ev (oNone ρ) cs none cs := rfl
theorem ev_oSome {k : Int} (h : Ev (f ρ) cs (.int k) c1) : Ev (oSome f ρ) cs (some k) c1 := h.bnd rfl
/-! ints -/
theorem ev_add {i j : Int} : Ev (gAdd (.int i) (.int j)) cs (.int (i + j)) cs := rfl
theorem ev_sub {i j : Int} : Ev (gSub (.int i) (.int j)) cs (.int (i - j)) cs := rfl
theorem ev_mul {i j : Int} (hi : i.natAbs < 2 ^ 4000) (hj : j.natAbs < 2 ^ 4000) : Ev (gMul (.int i) (.int j)) cs (.int (i * j)) cs := by
  have up : ∀ {k : Nat}, k < 2 ^ 4000 → k < 2 ^ 9000 := fun h => Nat.lt_of_lt_of_le h (Nat.pow_le_pow_right (by decide) (by decide))
  show (if i.natAbs < 2 ^ 9000 ∧ j.natAbs < 2 ^ 9000 then ret (D.int (i * j)) cs else none) = _
  rw [if_pos ⟨up hi, up hj⟩]
  rfl
theorem ev_mod {i j : Int} (hj : 0 < j) : Ev (gMod (.int i) (.int j)) cs (.int (i % j)) cs := by
  show (if 0 < j then ret (D.int (i % j)) cs else none) = _
  rw [if_pos hj]
  rfl
theorem ev_fdiv {i j : Int} (hj : 0 < j) (h2 : j.natAbs < 2 ^ 4000) : Ev (gFdiv (.int i) (.int j)) cs (.int (i / j)) cs := by
  show (if 0 < j ∧ j.natAbs < 2 ^ 9000 then ret (D.int (i / j)) cs else none) = _
  rw [if_pos ⟨hj, Nat.lt_of_lt_of_le h2 (Nat.pow_le_pow_right (by decide) (by decide))⟩]
  rfl
theorem ev_int {i : Int} : Ev (gInt [.int i]) cs (.int i) cs := rfl
theorem ev_gtT {i j : Int} (h : i > j) : Ev (gGt (.int i) (.int j)) cs (.bl true) cs := by
  show some (Res.ok (D.bl (decide (i > j))) cs) = _
  rw [decide_eq_true h]
theorem ev_gtF {i j : Int} (h : ¬ i > j) : Ev (gGt (.int i) (.int j)) cs (.bl false) cs := by
  show some (Res.ok (D.bl (decide (i > j))) cs) = _
  rw [decide_eq_false h]
theorem ev_neg {i : Int} : Ev (gNeg (.int i)) cs (.int (-i)) cs := rfl
/-! statements -/
theorem evs_seq {F1 F2 : SF} {r : Option SRes} (h1 : F1 ρ cs = some (.nx ρ1 c1)) (h2 : F2 ρ1 c1 = r) : sSeq F1 F2 ρ cs = r := by
  unfold sSeq
  rw [h1]
  exact h2
theorem evs_seqR {F1 F2 : SF} {d : D} (h1 : F1 ρ cs = some (.ret d c1)) : sSeq F1 F2 ρ cs = some (.ret d c1) := by
  unfold sSeq
  rw [h1]
theorem evs_asg {f : EF} {g : TgF} {r : Evn × List Cel} (h1 : Ev (f ρ) cs d c1) (h2 : g d ρ c1 = some r) : sAsg f g ρ cs = some (.nx r.1 r.2) := by
  unfold sAsg bndE
  unfold Ev at h1
  rw [h1]
  dsimp only
  rw [h2]
theorem evs_set {f : EF} (h1 : Ev (f ρ) cs d c1) : sAsg f (tgName i) ρ cs = some (.nx (ρ.set i (some d)) c1) := evs_asg (g := tgName i) (r := (ρ.set i (some d), c1)) h1 rfl
theorem evs_ret {f : EF} (h1 : Ev (f ρ) cs d c1) : sRet f ρ cs = some (.ret d c1) := by
  unfold sRet bndE
  rw [h1]
theorem evs_expr {f : EF} (h1 : Ev (f ρ) cs d c1) : sExpr f ρ cs = some (.nx ρ c1) := by
  unfold sExpr bndE
  rw [h1]
theorem evs_ifT {t : TF} {F1 F2 : SF} {r : Option SRes} (h1 : Ev (t ρ) cs true c1) (h2 : F1 ρ c1 = r) : sIf t F1 F2 ρ cs = r := by
  unfold sIf bndE
  rw [h1]
  exact h2
theorem evs_ifF {t : TF} {F1 F2 : SF} {r : Option SRes} (h1 : Ev (t ρ) cs false c1) (h2 : F2 ρ c1 = r) : sIf t F1 F2 ρ cs = r := by
  unfold sIf bndE
  rw [h1]
  exact h2
theorem evs_for {fi : IF} {tg : TgF} {F : SF} {items : List D} {q : Gd} {r : Option SRes} (h1 : Ev (fi ρ) cs (items, q) c1) (h2 : loopF q tg F items ρ c1 = r) : sFor fi tg F ρ cs = r := by
  unfold sFor bndE
  rw [h1]
  exact h2
theorem evs_loop0 {tg : TgF} {F : SF} {q : Gd} (hq : gOk q cs := by trivial) : loopF q tg F [] ρ cs = some (.nx ρ cs) := by
  unfold loopF
  rw [gdo_pos hq]
theorem evs_loop {tg : TgF} {F : SF} {items : List D} {r : Option SRes} {q : Gd} (h1 : tg d ρ cs = some (ρ1, c1)) (h2 : F ρ1 c1 = some (.nx ρ2 c2)) (h3 : loopF q tg F items ρ2 c2 = r) (hq : gOk q cs := by trivial) : loopF q tg F (d :: items) ρ cs = r := by
  unfold loopF
  rw [gdo_pos hq, h1]
  dsimp only
  rw [h2]
  exact h3
/-- the store o[j] = d into a live list -/
theorem evs_sub {fo fi : EF} {v : D} {m k : Nat} {j : Int} (h1 : Ev (fo ρ) cs (.cel m) c1) (h2 : Ev (fi ρ) c1 (.int j) c2) (hc : c2[m]? = some ⟨.lst ds, true⟩) (hk : ixN ds.length j = some k) : tgSub fo fi v ρ cs = some (ρ, c2.set m ⟨.lst (ds.set k v), true⟩) := by
  have hl : liveD (.cel m) c2 = some (m, .lst ds) := by
    show (match c2[m]? with | some c => if c.live = true then some (m, c.val) else none | none => none) = _
    rw [hc]
    rfl
  have hs : setC (.cel m) (.int j) v c2 = some (c2.set m ⟨.lst (ds.set k v), true⟩) := by
    unfold setC
    rw [hl]
    dsimp only
    rw [hk]
  unfold tgSub
  rw [show MW.bnd (fo ρ) (fun o => MW.bnd (fi ρ) fun i => fun cs => (setC o i v cs).map fun cs' => Res.ok () cs') cs = some (.ok () (c2.set m ⟨.lst (ds.set k v), true⟩)) from h1.bnd (h2.bnd (by
    show (setC (.cel m) (.int j) v c2).map _ = _
    rw [hs]
    rfl))]
/-! defs -/
theorem ev_fn {N : Nat} {F : SF} (h : F (ws.map some ++ List.replicate (N - ws.length) none) cs = some (.ret d c1)) (hd : ∀ n, d ≠ .cel n) (hl : low cs.length d = true) (ho : Okx cs c1) : Ev (mkFn N F ws) cs d (c1.take cs.length) := by
  unfold Ev mkFn
  rw [h]
  show exitK cs d c1 = _
  unfold exitK
  have e : exitV cs.length d c1 = some d := by
    cases d with
    | cel n => exact absurd rfl (hd n)
    | _ => rfl
  rw [e]
  dsimp only
  rw [if_pos ⟨hl, ho⟩]
theorem ev_fnC {N : Nat} {F : SF} (h : F (ws.map some ++ List.replicate (N - ws.length) none) cs = some (.ret (.cel n) c1)) (hn : n < cs.length) (ho : Okx cs c1) : Ev (mkFn N F ws) cs (.cel n) (c1.take cs.length) := by
  unfold Ev mkFn
  rw [h]
  show exitK cs (.cel n) c1 = _
  unfold exitK
  have e : exitV cs.length (.cel n) c1 = some (.cel n) := if_pos hn
  rw [e]
  dsimp only
  rw [if_pos ⟨decide_eq_true hn, ho⟩]
theorem ev_fn0 {N : Nat} {F : SF} (h : F (ws.map some ++ List.replicate (N - ws.length) none) cs = some (.ret d cs)) (hd : ∀ n, d ≠ .cel n) (hl : low cs.length d = true) : Ev (mkFn N F ws) cs d cs := by
  have := ev_fn h hd hl (Okx.refl cs)
  rwa [List.take_length] at this
theorem ev_fnK {N : Nat} {F : SF} (h : F (ws.map some ++ List.replicate (N - ws.length) none) cs = some (.ret d c1)) : Ev (mkFnK N F ws) cs d c1 := by
  unfold Ev mkFnK
  rw [h]
theorem Ev.noX {α : Type} {m : Mo α} {x : α} (h : Ev m cs x c1) : Ev (MW.noX m) cs x c1 := by
  unfold Ev MW.noX at *
  rw [h]
theorem ev_tfY : Ev (tfY ρ) cs true cs := rfl
theorem ev_comp0 {tg : TgF} {t : TF} {e : EF} {q : Gd} (hq : gOk q cs := by trivial) : Ev (compF q tg t e ρ []) cs [] cs := by
  unfold Ev compF
  rw [gdo_pos hq]
  rfl
theorem ev_comp {tg : TgF} {t : TF} {e : EF} {q : Gd} (h1 : tg d ρ cs = some (ρ1, c1)) {c4 : List Cel} (h2 : Ev (t ρ1) c1 true c2) (h3 : Ev (e ρ1) c2 y c3) (h4 : Ev (compF q tg t e ρ ds) c3 ws c4) (hq : gOk q cs := by trivial) : Ev (compF q tg t e ρ (d :: ds)) cs (y :: ws) c4 := by
  have k : Ev (MW.bnd (MW.noX (t ρ1)) (fun b => if b = true then MW.bnd (MW.noX (e ρ1)) fun y => MW.bnd (compF q tg t e ρ ds) fun ys => ret (y :: ys) else compF q tg t e ρ ds)) c1 (y :: ws) c4 :=
    h2.noX.bnd (h3.noX.bnd (h4.bnd rfl))
  unfold Ev at k ⊢
  unfold compF
  rw [gdo_pos hq, h1]
  exact k
theorem ev_compN {tg : TgF} {t : TF} {e : EF} {q : Gd} (h1 : tg d ρ cs = some (ρ1, c1)) (h2 : Ev (t ρ1) c1 false c2) (h4 : Ev (compF q tg t e ρ ds) c2 ws c3) (hq : gOk q cs := by trivial) : Ev (compF q tg t e ρ (d :: ds)) cs ws c3 := by
  have k : Ev (MW.bnd (MW.noX (t ρ1)) (fun b => if b = true then MW.bnd (MW.noX (e ρ1)) fun y => MW.bnd (compF q tg t e ρ ds) fun ys => ret (y :: ys) else compF q tg t e ρ ds)) c1 ws c3 :=
    h2.noX.bnd h4
  unfold Ev at k ⊢
  unfold compF
  rw [gdo_pos hq, h1]
  exact k
theorem ev_lc {vs : List Nat} {fi : IF} {tg : TgF} {t : TF} {e : EF} {m : List D → Mo D} {q : Gd} (h1 : Ev (fi ρ) cs (ds, q) c1) (hl : ds.length ≤ sizeLine) (h2 : Ev (compF q tg t e (wipeE ρ vs) ds) c1 ws c2) (h3 : Ev (m ws) c2 y c3) : Ev (fLc vs fi tg t e m ρ) cs y c3 := h1.bnd (by
  rw [if_pos hl]
  exact h2.bnd h3)
theorem ev_iL (h : Ev (f ρ) cs (.lst ds) c1) : Ev (iL f ρ) cs (ds, none) c1 := h.bnd rfl
theorem ev_iLC {m : Nat} (h : Ev (f ρ) cs (.cel m) c1) (hc : c1[m]? = some ⟨.lst ds, true⟩) : Ev (iL f ρ) cs (ds, some (m, ds)) c1 := h.bnd (by
  unfold Ev frzL
  dsimp only
  rw [hc]
  rfl)
theorem ev_rng {k : Int} {g : AF} (h : Ev (g ρ) cs [.int k] c1) (hk : k < 2 ^ 62 ∧ -(2 ^ 62) ≤ k) : Ev (iR1 g ρ) cs (rgD 0 k.toNat, none) c1 := h.bnd (by
  show (match asR1 [.int k] with | some j => ret (rgD 0 j.toNat, none) | none => fail) c1 = _
  have e : asR1 [.int k] = some k := if_pos hk
  rw [e]
  rfl)
theorem ev_pow {i j : Int} (h : 0 ≤ j ∧ (Builtin.Int.intBits i : Int) * j ≤ 2 ^ 27) : Ev (gPow (.int i) (.int j)) cs (.int (i ^ j.toNat)) cs := by
  show (if 0 ≤ j ∧ (Builtin.Int.intBits i : Int) * j ≤ 2 ^ 27 then ret (D.int (i ^ j.toNat)) cs else none) = _
  rw [if_pos h]
  rfl
theorem ev_max {i j : Int} : Ev (gMax2 [.int i, .int j]) cs (.int (if j > i then j else i)) cs := rfl
theorem ev_min {i j : Int} : Ev (gMin2 [.int i, .int j]) cs (.int (if j < i then j else i)) cs := rfl
theorem ev_sum {l : List Int} : Ev (gSum [.lst (l.map D.int)]) cs (.int l.sum) cs := by
  show (match intsD (l.map D.int) with | some bs => ret (D.int bs.sum) cs | none => none) = _
  rw [intsD_map]
  rfl
theorem ev_slS {K : PySem.W.Frag} {l h : OF} {lo hi : Option Int} {ns : List Int} (h1 : Ev (f ρ) cs (.scr K ns) c1) (h2 : Ev (l ρ) c1 lo c2) (h3 : Ev (h ρ) c2 hi c3) : Ev (fSlS K f l h ρ) cs (.lst ((cutD ns lo hi).map D.int)) c3 := h1.bnd (h2.bnd (h3.bnd (by
  show gSlS K (.scr K ns) lo hi c3 = _
  unfold gSlS
  dsimp only
  rw [if_pos rfl]
  rfl)))
theorem ev_lenS {K : PySem.W.Frag} {ns : List Int} : Ev (gLenS K [.scr K ns]) cs (.int ns.length) cs := by
  unfold Ev gLenS
  dsimp only
  rw [if_pos rfl]
  rfl
theorem ev_eqS {a b : Str} : Ev (gEq (.str a) (.str b)) cs (.bl (a == b)) cs := rfl
theorem ev_neS {a b : Str} : Ev (gNe (.str a) (.str b)) cs (.bl (!(a == b))) cs := rfl
theorem ev_eqP {p q : PyData} (h0 : strs2 x y = none) (h1 : toP cs 60 x = some p) (h2 : toP cs 60 y = some q) (h3 : SeqAt.shaped p = true ∧ SeqAt.shaped q = true) : Ev (gEq x y) cs (.bl (PyData.eqv p q)) cs := by
  unfold Ev gEq
  rw [h0]
  unfold eqD
  dsimp only
  rw [h1, h2]
  dsimp only
  unfold eqP
  rw [if_pos h3]
theorem ev_neP {p q : PyData} (h0 : strs2 x y = none) (h1 : toP cs 60 x = some p) (h2 : toP cs 60 y = some q) (h3 : SeqAt.shaped p = true ∧ SeqAt.shaped q = true) : Ev (gNe x y) cs (.bl (!PyData.eqv p q)) cs := by
  unfold Ev gNe
  rw [h0]
  unfold eqD
  dsimp only
  rw [h1, h2]
  dsimp only
  unfold eqP
  rw [if_pos h3]
theorem ev_eqI {i j : Int} : Ev (gEq (.int i) (.int j)) cs (.bl (i == j)) cs := by
  have := ev_eqP (cs := cs) (x := .int i) (y := .int j) rfl rfl rfl ⟨rfl, rfl⟩
  simpa [PyData.eqv] using this
end
end MW

set_option Elab.async false
set_option linter.all false
set_option maxRecDepth 100000
set_option exponentiation.threshold 5000
/-! MwDraw: the purse that every law draws from. -/
namespace MW
open PySem PySem.Spec PyProof.Rows L2

noncomputable def dPurse (K : PySem.W.Frag) : FF := mkFnK 3 (sSeq (sAsg (fCall gSum (fCons (fSlS K (fVar 0) (oSome (fVar 1)) (oSome (fOp gAdd (fVar 1) (fC (.int 1))))) fNil)) (tgName 2))
    (sRet (fMk (mkC .lst) (fCons (fOp gMod (fCall gInt (fCons (fCall gMax2 (fCons (fOp gSub (fVar 2) (fOp gPow (fC (.int 10)) (fC (.int 18)))) (fCons (fC (.int 0)) fNil))) fNil)) (fOp gPow (fOp gPow (fC (.int 10)) (fC (.int 60))) (fC (.int 8)))) (fCons (fOp gMod (fCall gInt (fCons (fVar 2) fNil)) (fC (.int 2147483629))) (fCons (fC (.int 0)) (fCons (fVar 1) fNil)))))))
noncomputable def dMixed : FF := mkFn 4 (sSeq (sAsg (fOp gAdd (fOp gMul (fVar 0) (fC (.int 69069))) (fOp gMul (fOp gMul (fC (.int 104729)) (fVar 1)) (fVar 1))) (tgName 3))
    (sSeq (sAsg (fOp gMod (fCall gInt (fCons (fOp gAdd (fOp gAdd (fVar 3) (fOp gMul (fC (.int 7919)) (fVar 2))) (fVar 1)) fNil)) (fC (.int 2147483647))) (tgName 3))
    (sSeq (sAsg (fOp gMod (fCall gInt (fCons (fOp gAdd (fOp gMul (fVar 3) (fVar 3)) (fC (.int 40503))) fNil)) (fC (.int 2147483629))) (tgName 3))
    (sRet (fOp gMod (fCall gInt (fCons (fOp gMul (fVar 3) (fC (.int 48271))) fNil)) (fC (.int 2147483587)))))))
noncomputable def drawLoop : SF := sSeq (sAsg (fOp gAdd (fOp gAt (fVar 0) (fC (.int 2))) (fC (.int 1))) (tgSub (fVar 0) (fC (.int 2))))
    (sAsg (fOp gAdd (fOp gMul (fVar 3) (fC (.int 2147483587))) (fCall (arg 3 dMixed) (fCons (fOp gAt (fVar 0) (fC (.int 1))) (fCons (fOp gAt (fVar 0) (fC (.int 2))) (fCons (fOp gAt (fVar 0) (fC (.int 3))) fNil))))) (tgName 3))
noncomputable def drawF : SF := sSeq (sIf (fTst (fOp gGt (fOp gAt (fVar 0) (fC (.int 0))) (fC (.int 0)))) (sSeq (sAsg (fOp gMod (fCall gInt (fCons (fOp gAt (fVar 0) (fC (.int 0))) fNil)) (fVar 1)) (tgName 2))
    (sSeq (sAsg (fOp gFdiv (fOp gAt (fVar 0) (fC (.int 0))) (fVar 1)) (tgSub (fVar 0) (fC (.int 0))))
    (sRet (fVar 2)))) sNil)
    (sSeq (sAsg (fC (.int 0)) (tgName 3))
    (sSeq (sFor (iR1 (fCons (fOp gAdd (fC (.int 1)) (fOp gFdiv (fUn gBits (fVar 1)) (fC (.int 28)))) fNil)) (tgName 4) drawLoop)
    (sRet (fOp gMod (fCall gInt (fCons (fVar 3) fNil)) (fVar 1)))))
noncomputable def dDraw : FF := mkFn 5 drawF

theorem small {i : Int} (h1 : -(2 ^ 200) < i) (h2 : i < 2 ^ 200) : i.natAbs < 2 ^ 4000 := by
  have : i.natAbs < 2 ^ 200 := by omega
  exact Nat.lt_of_lt_of_le this (Nat.pow_le_pow_right (by decide) (by decide))
theorem mixed_ev {s t a : Int} {cs : List Cel} (hs : 0 ≤ s) (hs2 : s < 2 ^ 31) (ht : 0 ≤ t) (ht2 : t < 2 ^ 61) (ha : 0 ≤ a) (ha2 : a < 2 ^ 20) : ∃ r : Int, Ev (dMixed [.int s, .int t, .int a]) cs (.int r) cs ∧ 0 ≤ r ∧ r < 2147483587 := by
  have b1 : 0 ≤ (s * 69069 + 104729 * t * t + 7919 * a + t) % 2147483647 := Int.emod_nonneg _ (by decide)
  have b2 : (s * 69069 + 104729 * t * t + 7919 * a + t) % 2147483647 < 2147483647 := Int.emod_lt_of_pos _ (by decide)
  generalize hm : (s * 69069 + 104729 * t * t + 7919 * a + t) % 2147483647 = m at b1 b2
  have b3 : 0 ≤ (m * m + 40503) % 2147483629 := Int.emod_nonneg _ (by decide)
  have b4 : (m * m + 40503) % 2147483629 < 2147483629 := Int.emod_lt_of_pos _ (by decide)
  generalize hk : (m * m + 40503) % 2147483629 = k at b3 b4
  refine ⟨k * 48271 % 2147483587, ?_, Int.emod_nonneg _ (by decide), Int.emod_lt_of_pos _ (by decide)⟩
  refine ev_fn0 ?_ (fun _ => nofun) rfl
  refine evs_seq (evs_set (ev_op (ev_op (ev_var rfl) ev_c (ev_mul (small (by omega) (by omega)) (small (by decide) (by decide)))) (ev_op (ev_op ev_c (ev_var rfl) (ev_mul (small (by decide) (by decide)) (small (by omega) (by omega)))) (ev_var rfl) (ev_mul (small (by omega) (by omega)) (small (by omega) (by omega)))) ev_add)) ?_
  refine evs_seq (evs_set (ev_op (ev_call (ev_cons (ev_op (ev_op (ev_var rfl) (ev_op ev_c (ev_var rfl) (ev_mul (small (by decide) (by decide)) (small (by omega) (by omega)))) ev_add) (ev_var rfl) ev_add) ev_nil) ev_int) ev_c (ev_mod (by decide)))) ?_
  rw [hm]
  refine evs_seq (evs_set (ev_op (ev_call (ev_cons (ev_op (ev_op (ev_var rfl) (ev_var rfl) (ev_mul (small (by omega) (by omega)) (small (by omega) (by omega)))) ev_c ev_add) ev_nil) ev_int) ev_c (ev_mod (by decide)))) ?_
  rw [hk]
  exact evs_ret (ev_op (ev_call (ev_cons (ev_op (ev_var rfl) ev_c (ev_mul (small (by omega) (by omega)) (small (by decide) (by decide)))) ev_nil) ev_int) ev_c (ev_mod (by decide)))

/-- the purse at i -/
structure Pu where
  a : Int
  b : Int
  c : Int
  d : Int
def Pu.D (q : Pu) : MW.D := .lst [.int q.a, .int q.b, .int q.c, .int q.d]
def PAt (cs : List Cel) (i : Nat) (q : Pu) : Prop := cs[i]? = some ⟨q.D, true⟩
structure POk (q : Pu) (n : Nat) : Prop where
  a : 0 ≤ q.a
  b : 0 ≤ q.b
  b2 : q.b < 2147483629
  c : 0 ≤ q.c
  c2 : q.c ≤ n
  d : 0 ≤ q.d
  d2 : q.d < 2 ^ 20
theorem ev_atL {cs : List Cel} {i : Nat} {ds : List MW.D} {j : Int} {d : MW.D} {b : Bool} (h : cs[i]? = some ⟨.lst ds, b⟩) (hd : L2.atI ds j = some d) : Ev (gAt (.cel i) (.int j)) cs d cs := by
  have e : vw cs (.cel i) = some (.lst ds) := by
    show (cs[i]?).map (·.val) = _
    rw [h]
    rfl
  unfold Ev gAt
  rw [e]
  dsimp only
  unfold gIx
  rw [e]
  dsimp only
  rw [hd]
  rfl
theorem PAt.at0 {cs : List Cel} {i : Nat} {q : Pu} (h : PAt cs i q) : Ev (gAt (.cel i) (.int 0)) cs (.int q.a) cs := ev_atL h rfl
theorem PAt.at1 {cs : List Cel} {i : Nat} {q : Pu} (h : PAt cs i q) : Ev (gAt (.cel i) (.int 1)) cs (.int q.b) cs := ev_atL h rfl
theorem PAt.at2 {cs : List Cel} {i : Nat} {q : Pu} (h : PAt cs i q) : Ev (gAt (.cel i) (.int 2)) cs (.int q.c) cs := ev_atL h rfl
theorem PAt.at3 {cs : List Cel} {i : Nat} {q : Pu} (h : PAt cs i q) : Ev (gAt (.cel i) (.int 3)) cs (.int q.d) cs := ev_atL h rfl
theorem PAt.lt {cs : List Cel} {i : Nat} {q : Pu} (h : PAt cs i q) : i < cs.length := (List.getElem?_eq_some_iff.mp h).1
theorem PAt.set {cs : List Cel} {i : Nat} {q : Pu} (h : PAt cs i q) (p : Pu) : PAt (cs.set i ⟨p.D, true⟩) i p := List.getElem?_set_self h.lt
theorem bits_small {m : Int} (h0 : 0 < m) (h : m < 2 ^ 27) : (Builtin.Int.intBits m : Int) / 28 = 0 := by
  have e : Builtin.Int.intBits m = m.natAbs.log2 + 1 := by
    unfold Builtin.Int.intBits
    rw [if_neg (by simp; omega)]
  have l : m.natAbs.log2 < 27 := (Nat.log2_lt (by omega)).mpr (by omega)
  rw [e]
  omega
theorem okx_set {cs : List Cel} {i : Nat} {d : MW.D} {b : Bool} (h : low cs.length d = true) : Okx cs (cs.set i ⟨d, b⟩) := (Okx.refl cs).set i d b h
theorem draw_ev {cs : List Cel} {i n : Nat} {q : Pu} {m : Int} (hp : PAt cs i q) (hq : POk q n) (hn : n < 2 ^ 60) (hm : 0 < m) (hm2 : m < 2 ^ 27) :
    ∃ (r : Int) (p : Pu), Ev (dDraw [.cel i, .int m]) cs (.int r) (cs.set i ⟨p.D, true⟩) ∧ 0 ≤ r ∧ r < m ∧ POk p (n + 1) := by
  by_cases ha : q.a > 0
  · refine ⟨q.a % m, ⟨q.a / m, q.b, q.c, q.d⟩, ?_, Int.emod_nonneg _ (by omega), Int.emod_lt_of_pos _ hm, ⟨Int.ediv_nonneg hq.a (by omega), hq.b, hq.b2, hq.c, by have := hq.c2; show q.c ≤ _; omega, hq.d, hq.d2⟩⟩
    have key : drawF ([MW.D.cel i, .int m].map some ++ List.replicate (5 - [MW.D.cel i, .int m].length) none) cs = some (.ret (.int (q.a % m)) (cs.set i ⟨(⟨q.a / m, q.b, q.c, q.d⟩ : Pu).D, true⟩)) := by
      refine evs_seqR (evs_ifT (ev_tst (b := true) (ev_op (ev_op (ev_var rfl) ev_c hp.at0) ev_c (ev_gtT ha))) ?_)
      · refine evs_seq (evs_set (ev_op (ev_call (ev_cons (ev_op (ev_var rfl) ev_c hp.at0) ev_nil) ev_int) (ev_var rfl) (ev_mod hm))) ?_
        refine evs_seq (evs_asg (ev_op (ev_op (ev_var rfl) ev_c hp.at0) (ev_var rfl) (ev_fdiv hm (small (by omega) (by omega)))) (evs_sub (ev_var rfl) ev_c hp rfl)) ?_
        exact evs_ret (ev_var rfl)
    have := ev_fn (N := 5) key (fun _ => nofun) rfl (okx_set rfl)
    rwa [List.take_of_length_le (by simp)] at this
  · have ha0 : q.a = 0 := by have := hq.a; omega
    obtain ⟨r, hr, r0, r1⟩ := mixed_ev (s := q.b) (t := q.c + 1) (a := q.d) (cs := cs.set i ⟨(⟨q.a, q.b, q.c + 1, q.d⟩ : Pu).D, true⟩) hq.b (by have := hq.b2; omega) (by have := hq.c; omega) (by have := hq.c2; omega) hq.d hq.d2
    refine ⟨r % m, ⟨q.a, q.b, q.c + 1, q.d⟩, ?_, Int.emod_nonneg _ (by omega), Int.emod_lt_of_pos _ hm, ⟨hq.a, hq.b, hq.b2, by have := hq.c; show 0 ≤ q.c + 1; omega, by have := hq.c2; show q.c + 1 ≤ _; omega, hq.d, hq.d2⟩⟩
    have hp2 := hp.set ⟨q.a, q.b, q.c + 1, q.d⟩
    have key : drawF ([MW.D.cel i, .int m].map some ++ List.replicate (5 - [MW.D.cel i, .int m].length) none) cs = some (.ret (.int (r % m)) (cs.set i ⟨(⟨q.a, q.b, q.c + 1, q.d⟩ : Pu).D, true⟩)) := by
      refine evs_seq (evs_ifF (ev_tst (b := false) (ev_op (ev_op (ev_var rfl) ev_c hp.at0) ev_c (ev_gtF ha))) rfl) ?_
      · refine evs_seq (evs_set ev_c) ?_
        refine evs_seq (evs_for (items := [.int 0]) (q := none) (c1 := cs) (r := some (.nx [some (.cel i), some (.int m), none, some (.int (0 * 2147483587 + r)), some (.int 0)] (cs.set i ⟨(⟨q.a, q.b, q.c + 1, q.d⟩ : Pu).D, true⟩))) ?_ (evs_loop rfl ?_ evs_loop0)) ?_
        · refine Ev.bnd (ev_cons (ev_op ev_c (ev_op (ev_un (ev_var rfl) rfl) ev_c (ev_fdiv (by decide) (small (by decide) (by decide)))) ev_add) ev_nil) ?_
          rw [bits_small hm hm2]
          rfl
        · refine evs_seq (evs_asg (ev_op (ev_op (ev_var rfl) ev_c hp.at2) ev_c ev_add) (evs_sub (ev_var rfl) ev_c hp rfl)) ?_
          exact evs_set (ev_op (ev_op (ev_var rfl) ev_c (ev_mul (small (by decide) (by decide)) (small (by decide) (by decide)))) (ev_call (ev_cons (ev_op (ev_var rfl) ev_c hp2.at1) (ev_cons (ev_op (ev_var rfl) ev_c hp2.at2) (ev_cons (ev_op (ev_var rfl) ev_c hp2.at3) ev_nil))) (ev_arg rfl hr)) ev_add)
        · have e : (0 : Int) * 2147483587 + r = r := by omega
          exact (evs_ret (ev_op (ev_call (ev_cons (ev_var rfl) ev_nil) ev_int) (ev_var rfl) (ev_mod hm))).trans (by rw [e])
    have := ev_fn (N := 5) key (fun _ => nofun) rfl (okx_set rfl)
    rwa [List.take_of_length_le (by simp)] at this

/-! ### the purse made, one of some -/
theorem ev_atLst {cs : List Cel} {ds : List MW.D} {j : Int} {d : MW.D} (hd : L2.atI ds j = some d) : Ev (gAt (.lst ds) (.int j)) cs d cs := by
  unfold Ev gAt gIx
  show (match L2.atI ds j with | some d => ret d cs | none => none) = _
  rw [hd]
  rfl
theorem atI_ok {α : Type} {xs : List α} {j : Int} (h0 : 0 ≤ j) (h1 : j < xs.length) : ∃ x, L2.atI xs j = some x ∧ x ∈ xs := by
  have e : ixN xs.length j = some j.toNat := by
    unfold ixN
    rw [if_pos h0, if_pos h1]
  have hl : j.toNat < xs.length := by omega
  refine ⟨xs[j.toNat], ?_, List.getElem_mem hl⟩
  unfold L2.atI
  rw [e]
  exact List.getElem?_eq_getElem hl
theorem lows_mem {k : Nat} : ∀ {ds : List MW.D} {d : MW.D}, lows k ds = true → d ∈ ds → low k d = true
  | [], _, _, h => nomatch h
  | x :: xs, d, h, hm => by
    unfold lows at h
    rw [Bool.and_eq_true] at h
    rcases List.mem_cons.mp hm with rfl | hm
    · exact h.1
    · exact lows_mem h.2 hm
theorem ev_fnD {N : Nat} {F : SF} {ws : List MW.D} {cs c1 : List Cel} {d : MW.D} (h : F (ws.map some ++ List.replicate (N - ws.length) none) cs = some (.ret d c1)) (hl : low cs.length d = true) (ho : Okx cs c1) : Ev (mkFn N F ws) cs d (c1.take cs.length) := by
  by_cases hc : ∃ n, d = .cel n
  · obtain ⟨n, rfl⟩ := hc
    exact ev_fnC h (of_decide_eq_true hl) ho
  · exact ev_fn h (fun n e => hc ⟨n, e⟩) hl ho
noncomputable def oneF : SF := sRet (fOp gAt (fVar 1) (fCall (arg 2 dDraw) (fCons (fVar 0) (fCons (fCall gLen (fCons (fVar 1) fNil)) fNil))))
noncomputable def dOne : FF := mkFn 2 oneF
theorem ev_len {cs : List Cel} {ds : List MW.D} : Ev (gLen [.lst ds]) cs (.int ds.length) cs := rfl
theorem one_ev {cs : List Cel} {i n : Nat} {q : Pu} {ds : List MW.D} (hp : PAt cs i q) (hq : POk q n) (hn : n < 2 ^ 60) (h0 : ds ≠ []) (h1 : ds.length < 2 ^ 27) (hlow : lows cs.length ds = true) :
    ∃ (d : MW.D) (p : Pu), d ∈ ds ∧ Ev (dOne [.cel i, .lst ds]) cs d (cs.set i ⟨p.D, true⟩) ∧ POk p (n + 1) := by
  have hl : 0 < ds.length := List.length_pos_iff.mpr h0
  obtain ⟨r, p, e, r0, r1, ok⟩ := draw_ev (m := (ds.length : Int)) hp hq hn (by omega) (by omega)
  obtain ⟨d, hd, hm⟩ := atI_ok r0 r1
  refine ⟨d, p, hm, ?_, ok⟩
  have key : oneF ([MW.D.cel i, .lst ds].map some ++ List.replicate (2 - [MW.D.cel i, .lst ds].length) none) cs = some (.ret d (cs.set i ⟨p.D, true⟩)) :=
    evs_ret (ev_op (ev_var rfl) (ev_call (ev_cons (ev_var rfl) (ev_cons (ev_call (ev_cons (ev_var rfl) ev_nil) ev_len) ev_nil)) (ev_arg rfl e)) (ev_atLst hd))
  have := ev_fnD (N := 2) key (lows_mem hlow hm) (okx_set rfl)
  rwa [List.take_of_length_le (by simp)] at this

theorem purse_ev {K : PySem.W.Frag} {ns : List Int} {cs : List Cel} {at_ : Int} (h0 : 0 ≤ at_) (h1 : at_ < 2 ^ 20) : ∃ q : Pu, Ev (dPurse K [.scr K ns, .int at_]) cs (.cel cs.length) (cs ++ [⟨q.D, true⟩]) ∧ POk q 0 := by
  refine ⟨⟨(if (0 : Int) > (cutD ns (some at_) (some (at_ + 1))).sum - 10 ^ 18 then 0 else (cutD ns (some at_) (some (at_ + 1))).sum - 10 ^ 18) % ((10 ^ 60) ^ 8), (cutD ns (some at_) (some (at_ + 1))).sum % 2147483629, 0, at_⟩, ?_, ⟨Int.emod_nonneg _ (by decide +kernel), Int.emod_nonneg _ (by decide), Int.emod_lt_of_pos _ (by decide), Int.le_refl _, Int.le_refl _, h0, h1⟩⟩
  refine ev_fnK ?_
  refine evs_seq (evs_set (ev_call (ev_cons (ev_slS (ev_var rfl) (ev_oSome (ev_var rfl)) (ev_oSome (ev_op (ev_var rfl) ev_c ev_add))) ev_nil) ev_sum)) ?_
  refine evs_ret (ev_mkC (mk := MW.D.lst) (ev_cons (ev_op (ev_call (ev_cons (ev_call (ev_cons (ev_op (ev_var rfl) (ev_op ev_c ev_c (ev_pow (by decide +kernel))) ev_sub) (ev_cons ev_c ev_nil)) ev_max) ev_nil) ev_int) (ev_op (ev_op ev_c ev_c (ev_pow (by decide +kernel))) ev_c (ev_pow (by decide +kernel))) (ev_mod (by decide +kernel)))
    (ev_cons (ev_op (ev_call (ev_cons (ev_var rfl) ev_nil) ev_int) ev_c (ev_mod (by decide))) (ev_cons ev_c (ev_cons (ev_var rfl) ev_nil)))) (show 4 ≤ sizeLine by decide))
noncomputable def dPurses (K : PySem.W.Frag) : FF := mkFnK 3 (sRet (fLc [2] (iR1 (fCons (fCall gMax2 (fCons (fC (.int 1)) (fCons (fCall gMin2 (fCons (fVar 1) (fCons (fCall (gLenS K) (fCons (fVar 0) fNil)) fNil))) fNil))) fNil)) (tgName 2) tfY (fCall (arg 2 (dPurse K)) (fCons (fVar 0) (fCons (fVar 2) fNil))) mkL))
theorem purses1_ev {K : PySem.W.Frag} {ns : List Int} : ∃ q : Pu, Ev (dPurses K [.scr K ns, .int 1]) [] (.lst [.cel 0]) [⟨q.D, true⟩] ∧ POk q 0 := by
  obtain ⟨q, e, ok⟩ := purse_ev (K := K) (ns := ns) (cs := []) (at_ := 0) (by decide) (by decide)
  refine ⟨q, ev_fnK ?_, ok⟩
  have m1 : (if (if ((ns.length : Int)) < 1 then ((ns.length : Int)) else 1) > 1 then (if ((ns.length : Int)) < 1 then ((ns.length : Int)) else 1) else 1) = 1 := by
    by_cases h : ((ns.length : Int)) < 1
    · rw [if_pos h, if_neg (by omega)]
    · rw [if_neg h, if_neg (by decide)]
  have rg : Ev (iR1 (fCons (fCall gMax2 (fCons (fC (.int 1)) (fCons (fCall gMin2 (fCons (fVar 1) (fCons (fCall (gLenS K) (fCons (fVar 0) fNil)) fNil))) fNil))) fNil) ([MW.D.scr K ns, .int 1].map some ++ List.replicate (3 - [MW.D.scr K ns, .int 1].length) none)) [] ([.int 0], none) [] := by
    have := ev_rng (ρ := [MW.D.scr K ns, .int 1].map some ++ List.replicate (3 - [MW.D.scr K ns, .int 1].length) none) (cs := []) (ev_cons (ev_call (ev_cons ev_c (ev_cons (ev_call (ev_cons (ev_var (i := 1) rfl) (ev_cons (ev_call (ev_cons (ev_var (i := 0) rfl) ev_nil) (ev_lenS (K := K) (ns := ns))) ev_nil)) ev_min) ev_nil)) ev_max) ev_nil) (by rw [m1]; decide)
    rw [m1] at this
    exact this
  exact evs_ret (ev_lc rg (by decide) (ev_comp rfl ev_tfY (ev_call (ev_cons (ev_var rfl) (ev_cons (ev_var rfl) ev_nil)) (ev_arg rfl e)) ev_comp0) rfl)

/-! ### words -/
def abc : Str := "abcdefghijklmnopqrstuvwxyz"
theorem abc_cps : abc.cps.toList = (List.range 26).map fun i => 97 + i := by decide +kernel
noncomputable def wordF : SF := sSeq (sAsg (fOp gAdd (fC (.int 1)) (fCall (arg 2 dDraw) (fCons (fVar 0) (fCons (fIf (fTst (fOp gEq (fCall (arg 2 dDraw) (fCons (fVar 0) (fCons (fC (.int 3)) fNil))) (fC (.int 0)))) (fC (.int 8)) (fC (.int 3))) fNil)))) (tgName 1))
    (sRet (fBm "str" gJoin (fC (.str "")) (fCons (fLc [2] (iR1 (fCons (fVar 1) fNil)) (tgName 2) tfY (fOp gAt (fC (.str "abcdefghijklmnopqrstuvwxyz")) (fCall (arg 2 dDraw) (fCons (fVar 0) (fCons (fC (.int 26)) fNil)))) mkL) fNil)))
noncomputable def dWord : FF := mkFn 3 wordF
theorem ev_atS {cs : List Cel} {z : Str} {j : Int} {c : Nat} (hz : z.length ≤ sizeLine) (hd : L2.atI z.cps.toList j = some c) : Ev (gAt (.str z) (.int j)) cs (.str ⟨#[c]⟩) cs := by
  unfold Ev gAt gIx
  show (if z.length ≤ sizeLine then match L2.atI z.cps.toList j with | some c => ret (MW.D.str ⟨#[c]⟩) cs | none => none else none) = _
  rw [if_pos hz, hd]
  rfl
def chr1 (c : Nat) : Str := ⟨#[c]⟩
theorem set_set {cs : List Cel} {i : Nat} {a b : Cel} : (cs.set i a).set i b = cs.set i b := List.set_set ..
theorem word_loop {k : MW.D} {i : Nat} : ∀ (items : List MW.D) (cs : List Cel) (q : Pu) (n : Nat), PAt cs i q → POk q n → n + items.length < 2 ^ 60 →
    ∃ (ys : List Nat) (p : Pu), Ev (compF none (tgName 2) tfY (fOp gAt (fC (.str "abcdefghijklmnopqrstuvwxyz")) (fCall (arg 2 dDraw) (fCons (fVar 0) (fCons (fC (.int 26)) fNil)))) [some (.cel i), some k, none] items) cs (ys.map fun c => .str (chr1 c)) (cs.set i ⟨p.D, true⟩) ∧ ys.length = items.length ∧ (∀ c ∈ ys, 97 ≤ c ∧ c < 123) ∧ POk p (n + items.length)
  | [], cs, q, n, hp, ok, _ => ⟨[], q, by
      have e : cs.set i ⟨q.D, true⟩ = cs := by
        apply List.ext_getElem?
        intro j
        by_cases h : i = j
        · subst h
          rw [List.getElem?_set_self hp.lt]
          exact hp.symm
        · rw [List.getElem?_set_ne h]
      rw [e]
      exact ev_comp0, rfl, (fun _ h => by cases h), ok⟩
  | d :: items, cs, q, n, hp, ok, hn => by
    rw [List.length_cons] at hn
    obtain ⟨r, p, e, r0, r1, ok1⟩ := draw_ev (m := 26) hp ok (by omega) (by decide) (by decide)
    obtain ⟨ys, p2, e2, hl, hc, ok2⟩ := word_loop items (cs.set i ⟨p.D, true⟩) p (n + 1) (hp.set p) ok1 (by omega)
    obtain ⟨c, hat, hmem⟩ := atI_ok (xs := abc.cps.toList) r0 (by rw [abc_cps]; simpa using r1)
    rw [set_set] at e2
    refine ⟨c :: ys, p2, ev_comp rfl ev_tfY (ev_op ev_c (ev_call (ev_cons (ev_var rfl) (ev_cons ev_c ev_nil)) (ev_arg rfl e)) (ev_atS (by decide +kernel) hat)) e2, by rw [List.length_cons, List.length_cons, hl], fun x hx => ?_, ?_⟩
    · rcases List.mem_cons.mp hx with rfl | hx
      · rw [abc_cps] at hmem
        simp at hmem
        omega
      · exact hc x hx
    · have : n + 1 + items.length = n + (d :: items).length := by rw [List.length_cons]; omega
      rw [← this]
      exact ok2
/-- a word -/
structure IsW (w : Str) : Prop where
  len : w.cps.toList.length ≤ 8
  pos : 0 < w.cps.toList.length
  az : ∀ c ∈ w.cps.toList, 97 ≤ c ∧ c < 123
theorem strsD_chr (ys : List Nat) : strsD (ys.map fun c => MW.D.str (chr1 c)) = some (ys.map chr1) := by
  have := strsD_map (ys.map chr1)
  rw [List.map_map] at this
  exact this
theorem sum_chr : ∀ ys : List Nat, ((ys.map chr1).map (·.length)).sum = ys.length
  | [] => rfl
  | c :: ys => by
    rw [List.map_cons, List.map_cons, List.sum_cons, sum_chr ys, List.length_cons]
    show 1 + ys.length = _
    omega
theorem join_chr (ys : List Nat) : (Txt.join "" (ys.map chr1)).cps.toList = ys := by
  have e0 : (("" : Str)).cps = #[] := rfl
  have f : ∀ (l : List Nat) (acc : Array Nat), ((l.map chr1).foldl (fun acc p => acc ++ (("" : Str)).cps ++ p.cps) acc).toList = acc.toList ++ l := by
    intro l
    induction l with
    | nil => intro acc; simp
    | cons c l ih =>
      intro acc
      rw [List.map_cons, List.foldl_cons, ih, e0]
      simp [chr1]
  show (((ys.map chr1).drop 1).foldl (fun acc p => acc ++ (("" : Str)).cps ++ p.cps) ((ys.map chr1).headD Str.empty).cps).toList = ys
  cases ys with
  | nil => rfl
  | cons c ys =>
    show ((ys.map chr1).foldl (fun acc p => acc ++ (("" : Str)).cps ++ p.cps) (chr1 c).cps).toList = c :: ys
    rw [f]
    rfl
theorem ev_join {cs : List Cel} {a : Str} {ys : List Str} (h : (ys.map (·.length)).sum + ys.length * a.length ≤ 16777216) : Ev (gJoin (.str a) [.lst (ys.map MW.D.str)]) cs (.str (Txt.join a ys)) cs := by
  have e : (vw cs (.lst (ys.map MW.D.str))).bind seqD = some (ys.map MW.D.str) := rfl
  unfold Ev gJoin
  dsimp only
  rw [e]
  dsimp only
  rw [strsD_map]
  dsimp only
  rw [if_pos h]
  rfl
theorem ev_bm {T : String} {g : MF} {fo : EF} {fa : AF} {ρ : Evn} {cs c1 c2 c3 c4 : List Cel} {x y : MW.D} {ws : List MW.D} (h1 : Ev (fo ρ) cs x c1) (h2 : Ev (tyD T x) c1 () c2) (h3 : Ev (fa ρ) c2 ws c3) (h4 : Ev (g x ws) c3 y c4) : Ev (fBm T g fo fa ρ) cs y c4 := h1.bnd (h2.bnd (h3.bnd h4))
theorem word_ev {cs : List Cel} {i n : Nat} {q : Pu} (hp : PAt cs i q) (hq : POk q n) (hn : n < 2 ^ 50) : ∃ (w : Str) (p : Pu), Ev (dWord [.cel i]) cs (.str w) (cs.set i ⟨p.D, true⟩) ∧ IsW w ∧ POk p (n + 10) := by
  obtain ⟨r1, p1, e1, _, _, ok1⟩ := draw_ev (m := 3) hp hq (by omega) (by decide) (by decide)
  have hm : ∃ m : Int, Ev (fIf (fTst (fOp gEq (fCall (arg 2 dDraw) (fCons (fVar 0) (fCons (fC (.int 3)) fNil))) (fC (.int 0)))) (fC (.int 8)) (fC (.int 3)) ([MW.D.cel i].map some ++ List.replicate (3 - [MW.D.cel i].length) none)) cs (.int m) (cs.set i ⟨p1.D, true⟩) ∧ 0 < m ∧ m ≤ 8 := by
    have t : Ev (fTst (fOp gEq (fCall (arg 2 dDraw) (fCons (fVar 0) (fCons (fC (.int 3)) fNil))) (fC (.int 0))) ([MW.D.cel i].map some ++ List.replicate (3 - [MW.D.cel i].length) none)) cs (r1 == 0) (cs.set i ⟨p1.D, true⟩) :=
      ev_tst (ev_op (ev_call (ev_cons (ev_var rfl) (ev_cons ev_c ev_nil)) (ev_arg rfl e1)) ev_c ev_eqI)
    cases hb : (r1 == 0) with
    | true =>
      rw [hb] at t
      exact ⟨8, ev_ifT t ev_c, by decide, by decide⟩
    | false =>
      rw [hb] at t
      exact ⟨3, ev_ifF t ev_c, by decide, by decide⟩
  obtain ⟨m, em, m0, m8⟩ := hm
  obtain ⟨r2, p2, e2, r20, r21, ok2⟩ := draw_ev (m := m) (hp.set p1) ok1 (by omega) m0 (by omega)
  rw [set_set] at e2
  have hp2 := hp.set p2
  obtain ⟨ys, p3, e3, yl, yc, ok3⟩ := word_loop (k := .int (1 + r2)) (rgD 0 (1 + r2).toNat) (cs.set i ⟨p2.D, true⟩) p2 (n + 1 + 1) hp2 ok2 (by simp [rgD]; omega)
  rw [set_set] at e3
  have rl : (rgD 0 (1 + r2).toNat).length = (1 + r2).toNat := by simp [rgD]
  rw [rl] at yl ok3
  refine ⟨Txt.join "" (ys.map chr1), p3, ?_, ⟨by rw [join_chr, yl]; omega, by rw [join_chr, yl]; omega, fun c hc => yc c (by rwa [join_chr] at hc)⟩, ?_⟩
  · have key : wordF ([MW.D.cel i].map some ++ List.replicate (3 - [MW.D.cel i].length) none) cs = some (.ret (.str (Txt.join "" (ys.map chr1))) (cs.set i ⟨p3.D, true⟩)) := by
      refine evs_seq (evs_set (ev_op ev_c (ev_call (ev_cons (ev_var rfl) (ev_cons em ev_nil)) (ev_arg rfl e2)) ev_add)) ?_
      refine evs_ret (ev_bm ev_c rfl (ev_cons (ev_lc (ev_rng (ev_cons (ev_var rfl) ev_nil) (by omega)) (by rw [rl, sizeLine_eq]; omega) e3 rfl) ev_nil) ?_)
      have e5 : (ys.map fun c => MW.D.str (chr1 c)) = (ys.map chr1).map MW.D.str := by rw [List.map_map]; rfl
      rw [e5]
      exact ev_join (by rw [sum_chr, yl]; show _ + _ * 0 ≤ _; omega)
    have := ev_fn (N := 3) key (fun _ => nofun) rfl (okx_set rfl)
    rwa [List.take_of_length_le (by simp)] at this
  · refine ⟨ok3.a, ok3.b, ok3.b2, ok3.c, ?_, ok3.d, ok3.d2⟩
    have := ok3.c2
    omega
end MW

set_option Elab.async false
set_option linter.all false
set_option maxRecDepth 100000
set_option maxHeartbeats 4000000
namespace K01
open PySem PySem.Spec PyProof.Rows L2 MW
/-- what the top has written -/
structure U where
  K : PySem.W.Frag
  CoreError : Addr
  InvalidKind : Addr
  InvalidTable : Addr
  InvalidKinds : Addr
  InvalidPairs : Addr
  InvalidWord : Addr
  InvalidRule : Addr
  InvalidMap : Addr
  InvalidNames : Addr
  InvalidBook : Addr
  InvalidName : Addr
  InvalidLog : Addr
  InvalidLogs : Addr
  InvalidMerging : Addr
  InvalidStrike : Addr
  InvalidRoad : Addr
  InvalidPlaces : Addr
  InvalidCount : Addr
  InvalidFuture : Addr
  InvalidValue : Addr
  InvalidStore : Addr
  InvalidInputs : Addr
  InvalidFolding : Addr
  InvalidJournal : Addr
  InvalidSpot : Addr
  InvalidScript : Addr
  InvalidText : Addr
  InvalidRecord : Addr
  Unlike : Addr
  Apart : Addr
  Unsettled : Addr
  Boundless : Addr
  Refused : Addr
  NothingToUndo : Addr
  NothingToRedo : Addr
def U.all (u : U) : List Addr := [u.CoreError, u.InvalidKind, u.InvalidTable, u.InvalidKinds, u.InvalidPairs, u.InvalidWord, u.InvalidRule, u.InvalidMap, u.InvalidNames, u.InvalidBook, u.InvalidName, u.InvalidLog, u.InvalidLogs, u.InvalidMerging, u.InvalidStrike, u.InvalidRoad, u.InvalidPlaces, u.InvalidCount, u.InvalidFuture, u.InvalidValue, u.InvalidStore, u.InvalidInputs, u.InvalidFolding, u.InvalidJournal, u.InvalidSpot, u.InvalidScript, u.InvalidText, u.InvalidRecord, u.Unlike, u.Apart, u.Unsettled, u.Boundless, u.Refused, u.NothingToUndo, u.NothingToRedo]
def U.isX (u : U) (C : Addr) : Bool := u.all.contains C
def kX (u : U) (D : Addr) : TyK → Option Bool := fun t => match t with
  | .x C => if u.isX C = true then some (C == D) else none
  | _ => none
def kAll (u : U) : TyK → Option Bool := fun t => match t with
  | .x C => if u.isX C = true then some true else none
  | _ => none
structure Ex (P : Program) (w : World) (u : U) (mg : Str → Option Value) (base : Heap) : Prop where
  gCoreError : mg "CoreError" = some (.ref u.CoreError)
  iCoreError : KitOk u.K (kAll u) [.ref u.CoreError]
  xCoreError : PySem.W.excIn u.K u.CoreError PySem.HandSPX.veTail "ValueError.__new__" = true
  kCoreError : PySem.W.keepIn u.K (.ref u.CoreError) = true
  InvalidKind : EC P w u.K mg base "InvalidKind" u.InvalidKind 1
  gInvalidKind : mg "InvalidKind" = some (.ref u.InvalidKind)
  iInvalidKind : KitOk u.K (kX u u.InvalidKind) [.ref u.InvalidKind]
  InvalidTable : EC P w u.K mg base "InvalidTable" u.InvalidTable 1
  gInvalidTable : mg "InvalidTable" = some (.ref u.InvalidTable)
  iInvalidTable : KitOk u.K (kX u u.InvalidTable) [.ref u.InvalidTable]
  InvalidKinds : EC P w u.K mg base "InvalidKinds" u.InvalidKinds 1
  gInvalidKinds : mg "InvalidKinds" = some (.ref u.InvalidKinds)
  iInvalidKinds : KitOk u.K (kX u u.InvalidKinds) [.ref u.InvalidKinds]
  InvalidPairs : EC P w u.K mg base "InvalidPairs" u.InvalidPairs 1
  gInvalidPairs : mg "InvalidPairs" = some (.ref u.InvalidPairs)
  iInvalidPairs : KitOk u.K (kX u u.InvalidPairs) [.ref u.InvalidPairs]
  InvalidWord : EC P w u.K mg base "InvalidWord" u.InvalidWord 1
  gInvalidWord : mg "InvalidWord" = some (.ref u.InvalidWord)
  iInvalidWord : KitOk u.K (kX u u.InvalidWord) [.ref u.InvalidWord]
  InvalidRule : EC P w u.K mg base "InvalidRule" u.InvalidRule 1
  gInvalidRule : mg "InvalidRule" = some (.ref u.InvalidRule)
  iInvalidRule : KitOk u.K (kX u u.InvalidRule) [.ref u.InvalidRule]
  InvalidMap : EC P w u.K mg base "InvalidMap" u.InvalidMap 1
  gInvalidMap : mg "InvalidMap" = some (.ref u.InvalidMap)
  iInvalidMap : KitOk u.K (kX u u.InvalidMap) [.ref u.InvalidMap]
  InvalidNames : EC P w u.K mg base "InvalidNames" u.InvalidNames 1
  gInvalidNames : mg "InvalidNames" = some (.ref u.InvalidNames)
  iInvalidNames : KitOk u.K (kX u u.InvalidNames) [.ref u.InvalidNames]
  InvalidBook : EC P w u.K mg base "InvalidBook" u.InvalidBook 1
  gInvalidBook : mg "InvalidBook" = some (.ref u.InvalidBook)
  iInvalidBook : KitOk u.K (kX u u.InvalidBook) [.ref u.InvalidBook]
  InvalidName : EC P w u.K mg base "InvalidName" u.InvalidName 1
  gInvalidName : mg "InvalidName" = some (.ref u.InvalidName)
  iInvalidName : KitOk u.K (kX u u.InvalidName) [.ref u.InvalidName]
  InvalidLog : EC P w u.K mg base "InvalidLog" u.InvalidLog 1
  gInvalidLog : mg "InvalidLog" = some (.ref u.InvalidLog)
  iInvalidLog : KitOk u.K (kX u u.InvalidLog) [.ref u.InvalidLog]
  InvalidLogs : EC P w u.K mg base "InvalidLogs" u.InvalidLogs 1
  gInvalidLogs : mg "InvalidLogs" = some (.ref u.InvalidLogs)
  iInvalidLogs : KitOk u.K (kX u u.InvalidLogs) [.ref u.InvalidLogs]
  InvalidMerging : EC P w u.K mg base "InvalidMerging" u.InvalidMerging 1
  gInvalidMerging : mg "InvalidMerging" = some (.ref u.InvalidMerging)
  iInvalidMerging : KitOk u.K (kX u u.InvalidMerging) [.ref u.InvalidMerging]
  InvalidStrike : EC P w u.K mg base "InvalidStrike" u.InvalidStrike 1
  gInvalidStrike : mg "InvalidStrike" = some (.ref u.InvalidStrike)
  iInvalidStrike : KitOk u.K (kX u u.InvalidStrike) [.ref u.InvalidStrike]
  InvalidRoad : EC P w u.K mg base "InvalidRoad" u.InvalidRoad 1
  gInvalidRoad : mg "InvalidRoad" = some (.ref u.InvalidRoad)
  iInvalidRoad : KitOk u.K (kX u u.InvalidRoad) [.ref u.InvalidRoad]
  InvalidPlaces : EC P w u.K mg base "InvalidPlaces" u.InvalidPlaces 1
  gInvalidPlaces : mg "InvalidPlaces" = some (.ref u.InvalidPlaces)
  iInvalidPlaces : KitOk u.K (kX u u.InvalidPlaces) [.ref u.InvalidPlaces]
  InvalidCount : EC P w u.K mg base "InvalidCount" u.InvalidCount 1
  gInvalidCount : mg "InvalidCount" = some (.ref u.InvalidCount)
  iInvalidCount : KitOk u.K (kX u u.InvalidCount) [.ref u.InvalidCount]
  InvalidFuture : EC P w u.K mg base "InvalidFuture" u.InvalidFuture 1
  gInvalidFuture : mg "InvalidFuture" = some (.ref u.InvalidFuture)
  iInvalidFuture : KitOk u.K (kX u u.InvalidFuture) [.ref u.InvalidFuture]
  InvalidValue : EC P w u.K mg base "InvalidValue" u.InvalidValue 1
  gInvalidValue : mg "InvalidValue" = some (.ref u.InvalidValue)
  iInvalidValue : KitOk u.K (kX u u.InvalidValue) [.ref u.InvalidValue]
  InvalidStore : EC P w u.K mg base "InvalidStore" u.InvalidStore 1
  gInvalidStore : mg "InvalidStore" = some (.ref u.InvalidStore)
  iInvalidStore : KitOk u.K (kX u u.InvalidStore) [.ref u.InvalidStore]
  InvalidInputs : EC P w u.K mg base "InvalidInputs" u.InvalidInputs 1
  gInvalidInputs : mg "InvalidInputs" = some (.ref u.InvalidInputs)
  iInvalidInputs : KitOk u.K (kX u u.InvalidInputs) [.ref u.InvalidInputs]
  InvalidFolding : EC P w u.K mg base "InvalidFolding" u.InvalidFolding 1
  gInvalidFolding : mg "InvalidFolding" = some (.ref u.InvalidFolding)
  iInvalidFolding : KitOk u.K (kX u u.InvalidFolding) [.ref u.InvalidFolding]
  InvalidJournal : EC P w u.K mg base "InvalidJournal" u.InvalidJournal 1
  gInvalidJournal : mg "InvalidJournal" = some (.ref u.InvalidJournal)
  iInvalidJournal : KitOk u.K (kX u u.InvalidJournal) [.ref u.InvalidJournal]
  InvalidSpot : EC P w u.K mg base "InvalidSpot" u.InvalidSpot 1
  gInvalidSpot : mg "InvalidSpot" = some (.ref u.InvalidSpot)
  iInvalidSpot : KitOk u.K (kX u u.InvalidSpot) [.ref u.InvalidSpot]
  InvalidScript : EC P w u.K mg base "InvalidScript" u.InvalidScript 1
  gInvalidScript : mg "InvalidScript" = some (.ref u.InvalidScript)
  iInvalidScript : KitOk u.K (kX u u.InvalidScript) [.ref u.InvalidScript]
  InvalidText : EC P w u.K mg base "InvalidText" u.InvalidText 1
  gInvalidText : mg "InvalidText" = some (.ref u.InvalidText)
  iInvalidText : KitOk u.K (kX u u.InvalidText) [.ref u.InvalidText]
  InvalidRecord : EC P w u.K mg base "InvalidRecord" u.InvalidRecord 1
  gInvalidRecord : mg "InvalidRecord" = some (.ref u.InvalidRecord)
  iInvalidRecord : KitOk u.K (kX u u.InvalidRecord) [.ref u.InvalidRecord]
  Unlike : EC P w u.K mg base "Unlike" u.Unlike 1
  gUnlike : mg "Unlike" = some (.ref u.Unlike)
  iUnlike : KitOk u.K (kX u u.Unlike) [.ref u.Unlike]
  Apart : EC P w u.K mg base "Apart" u.Apart 1
  gApart : mg "Apart" = some (.ref u.Apart)
  iApart : KitOk u.K (kX u u.Apart) [.ref u.Apart]
  Unsettled : EC P w u.K mg base "Unsettled" u.Unsettled 1
  gUnsettled : mg "Unsettled" = some (.ref u.Unsettled)
  iUnsettled : KitOk u.K (kX u u.Unsettled) [.ref u.Unsettled]
  Boundless : EC P w u.K mg base "Boundless" u.Boundless 1
  gBoundless : mg "Boundless" = some (.ref u.Boundless)
  iBoundless : KitOk u.K (kX u u.Boundless) [.ref u.Boundless]
  Refused : EC P w u.K mg base "Refused" u.Refused 1
  gRefused : mg "Refused" = some (.ref u.Refused)
  iRefused : KitOk u.K (kX u u.Refused) [.ref u.Refused]
  gNothingToUndo : mg "NothingToUndo" = some (.ref u.NothingToUndo)
  iNothingToUndo : KitOk u.K (kX u u.NothingToUndo) [.ref u.NothingToUndo]
  xNothingToUndo : PySem.W.excIn u.K u.NothingToUndo PySem.HandSPX.veTail "ValueError.__new__" = true
  kNothingToUndo : PySem.W.keepIn u.K (.ref u.NothingToUndo) = true
  gNothingToRedo : mg "NothingToRedo" = some (.ref u.NothingToRedo)
  iNothingToRedo : KitOk u.K (kX u u.NothingToRedo) [.ref u.NothingToRedo]
  xNothingToRedo : PySem.W.excIn u.K u.NothingToRedo PySem.HandSPX.veTail "ValueError.__new__" = true
  kNothingToRedo : PySem.W.keepIn u.K (.ref u.NothingToRedo) = true
  iValueError : KitOk u.K (kAll u) [.type "ValueError"]
  val : ∀ C, u.isX C = true → XfK u.K C
  sys : (u.K.lookup sysModules).isSome = true
section
variable {P : Program} {w : World} {u : U} {mg : Str → Option Value} {base : Heap}
theorem scz_law_purse : FnScope ["script", "at", "seed"] ["script", "at"] (defScope sz_law_purse) := ⟨rfl, rfl, rfl, by decide +kernel, rfl, by decide +kernel, by decide +kernel⟩
noncomputable def fz_law_purse (u : U) : SF := (sSeq (sAsg (fCall gSum (fCons (fSlS u.K (fVar 0) (oSome (fVar 1)) (oSome (fOp gAdd (fVar 1) (fC (.int 1))))) fNil)) (tgName 2))
    (sRet (fMk (mkC .lst) (fCons (fOp gMod (fCall gInt (fCons (fCall gMax2 (fCons (fOp gSub (fVar 2) (fOp gPow (fC (.int 10)) (fC (.int 18)))) (fCons (fC (.int 0)) fNil))) fNil)) (fOp gPow (fOp gPow (fC (.int 10)) (fC (.int 60))) (fC (.int 8)))) (fCons (fOp gMod (fCall gInt (fCons (fVar 2) fNil)) (fC (.int 2147483629))) (fCons (fC (.int 0)) (fCons (fVar 1) fNil)))))))
noncomputable def gz_law_purse (u : U) : FF := mkFnK 3 (fz_law_purse u)
theorem kz_law_purse {f : Addr} {fd : FuncData} (Fn : Fun u.K "_law_purse" "_law_purse" sz_law_purse f fd) (hm : mg "_law_purse" = some (.ref f)) (b : Binds u.K fd ["script", "at"] []) (B : Bl mg) (T : Ex P w u mg base)  : Cl P w u.K mg base 1 "_law_purse" 2 (gz_law_purse u) :=
  have u_val := T.val
  ⟨f, fd, _, fn_okK Fn scz_law_purse fun cdv A outer s H E hr tk =>
    (dss_cons (ds_set (i := 2) scz_law_purse.nd (de_callB (cd_sum rfl) B.sum (da_cons (de_slS (de_var (i := 0)) (do_some (de_var (i := 1))) (do_some (de_op od_add (de_var (i := 1)) de_int))) da_nil)))
    (dss_one (ds_ret (de_lstC (da_cons (de_op od_mod (de_callTy cd_int B.int (da_cons (de_callB (cd_max2 rfl) B.max (da_cons (de_op od_sub (de_var (i := 2)) (de_op od_pow de_int de_int)) (da_cons de_int da_nil))) da_nil)) (de_op od_pow (de_op od_pow de_int de_int) de_int)) (da_cons (de_op od_mod (de_callTy cd_int B.int (da_cons (de_var (i := 2)) da_nil)) de_int) (da_cons de_int (da_cons (de_var (i := 1)) da_nil)))))))), hm, Fn.kp, b⟩
theorem scz_law_mixed : FnScope ["seed", "turn", "at", "mixed"] ["seed", "turn", "at"] (defScope sz_law_mixed) := ⟨rfl, rfl, rfl, by decide +kernel, rfl, by decide +kernel, by decide +kernel⟩
noncomputable def fz_law_mixed (u : U) : SF := (sSeq (sAsg (fOp gAdd (fOp gMul (fVar 0) (fC (.int 69069))) (fOp gMul (fOp gMul (fC (.int 104729)) (fVar 1)) (fVar 1))) (tgName 3))
    (sSeq (sAsg (fOp gMod (fCall gInt (fCons (fOp gAdd (fOp gAdd (fVar 3) (fOp gMul (fC (.int 7919)) (fVar 2))) (fVar 1)) fNil)) (fC (.int 2147483647))) (tgName 3))
    (sSeq (sAsg (fOp gMod (fCall gInt (fCons (fOp gAdd (fOp gMul (fVar 3) (fVar 3)) (fC (.int 40503))) fNil)) (fC (.int 2147483629))) (tgName 3))
    (sRet (fOp gMod (fCall gInt (fCons (fOp gMul (fVar 3) (fC (.int 48271))) fNil)) (fC (.int 2147483587)))))))
noncomputable def gz_law_mixed (u : U) : FF := mkFn 4 (fz_law_mixed u)
theorem kz_law_mixed {f : Addr} {fd : FuncData} (Fn : Fun u.K "_law_mixed" "_law_mixed" sz_law_mixed f fd) (hm : mg "_law_mixed" = some (.ref f)) (b : Binds u.K fd ["seed", "turn", "at"] []) (B : Bl mg) (T : Ex P w u mg base)  : Cl P w u.K mg base 1 "_law_mixed" 3 (gz_law_mixed u) :=
  have u_val := T.val
  ⟨f, fd, _, fn_ok Fn scz_law_mixed fun cdv A outer s H E hr tk =>
    (dss_cons (ds_set (i := 3) scz_law_mixed.nd (de_op od_add (de_op od_mul (de_var (i := 0)) de_int) (de_op od_mul (de_op od_mul de_int (de_var (i := 1))) (de_var (i := 1)))))
    (dss_cons (ds_set (i := 3) scz_law_mixed.nd (de_op od_mod (de_callTy cd_int B.int (da_cons (de_op od_add (de_op od_add (de_var (i := 3)) (de_op od_mul de_int (de_var (i := 2)))) (de_var (i := 1))) da_nil)) de_int))
    (dss_cons (ds_set (i := 3) scz_law_mixed.nd (de_op od_mod (de_callTy cd_int B.int (da_cons (de_op od_add (de_op od_mul (de_var (i := 3)) (de_var (i := 3))) de_int) da_nil)) de_int))
    (dss_one (ds_ret (de_op od_mod (de_callTy cd_int B.int (da_cons (de_op od_mul (de_var (i := 3)) de_int) da_nil)) de_int)))))), hm, Fn.kp, b⟩
theorem scz_law_draw : FnScope ["purse", "many", "drawn", "found", "piece"] ["purse", "many"] (defScope sz_law_draw) := ⟨rfl, rfl, rfl, by decide +kernel, rfl, by decide +kernel, by decide +kernel⟩
noncomputable def fz_law_draw (u : U) : SF := (sSeq (sIf (fTst (fOp gGt (fOp gAt (fVar 0) (fC (.int 0))) (fC (.int 0)))) (sSeq (sAsg (fOp gMod (fCall gInt (fCons (fOp gAt (fVar 0) (fC (.int 0))) fNil)) (fVar 1)) (tgName 2))
    (sSeq (sAsg (fOp gFdiv (fOp gAt (fVar 0) (fC (.int 0))) (fVar 1)) (tgSub (fVar 0) (fC (.int 0))))
    (sRet (fVar 2)))) sNil)
    (sSeq (sAsg (fC (.int 0)) (tgName 3))
    (sSeq (sFor (iR1 (fCons (fOp gAdd (fC (.int 1)) (fOp gFdiv (fUn gBits (fVar 1)) (fC (.int 28)))) fNil)) (tgName 4) (sSeq (sAsg (fOp gAdd (fOp gAt (fVar 0) (fC (.int 2))) (fC (.int 1))) (tgSub (fVar 0) (fC (.int 2))))
    (sAsg (fOp gAdd (fOp gMul (fVar 3) (fC (.int 2147483587))) (fCall (arg 3 (gz_law_mixed u)) (fCons (fOp gAt (fVar 0) (fC (.int 1))) (fCons (fOp gAt (fVar 0) (fC (.int 2))) (fCons (fOp gAt (fVar 0) (fC (.int 3))) fNil))))) (tgName 3))))
    (sRet (fOp gMod (fCall gInt (fCons (fVar 3) fNil)) (fVar 1))))))
noncomputable def gz_law_draw (u : U) : FF := mkFn 5 (fz_law_draw u)
theorem kz_law_draw {f : Addr} {fd : FuncData} (Fn : Fun u.K "_law_draw" "_law_draw" sz_law_draw f fd) (hm : mg "_law_draw" = some (.ref f)) (b : Binds u.K fd ["purse", "many"] []) (B : Bl mg) (T : Ex P w u mg base) (cz_law_mixed : Cl P w u.K mg base 1 "_law_mixed" 3 (gz_law_mixed u)) : Cl P w u.K mg base 2 "_law_draw" 2 (gz_law_draw u) :=
  have u_val := T.val
  ⟨f, fd, _, fn_ok Fn scz_law_draw fun cdv A outer s H E hr tk =>
    (dss_cons (ds_if (dt_cmp od_gt (de_at hr (de_var (i := 0)) de_int) de_int (nomark _)) (dss_cons (ds_set (i := 2) scz_law_draw.nd (de_op od_mod (de_callTy cd_int B.int (da_cons (de_at hr (de_var (i := 0)) de_int) da_nil)) (de_var (i := 1))))
    (dss_cons (ds_asg (de_op od_fdiv (de_at hr (de_var (i := 0)) de_int) (de_var (i := 1))) (dg_sub (W := W0) hr (de_var (i := 0)) de_int))
    (dss_one (ds_ret (de_var (i := 2)))))) dss_nil)
    (dss_cons (ds_set (i := 3) scz_law_draw.nd de_int)
    (dss_cons (ds_for (passes_of rfl) rfl (di_range1 B.range (da_cons (de_op od_add de_int (de_op od_fdiv (de_bits (de_var (i := 1))) de_int)) da_nil)) (dg_name (i := 4) scz_law_draw.nd) (dss_cons (ds_asg (de_op od_add (de_at hr (de_var (i := 0)) de_int) de_int) (dg_sub (W := W0) hr (de_var (i := 0)) de_int))
    (dss_one (ds_set (i := 3) scz_law_draw.nd (de_op od_add (de_op od_mul (de_var (i := 3)) de_int) (de_cl cz_law_mixed tk (hr.mono (by decide)) (da_cons (de_at hr (de_var (i := 0)) de_int) (da_cons (de_at hr (de_var (i := 0)) de_int) (da_cons (de_at hr (de_var (i := 0)) de_int) da_nil)))))))))
    (dss_one (ds_ret (de_op od_mod (de_callTy cd_int B.int (da_cons (de_var (i := 3)) da_nil)) (de_var (i := 1)))))))), hm, Fn.kp, b⟩
theorem scz_law_purses : FnScope ["script", "few", "at"] ["script", "few"] (defScope sz_law_purses) := ⟨rfl, rfl, rfl, by decide +kernel, rfl, by decide +kernel, by decide +kernel⟩
noncomputable def fz_law_purses (u : U) : SF := (sRet (fLc [2] (iR1 (fCons (fCall gMax2 (fCons (fC (.int 1)) (fCons (fCall gMin2 (fCons (fVar 1) (fCons (fCall (gLenS u.K) (fCons (fVar 0) fNil)) fNil))) fNil))) fNil)) (tgName 2) tfY (fCall (arg 2 (gz_law_purse u)) (fCons (fVar 0) (fCons (fVar 2) fNil))) mkL))
noncomputable def gz_law_purses (u : U) : FF := mkFnK 3 (fz_law_purses u)
theorem kz_law_purses {f : Addr} {fd : FuncData} (Fn : Fun u.K "_law_purses" "_law_purses" sz_law_purses f fd) (hm : mg "_law_purses" = some (.ref f)) (b : Binds u.K fd ["script", "few"] []) (B : Bl mg) (T : Ex P w u mg base) (cz_law_purse : Cl P w u.K mg base 1 "_law_purse" 2 (gz_law_purse u)) : Cl P w u.K mg base 2 "_law_purses" 2 (gz_law_purses u) :=
  have u_val := T.val
  ⟨f, fd, _, fn_okK Fn scz_law_purses fun cdv A outer s H E hr tk =>
    (dss_one (ds_ret (de_lc (own := [("at", 2)]) mkL_ok rfl scz_law_purses.nd (di_range1 B.range (da_cons (de_callB (cd_max2 rfl) B.max (da_cons de_int (da_cons (de_callB (cd_min2 rfl) B.min (da_cons (de_var (i := 1)) (da_cons (de_callB cd_lenS B.len (da_cons (de_var (i := 0)) da_nil)) da_nil))) da_nil))) da_nil)) (by show blkC ["script", "few", "at"] (defScope sz_law_purses) _ _ = true; decide +kernel) (fun _ _ _ _ _ => (dg_name (i := 2) scz_law_purses.nd)) (fun _ _ _ _ _ => dts_nil) (fun _ _ _ _ _ => (de_cl cz_law_purse takes0 (hr.mono (by decide)) (da_cons (de_var (i := 0)) (da_cons (de_var (i := 2)) da_nil))))))), hm, Fn.kp, b⟩
theorem scz_law_one_of : FnScope ["purse", "some"] ["purse", "some"] (defScope sz_law_one_of) := ⟨rfl, rfl, rfl, by decide +kernel, rfl, by decide +kernel, by decide +kernel⟩
noncomputable def fz_law_one_of (u : U) : SF := (sRet (fOp gAt (fVar 1) (fCall (arg 2 (gz_law_draw u)) (fCons (fVar 0) (fCons (fCall gLen (fCons (fVar 1) fNil)) fNil)))))
noncomputable def gz_law_one_of (u : U) : FF := mkFn 2 (fz_law_one_of u)
theorem kz_law_one_of {f : Addr} {fd : FuncData} (Fn : Fun u.K "_law_one_of" "_law_one_of" sz_law_one_of f fd) (hm : mg "_law_one_of" = some (.ref f)) (b : Binds u.K fd ["purse", "some"] []) (B : Bl mg) (T : Ex P w u mg base) (cz_law_draw : Cl P w u.K mg base 2 "_law_draw" 2 (gz_law_draw u)) : Cl P w u.K mg base 3 "_law_one_of" 2 (gz_law_one_of u) :=
  have u_val := T.val
  ⟨f, fd, _, fn_ok Fn scz_law_one_of fun cdv A outer s H E hr tk =>
    (dss_one (ds_ret (de_at hr (de_var (i := 1)) (de_cl cz_law_draw tk (hr.mono (by decide)) (da_cons (de_var (i := 0)) (da_cons (de_callB cd_len B.len (da_cons (de_var (i := 1)) da_nil)) da_nil)))))), hm, Fn.kp, b⟩
theorem scz_law_word : FnScope ["purse", "size", "turn"] ["purse"] (defScope sz_law_word) := ⟨rfl, rfl, rfl, by decide +kernel, rfl, by decide +kernel, by decide +kernel⟩
noncomputable def fz_law_word (u : U) : SF := (sSeq (sAsg (fOp gAdd (fC (.int 1)) (fCall (arg 2 (gz_law_draw u)) (fCons (fVar 0) (fCons (fIf (fTst (fOp gEq (fCall (arg 2 (gz_law_draw u)) (fCons (fVar 0) (fCons (fC (.int 3)) fNil))) (fC (.int 0)))) (fC (.int 8)) (fC (.int 3))) fNil)))) (tgName 1))
    (sRet (fBm "str" gJoin (fC (.str "")) (fCons (fLc [2] (iR1 (fCons (fVar 1) fNil)) (tgName 2) tfY (fOp gAt (fC (.str "abcdefghijklmnopqrstuvwxyz")) (fCall (arg 2 (gz_law_draw u)) (fCons (fVar 0) (fCons (fC (.int 26)) fNil)))) mkL) fNil))))
noncomputable def gz_law_word (u : U) : FF := mkFn 3 (fz_law_word u)
theorem kz_law_word {f : Addr} {fd : FuncData} (Fn : Fun u.K "_law_word" "_law_word" sz_law_word f fd) (hm : mg "_law_word" = some (.ref f)) (b : Binds u.K fd ["purse"] []) (B : Bl mg) (T : Ex P w u mg base) (cz_law_draw : Cl P w u.K mg base 2 "_law_draw" 2 (gz_law_draw u)) : Cl P w u.K mg base 3 "_law_word" 1 (gz_law_word u) :=
  have u_val := T.val
  ⟨f, fd, _, fn_ok Fn scz_law_word fun cdv A outer s H E hr tk =>
    (dss_cons (ds_set (i := 1) scz_law_word.nd (de_op od_add de_int (de_cl cz_law_draw tk (hr.mono (by decide)) (da_cons (de_var (i := 0)) (da_cons (de_if (dt_cmp (od_eq hr.units) (de_cl cz_law_draw tk (hr.mono (by decide)) (da_cons (de_var (i := 0)) (da_cons de_int da_nil))) de_int (nomark _)) de_int de_int) da_nil)))))
    (dss_one (ds_ret (de_bm PySem.F.plainAttrs_str PySem.F.slot_str_join PySem.F.type_str_join md_join de_str (da_cons (de_lc (own := [("turn", 2)]) mkL_ok rfl scz_law_word.nd (di_range1 B.range (da_cons (de_var (i := 1)) da_nil)) (by show blkC ["purse", "size", "turn"] (defScope sz_law_word) _ _ = true; decide +kernel) (fun _ _ _ _ _ => (dg_name (i := 2) scz_law_word.nd)) (fun _ _ _ _ _ => dts_nil) (fun _ _ _ _ _ => (de_at hr de_str (de_cl cz_law_draw takes0 (hr.mono (by decide)) (da_cons (de_var (i := 0)) (da_cons de_int da_nil)))))) da_nil))))), hm, Fn.kp, b⟩
theorem scz_law_first : FnScope ["thing", "found"] ["thing"] (defScope sz_law_first) := ⟨rfl, rfl, rfl, by decide +kernel, rfl, by decide +kernel, by decide +kernel⟩
noncomputable def fz_law_first (u : U) : SF := (sSeq (sAsg (fMk (mkF .lst) (fCons (fExc u.InvalidKind (fVar 0)) (fCons (fExc u.InvalidTable (fVar 0)) (fCons (fExc u.InvalidKinds (fVar 0)) (fCons (fExc u.InvalidPairs (fVar 0)) fNil))))) (tgName 1))
    (sSeq (sAsg (fOp gAdd (fVar 1) (fMk (mkF .lst) (fCons (fExc u.InvalidWord (fVar 0)) (fCons (fExc u.InvalidRule (fVar 0)) (fCons (fExc u.InvalidMap (fVar 0)) (fCons (fExc u.InvalidNames (fVar 0)) fNil)))))) (tgName 1))
    (sSeq (sAsg (fOp gAdd (fVar 1) (fMk (mkF .lst) (fCons (fExc u.InvalidBook (fVar 0)) (fCons (fExc u.InvalidName (fVar 0)) (fCons (fExc u.InvalidLog (fVar 0)) (fCons (fExc u.InvalidLogs (fVar 0)) fNil)))))) (tgName 1))
    (sSeq (sAsg (fOp gAdd (fVar 1) (fMk (mkF .lst) (fCons (fExc u.InvalidMerging (fVar 0)) (fCons (fExc u.InvalidStrike (fVar 0)) (fCons (fExc u.InvalidRoad (fVar 0)) (fCons (fExc u.InvalidPlaces (fVar 0)) fNil)))))) (tgName 1))
    (sSeq (sAsg (fOp gAdd (fVar 1) (fMk (mkF .lst) (fCons (fExc u.InvalidCount (fVar 0)) (fCons (fExc u.InvalidFuture (fVar 0)) (fCons (fExc u.InvalidValue (fVar 0)) (fCons (fExc u.InvalidStore (fVar 0)) fNil)))))) (tgName 1))
    (sSeq (sAsg (fOp gAdd (fVar 1) (fMk (mkF .lst) (fCons (fExc u.InvalidInputs (fVar 0)) (fCons (fExc u.InvalidFolding (fVar 0)) (fCons (fExc u.InvalidJournal (fVar 0)) (fCons (fExc u.InvalidSpot (fVar 0)) fNil)))))) (tgName 1))
    (sSeq (sAsg (fOp gAdd (fVar 1) (fMk (mkF .lst) (fCons (fExc u.InvalidScript (fVar 0)) (fCons (fExc u.InvalidText (fVar 0)) (fCons (fExc u.InvalidRecord (fVar 0)) (fCons (fExc u.Unlike (fVar 0)) (fCons (fExc u.Apart (fVar 0)) fNil))))))) (tgName 1))
    (sSeq (sAsg (fOp gAdd (fVar 1) (fMk (mkF .lst) (fCons (fExc u.Unsettled (fVar 0)) (fCons (fExc u.Boundless (fVar 0)) (fCons (fExc u.Refused (fVar 0)) fNil))))) (tgName 1))
    (sRet (fVar 1))))))))))
noncomputable def gz_law_first (u : U) : FF := mkFn 2 (fz_law_first u)
theorem kz_law_first {f : Addr} {fd : FuncData} (Fn : Fun u.K "_law_first" "_law_first" sz_law_first f fd) (hm : mg "_law_first" = some (.ref f)) (b : Binds u.K fd ["thing"] []) (B : Bl mg) (T : Ex P w u mg base)  : Cl P w u.K mg base 3 "_law_first" 1 (gz_law_first u) :=
  have u_val := T.val
  ⟨f, fd, _, fn_ok Fn scz_law_first fun cdv A outer s H E hr tk =>
    (dss_cons (ds_set (i := 1) scz_law_first.nd (de_lst (da_cons (de_exc (T.InvalidKind) tk (hr.mono (by decide)) (de_var (i := 0))) (da_cons (de_exc (T.InvalidTable) tk (hr.mono (by decide)) (de_var (i := 0))) (da_cons (de_exc (T.InvalidKinds) tk (hr.mono (by decide)) (de_var (i := 0))) (da_cons (de_exc (T.InvalidPairs) tk (hr.mono (by decide)) (de_var (i := 0))) da_nil))))))
    (dss_cons (ds_set (i := 1) scz_law_first.nd (de_op od_add (de_var (i := 1)) (de_lst (da_cons (de_exc (T.InvalidWord) tk (hr.mono (by decide)) (de_var (i := 0))) (da_cons (de_exc (T.InvalidRule) tk (hr.mono (by decide)) (de_var (i := 0))) (da_cons (de_exc (T.InvalidMap) tk (hr.mono (by decide)) (de_var (i := 0))) (da_cons (de_exc (T.InvalidNames) tk (hr.mono (by decide)) (de_var (i := 0))) da_nil)))))))
    (dss_cons (ds_set (i := 1) scz_law_first.nd (de_op od_add (de_var (i := 1)) (de_lst (da_cons (de_exc (T.InvalidBook) tk (hr.mono (by decide)) (de_var (i := 0))) (da_cons (de_exc (T.InvalidName) tk (hr.mono (by decide)) (de_var (i := 0))) (da_cons (de_exc (T.InvalidLog) tk (hr.mono (by decide)) (de_var (i := 0))) (da_cons (de_exc (T.InvalidLogs) tk (hr.mono (by decide)) (de_var (i := 0))) da_nil)))))))
    (dss_cons (ds_set (i := 1) scz_law_first.nd (de_op od_add (de_var (i := 1)) (de_lst (da_cons (de_exc (T.InvalidMerging) tk (hr.mono (by decide)) (de_var (i := 0))) (da_cons (de_exc (T.InvalidStrike) tk (hr.mono (by decide)) (de_var (i := 0))) (da_cons (de_exc (T.InvalidRoad) tk (hr.mono (by decide)) (de_var (i := 0))) (da_cons (de_exc (T.InvalidPlaces) tk (hr.mono (by decide)) (de_var (i := 0))) da_nil)))))))
    (dss_cons (ds_set (i := 1) scz_law_first.nd (de_op od_add (de_var (i := 1)) (de_lst (da_cons (de_exc (T.InvalidCount) tk (hr.mono (by decide)) (de_var (i := 0))) (da_cons (de_exc (T.InvalidFuture) tk (hr.mono (by decide)) (de_var (i := 0))) (da_cons (de_exc (T.InvalidValue) tk (hr.mono (by decide)) (de_var (i := 0))) (da_cons (de_exc (T.InvalidStore) tk (hr.mono (by decide)) (de_var (i := 0))) da_nil)))))))
    (dss_cons (ds_set (i := 1) scz_law_first.nd (de_op od_add (de_var (i := 1)) (de_lst (da_cons (de_exc (T.InvalidInputs) tk (hr.mono (by decide)) (de_var (i := 0))) (da_cons (de_exc (T.InvalidFolding) tk (hr.mono (by decide)) (de_var (i := 0))) (da_cons (de_exc (T.InvalidJournal) tk (hr.mono (by decide)) (de_var (i := 0))) (da_cons (de_exc (T.InvalidSpot) tk (hr.mono (by decide)) (de_var (i := 0))) da_nil)))))))
    (dss_cons (ds_set (i := 1) scz_law_first.nd (de_op od_add (de_var (i := 1)) (de_lst (da_cons (de_exc (T.InvalidScript) tk (hr.mono (by decide)) (de_var (i := 0))) (da_cons (de_exc (T.InvalidText) tk (hr.mono (by decide)) (de_var (i := 0))) (da_cons (de_exc (T.InvalidRecord) tk (hr.mono (by decide)) (de_var (i := 0))) (da_cons (de_exc (T.Unlike) tk (hr.mono (by decide)) (de_var (i := 0))) (da_cons (de_exc (T.Apart) tk (hr.mono (by decide)) (de_var (i := 0))) da_nil))))))))
    (dss_cons (ds_set (i := 1) scz_law_first.nd (de_op od_add (de_var (i := 1)) (de_lst (da_cons (de_exc (T.Unsettled) tk (hr.mono (by decide)) (de_var (i := 0))) (da_cons (de_exc (T.Boundless) tk (hr.mono (by decide)) (de_var (i := 0))) (da_cons (de_exc (T.Refused) tk (hr.mono (by decide)) (de_var (i := 0))) da_nil))))))
    (dss_one (ds_ret (de_var (i := 1)))))))))))), hm, Fn.kp, b⟩
theorem scz_law_called : FnScope ["thing", "found"] ["thing"] (defScope sz_law_called) := ⟨rfl, rfl, rfl, by decide +kernel, rfl, by decide +kernel, by decide +kernel⟩
noncomputable def fz_law_called (u : U) : SF := (sSeq (sAsg (fMk (mkF .lst) (fCons (fExc u.InvalidKind (fVar 0)) (fCons (fExc u.InvalidTable (fVar 0)) (fCons (fExc u.InvalidKinds (fVar 0)) fNil)))) (tgName 1))
    (sSeq (sAsg (fOp gAdd (fVar 1) (fMk (mkF .lst) (fCons (fExc u.InvalidPairs (fVar 0)) (fCons (fExc u.InvalidWord (fVar 0)) (fCons (fExc u.InvalidRule (fVar 0)) fNil))))) (tgName 1))
    (sSeq (sAsg (fOp gAdd (fVar 1) (fMk (mkF .lst) (fCons (fExc u.InvalidMap (fVar 0)) (fCons (fExc u.InvalidNames (fVar 0)) (fCons (fExc u.InvalidBook (fVar 0)) fNil))))) (tgName 1))
    (sSeq (sAsg (fOp gAdd (fVar 1) (fMk (mkF .lst) (fCons (fExc u.InvalidName (fVar 0)) (fCons (fExc u.InvalidLog (fVar 0)) (fCons (fExc u.InvalidLogs (fVar 0)) fNil))))) (tgName 1))
    (sSeq (sAsg (fOp gAdd (fVar 1) (fMk (mkF .lst) (fCons (fExc u.InvalidMerging (fVar 0)) (fCons (fExc u.InvalidStrike (fVar 0)) (fCons (fExc u.InvalidRoad (fVar 0)) fNil))))) (tgName 1))
    (sSeq (sAsg (fOp gAdd (fVar 1) (fMk (mkF .lst) (fCons (fExc u.InvalidPlaces (fVar 0)) (fCons (fExc u.InvalidCount (fVar 0)) (fCons (fExc u.InvalidFuture (fVar 0)) fNil))))) (tgName 1))
    (sSeq (sAsg (fOp gAdd (fVar 1) (fMk (mkF .lst) (fCons (fExc u.InvalidValue (fVar 0)) (fCons (fExc u.InvalidStore (fVar 0)) (fCons (fExc u.InvalidInputs (fVar 0)) fNil))))) (tgName 1))
    (sSeq (sAsg (fOp gAdd (fVar 1) (fMk (mkF .lst) (fCons (fExc u.InvalidFolding (fVar 0)) (fCons (fExc u.InvalidJournal (fVar 0)) (fCons (fExc u.InvalidSpot (fVar 0)) fNil))))) (tgName 1))
    (sSeq (sAsg (fOp gAdd (fVar 1) (fMk (mkF .lst) (fCons (fExc u.InvalidScript (fVar 0)) (fCons (fExc u.InvalidText (fVar 0)) (fCons (fExc u.InvalidRecord (fVar 0)) fNil))))) (tgName 1))
    (sSeq (sAsg (fOp gAdd (fVar 1) (fMk (mkF .lst) (fCons (fExc u.Unlike (fVar 0)) (fCons (fExc u.Apart (fVar 0)) (fCons (fExc u.Unsettled (fVar 0)) (fCons (fExc u.Boundless (fVar 0)) fNil)))))) (tgName 1))
    (sSeq (sAsg (fOp gAdd (fVar 1) (fMk (mkF .lst) (fCons (fExc u.Refused (fVar 0)) fNil))) (tgName 1))
    (sRet (fVar 1)))))))))))))
noncomputable def gz_law_called (u : U) : FF := mkFn 2 (fz_law_called u)
theorem kz_law_called {f : Addr} {fd : FuncData} (Fn : Fun u.K "_law_called" "_law_called" sz_law_called f fd) (hm : mg "_law_called" = some (.ref f)) (b : Binds u.K fd ["thing"] []) (B : Bl mg) (T : Ex P w u mg base)  : Cl P w u.K mg base 3 "_law_called" 1 (gz_law_called u) :=
  have u_val := T.val
  ⟨f, fd, _, fn_ok Fn scz_law_called fun cdv A outer s H E hr tk =>
    (dss_cons (ds_set (i := 1) scz_law_called.nd (de_lst (da_cons (de_excK (T.InvalidKind) tk (hr.mono (by decide)) (de_var (i := 0))) (da_cons (de_excK (T.InvalidTable) tk (hr.mono (by decide)) (de_var (i := 0))) (da_cons (de_excK (T.InvalidKinds) tk (hr.mono (by decide)) (de_var (i := 0))) da_nil)))))
    (dss_cons (ds_set (i := 1) scz_law_called.nd (de_op od_add (de_var (i := 1)) (de_lst (da_cons (de_excK (T.InvalidPairs) tk (hr.mono (by decide)) (de_var (i := 0))) (da_cons (de_excK (T.InvalidWord) tk (hr.mono (by decide)) (de_var (i := 0))) (da_cons (de_excK (T.InvalidRule) tk (hr.mono (by decide)) (de_var (i := 0))) da_nil))))))
    (dss_cons (ds_set (i := 1) scz_law_called.nd (de_op od_add (de_var (i := 1)) (de_lst (da_cons (de_excK (T.InvalidMap) tk (hr.mono (by decide)) (de_var (i := 0))) (da_cons (de_excK (T.InvalidNames) tk (hr.mono (by decide)) (de_var (i := 0))) (da_cons (de_excK (T.InvalidBook) tk (hr.mono (by decide)) (de_var (i := 0))) da_nil))))))
    (dss_cons (ds_set (i := 1) scz_law_called.nd (de_op od_add (de_var (i := 1)) (de_lst (da_cons (de_excK (T.InvalidName) tk (hr.mono (by decide)) (de_var (i := 0))) (da_cons (de_excK (T.InvalidLog) tk (hr.mono (by decide)) (de_var (i := 0))) (da_cons (de_excK (T.InvalidLogs) tk (hr.mono (by decide)) (de_var (i := 0))) da_nil))))))
    (dss_cons (ds_set (i := 1) scz_law_called.nd (de_op od_add (de_var (i := 1)) (de_lst (da_cons (de_excK (T.InvalidMerging) tk (hr.mono (by decide)) (de_var (i := 0))) (da_cons (de_excK (T.InvalidStrike) tk (hr.mono (by decide)) (de_var (i := 0))) (da_cons (de_excK (T.InvalidRoad) tk (hr.mono (by decide)) (de_var (i := 0))) da_nil))))))
    (dss_cons (ds_set (i := 1) scz_law_called.nd (de_op od_add (de_var (i := 1)) (de_lst (da_cons (de_excK (T.InvalidPlaces) tk (hr.mono (by decide)) (de_var (i := 0))) (da_cons (de_excK (T.InvalidCount) tk (hr.mono (by decide)) (de_var (i := 0))) (da_cons (de_excK (T.InvalidFuture) tk (hr.mono (by decide)) (de_var (i := 0))) da_nil))))))
    (dss_cons (ds_set (i := 1) scz_law_called.nd (de_op od_add (de_var (i := 1)) (de_lst (da_cons (de_excK (T.InvalidValue) tk (hr.mono (by decide)) (de_var (i := 0))) (da_cons (de_excK (T.InvalidStore) tk (hr.mono (by decide)) (de_var (i := 0))) (da_cons (de_excK (T.InvalidInputs) tk (hr.mono (by decide)) (de_var (i := 0))) da_nil))))))
    (dss_cons (ds_set (i := 1) scz_law_called.nd (de_op od_add (de_var (i := 1)) (de_lst (da_cons (de_excK (T.InvalidFolding) tk (hr.mono (by decide)) (de_var (i := 0))) (da_cons (de_excK (T.InvalidJournal) tk (hr.mono (by decide)) (de_var (i := 0))) (da_cons (de_excK (T.InvalidSpot) tk (hr.mono (by decide)) (de_var (i := 0))) da_nil))))))
    (dss_cons (ds_set (i := 1) scz_law_called.nd (de_op od_add (de_var (i := 1)) (de_lst (da_cons (de_excK (T.InvalidScript) tk (hr.mono (by decide)) (de_var (i := 0))) (da_cons (de_excK (T.InvalidText) tk (hr.mono (by decide)) (de_var (i := 0))) (da_cons (de_excK (T.InvalidRecord) tk (hr.mono (by decide)) (de_var (i := 0))) da_nil))))))
    (dss_cons (ds_set (i := 1) scz_law_called.nd (de_op od_add (de_var (i := 1)) (de_lst (da_cons (de_excK (T.Unlike) tk (hr.mono (by decide)) (de_var (i := 0))) (da_cons (de_excK (T.Apart) tk (hr.mono (by decide)) (de_var (i := 0))) (da_cons (de_excK (T.Unsettled) tk (hr.mono (by decide)) (de_var (i := 0))) (da_cons (de_excK (T.Boundless) tk (hr.mono (by decide)) (de_var (i := 0))) da_nil)))))))
    (dss_cons (ds_set (i := 1) scz_law_called.nd (de_op od_add (de_var (i := 1)) (de_lst (da_cons (de_excK (T.Refused) tk (hr.mono (by decide)) (de_var (i := 0))) da_nil))))
    (dss_one (ds_ret (de_var (i := 1))))))))))))))), hm, Fn.kp, b⟩
theorem scz_law_bare : FnScope ["found"] [] (defScope sz_law_bare) := ⟨rfl, rfl, rfl, by decide +kernel, rfl, by decide +kernel, by decide +kernel⟩
noncomputable def fz_law_bare (u : U) : SF := (sSeq (sAsg (fMk (mkF .lst) (fCons (fun _ => ret (.exc u.InvalidKind [.non])) (fCons (fun _ => ret (.exc u.InvalidTable [.non])) (fCons (fun _ => ret (.exc u.InvalidKinds [.non])) (fCons (fun _ => ret (.exc u.InvalidPairs [.non])) (fCons (fun _ => ret (.exc u.InvalidWord [.non])) (fCons (fun _ => ret (.exc u.InvalidRule [.non])) fNil))))))) (tgName 0))
    (sSeq (sAsg (fOp gAdd (fVar 0) (fMk (mkF .lst) (fCons (fun _ => ret (.exc u.InvalidMap [.non])) (fCons (fun _ => ret (.exc u.InvalidNames [.non])) (fCons (fun _ => ret (.exc u.InvalidBook [.non])) (fCons (fun _ => ret (.exc u.InvalidName [.non])) (fCons (fun _ => ret (.exc u.InvalidLog [.non])) (fCons (fun _ => ret (.exc u.InvalidLogs [.non])) fNil)))))))) (tgName 0))
    (sSeq (sAsg (fOp gAdd (fVar 0) (fMk (mkF .lst) (fCons (fun _ => ret (.exc u.InvalidMerging [.non])) (fCons (fun _ => ret (.exc u.InvalidStrike [.non])) (fCons (fun _ => ret (.exc u.InvalidRoad [.non])) (fCons (fun _ => ret (.exc u.InvalidPlaces [.non])) (fCons (fun _ => ret (.exc u.InvalidCount [.non])) fNil))))))) (tgName 0))
    (sSeq (sAsg (fOp gAdd (fVar 0) (fMk (mkF .lst) (fCons (fun _ => ret (.exc u.InvalidFuture [.non])) (fCons (fun _ => ret (.exc u.InvalidValue [.non])) (fCons (fun _ => ret (.exc u.InvalidStore [.non])) (fCons (fun _ => ret (.exc u.InvalidInputs [.non])) (fCons (fun _ => ret (.exc u.InvalidFolding [.non])) fNil))))))) (tgName 0))
    (sSeq (sAsg (fOp gAdd (fVar 0) (fMk (mkF .lst) (fCons (fun _ => ret (.exc u.InvalidJournal [.non])) (fCons (fun _ => ret (.exc u.InvalidSpot [.non])) (fCons (fun _ => ret (.exc u.InvalidScript [.non])) (fCons (fun _ => ret (.exc u.InvalidText [.non])) (fCons (fun _ => ret (.exc u.InvalidRecord [.non])) (fCons (fun _ => ret (.exc u.Unlike [.non])) fNil)))))))) (tgName 0))
    (sSeq (sAsg (fOp gAdd (fVar 0) (fMk (mkF .lst) (fCons (fun _ => ret (.exc u.Apart [.non])) (fCons (fun _ => ret (.exc u.Unsettled [.non])) (fCons (fun _ => ret (.exc u.Boundless [.non])) (fCons (fun _ => ret (.exc u.Refused [.non])) fNil)))))) (tgName 0))
    (sRet (fVar 0))))))))
noncomputable def gz_law_bare (u : U) : FF := mkFn 1 (fz_law_bare u)
theorem kz_law_bare {f : Addr} {fd : FuncData} (Fn : Fun u.K "_law_bare" "_law_bare" sz_law_bare f fd) (hm : mg "_law_bare" = some (.ref f)) (b : Binds u.K fd [] []) (B : Bl mg) (T : Ex P w u mg base)  : Cl P w u.K mg base 3 "_law_bare" 0 (gz_law_bare u) :=
  have u_val := T.val
  ⟨f, fd, _, fn_ok Fn scz_law_bare fun cdv A outer s H E hr tk =>
    (dss_cons (ds_set (i := 0) scz_law_bare.nd (de_lst (da_cons (de_exc0 (T.InvalidKind) tk (hr.mono (by decide))) (da_cons (de_exc0 (T.InvalidTable) tk (hr.mono (by decide))) (da_cons (de_exc0 (T.InvalidKinds) tk (hr.mono (by decide))) (da_cons (de_exc0 (T.InvalidPairs) tk (hr.mono (by decide))) (da_cons (de_exc0 (T.InvalidWord) tk (hr.mono (by decide))) (da_cons (de_exc0 (T.InvalidRule) tk (hr.mono (by decide))) da_nil))))))))
    (dss_cons (ds_set (i := 0) scz_law_bare.nd (de_op od_add (de_var (i := 0)) (de_lst (da_cons (de_exc0 (T.InvalidMap) tk (hr.mono (by decide))) (da_cons (de_exc0 (T.InvalidNames) tk (hr.mono (by decide))) (da_cons (de_exc0 (T.InvalidBook) tk (hr.mono (by decide))) (da_cons (de_exc0 (T.InvalidName) tk (hr.mono (by decide))) (da_cons (de_exc0 (T.InvalidLog) tk (hr.mono (by decide))) (da_cons (de_exc0 (T.InvalidLogs) tk (hr.mono (by decide))) da_nil)))))))))
    (dss_cons (ds_set (i := 0) scz_law_bare.nd (de_op od_add (de_var (i := 0)) (de_lst (da_cons (de_exc0 (T.InvalidMerging) tk (hr.mono (by decide))) (da_cons (de_exc0 (T.InvalidStrike) tk (hr.mono (by decide))) (da_cons (de_exc0 (T.InvalidRoad) tk (hr.mono (by decide))) (da_cons (de_exc0 (T.InvalidPlaces) tk (hr.mono (by decide))) (da_cons (de_exc0 (T.InvalidCount) tk (hr.mono (by decide))) da_nil))))))))
    (dss_cons (ds_set (i := 0) scz_law_bare.nd (de_op od_add (de_var (i := 0)) (de_lst (da_cons (de_exc0 (T.InvalidFuture) tk (hr.mono (by decide))) (da_cons (de_exc0 (T.InvalidValue) tk (hr.mono (by decide))) (da_cons (de_exc0 (T.InvalidStore) tk (hr.mono (by decide))) (da_cons (de_exc0 (T.InvalidInputs) tk (hr.mono (by decide))) (da_cons (de_exc0 (T.InvalidFolding) tk (hr.mono (by decide))) da_nil))))))))
    (dss_cons (ds_set (i := 0) scz_law_bare.nd (de_op od_add (de_var (i := 0)) (de_lst (da_cons (de_exc0 (T.InvalidJournal) tk (hr.mono (by decide))) (da_cons (de_exc0 (T.InvalidSpot) tk (hr.mono (by decide))) (da_cons (de_exc0 (T.InvalidScript) tk (hr.mono (by decide))) (da_cons (de_exc0 (T.InvalidText) tk (hr.mono (by decide))) (da_cons (de_exc0 (T.InvalidRecord) tk (hr.mono (by decide))) (da_cons (de_exc0 (T.Unlike) tk (hr.mono (by decide))) da_nil)))))))))
    (dss_cons (ds_set (i := 0) scz_law_bare.nd (de_op od_add (de_var (i := 0)) (de_lst (da_cons (de_exc0 (T.Apart) tk (hr.mono (by decide))) (da_cons (de_exc0 (T.Unsettled) tk (hr.mono (by decide))) (da_cons (de_exc0 (T.Boundless) tk (hr.mono (by decide))) (da_cons (de_exc0 (T.Refused) tk (hr.mono (by decide))) da_nil)))))))
    (dss_one (ds_ret (de_var (i := 0)))))))))), hm, Fn.kp, b⟩
theorem scz_law_code : FnScope ["error", "found", "at"] ["error"] (defScope sz_law_code) := ⟨rfl, rfl, rfl, by decide +kernel, rfl, by decide +kernel, by decide +kernel⟩
noncomputable def fz_law_code (u : U) : SF := (sSeq (sAsg (fMk (mkF .lst) (fCons (fun ρ => bnd ((fVar 0) ρ) (gIsi (kX u u.InvalidKind))) (fCons (fun ρ => bnd ((fVar 0) ρ) (gIsi (kX u u.InvalidTable))) (fCons (fun ρ => bnd ((fVar 0) ρ) (gIsi (kX u u.InvalidKinds))) fNil)))) (tgName 1))
    (sSeq (sAsg (fOp gAdd (fVar 1) (fMk (mkF .lst) (fCons (fun ρ => bnd ((fVar 0) ρ) (gIsi (kX u u.InvalidPairs))) (fCons (fun ρ => bnd ((fVar 0) ρ) (gIsi (kX u u.InvalidWord))) fNil)))) (tgName 1))
    (sSeq (sAsg (fOp gAdd (fVar 1) (fMk (mkF .lst) (fCons (fun ρ => bnd ((fVar 0) ρ) (gIsi (kX u u.InvalidRule))) (fCons (fun ρ => bnd ((fVar 0) ρ) (gIsi (kX u u.InvalidMap))) fNil)))) (tgName 1))
    (sSeq (sAsg (fOp gAdd (fVar 1) (fMk (mkF .lst) (fCons (fun ρ => bnd ((fVar 0) ρ) (gIsi (kX u u.InvalidNames))) (fCons (fun ρ => bnd ((fVar 0) ρ) (gIsi (kX u u.InvalidBook))) fNil)))) (tgName 1))
    (sSeq (sAsg (fOp gAdd (fVar 1) (fMk (mkF .lst) (fCons (fun ρ => bnd ((fVar 0) ρ) (gIsi (kX u u.InvalidName))) (fCons (fun ρ => bnd ((fVar 0) ρ) (gIsi (kX u u.InvalidLog))) fNil)))) (tgName 1))
    (sSeq (sAsg (fOp gAdd (fVar 1) (fMk (mkF .lst) (fCons (fun ρ => bnd ((fVar 0) ρ) (gIsi (kX u u.InvalidLogs))) (fCons (fun ρ => bnd ((fVar 0) ρ) (gIsi (kX u u.InvalidMerging))) fNil)))) (tgName 1))
    (sSeq (sAsg (fOp gAdd (fVar 1) (fMk (mkF .lst) (fCons (fun ρ => bnd ((fVar 0) ρ) (gIsi (kX u u.InvalidStrike))) (fCons (fun ρ => bnd ((fVar 0) ρ) (gIsi (kX u u.InvalidRoad))) fNil)))) (tgName 1))
    (sSeq (sAsg (fOp gAdd (fVar 1) (fMk (mkF .lst) (fCons (fun ρ => bnd ((fVar 0) ρ) (gIsi (kX u u.InvalidPlaces))) (fCons (fun ρ => bnd ((fVar 0) ρ) (gIsi (kX u u.InvalidCount))) fNil)))) (tgName 1))
    (sSeq (sAsg (fOp gAdd (fVar 1) (fMk (mkF .lst) (fCons (fun ρ => bnd ((fVar 0) ρ) (gIsi (kX u u.InvalidFuture))) (fCons (fun ρ => bnd ((fVar 0) ρ) (gIsi (kX u u.InvalidValue))) fNil)))) (tgName 1))
    (sSeq (sAsg (fOp gAdd (fVar 1) (fMk (mkF .lst) (fCons (fun ρ => bnd ((fVar 0) ρ) (gIsi (kX u u.InvalidStore))) (fCons (fun ρ => bnd ((fVar 0) ρ) (gIsi (kX u u.InvalidInputs))) fNil)))) (tgName 1))
    (sSeq (sAsg (fOp gAdd (fVar 1) (fMk (mkF .lst) (fCons (fun ρ => bnd ((fVar 0) ρ) (gIsi (kX u u.InvalidFolding))) (fCons (fun ρ => bnd ((fVar 0) ρ) (gIsi (kX u u.InvalidJournal))) fNil)))) (tgName 1))
    (sSeq (sAsg (fOp gAdd (fVar 1) (fMk (mkF .lst) (fCons (fun ρ => bnd ((fVar 0) ρ) (gIsi (kX u u.InvalidSpot))) (fCons (fun ρ => bnd ((fVar 0) ρ) (gIsi (kX u u.InvalidScript))) fNil)))) (tgName 1))
    (sSeq (sAsg (fOp gAdd (fVar 1) (fMk (mkF .lst) (fCons (fun ρ => bnd ((fVar 0) ρ) (gIsi (kX u u.InvalidText))) (fCons (fun ρ => bnd ((fVar 0) ρ) (gIsi (kX u u.InvalidRecord))) (fCons (fun ρ => bnd ((fVar 0) ρ) (gIsi (kX u u.Unlike))) fNil))))) (tgName 1))
    (sSeq (sAsg (fOp gAdd (fVar 1) (fMk (mkF .lst) (fCons (fun ρ => bnd ((fVar 0) ρ) (gIsi (kX u u.Apart))) (fCons (fun ρ => bnd ((fVar 0) ρ) (gIsi (kX u u.Unsettled))) (fCons (fun ρ => bnd ((fVar 0) ρ) (gIsi (kX u u.Boundless))) fNil))))) (tgName 1))
    (sSeq (sAsg (fOp gAdd (fVar 1) (fMk (mkF .lst) (fCons (fun ρ => bnd ((fVar 0) ρ) (gIsi (kX u u.Refused))) (fCons (fun ρ => bnd ((fVar 0) ρ) (gIsi (kX u u.NothingToUndo))) fNil)))) (tgName 1))
    (sSeq (sAsg (fOp gAdd (fVar 1) (fMk (mkF .lst) (fCons (fun ρ => bnd ((fVar 0) ρ) (gIsi (kX u u.NothingToRedo))) fNil))) (tgName 1))
    (sRet (fLc [2] (iR1 (fCons (fCall gLen (fCons (fVar 1) fNil)) fNil)) (tgName 2) (fTst (fOp gAt (fVar 1) (fVar 2))) (fVar 2) mkL))))))))))))))))))
noncomputable def gz_law_code (u : U) : FF := mkFn 3 (fz_law_code u)
theorem kz_law_code {f : Addr} {fd : FuncData} (Fn : Fun u.K "_law_code" "_law_code" sz_law_code f fd) (hm : mg "_law_code" = some (.ref f)) (b : Binds u.K fd ["error"] []) (B : Bl mg) (T : Ex P w u mg base)  : Cl P w u.K mg base 1 "_law_code" 1 (gz_law_code u) :=
  have u_val := T.val
  ⟨f, fd, _, fn_ok Fn scz_law_code fun cdv A outer s H E hr tk =>
    (dss_cons (ds_set (i := 1) scz_law_code.nd (de_lst (da_cons (de_isi (de_var (i := 0)) (pcl_own pcl_nil T.gInvalidKind) (T.iInvalidKind) B.isinstance) (da_cons (de_isi (de_var (i := 0)) (pcl_own pcl_nil T.gInvalidTable) (T.iInvalidTable) B.isinstance) (da_cons (de_isi (de_var (i := 0)) (pcl_own pcl_nil T.gInvalidKinds) (T.iInvalidKinds) B.isinstance) da_nil)))))
    (dss_cons (ds_set (i := 1) scz_law_code.nd (de_op od_add (de_var (i := 1)) (de_lst (da_cons (de_isi (de_var (i := 0)) (pcl_own pcl_nil T.gInvalidPairs) (T.iInvalidPairs) B.isinstance) (da_cons (de_isi (de_var (i := 0)) (pcl_own pcl_nil T.gInvalidWord) (T.iInvalidWord) B.isinstance) da_nil)))))
    (dss_cons (ds_set (i := 1) scz_law_code.nd (de_op od_add (de_var (i := 1)) (de_lst (da_cons (de_isi (de_var (i := 0)) (pcl_own pcl_nil T.gInvalidRule) (T.iInvalidRule) B.isinstance) (da_cons (de_isi (de_var (i := 0)) (pcl_own pcl_nil T.gInvalidMap) (T.iInvalidMap) B.isinstance) da_nil)))))
    (dss_cons (ds_set (i := 1) scz_law_code.nd (de_op od_add (de_var (i := 1)) (de_lst (da_cons (de_isi (de_var (i := 0)) (pcl_own pcl_nil T.gInvalidNames) (T.iInvalidNames) B.isinstance) (da_cons (de_isi (de_var (i := 0)) (pcl_own pcl_nil T.gInvalidBook) (T.iInvalidBook) B.isinstance) da_nil)))))
    (dss_cons (ds_set (i := 1) scz_law_code.nd (de_op od_add (de_var (i := 1)) (de_lst (da_cons (de_isi (de_var (i := 0)) (pcl_own pcl_nil T.gInvalidName) (T.iInvalidName) B.isinstance) (da_cons (de_isi (de_var (i := 0)) (pcl_own pcl_nil T.gInvalidLog) (T.iInvalidLog) B.isinstance) da_nil)))))
    (dss_cons (ds_set (i := 1) scz_law_code.nd (de_op od_add (de_var (i := 1)) (de_lst (da_cons (de_isi (de_var (i := 0)) (pcl_own pcl_nil T.gInvalidLogs) (T.iInvalidLogs) B.isinstance) (da_cons (de_isi (de_var (i := 0)) (pcl_own pcl_nil T.gInvalidMerging) (T.iInvalidMerging) B.isinstance) da_nil)))))
    (dss_cons (ds_set (i := 1) scz_law_code.nd (de_op od_add (de_var (i := 1)) (de_lst (da_cons (de_isi (de_var (i := 0)) (pcl_own pcl_nil T.gInvalidStrike) (T.iInvalidStrike) B.isinstance) (da_cons (de_isi (de_var (i := 0)) (pcl_own pcl_nil T.gInvalidRoad) (T.iInvalidRoad) B.isinstance) da_nil)))))
    (dss_cons (ds_set (i := 1) scz_law_code.nd (de_op od_add (de_var (i := 1)) (de_lst (da_cons (de_isi (de_var (i := 0)) (pcl_own pcl_nil T.gInvalidPlaces) (T.iInvalidPlaces) B.isinstance) (da_cons (de_isi (de_var (i := 0)) (pcl_own pcl_nil T.gInvalidCount) (T.iInvalidCount) B.isinstance) da_nil)))))
    (dss_cons (ds_set (i := 1) scz_law_code.nd (de_op od_add (de_var (i := 1)) (de_lst (da_cons (de_isi (de_var (i := 0)) (pcl_own pcl_nil T.gInvalidFuture) (T.iInvalidFuture) B.isinstance) (da_cons (de_isi (de_var (i := 0)) (pcl_own pcl_nil T.gInvalidValue) (T.iInvalidValue) B.isinstance) da_nil)))))
    (dss_cons (ds_set (i := 1) scz_law_code.nd (de_op od_add (de_var (i := 1)) (de_lst (da_cons (de_isi (de_var (i := 0)) (pcl_own pcl_nil T.gInvalidStore) (T.iInvalidStore) B.isinstance) (da_cons (de_isi (de_var (i := 0)) (pcl_own pcl_nil T.gInvalidInputs) (T.iInvalidInputs) B.isinstance) da_nil)))))
    (dss_cons (ds_set (i := 1) scz_law_code.nd (de_op od_add (de_var (i := 1)) (de_lst (da_cons (de_isi (de_var (i := 0)) (pcl_own pcl_nil T.gInvalidFolding) (T.iInvalidFolding) B.isinstance) (da_cons (de_isi (de_var (i := 0)) (pcl_own pcl_nil T.gInvalidJournal) (T.iInvalidJournal) B.isinstance) da_nil)))))
    (dss_cons (ds_set (i := 1) scz_law_code.nd (de_op od_add (de_var (i := 1)) (de_lst (da_cons (de_isi (de_var (i := 0)) (pcl_own pcl_nil T.gInvalidSpot) (T.iInvalidSpot) B.isinstance) (da_cons (de_isi (de_var (i := 0)) (pcl_own pcl_nil T.gInvalidScript) (T.iInvalidScript) B.isinstance) da_nil)))))
    (dss_cons (ds_set (i := 1) scz_law_code.nd (de_op od_add (de_var (i := 1)) (de_lst (da_cons (de_isi (de_var (i := 0)) (pcl_own pcl_nil T.gInvalidText) (T.iInvalidText) B.isinstance) (da_cons (de_isi (de_var (i := 0)) (pcl_own pcl_nil T.gInvalidRecord) (T.iInvalidRecord) B.isinstance) (da_cons (de_isi (de_var (i := 0)) (pcl_own pcl_nil T.gUnlike) (T.iUnlike) B.isinstance) da_nil))))))
    (dss_cons (ds_set (i := 1) scz_law_code.nd (de_op od_add (de_var (i := 1)) (de_lst (da_cons (de_isi (de_var (i := 0)) (pcl_own pcl_nil T.gApart) (T.iApart) B.isinstance) (da_cons (de_isi (de_var (i := 0)) (pcl_own pcl_nil T.gUnsettled) (T.iUnsettled) B.isinstance) (da_cons (de_isi (de_var (i := 0)) (pcl_own pcl_nil T.gBoundless) (T.iBoundless) B.isinstance) da_nil))))))
    (dss_cons (ds_set (i := 1) scz_law_code.nd (de_op od_add (de_var (i := 1)) (de_lst (da_cons (de_isi (de_var (i := 0)) (pcl_own pcl_nil T.gRefused) (T.iRefused) B.isinstance) (da_cons (de_isi (de_var (i := 0)) (pcl_own pcl_nil T.gNothingToUndo) (T.iNothingToUndo) B.isinstance) da_nil)))))
    (dss_cons (ds_set (i := 1) scz_law_code.nd (de_op od_add (de_var (i := 1)) (de_lst (da_cons (de_isi (de_var (i := 0)) (pcl_own pcl_nil T.gNothingToRedo) (T.iNothingToRedo) B.isinstance) da_nil))))
    (dss_one (ds_ret (de_lc (own := [("at", 2)]) mkL_ok rfl scz_law_code.nd (di_range1 B.range (da_cons (de_callB cd_len B.len (da_cons (de_var (i := 1)) da_nil)) da_nil)) (by show blkC ["error", "found", "at"] (defScope sz_law_code) _ _ = true; decide +kernel) (fun _ _ _ _ _ => (dg_name (i := 2) scz_law_code.nd)) (fun _ _ _ _ _ => (dts_one (dt_val (de_at hr (de_var (i := 1)) (de_var (i := 2)))))) (fun _ _ _ _ _ => (de_var (i := 2)))))))))))))))))))))), hm, Fn.kp, b⟩
theorem scz_law_is_error : FnScope ["error"] ["error"] (defScope sz_law_is_error) := ⟨rfl, rfl, rfl, by decide +kernel, rfl, by decide +kernel, by decide +kernel⟩
noncomputable def fz_law_is_error (u : U) : SF := (sRet (fAnd (fun ρ => bnd ((fVar 0) ρ) (gIsi (kAll u))) (fun ρ => bnd ((fVar 0) ρ) (gIsi (kAll u)))))
noncomputable def gz_law_is_error (u : U) : FF := mkFn 1 (fz_law_is_error u)
theorem kz_law_is_error {f : Addr} {fd : FuncData} (Fn : Fun u.K "_law_is_error" "_law_is_error" sz_law_is_error f fd) (hm : mg "_law_is_error" = some (.ref f)) (b : Binds u.K fd ["error"] []) (B : Bl mg) (T : Ex P w u mg base)  : Cl P w u.K mg base 1 "_law_is_error" 1 (gz_law_is_error u) :=
  have u_val := T.val
  ⟨f, fd, _, fn_ok Fn scz_law_is_error fun cdv A outer s H E hr tk =>
    (dss_one (ds_ret (de_and (de_isi (de_var (i := 0)) (pcl_own pcl_nil T.gCoreError) (T.iCoreError) B.isinstance) (de_one (de_isi (de_var (i := 0)) (pcl_ty pcl_nil B.vErr (by decide +kernel)) (T.iValueError) B.isinstance))))), hm, Fn.kp, b⟩
theorem scz_law_right : FnScope ["some", "noted", "error", "at"] ["some", "noted"] (defScope sz_law_right) := ⟨rfl, rfl, rfl, by decide +kernel, rfl, by decide +kernel, by decide +kernel⟩
noncomputable def fz_law_right (u : U) : SF := (sSeq (sIf (fTst (fOp gNe (fLc [2] (iL (fVar 0)) (tgName 2) tfY (fCall (arg 1 (gz_law_code u)) (fCons (fVar 2) fNil)) mkL) (fLc [3] (iR1 (fCons (fC (.int 32)) fNil)) (tgName 3) tfY (fMk (mkF .lst) (fCons (fVar 3) fNil)) mkL))) (sRet (fC (.bl false))) sNil)
    (sRet (fOp gEq (fLc [2] (iL (fVar 0)) (tgName 2) (fOrT (fNotT (fTst (fCall (arg 1 (gz_law_is_error u)) (fCons (fVar 2) fNil)))) (fTst (fOp gNe (fCall gRepr (fCons (fun ρ => bnd ((fVar 2) ρ) (gVal u.isX)) fNil)) (fVar 1)))) (fVar 2) mkL) (fMk (mkF .lst) fNil))))
noncomputable def gz_law_right (u : U) : FF := mkFn 4 (fz_law_right u)
theorem kkz_law_right {f : Addr} {fd : FuncData} (Fn : Fun u.K "_law_right" "_law_right" sz_law_right f fd) (B : Bl mg) (T : Ex P w u mg base) (cz_law_code : Cl P w u.K mg base 1 "_law_code" 1 (gz_law_code u)) (cz_law_is_error : Cl P w u.K mg base 1 "_law_is_error" 1 (gz_law_is_error u)) : FnG P w u.K mg base (L2.CX P w) 2 f fd ["some", "noted"] (spD 2 (gz_law_right u)) :=
  have u_val := T.val
  fn_okG Fn scz_law_right fun cdv A outer s H E hr hgu tk =>
    (dss_cons (ds_if (dt_cmp (od_ne hr.units) (de_lc (own := [("error", 2)]) mkL_ok rfl scz_law_right.nd (di_list (de_var (i := 0))) (by show blkC ["some", "noted", "error", "at"] (defScope sz_law_right) _ _ = true; decide +kernel) (fun _ _ _ _ _ => (dg_name (i := 2) scz_law_right.nd)) (fun _ _ _ _ _ => dts_nil) (fun _ _ _ _ _ => (de_cl cz_law_code takes0 (hr.mono (by decide)) (da_cons (de_var (i := 2)) da_nil)))) (de_lc (own := [("at", 3)]) mkL_ok rfl scz_law_right.nd (di_range1 B.range (da_cons de_int da_nil)) (by show blkC ["some", "noted", "error", "at"] (defScope sz_law_right) _ _ = true; decide +kernel) (fun _ _ _ _ _ => (dg_name (i := 3) scz_law_right.nd)) (fun _ _ _ _ _ => dts_nil) (fun _ _ _ _ _ => (de_lst (da_cons (de_var (i := 3)) da_nil)))) (nomark _)) (dss_one (ds_ret de_bl)) dss_nil)
    (dss_one (ds_ret (de_cmp (od_eq hr.units) (de_lc (own := [("error", 2)]) mkL_ok rfl scz_law_right.nd (di_list (de_var (i := 0))) (by show blkC ["some", "noted", "error", "at"] (defScope sz_law_right) _ _ = true; decide +kernel) (fun _ _ _ _ _ => (dg_name (i := 2) scz_law_right.nd)) (fun _ _ _ _ _ => (dts_one (dw_or (dt_not (dt_val (de_cl cz_law_is_error takes0 (hr.mono (by decide)) (da_cons (de_var (i := 2)) da_nil)))) (dw_or1 (dt_cmp (od_ne hr.units) (de_callB (cd_repr hgu hr.units T.sys) B.repr (da_cons (de_val u_val (de_var (i := 2))) da_nil)) (de_var (i := 1)) (nomark _)))).dt)) (fun _ _ _ _ _ => (de_var (i := 2)))) (de_lst da_nil) (nomark _)))))
theorem kz_law_right {f : Addr} {fd : FuncData} (Fn : Fun u.K "_law_right" "_law_right" sz_law_right f fd) (hm : mg "_law_right" = some (.ref f)) (b : Binds u.K fd ["some", "noted"] []) (B : Bl mg) (T : Ex P w u mg base) (cz_law_code : Cl P w u.K mg base 1 "_law_code" 1 (gz_law_code u)) (cz_law_is_error : Cl P w u.K mg base 1 "_law_is_error" 1 (gz_law_is_error u)) : ClG P w u.K mg base 2 "_law_right" 2 (gz_law_right u) :=
  ⟨f, fd, _, kkz_law_right Fn B T cz_law_code cz_law_is_error, hm, Fn.kp, b⟩
theorem sclaw : FnScope ["script", "purse", "word", "plain", "thing", "noted", "some", "called", "later", "rest", "error"] ["script"] (defScope slaw) := ⟨rfl, rfl, rfl, by decide +kernel, rfl, by decide +kernel, by decide +kernel⟩
noncomputable def flaw (u : U) : SF := (sSeq (sFor (iL (fCall (arg 2 (gz_law_purses u)) (fCons (fVar 0) (fCons (fC (.int 1)) fNil)))) (tgName 1) (sSeq (sAsg (fCall (arg 1 (gz_law_word u)) (fCons (fVar 1) fNil)) (tgName 2))
    (sSeq (sAsg (fMk (mkF .lst) (fCons (fC .non) (fCons (fC (.bl true)) (fCons (fC (.bl false)) (fCons (fC (.int 0)) (fCons (fVar 2) (fCons (fUn gNeg (fOp gAt (fVar 1) (fC (.int 1)))) (fCons (fMk (mkF .tup) (fCons (fC (.str "says")) (fCons (fVar 2) (fCons (fC (.int 1)) (fCons (fC (.int 2)) fNil))))) (fCons (fMk (mkF .tup) (fCons (fVar 2) (fCons (fMk (mkC .lst) (fCons (fVar 2) fNil)) fNil))) (fCons (fDisp mkDC (((fVar 2), (fMk (mkC .lst) (fCons (fVar 2) fNil))) :: [])) fNil)))))))))) (tgName 3))
    (sSeq (sAsg (fCall (arg 2 (gz_law_one_of u)) (fCons (fVar 1) (fCons (fOp gAdd (fVar 3) (fMk (mkF .lst) (fCons (fMk (mkC .lst) (fCons (fVar 2) fNil)) (fCons (fMk (mkC .lst) (fCons (fMk (mkC .lst) (fCons (fVar 2) fNil)) (fCons (fDisp mkDC (((fC (.str "odd")), (fVar 2)) :: [])) fNil))) fNil)))) fNil))) (tgName 4))
    (sSeq (sAsg (fCall gRepr (fCons (fVar 4) fNil)) (tgName 5))
    (sSeq (sPar3 6 7 8 (fCons (fCall (arg 1 (gz_law_first u)) (fCons (fVar 4) fNil)) (fCons (fCall (arg 1 (gz_law_called u)) (fCons (fVar 4) fNil)) (fCons (fCall (arg 1 (gz_law_first u)) (fCons (fMk (mkF .tup) (fCons (fC (.str "later")) (fCons (fVar 2) fNil))) fNil)) fNil))))
    (sSeq (sIf (fOrT (fNotT (fTst (fCall (arg 2 (gz_law_right u)) (fCons (fun _ => noX (gz_law_bare u [])) (fCons (fC (.str "None")) fNil))))) (fNotT (fTst (fCall (arg 2 (gz_law_right u)) (fCons (fVar 8) (fCons (fCall gRepr (fCons (fMk (mkF .tup) (fCons (fC (.str "later")) (fCons (fVar 2) fNil))) fNil)) fNil)))))) (sRet (fC (.bl false))) sNil)
    (sSeq (sIf (fOrT (fNotT (fTst (fCall (arg 2 (gz_law_right u)) (fCons (fVar 6) (fCons (fVar 5) fNil))))) (fNotT (fTst (fCall (arg 2 (gz_law_right u)) (fCons (fVar 7) (fCons (fVar 5) fNil)))))) (sRet (fC (.bl false))) sNil)
    (sSeq (sIf (fTst (fun ρ => bnd ((fVar 4) ρ) (gIsi (kB "list")))) (sExpr (fBm "list" gAppend (fVar 4) (fCons (fC (.str "later")) fNil))) sNil)
    (sSeq (sIf (fTst (fun ρ => bnd ((fVar 4) ρ) (gIsi (kB "dict")))) (sSeq (sExpr (fBm "list" gAppend (fOp gAt (fVar 4) (fVar 2)) (fCons (fC (.str "later")) fNil)))
    (sAsg (fC (.int 1)) (tgSub (fVar 4) (fC (.str "LATER"))))) sNil)
    (sSeq (sIf (fAndT (fTst (fun ρ => bnd ((fVar 4) ρ) (gIsi (kB "tuple")))) (fTst (fun ρ => bnd ((fOp gAt (fVar 4) (fC (.int 1))) ρ) (gIsi (kB "list"))))) (sExpr (fBm "list" gAppend (fOp gAt (fVar 4) (fC (.int 1))) (fCons (fC (.str "later")) fNil))) sNil)
    (sIf (fOrT (fNotT (fTst (fCall (arg 2 (gz_law_right u)) (fCons (fVar 6) (fCons (fCall gRepr (fCons (fVar 4) fNil)) fNil))))) (fNotT (fTst (fCall (arg 2 (gz_law_right u)) (fCons (fVar 7) (fCons (fCall gRepr (fCons (fVar 4) fNil)) fNil)))))) (sRet (fC (.bl false))) sNil))))))))))))
    (sSeq (sAsg (fMk (mkC .lst) (fCons (fun _ => ret (.exc u.NothingToUndo [])) (fCons (fun _ => ret (.exc u.NothingToRedo [])) fNil))) (tgName 9))
    (sSeq (sIf (fTst (fOp gNe (fLc [10] (iL (fVar 9)) (tgName 10) tfY (fCall (arg 1 (gz_law_code u)) (fCons (fVar 10) fNil)) mkL) (fMk (mkF .lst) (fCons (fMk (mkF .lst) (fCons (fC (.int 32)) fNil)) (fCons (fMk (mkF .lst) (fCons (fC (.int 33)) fNil)) fNil))))) (sRet (fC (.bl false))) sNil)
    (sSeq (sExpr (fBm "list" gAppend (fVar 9) (fCons (fun _ => ret (.exc u.CoreError [])) fNil)))
    (sRet (fAnd (fCall gAll (fCons (fLc [10] (iL (fVar 9)) (tgName 10) tfY (fCall (arg 1 (gz_law_is_error u)) (fCons (fVar 10) fNil)) mkL) fNil)) (fOp gEq (fCall (arg 1 (gz_law_code u)) (fCons (fOp gAt (fVar 9) (fC (.int 2))) fNil)) (fMk (mkF .lst) fNil))))))))
noncomputable def glaw (u : U) : FF := mkFn 11 (flaw u)
theorem kklaw {f : Addr} {fd : FuncData} (Fn : Fun u.K "law" "law" slaw f fd) (B : Bl mg) (T : Ex P w u mg base) (cz_law_bare : Cl P w u.K mg base 3 "_law_bare" 0 (gz_law_bare u)) (cz_law_called : Cl P w u.K mg base 3 "_law_called" 1 (gz_law_called u)) (cz_law_code : Cl P w u.K mg base 1 "_law_code" 1 (gz_law_code u)) (cz_law_first : Cl P w u.K mg base 3 "_law_first" 1 (gz_law_first u)) (cz_law_is_error : Cl P w u.K mg base 1 "_law_is_error" 1 (gz_law_is_error u)) (cz_law_one_of : Cl P w u.K mg base 3 "_law_one_of" 2 (gz_law_one_of u)) (cz_law_purses : Cl P w u.K mg base 2 "_law_purses" 2 (gz_law_purses u)) (cz_law_right : ClG P w u.K mg base 2 "_law_right" 2 (gz_law_right u)) (cz_law_word : Cl P w u.K mg base 3 "_law_word" 1 (gz_law_word u)) : FnG P w u.K mg base (L2.CX P w) 4 f fd ["script"] (spD 1 (glaw u)) :=
  have u_val := T.val
  fn_okG Fn sclaw fun cdv A outer s H E hr hgu tk =>
    (dss_cons (ds_for (passes_of rfl) rfl (di_list (de_cl cz_law_purses tk (hr.mono (by decide)) (da_cons (de_var (i := 0)) (da_cons de_int da_nil)))) (dg_name (i := 1) sclaw.nd) (dss_cons (ds_set (i := 2) sclaw.nd (de_cl cz_law_word tk (hr.mono (by decide)) (da_cons (de_var (i := 1)) da_nil)))
    (dss_cons (ds_set (i := 3) sclaw.nd (de_lst (da_cons de_non (da_cons de_bl (da_cons de_bl (da_cons de_int (da_cons (de_var (i := 2)) (da_cons (de_un ud_neg (de_at hr (de_var (i := 1)) de_int)) (da_cons (de_tup (da_cons de_str (da_cons (de_var (i := 2)) (da_cons de_int (da_cons de_int da_nil))))) (da_cons (de_tup (da_cons (de_var (i := 2)) (da_cons (de_lstC (da_cons (de_var (i := 2)) da_nil)) da_nil))) (da_cons (de_disp mkDC_ok (dps_cons (de_var (i := 2)) (de_lstC (da_cons (de_var (i := 2)) da_nil)) dps_nil)) da_nil)))))))))))
    (dss_cons (ds_set (i := 4) sclaw.nd (de_cl cz_law_one_of tk (hr.mono (by decide)) (da_cons (de_var (i := 1)) (da_cons (de_op od_add (de_var (i := 3)) (de_lst (da_cons (de_lstC (da_cons (de_var (i := 2)) da_nil)) (da_cons (de_lstC (da_cons (de_lstC (da_cons (de_var (i := 2)) da_nil)) (da_cons (de_disp mkDC_ok (dps_cons de_str (de_var (i := 2)) dps_nil)) da_nil))) da_nil)))) da_nil))))
    (dss_cons (ds_set (i := 5) sclaw.nd (de_callB (cd_repr hgu hr.units T.sys) B.repr (da_cons (de_var (i := 4)) da_nil)))
    (dss_cons (ds_par3 (i := 6) (j := 7) (l := 8) rfl sclaw.nd (da_cons (de_cl cz_law_first tk (hr.mono (by decide)) (da_cons (de_var (i := 4)) da_nil)) (da_cons (de_cl cz_law_called tk (hr.mono (by decide)) (da_cons (de_var (i := 4)) da_nil)) (da_cons (de_cl cz_law_first tk (hr.mono (by decide)) (da_cons (de_tup (da_cons de_str (da_cons (de_var (i := 2)) da_nil))) da_nil)) da_nil))))
    (dss_cons (ds_if (dw_or (dt_not (dt_val (de_clG cz_law_right tk (hr.mono (by decide)) hgu (da_cons (de_cl0 cz_law_bare (hr.mono (by decide))) (da_cons de_str da_nil))))) (dw_or1 (dt_not (dt_val (de_clG cz_law_right tk (hr.mono (by decide)) hgu (da_cons (de_var (i := 8)) (da_cons (de_callB (cd_repr hgu hr.units T.sys) B.repr (da_cons (de_tup (da_cons de_str (da_cons (de_var (i := 2)) da_nil))) da_nil)) da_nil))))))).dt (dss_one (ds_ret de_bl)) dss_nil)
    (dss_cons (ds_if (dw_or (dt_not (dt_val (de_clG cz_law_right tk (hr.mono (by decide)) hgu (da_cons (de_var (i := 6)) (da_cons (de_var (i := 5)) da_nil))))) (dw_or1 (dt_not (dt_val (de_clG cz_law_right tk (hr.mono (by decide)) hgu (da_cons (de_var (i := 7)) (da_cons (de_var (i := 5)) da_nil))))))).dt (dss_one (ds_ret de_bl)) dss_nil)
    (dss_cons (ds_if (dt_val (de_isi (de_var (i := 4)) (pcl_ty pcl_nil B.list (by decide +kernel)) (kB_ok _) B.isinstance)) (dss_one (ds_expr (de_bm PySem.F.plainAttrs_list PySem.F.slot_list_append PySem.F.type_list_append md_append (de_var (i := 4)) (da_cons de_str da_nil)))) dss_nil)
    (dss_cons (ds_if (dt_val (de_isi (de_var (i := 4)) (pcl_ty pcl_nil B.dict (by decide +kernel)) (kB_ok _) B.isinstance)) (dss_cons (ds_expr (de_bm PySem.F.plainAttrs_list PySem.F.slot_list_append PySem.F.type_list_append md_append (de_at hr (de_var (i := 4)) (de_var (i := 2))) (da_cons de_str da_nil)))
    (dss_one (ds_asg de_int (dg_sub (W := W0) hr (de_var (i := 4)) de_str)))) dss_nil)
    (dss_cons (ds_if (dw_and (dt_val (de_isi (de_var (i := 4)) (pcl_ty pcl_nil B.tuple (by decide +kernel)) (kB_ok _) B.isinstance)) (dw_and1 (dt_val (de_isi (de_at hr (de_var (i := 4)) de_int) (pcl_ty pcl_nil B.list (by decide +kernel)) (kB_ok _) B.isinstance)))).dt (dss_one (ds_expr (de_bm PySem.F.plainAttrs_list PySem.F.slot_list_append PySem.F.type_list_append md_append (de_at hr (de_var (i := 4)) de_int) (da_cons de_str da_nil)))) dss_nil)
    (dss_one (ds_if (dw_or (dt_not (dt_val (de_clG cz_law_right tk (hr.mono (by decide)) hgu (da_cons (de_var (i := 6)) (da_cons (de_callB (cd_repr hgu hr.units T.sys) B.repr (da_cons (de_var (i := 4)) da_nil)) da_nil))))) (dw_or1 (dt_not (dt_val (de_clG cz_law_right tk (hr.mono (by decide)) hgu (da_cons (de_var (i := 7)) (da_cons (de_callB (cd_repr hgu hr.units T.sys) B.repr (da_cons (de_var (i := 4)) da_nil)) da_nil))))))).dt (dss_one (ds_ret de_bl)) dss_nil)))))))))))))
    (dss_cons (ds_set (i := 9) sclaw.nd (de_lstC (da_cons (de_excB F.excBase_ValueError T.xNothingToUndo T.gNothingToUndo T.kNothingToUndo) (da_cons (de_excB F.excBase_ValueError T.xNothingToRedo T.gNothingToRedo T.kNothingToRedo) da_nil))))
    (dss_cons (ds_if (dt_cmp (od_ne hr.units) (de_lc (own := [("error", 10)]) mkL_ok rfl sclaw.nd (di_list (de_var (i := 9))) (by show blkC ["script", "purse", "word", "plain", "thing", "noted", "some", "called", "later", "rest", "error"] (defScope slaw) _ _ = true; decide +kernel) (fun _ _ _ _ _ => (dg_name (i := 10) sclaw.nd)) (fun _ _ _ _ _ => dts_nil) (fun _ _ _ _ _ => (de_cl cz_law_code takes0 (hr.mono (by decide)) (da_cons (de_var (i := 10)) da_nil)))) (de_lst (da_cons (de_lst (da_cons de_int da_nil)) (da_cons (de_lst (da_cons de_int da_nil)) da_nil))) (nomark _)) (dss_one (ds_ret de_bl)) dss_nil)
    (dss_cons (ds_expr (de_bm PySem.F.plainAttrs_list PySem.F.slot_list_append PySem.F.type_list_append md_append (de_var (i := 9)) (da_cons (de_excB F.excBase_ValueError T.xCoreError T.gCoreError T.kCoreError) da_nil)))
    (dss_one (ds_ret (de_and (de_callB (cd_all rfl) B.all (da_cons (de_lc (own := [("error", 10)]) mkL_ok rfl sclaw.nd (di_list (de_var (i := 9))) (by show blkC ["script", "purse", "word", "plain", "thing", "noted", "some", "called", "later", "rest", "error"] (defScope slaw) _ _ = true; decide +kernel) (fun _ _ _ _ _ => (dg_name (i := 10) sclaw.nd)) (fun _ _ _ _ _ => dts_nil) (fun _ _ _ _ _ => (de_cl cz_law_is_error takes0 (hr.mono (by decide)) (da_cons (de_var (i := 10)) da_nil)))) da_nil)) (de_one (de_cmp (od_eq hr.units) (de_cl cz_law_code tk (hr.mono (by decide)) (da_cons (de_at hr (de_var (i := 9)) de_int) da_nil)) (de_lst da_nil) (nomark _))))))))))
theorem klaw {f : Addr} {fd : FuncData} (Fn : Fun u.K "law" "law" slaw f fd) (hm : mg "law" = some (.ref f)) (b : Binds u.K fd ["script"] []) (B : Bl mg) (T : Ex P w u mg base) (cz_law_bare : Cl P w u.K mg base 3 "_law_bare" 0 (gz_law_bare u)) (cz_law_called : Cl P w u.K mg base 3 "_law_called" 1 (gz_law_called u)) (cz_law_code : Cl P w u.K mg base 1 "_law_code" 1 (gz_law_code u)) (cz_law_first : Cl P w u.K mg base 3 "_law_first" 1 (gz_law_first u)) (cz_law_is_error : Cl P w u.K mg base 1 "_law_is_error" 1 (gz_law_is_error u)) (cz_law_one_of : Cl P w u.K mg base 3 "_law_one_of" 2 (gz_law_one_of u)) (cz_law_purses : Cl P w u.K mg base 2 "_law_purses" 2 (gz_law_purses u)) (cz_law_right : ClG P w u.K mg base 2 "_law_right" 2 (gz_law_right u)) (cz_law_word : Cl P w u.K mg base 3 "_law_word" 1 (gz_law_word u)) : ClG P w u.K mg base 4 "law" 1 (glaw u) :=
  ⟨f, fd, _, kklaw Fn B T cz_law_bare cz_law_called cz_law_code cz_law_first cz_law_is_error cz_law_one_of cz_law_purses cz_law_right cz_law_word, hm, Fn.kp, b⟩
end
end K01

set_option Elab.async false
set_option linter.all false
set_option maxRecDepth 1000000
set_option maxHeartbeats 4000000
namespace K01
open PySem PySem.Spec PyProof.Rows L2 MW
abbrev u0 (K : PySem.W.Frag) : U := { K := K, CoreError := 24, InvalidKind := 47, InvalidTable := 69, InvalidKinds := 91, InvalidPairs := 113, InvalidWord := 135, InvalidRule := 157, InvalidMap := 179, InvalidNames := 201, InvalidBook := 223, InvalidName := 245, InvalidLog := 267, InvalidLogs := 289, InvalidMerging := 311, InvalidStrike := 333, InvalidRoad := 355, InvalidPlaces := 377, InvalidCount := 399, InvalidFuture := 421, InvalidValue := 443, InvalidStore := 465, InvalidInputs := 487, InvalidFolding := 509, InvalidJournal := 531, InvalidSpot := 553, InvalidScript := 575, InvalidText := 597, InvalidRecord := 619, Unlike := 641, Apart := 663, Unsettled := 685, Boundless := 707, Refused := 729, NothingToUndo := 741, NothingToRedo := 753 }
variable {K : PySem.W.Frag}
theorem same_purses : gz_law_purses (u0 K) = dPurses K := rfl
theorem same_word : gz_law_word (u0 K) = dWord := rfl
theorem same_one : gz_law_one_of (u0 K) = dOne := rfl
/-- the thirty-two -/
def lf (K : PySem.W.Frag) : List Addr := ((u0 K).all.drop 1).take 32
def errs (K : PySem.W.Frag) (d : D) : D := .lst ((lf K).map fun C => .exc C [d])
theorem lows_exc {k : Nat} {d : D} (h : low k d = true) : ∀ l : List Addr, lows k (l.map fun C => D.exc C [d]) = true
  | [] => rfl
  | C :: l => by
    show (lows k [d] && lows k (l.map fun C => D.exc C [d])) = true
    rw [lows_exc h l]
    show ((low k d && true) && true) = true
    rw [h]
    rfl
theorem first_ev {d : D} {cs : List Cel} (h : low cs.length d = true) : Ev (gz_law_first (u0 K) [d]) cs (errs K d) cs :=
  ev_fn0 (show fz_law_first (u0 K) [some d, none] cs = some (.ret (errs K d) cs) from rfl) (fun _ => nofun) (lows_exc h _)
theorem called_ev {d : D} {cs : List Cel} (h : low cs.length d = true) : Ev (gz_law_called (u0 K) [d]) cs (errs K d) cs :=
  ev_fn0 (show fz_law_called (u0 K) [some d, none] cs = some (.ret (errs K d) cs) from rfl) (fun _ => nofun) (lows_exc h _)
theorem bare_ev {cs : List Cel} : Ev (noX (gz_law_bare (u0 K) [])) cs (errs K .non) cs := by
  have h : Ev (gz_law_bare (u0 K) []) cs (errs K .non) cs := ev_fn0 (show fz_law_bare (u0 K) [none] cs = some (.ret (errs K .non) cs) from rfl) (fun _ => nofun) (lows_exc rfl _)
  exact h.noX
theorem core_ev {C : Addr} {ds : List D} {cs : List Cel} (h : C ∈ (u0 K).all) : Ev (gz_law_is_error (u0 K) [.exc C ds]) cs (.bl true) cs := by
  refine ev_fn0 ?_ (fun _ => nofun) rfl
  have e : (u0 K).isX C = true := List.contains_iff_mem.mpr h
  show fz_law_is_error (u0 K) [some (.exc C ds)] cs = some (.ret (.bl true) cs)
  have t : Ev (gIsi (kAll (u0 K)) (.exc C ds)) cs (.bl true) cs := by
    show (match (if (u0 K).isX C = true then some true else none : Option Bool) with | some b => some (Res.ok (D.bl b) cs) | none => none) = _
    rw [e]
    rfl
  exact evs_ret (ev_and1 (Ev.bnd (ev_var rfl) t) (Ev.bnd (ev_var rfl) t))
/-- the code of the j-th -/
def codeD (j : Nat) : D := .lst [.int j]
theorem code_ev {ds : List D} {cs : List Cel} : ∀ (j : Nat) (C : Addr), ((u0 K).all.drop 1)[j]? = some C → Ev (gz_law_code (u0 K) [.exc C ds]) cs (codeD j) cs := by
  intro j C h
  refine ev_fn0 ?_ (fun _ => nofun) rfl
  have hj : j < 34 := (List.getElem?_eq_some_iff.mp h).1
  have cases34 : ∀ P : Nat → Prop, (∀ i ∈ List.range 34, P i) → P j := fun P hP => hP j (List.mem_range.mpr hj)
  revert C
  refine cases34 (fun j => ∀ C, ((u0 K).all.drop 1)[j]? = some C → fz_law_code (u0 K) [some (.exc C ds), none, none] cs = some (.ret (codeD j) cs)) ?_
  intro i hi
  simp only [List.range, List.range.loop, List.mem_cons, List.not_mem_nil, or_false] at hi
  rcases hi with rfl | rfl | rfl | rfl | rfl | rfl | rfl | rfl | rfl | rfl | rfl | rfl | rfl | rfl | rfl | rfl | rfl | rfl | rfl | rfl | rfl | rfl | rfl | rfl | rfl | rfl | rfl | rfl | rfl | rfl | rfl | rfl | rfl | rfl <;> (intro C h; cases h; kernel_rfl)

/-! ### _law_right -/
theorem ev_compMap {i : Nat} {e : EF} {ρ : Evn} {cs : List Cel} {q : Gd} (hq : gOk q cs) : ∀ (items : List D) (h : D → D), (∀ d ∈ items, Ev (e (ρ.set i (some d))) cs (h d) cs) → Ev (compF q (tgName i) tfY e ρ items) cs (items.map h) cs
  | [], _, _ => ev_comp0 hq
  | d :: items, h, H => ev_comp rfl ev_tfY (H d List.mem_cons_self) (ev_compMap hq items h fun x hx => H x (List.mem_cons_of_mem _ hx)) hq
theorem ev_compNone {i : Nat} {t : TF} {e : EF} {ρ : Evn} {cs : List Cel} : ∀ (items : List D), (∀ d ∈ items, Ev (t (ρ.set i (some d))) cs false cs) → Ev (compF none (tgName i) t e ρ items) cs [] cs
  | [], _ => ev_comp0
  | d :: items, H => ev_compN rfl (H d List.mem_cons_self) (ev_compNone items fun x hx => H x (List.mem_cons_of_mem _ hx))
theorem ev_repr {cs : List Cel} {d : D} {s : Str} (h : reprD cs d = some s) : Ev (gRepr [d]) cs (.str s) cs := by
  unfold Ev gRepr
  dsimp only
  rw [h]
theorem ev_val {u : U} {C : Addr} {d : D} {cs : List Cel} (h : u.isX C = true) : Ev (gVal u.isX (.exc C [d])) cs d cs := by
  show (if u.isX C = true then some (Res.ok d cs) else none) = _
  rw [if_pos h]
/-- a function of the error that gives its code -/
def idx (K : PySem.W.Frag) : D → Nat
  | .exc C _ => ((u0 K).all.drop 1).idxOf C
  | _ => 0
theorem lf_get {C : Addr} (h : C ∈ lf K) : ((u0 K).all.drop 1)[((u0 K).all.drop 1).idxOf C]? = some C ∧ C ∈ (u0 K).all := by
  have h1 : C ∈ (u0 K).all.drop 1 := List.mem_of_mem_take h
  exact ⟨by rw [List.getElem?_eq_getElem (List.idxOf_lt_length_of_mem h1)]; exact congrArg some (List.getElem_idxOf _), List.mem_of_mem_drop h1⟩
theorem lf_len {d : D} : ((lf K).map fun C => D.exc C [d]).length ≤ sizeLine := by
  have e : ((lf K).map fun C => D.exc C [d]).length = 32 := by rw [List.length_map]; rfl
  rw [e]
  decide
theorem codes_are {d : D} : ((lf K).map fun C => D.exc C [d]).map (fun x => codeD (idx K x)) = (List.range 32).map codeD := by kernel_rfl
theorem right_ev {d : D} {s : Str} {cs : List Cel} (h : reprD cs d = some s) : Ev (gz_law_right (u0 K) [errs K d, .str s]) cs (.bl true) cs := by
  refine ev_fn0 ?_ (fun _ => nofun) rfl
  show fz_law_right (u0 K) [some (errs K d), some (.str s), none, none] cs = some (.ret (.bl true) cs)
  refine evs_seq (evs_ifF (ev_tst (b := false) (ev_op (c1 := cs) (c2 := cs) (c3 := cs) (x := .lst ((List.range 32).map codeD)) (y := .lst ((List.range 32).map codeD)) ?_ ?_ ?_)) rfl) ?_
  · refine ev_lc (ev_iL (ev_var rfl)) lf_len ?_ rfl
    rw [← codes_are (K := K) (d := d)]
    refine ev_compMap (q := none) trivial _ _ fun x hx => ?_
    obtain ⟨C, hC, rfl⟩ := List.mem_map.mp hx
    obtain ⟨g1, g2⟩ := lf_get hC
    exact ev_call (ev_cons (ev_var rfl) ev_nil) (ev_arg rfl (code_ev _ C g1))
  · show _ = _
    kernel_rfl
  · exact ev_neP (cs := cs) (p := .list ((List.range 32).map fun j : Nat => .list [.int (j : Int)])) (q := .list ((List.range 32).map fun j : Nat => .list [.int (j : Int)])) rfl (by kernel_rfl) (by kernel_rfl) (by decide +kernel)
  · refine evs_ret (ev_op (c1 := cs) (c2 := cs) (c3 := cs) (x := .lst []) (y := .lst []) (ev_lc (ws := []) (ev_iL (ev_var rfl)) lf_len (ev_compNone _ fun x hx => ?_) rfl) (ev_mkF (ev_nil) (Nat.zero_le _)) ?_)
    · obtain ⟨C, hC, rfl⟩ := List.mem_map.mp hx
      obtain ⟨g1, g2⟩ := lf_get hC
      have e : (u0 K).isX C = true := List.contains_iff_mem.mpr g2
      refine ev_orT0 (ev_notT (b := true) (ev_tst (ev_call (ev_cons (ev_var rfl) ev_nil) (ev_arg rfl (core_ev g2))))) (ev_tst (ev_op (ev_call (ev_cons (Ev.bnd (ev_var rfl) (ev_val e)) ev_nil) (ev_repr h)) (ev_var rfl) ?_))
      have := ev_neS (cs := cs) (a := s) (b := s)
      simpa using this
    · exact ev_eqP (p := .list []) (q := .list []) rfl rfl rfl ⟨rfl, rfl⟩

/-! ### how long a repr is -/
theorem join_le : ∀ ts : List Str, (Str.join ", " ts).length ≤ (ts.map (·.length)).sum + 2 * ts.length
  | [] => Nat.le_refl _
  | [x] => by
    show x.length ≤ _
    simp
  | x :: y :: r => by
    have ih := join_le (y :: r)
    have e : (Str.join ", " (x :: y :: r)).length = x.length + 2 + (Str.join ", " (y :: r)).length := by
      show (x ++ ", " ++ Str.join ", " (y :: r)).length = _
      rw [strLen_append, strLen_append]
      rfl
    rw [e]
    simp only [List.map_cons, List.sum_cons, List.length_cons] at ih ⊢
    omega
theorem from_le : ∀ (ts : List Str) (k : Nat) (acc : Str), (textFrom k acc ts).length ≤ acc.length + (ts.map (·.length)).sum + 2 * ts.length
  | [], _, acc => by
    show acc.length ≤ _
    omega
  | t :: r, k, acc => by
    have ih := from_le r (k + 1) (acc ++ (if k > 0 then ", " else "" : String) ++ t)
    have e : (acc ++ (if k > 0 then ", " else "" : String) ++ t).length ≤ acc.length + 2 + t.length := by
      rw [strLen_append, strLen_append]
      by_cases h : k > 0
      · rw [if_pos h]
        exact Nat.le_refl _
      · rw [if_neg h]
        show acc.length + 0 + t.length ≤ _
        omega
    show (textFrom (k + 1) (acc ++ (if k > 0 then ", " else "" : String) ++ t) r).length ≤ _
    simp only [List.map_cons, List.sum_cons, List.length_cons]
    omega
theorem lt_len (ts : List Str) : (listText ts).length ≤ (ts.map (·.length)).sum + 2 * ts.length + 2 := by
  unfold listText
  rw [strLen_append]
  have := from_le ts 0 "["
  have e1 : ((("[" : String) : Str)).length = 1 := rfl
  have e2 : ((("]" : String) : Str)).length = 1 := rfl
  rw [e1] at this
  rw [e2]
  omega
theorem tt_len (ts : List Str) : (tupleText ts).length ≤ (ts.map (·.length)).sum + 2 * ts.length + 3 := by
  unfold tupleText
  rw [strLen_append, strLen_append]
  have := join_le ts
  have e1 : ((("(" : String) : Str)).length = 1 := rfl
  have e2 : (((if ts.length == 1 then ",)" else ")" : String) : Str)).length ≤ 2 := by
    by_cases h : (ts.length == 1) = true
    · rw [if_pos h]
      decide
    · rw [if_neg h]
      decide
  have e1' : (("(" : Str)).length = 1 := rfl
  rw [e1']
  omega
theorem dt_len (ts : List Str) : (dictText ts).length ≤ (ts.map (·.length)).sum + 2 * ts.length + 2 := by
  unfold dictText
  rw [strLen_append, strLen_append]
  have := join_le ts
  have e1' : (("{" : Str)).length = 1 := rfl
  have e2' : ((("}" : String) : Str)).length = 1 := rfl
  rw [e1', e2']
  omega
theorem w_repr {w : Str} (h : IsW w) : (reprText w).length ≤ 82 := by
  have := PySem.StrLaws.reprText_len w (fun c hc => by have := (h.az c hc).2; omega)
  have l := h.len
  have e : w.length = w.cps.toList.length := by
    show w.cps.size = _
    simp
  omega
theorem reprD_of {cs : List Cel} {d : D} {p : PyData} (h : toP cs 60 d = some p) (c : p.showable = true ∧ (isI p = true ∨ p.shown.length ≤ sizeLine) ∧ p.depth ≤ 60) : reprD cs d = some p.shown := by
  unfold reprD
  rw [h]
  dsimp only
  rw [if_pos c]

/-! ### the things, the cells -/
def lw (l : List Str) : Cel := ⟨.lst (l.map D.str), true⟩
def st (p : Pu) (w : Str) : List Cel := [⟨p.D, true⟩, lw [w], lw [w], ⟨.dic false [.str w] [.cel 2], true⟩, lw [w], lw [w], ⟨.dic false [.str "odd"] [.str w], true⟩, ⟨.lst [.cel 5, .cel 6], true⟩]
def plainL (b : Int) (w : Str) : List D := [.non, .bl true, .bl false, .int 0, .str w, .int (-b), .tup [.str "says", .str w, .int 1, .int 2], .tup [.str w, .cel 1], .cel 3]
def things (b : Int) (w : Str) : List D := plainL b w ++ [.cel 4, .cel 7]
/-- the three changes -/
noncomputable def mut1 : SF := sIf (fTst (fun ρ => bnd ((fVar 4) ρ) (gIsi (kB "list")))) (sExpr (fBm "list" gAppend (fVar 4) (fCons (fC (.str "later")) fNil))) sNil
noncomputable def mut2 : SF := sIf (fTst (fun ρ => bnd ((fVar 4) ρ) (gIsi (kB "dict")))) (sSeq (sExpr (fBm "list" gAppend (fOp gAt (fVar 4) (fVar 2)) (fCons (fC (.str "later")) fNil)))
    (sAsg (fC (.int 1)) (tgSub (fVar 4) (fC (.str "LATER"))))) sNil
noncomputable def mut3 : SF := sIf (fAndT (fTst (fun ρ => bnd ((fVar 4) ρ) (gIsi (kB "tuple")))) (fTst (fun ρ => bnd ((fOp gAt (fVar 4) (fC (.int 1))) ρ) (gIsi (kB "list"))))) (sExpr (fBm "list" gAppend (fOp gAt (fVar 4) (fC (.int 1))) (fCons (fC (.str "later")) fNil))) sNil
theorem says_len : (reprText "says").length = 6 := by decide +kernel
theorem later_len : (reprText "later").length = 7 := by decide +kernel
theorem LATER_len : (reprText "LATER").length = 7 := by decide +kernel
theorem odd_len : (reprText "odd").length = 5 := by decide +kernel
theorem one_len : ((Str.ofString (toString (1 : Int)))).length = 1 := by decide +kernel
theorem two_len : ((Str.ofString (toString (2 : Int)))).length = 1 := by decide +kernel
theorem big : (400 : Nat) ≤ sizeLine := by decide
section
variable {w : Str} {b : Int} {cs : List Cel}
def pW (l : List Str) : PyData := .list (l.map .str)
theorem len_pW1 (h : IsW w) : (PyData.shown (pW [w])).length ≤ 86 := by
  have e : PyData.shown (pW [w]) = listText [reprText w] := by simp [pW, PyData.shown, PyData.shownAll]
  have := lt_len [reprText w]
  have hw := w_repr h
  rw [e]
  simp only [List.map_cons, List.map_nil, List.sum_cons, List.sum_nil, List.length_cons, List.length_nil] at this
  omega
theorem len_pW2 (h : IsW w) : (PyData.shown (pW [w, "later"])).length ≤ 95 := by
  have e : PyData.shown (pW [w, "later"]) = listText [reprText w, reprText "later"] := by simp [pW, PyData.shown, PyData.shownAll]
  have := lt_len [reprText w, reprText "later"]
  have hw := w_repr h
  have hl := later_len
  rw [e]
  simp only [List.map_cons, List.map_nil, List.sum_cons, List.sum_nil, List.length_cons, List.length_nil] at this
  omega
theorem ok_str (h : IsW w) : (PyData.str w).showable = true ∧ (isI (.str w) = true ∨ (PyData.shown (.str w)).length ≤ sizeLine) ∧ (PyData.str w).depth ≤ 60 := by
  refine ⟨by simp [PyData.showable], .inr ?_, by simp [PyData.depth]⟩
  have e : PyData.shown (.str w) = reprText w := by simp [PyData.shown]
  rw [e]
  have := w_repr h
  have := big
  omega
theorem ok_int {i : Int} (h : i.natAbs < 2 ^ 40) : (PyData.int i).showable = true ∧ (isI (.int i) = true ∨ (PyData.shown (.int i)).length ≤ sizeLine) ∧ (PyData.int i).depth ≤ 60 := by
  refine ⟨?_, .inl rfl, by simp [PyData.depth]⟩
  simp only [PyData.showable, decide_eq_true_eq]
  by_cases h0 : i.natAbs = 0
  · rw [h0]
    decide
  · have := (Nat.log2_lt h0).mpr h
    omega
theorem ok_of {p : PyData} (h1 : p.showable = true) (h2 : p.shown.length ≤ 400) (h3 : p.depth ≤ 60) : p.showable = true ∧ (isI p = true ∨ p.shown.length ≤ sizeLine) ∧ p.depth ≤ 60 := ⟨h1, .inr (Nat.le_trans h2 big), h3⟩
theorem ok_says (h : IsW w) : (PyData.shown (.tuple [.str "says", .str w, .int 1, .int 2])).length ≤ 400 := by
  have e : PyData.shown (.tuple [.str "says", .str w, .int 1, .int 2]) = tupleText [reprText "says", reprText w, Str.ofString (toString (1 : Int)), Str.ofString (toString (2 : Int))] := by simp [PyData.shown, PyData.shownAll]
  have := tt_len [reprText "says", reprText w, Str.ofString (toString (1 : Int)), Str.ofString (toString (2 : Int))]
  have hw := w_repr h
  rw [e]
  simp only [List.map_cons, List.map_nil, List.sum_cons, List.sum_nil, List.length_cons, List.length_nil, says_len, one_len, two_len] at this
  omega
theorem ok_pair (h : IsW w) {q : PyData} (hq : (PyData.shown q).length ≤ 200) : (PyData.shown (.tuple [.str w, q])).length ≤ 400 := by
  have e : PyData.shown (.tuple [.str w, q]) = tupleText [reprText w, PyData.shown q] := by simp [PyData.shown, PyData.shownAll]
  have := tt_len [reprText w, PyData.shown q]
  have hw := w_repr h
  rw [e]
  simp only [List.map_cons, List.map_nil, List.sum_cons, List.sum_nil, List.length_cons, List.length_nil] at this
  omega
theorem ok_later (h : IsW w) : (PyData.shown (.tuple [.str "later", .str w])).length ≤ 400 := by
  have e : PyData.shown (.tuple [.str "later", .str w]) = tupleText [reprText "later", reprText w] := by simp [PyData.shown, PyData.shownAll]
  have := tt_len [reprText "later", reprText w]
  have hw := w_repr h
  rw [e]
  simp only [List.map_cons, List.map_nil, List.sum_cons, List.sum_nil, List.length_cons, List.length_nil, later_len] at this
  omega
theorem len_kv {k v : PyData} {n : Nat} (hk : (PyData.shown k).length + (PyData.shown v).length ≤ n) : (PyData.shown k ++ ": " ++ PyData.shown v).length ≤ n + 2 := by
  rw [strLen_append, strLen_append]
  have e : ((": " : Str)).length = 2 := rfl
  rw [e]
  omega
theorem ok_d1 (h : IsW w) {k : PyData} (hk : (PyData.shown k).length ≤ 90) {v : PyData} (hv : (PyData.shown v).length ≤ 100) : (PyData.shown (.dict [(k, v)])).length ≤ 200 := by
  have e : PyData.shown (.dict [(k, v)]) = dictText [PyData.shown k ++ ": " ++ PyData.shown v] := by simp [PyData.shown, PyData.shownKv]
  have := dt_len [PyData.shown k ++ ": " ++ PyData.shown v]
  have l := len_kv (k := k) (v := v) (n := 190) (by omega)
  rw [e]
  simp only [List.map_cons, List.map_nil, List.sum_cons, List.sum_nil, List.length_cons, List.length_nil] at this
  omega
theorem ok_d2 (h : IsW w) : (PyData.shown (.dict [(.str w, pW [w, "later"]), (.str "LATER", .int 1)])).length ≤ 400 := by
  have e : PyData.shown (.dict [(.str w, pW [w, "later"]), (.str "LATER", .int 1)]) = dictText [PyData.shown (.str w) ++ ": " ++ PyData.shown (pW [w, "later"]), PyData.shown (.str "LATER") ++ ": " ++ PyData.shown (.int 1)] := by simp [PyData.shown, PyData.shownKv]
  have := dt_len [PyData.shown (.str w) ++ ": " ++ PyData.shown (pW [w, "later"]), PyData.shown (.str "LATER") ++ ": " ++ PyData.shown (.int 1)]
  have hw := w_repr h
  have l2 := len_pW2 h
  have e1 : PyData.shown (.str w) = reprText w := by simp [PyData.shown]
  have e2 : PyData.shown (.str "LATER") = reprText "LATER" := by simp [PyData.shown]
  have e3 : PyData.shown (.int 1) = Str.ofString (toString (1 : Int)) := by simp [PyData.shown]
  have a1 := len_kv (k := .str w) (v := pW [w, "later"]) (n := 180) (by rw [e1]; omega)
  have a2 := len_kv (k := .str "LATER") (v := .int 1) (n := 8) (by rw [e2, e3, LATER_len, one_len]; decide)
  rw [e]
  simp only [List.map_cons, List.map_nil, List.sum_cons, List.sum_nil, List.length_cons, List.length_nil] at this
  omega
theorem ok_l2 (h : IsW w) : (PyData.shown (.list [pW [w], .dict [(.str "odd", .str w)]])).length ≤ 400 := by
  have e : PyData.shown (.list [pW [w], .dict [(.str "odd", .str w)]]) = listText [PyData.shown (pW [w]), PyData.shown (.dict [(.str "odd", .str w)])] := by simp [PyData.shown, PyData.shownAll]
  have := lt_len [PyData.shown (pW [w]), PyData.shown (.dict [(.str "odd", .str w)])]
  have l1 := len_pW1 h
  have hw := w_repr h
  have e1 : PyData.shown (.str w) = reprText w := by simp [PyData.shown]
  have e2 : PyData.shown (.str "odd") = reprText "odd" := by simp [PyData.shown]
  have l2 := ok_d1 h (k := .str "odd") (by rw [e2, odd_len]; omega) (v := .str w) (by rw [e1]; omega)
  rw [e]
  simp only [List.map_cons, List.map_nil, List.sum_cons, List.sum_nil, List.length_cons, List.length_nil] at this
  omega
theorem ok_l3 (h : IsW w) : (PyData.shown (.list [pW [w], .dict [(.str "odd", .str w)], .str "later"])).length ≤ 400 := by
  have e : PyData.shown (.list [pW [w], .dict [(.str "odd", .str w)], .str "later"]) = listText [PyData.shown (pW [w]), PyData.shown (.dict [(.str "odd", .str w)]), reprText "later"] := by simp [PyData.shown, PyData.shownAll]
  have := lt_len [PyData.shown (pW [w]), PyData.shown (.dict [(.str "odd", .str w)]), reprText "later"]
  have l1 := len_pW1 h
  have hw := w_repr h
  have e1 : PyData.shown (.str w) = reprText w := by simp [PyData.shown]
  have e2 : PyData.shown (.str "odd") = reprText "odd" := by simp [PyData.shown]
  have l2 := ok_d1 h (k := .str "odd") (by rw [e2, odd_len]; omega) (v := .str w) (by rw [e1]; omega)
  rw [e]
  simp only [List.map_cons, List.map_nil, List.sum_cons, List.sum_nil, List.length_cons, List.length_nil, later_len] at this
  omega
end

/-! ### what happens to the thing -/
structure Th (p : Pu) (w : Str) (d : D) where
  cs : List Cel
  len : cs.length = 8
  s1 : Str
  s2 : Str
  r1 : reprD (st p w) d = some s1
  r2 : reprD cs d = some s2
  lw : low 8 d = true
  ca : List Cel
  cb : List Cel
  m1 : ∀ (a b c e f g h i j : Option D), mut1 [a, b, some (.str w), c, some d, e, f, g, h, i, j] (st p w) = some (.nx [a, b, some (.str w), c, some d, e, f, g, h, i, j] ca)
  m2 : ∀ (a b c e f g h i j : Option D), mut2 [a, b, some (.str w), c, some d, e, f, g, h, i, j] ca = some (.nx [a, b, some (.str w), c, some d, e, f, g, h, i, j] cb)
  m3 : ∀ (a b c e f g h i j : Option D), mut3 [a, b, some (.str w), c, some d, e, f, g, h, i, j] cb = some (.nx [a, b, some (.str w), c, some d, e, f, g, h, i, j] cs)
theorem th_same {p : Pu} {w : Str} {d : D} {q : PyData} (h : toP (st p w) 60 d = some q) (c : q.showable = true ∧ (isI q = true ∨ q.shown.length ≤ sizeLine) ∧ q.depth ≤ 60) (l : low 8 d = true)
    (m1 : ∀ (a b c e f g h i j : Option D), mut1 [a, b, some (.str w), c, some d, e, f, g, h, i, j] (st p w) = some (.nx [a, b, some (.str w), c, some d, e, f, g, h, i, j] (st p w)))
    (m2 : ∀ (a b c e f g h i j : Option D), mut2 [a, b, some (.str w), c, some d, e, f, g, h, i, j] (st p w) = some (.nx [a, b, some (.str w), c, some d, e, f, g, h, i, j] (st p w)))
    (m3 : ∀ (a b c e f g h i j : Option D), mut3 [a, b, some (.str w), c, some d, e, f, g, h, i, j] (st p w) = some (.nx [a, b, some (.str w), c, some d, e, f, g, h, i, j] (st p w))) : Nonempty (Th p w d) :=
  ⟨⟨st p w, rfl, _, _, reprD_of h c, reprD_of h c, l, st p w, st p w, m1, m2, m3⟩⟩
theorem eqkw {w : Str} : eqk (.str w) (.str w) = true := by simp [eqk]
theorem eqkL {w : Str} (h : IsW w) : eqk (.str w) (.str "LATER") = false := by
  have : w ≠ "LATER" := by
    intro e
    have := (h.az 76 (by rw [e]; decide)).1
    omega
  simp [eqk, this]
def st1 (p : Pu) (w : Str) : List Cel := (st p w).set 2 (lw [w, "later"])
def st2 (p : Pu) (w : Str) : List Cel := (st1 p w).set 3 ⟨.dic false [.str w, .str "LATER"] [.cel 2, .int 1], true⟩
theorem at3 {p : Pu} {w : Str} : Ev (gAt (.cel 3) (.str w)) (st p w) (.cel 2) (st p w) := by
  have e : vw (st p w) (.cel 3) = some (.dic false [.str w] [.cel 2]) := rfl
  unfold gAt Ev
  dsimp only
  rw [e]
  simp only [okK, flatK, look, eqkw, if_true]
  rfl
theorem set3 {p : Pu} {w : Str} (h : IsW w) : setC (.cel 3) (.str "LATER") (.int 1) (st1 p w) = some (st2 p w) := by
  have e : liveD (.cel 3) (st1 p w) = some (3, .dic false [.str w] [.cel 2]) := rfl
  unfold setC
  rw [e]
  have e2 : putD [.str w] [.cel 2] (.str "LATER") (.int 1) = ([.str w, .str "LATER"], [.cel 2, .int 1]) := by
    unfold putD hasK
    simp only [List.any_cons, List.any_nil, eqkL h, Bool.or_false, Bool.false_or]
    rfl
  dsimp only
  rw [e2]
  rfl
theorem mut2d {p : Pu} {w : Str} (hw : IsW w) (a b c e f g h i j : Option D) : mut2 [a, b, some (.str w), c, some (.cel 3), e, f, g, h, i, j] (st p w) = some (.nx [a, b, some (.str w), c, some (.cel 3), e, f, g, h, i, j] (st2 p w)) := by
  unfold mut2
  refine evs_ifT (c1 := st p w) (by unfold Ev; kernel_rfl) (evs_seq (ρ1 := [a, b, some (.str w), c, some (.cel 3), e, f, g, h, i, j]) (c1 := st1 p w) (evs_expr (d := .non) ?_) (evs_asg (r := ([a, b, some (.str w), c, some (.cel 3), e, f, g, h, i, j], st2 p w)) ev_c ?_))
  · refine Ev.bnd (x := .cel 2) (c1 := st p w) (ev_op (ev_var rfl) (ev_var rfl) at3) ?_
    unfold Ev
    kernel_rfl
  · have e3 := set3 (p := p) hw
    unfold tgSub
    have e4 : bnd ((fVar 4) [a, b, some (.str w), c, some (.cel 3), e, f, g, h, i, j]) (fun o => bnd ((fC (.str "LATER")) [a, b, some (.str w), c, some (.cel 3), e, f, g, h, i, j]) fun i => fun cs => (setC o i (.int 1) cs).map fun cs' => Res.ok () cs') (st1 p w) = some (.ok () (st2 p w)) := by
      refine Ev.bnd (x := .cel 3) (c1 := st1 p w) (ev_var rfl) (Ev.bnd (x := .str "LATER") (c1 := st1 p w) ev_c ?_)
      unfold Ev
      dsimp only
      rw [e3]
      rfl
    rw [e4]
theorem th {p : Pu} {b : Int} {w : Str} (hw : IsW w) (hb : (-b).natAbs < 2 ^ 40) {d : D} (hd : d ∈ things b w) : Nonempty (Th p w d) := by
  simp only [things, plainL, List.mem_append, List.mem_cons, List.not_mem_nil, or_false] at hd
  rcases hd with (rfl | rfl | rfl | rfl | rfl | rfl | rfl | rfl | rfl) | (rfl | rfl)
  · exact th_same (q := .none) rfl (ok_of rfl (by decide +kernel) (by decide +kernel)) rfl (by intros; kernel_rfl) (by intros; kernel_rfl) (by intros; kernel_rfl)
  · exact th_same (q := .bool true) rfl (ok_of rfl (by decide +kernel) (by decide +kernel)) rfl (by intros; kernel_rfl) (by intros; kernel_rfl) (by intros; kernel_rfl)
  · exact th_same (q := .bool false) rfl (ok_of rfl (by decide +kernel) (by decide +kernel)) rfl (by intros; kernel_rfl) (by intros; kernel_rfl) (by intros; kernel_rfl)
  · exact th_same (q := .int 0) rfl (ok_int (by decide)) rfl (by intros; kernel_rfl) (by intros; kernel_rfl) (by intros; kernel_rfl)
  · exact th_same (q := .str w) rfl (ok_str hw) rfl (by intros; kernel_rfl) (by intros; kernel_rfl) (by intros; kernel_rfl)
  · exact th_same (q := .int (-b)) rfl (ok_int hb) rfl (by intros; kernel_rfl) (by intros; kernel_rfl) (by intros; kernel_rfl)
  · exact th_same (q := .tuple [.str "says", .str w, .int 1, .int 2]) rfl (ok_of (by simp [PyData.showable, PyData.showableAll]; decide) (ok_says hw) (by simp [PyData.depth, PyData.depthAll])) rfl (by intros; kernel_rfl) (by intros; kernel_rfl) (by intros; kernel_rfl)
  · refine ⟨⟨(st p w).set 1 (lw [w, "later"]), rfl, _, _, reprD_of (p := .tuple [.str w, pW [w]]) rfl (ok_of (by simp [pW, PyData.showable, PyData.showableAll]) (ok_pair hw (by have := len_pW1 hw; omega)) (by simp [pW, PyData.depth, PyData.depthAll])),
      reprD_of (p := .tuple [.str w, pW [w, "later"]]) rfl (ok_of (by simp [pW, PyData.showable, PyData.showableAll]) (ok_pair hw (by have := len_pW2 hw; omega)) (by simp [pW, PyData.depth, PyData.depthAll])), rfl, st p w, st p w, by intros; kernel_rfl, by intros; kernel_rfl, by intros; kernel_rfl⟩⟩
  · refine ⟨⟨st2 p w, rfl, _, _, reprD_of (p := .dict [(.str w, pW [w])]) rfl (ok_of (by simp [pW, PyData.showable, PyData.showableAll, PyData.showableKv]) (by
        have e1 : PyData.shown (.str w) = reprText w := by simp [PyData.shown]
        have := ok_d1 hw (k := .str w) (by rw [e1]; have := w_repr hw; omega) (v := pW [w]) (by have := len_pW1 hw; omega)
        omega) (by simp [pW, PyData.depth, PyData.depthAll, PyData.depthKv])),
      reprD_of (p := .dict [(.str w, pW [w, "later"]), (.str "LATER", .int 1)]) rfl (ok_of (by simp [pW, PyData.showable, PyData.showableAll, PyData.showableKv]; try decide) (ok_d2 hw) (by simp [pW, PyData.depth, PyData.depthAll, PyData.depthKv])), rfl, st p w, st2 p w, by intros; kernel_rfl, mut2d hw, by intros; kernel_rfl⟩⟩
  · refine ⟨⟨(st p w).set 4 (lw [w, "later"]), rfl, _, _, reprD_of (p := pW [w]) rfl (ok_of (by simp [pW, PyData.showable, PyData.showableAll]) (by have := len_pW1 hw; omega) (by simp [pW, PyData.depth, PyData.depthAll])),
      reprD_of (p := pW [w, "later"]) rfl (ok_of (by simp [pW, PyData.showable, PyData.showableAll]) (by have := len_pW2 hw; omega) (by simp [pW, PyData.depth, PyData.depthAll])), rfl, (st p w).set 4 (lw [w, "later"]), (st p w).set 4 (lw [w, "later"]), by intros; kernel_rfl, by intros; kernel_rfl, by intros; kernel_rfl⟩⟩
  · refine ⟨⟨(st p w).set 7 ⟨.lst [.cel 5, .cel 6, .str "later"], true⟩, rfl, _, _, reprD_of (p := .list [pW [w], .dict [(.str "odd", .str w)]]) rfl (ok_of (by simp [pW, PyData.showable, PyData.showableAll, PyData.showableKv]) (ok_l2 hw) (by simp [pW, PyData.depth, PyData.depthAll, PyData.depthKv])),
      reprD_of (p := .list [pW [w], .dict [(.str "odd", .str w)], .str "later"]) rfl (ok_of (by simp [pW, PyData.showable, PyData.showableAll, PyData.showableKv]) (ok_l3 hw) (by simp [pW, PyData.depth, PyData.depthAll, PyData.depthKv])), rfl, (st p w).set 7 ⟨.lst [.cel 5, .cel 6, .str "later"], true⟩, (st p w).set 7 ⟨.lst [.cel 5, .cel 6, .str "later"], true⟩, by intros; kernel_rfl, by intros; kernel_rfl, by intros; kernel_rfl⟩⟩

/-! ### the law -/
theorem core_code {cs : List Cel} : Ev (gz_law_code (u0 K) [.exc (u0 K).CoreError []]) cs (.lst []) cs := by
  refine ev_fn0 ?_ (fun _ => nofun) rfl
  show fz_law_code (u0 K) [some (.exc (u0 K).CoreError []), none, none] cs = some (.ret (.lst []) cs)
  kernel_rfl
theorem get_app {l : List Cel} {c : Cel} : (l ++ [c])[l.length]? = some c := by simp
theorem set_app {l : List Cel} {c c' : Cel} : (l ++ [c]).set l.length c' = l ++ [c'] := by simp
theorem ev_app {n : Nat} {cs : List Cel} {ds : List D} {x : D} (h : cs[n]? = some ⟨.lst ds, true⟩) (hl : ds.length < sizeLine) : Ev (gAppend (.cel n) [x]) cs .non (cs.set n ⟨.lst (ds ++ [x]), true⟩) := by
  have e : liveD (.cel n) cs = some (n, .lst ds) := by simp [liveD, h]
  unfold Ev gAppend
  rw [e]
  dsimp only
  rw [if_pos hl]
theorem ev_ty {n : Nat} {cs : List Cel} {ds : List D} {b : Bool} (h : cs[n]? = some ⟨.lst ds, b⟩) : Ev (tyD "list" (.cel n)) cs () cs := by
  unfold Ev tyD
  dsimp only
  rw [h]
  rfl
theorem ev_rt {ρ : Evn} {cs : List Cel} {f1 f2 : EF} {d : D} {s : Str} (h1 : Ev (f1 ρ) cs (errs K d) cs) (h2 : Ev (f2 ρ) cs (.str s) cs) (hr : reprD cs d = some s) : Ev (fTst (fCall (arg 2 (gz_law_right (u0 K))) (fCons f1 (fCons f2 fNil))) ρ) cs true cs :=
  ev_tst (ev_call (ev_cons h1 (ev_cons h2 ev_nil)) (ev_arg rfl (right_ev hr)))
theorem evs_if2 {ρ : Evn} {cs : List Cel} {t1 t2 : TF} {F : SF} (h1 : Ev (t1 ρ) cs true cs) (h2 : Ev (t2 ρ) cs true cs) : sIf (fOrT (fNotT t1) (fNotT t2)) F sNil ρ cs = some (.nx ρ cs) :=
  evs_ifF (ev_orT0 (ev_notT h1) (ev_notT h2)) rfl
theorem evs_st {ρ ρ1 : Evn} {cs c1 : List Cel} {i : Nat} {d : D} {f : EF} (h1 : Ev (f ρ) cs d c1) (h : ρ.set i (some d) = ρ1) : sAsg f (tgName i) ρ cs = some (.nx ρ1 c1) := h ▸ evs_set h1
theorem evs_par3 {ρ ρ1 : Evn} {cs c1 : List Cel} {i j l : Nat} {f : AF} {a b c : D} (h : Ev (f ρ) cs [a, b, c] c1) (h2 : ((ρ.set i (some a)).set j (some b)).set l (some c) = ρ1) : sPar3 i j l f ρ cs = some (.nx ρ1 c1) := by
  subst h2
  unfold Ev at h
  unfold sPar3 bndE
  rw [h]
theorem law_true (K : PySem.W.Frag) (ns : List Int) : ∃ cs, glaw (u0 K) [.scr K ns] [] = some (.ok (.bl true) cs) := by
  obtain ⟨q, e0, ok0⟩ := purses1_ev (K := K) (ns := ns)
  obtain ⟨w, p1, e1, hw, ok1⟩ := word_ev (cs := [⟨q.D, true⟩]) (i := 0) rfl ok0 (by decide)
  obtain ⟨d, p, hd, e2, ok⟩ := one_ev (cs := st p1 w) (i := 0) (q := p1) (ds := things p1.b w) rfl ok1 (by decide) nofun (show 11 < 2 ^ 27 by decide) rfl
  have hb : (-p1.b).natAbs < 2 ^ 40 := by have := ok1.b; have := ok1.b2; omega
  obtain ⟨T⟩ := th (p := p) hw hb hd
  have hl2 : low T.cs.length d = true := by rw [T.len]; exact T.lw
  have rl : reprD (st p w) (.tup [.str "later", .str w]) = some (PyData.tuple [.str "later", .str w]).shown := reprD_of (p := .tuple [.str "later", .str w]) rfl (ok_of (by simp [PyData.showable, PyData.showableAll]) (ok_later hw) (by simp [PyData.depth, PyData.depthAll]))
  have rn : reprD (st p w) .non = some "None" := by kernel_rfl
  refine ⟨_, ev_fn (N := 11) (F := flaw (u0 K)) (d := .bl true) (c1 := T.cs ++ [⟨.lst [.exc (u0 K).NothingToUndo [], .exc (u0 K).NothingToRedo [], .exc (u0 K).CoreError []], true⟩]) ?_ (fun _ => nofun) rfl ?_⟩
  · show flaw (u0 K) [some (.scr K ns), none, none, none, none, none, none, none, none, none, none] [] = _
    unfold flaw
    refine evs_seq (ρ1 := [some (.scr K ns), some (.cel 0), some (.str w), some (.lst (plainL p1.b w)), some d, some (.str T.s1), some (errs K d), some (errs K d), some (errs K (.tup [.str "later", .str w])), none, none]) (c1 := T.cs)
      (evs_for (items := [.cel 0]) (q := none) (c1 := [⟨q.D, true⟩]) (ev_iL (ev_call (ev_cons (ev_var rfl) (ev_cons ev_c ev_nil)) (ev_arg rfl e0))) (evs_loop (ρ1 := [some (.scr K ns), some (.cel 0), none, none, none, none, none, none, none, none, none]) (c1 := [⟨q.D, true⟩]) rfl ?_ evs_loop0)) ?_
    · refine evs_seq (ρ1 := [some (.scr K ns), some (.cel 0), some (.str w), none, none, none, none, none, none, none, none]) (c1 := [⟨p1.D, true⟩]) (evs_st (ev_call (ev_cons (ev_var rfl) ev_nil) (ev_arg rfl e1)) rfl) ?_
      refine evs_seq (ρ1 := [some (.scr K ns), some (.cel 0), some (.str w), some (.lst (plainL p1.b w)), none, none, none, none, none, none, none]) (c1 := [⟨p1.D, true⟩, lw [w], lw [w], ⟨.dic false [.str w] [.cel 2], true⟩]) (evs_st (d := .lst (plainL p1.b w)) (by unfold Ev; kernel_rfl) rfl) ?_
      refine evs_seq (ρ1 := [some (.scr K ns), some (.cel 0), some (.str w), some (.lst (plainL p1.b w)), some d, none, none, none, none, none, none]) (c1 := st p w) (evs_st (ev_call (ev_cons (ev_var rfl) (ev_cons (x := .lst (things p1.b w)) (c2 := st p1 w) (by unfold Ev; kernel_rfl) ev_nil)) (ev_arg rfl e2)) rfl) ?_
      refine evs_seq (ρ1 := [some (.scr K ns), some (.cel 0), some (.str w), some (.lst (plainL p1.b w)), some d, some (.str T.s1), none, none, none, none, none]) (c1 := st p w) (evs_st (ev_call (ev_cons (ev_var rfl) ev_nil) (ev_repr T.r1)) rfl) ?_
      refine evs_seq (ρ1 := [some (.scr K ns), some (.cel 0), some (.str w), some (.lst (plainL p1.b w)), some d, some (.str T.s1), some (errs K d), some (errs K d), some (errs K (.tup [.str "later", .str w])), none, none]) (c1 := st p w)
        (evs_par3 (ev_cons (ev_call (ev_cons (ev_var rfl) ev_nil) (ev_arg rfl (first_ev T.lw))) (ev_cons (ev_call (ev_cons (ev_var rfl) ev_nil) (ev_arg rfl (called_ev T.lw))) (ev_cons (ev_call (ev_cons (ev_mkF (ev_cons ev_c (ev_cons (ev_var rfl) ev_nil)) (show 2 ≤ sizeLine by decide)) ev_nil) (ev_arg rfl (first_ev rfl))) ev_nil))) rfl) ?_
      refine evs_seq (evs_if2 (ev_rt bare_ev ev_c rn) (ev_rt (ev_var rfl) (ev_call (ev_cons (ev_mkF (ev_cons ev_c (ev_cons (ev_var rfl) ev_nil)) (show 2 ≤ sizeLine by decide)) ev_nil) (ev_repr rl)) rl)) ?_
      refine evs_seq (evs_if2 (ev_rt (ev_var rfl) (ev_var rfl) T.r1) (ev_rt (ev_var rfl) (ev_var rfl) T.r1)) ?_
      refine evs_seq (T.m1 _ _ _ _ _ _ _ _ _) ?_
      refine evs_seq (T.m2 _ _ _ _ _ _ _ _ _) ?_
      refine evs_seq (T.m3 _ _ _ _ _ _ _ _ _) ?_
      exact evs_if2 (ev_rt (ev_var rfl) (ev_call (ev_cons (ev_var rfl) ev_nil) (ev_repr T.r2)) T.r2) (ev_rt (ev_var rfl) (ev_call (ev_cons (ev_var rfl) ev_nil) (ev_repr T.r2)) T.r2)
    · refine evs_seq (ρ1 := [some (.scr K ns), some (.cel 0), some (.str w), some (.lst (plainL p1.b w)), some d, some (.str T.s1), some (errs K d), some (errs K d), some (errs K (.tup [.str "later", .str w])), some (.cel T.cs.length), none]) (c1 := T.cs ++ [⟨.lst [.exc (u0 K).NothingToUndo [], .exc (u0 K).NothingToRedo []], true⟩])
        (evs_st (ev_mkC (mk := .lst) (ev_cons (x := .exc (u0 K).NothingToUndo []) ev_ret (ev_cons (x := .exc (u0 K).NothingToRedo []) ev_ret ev_nil)) (show 2 ≤ sizeLine by decide)) rfl) ?_
      have codes : Ev (fLc [10] (iL (fVar 9)) (tgName 10) tfY (fCall (arg 1 (gz_law_code (u0 K))) (fCons (fVar 10) fNil)) mkL [some (.scr K ns), some (.cel 0), some (.str w), some (.lst (plainL p1.b w)), some d, some (.str T.s1), some (errs K d), some (errs K d), some (errs K (.tup [.str "later", .str w])), some (.cel T.cs.length), none]) (T.cs ++ [⟨.lst [.exc (u0 K).NothingToUndo [], .exc (u0 K).NothingToRedo []], true⟩]) (.lst [codeD 32, codeD 33]) (T.cs ++ [⟨.lst [.exc (u0 K).NothingToUndo [], .exc (u0 K).NothingToRedo []], true⟩]) := by
        refine ev_lc (ds := [.exc (u0 K).NothingToUndo [], .exc (u0 K).NothingToRedo []]) (q := some (T.cs.length, [.exc (u0 K).NothingToUndo [], .exc (u0 K).NothingToRedo []])) (c1 := (T.cs ++ [⟨.lst [.exc (u0 K).NothingToUndo [], .exc (u0 K).NothingToRedo []], true⟩])) (ws := [codeD 32, codeD 33]) (c2 := (T.cs ++ [⟨.lst [.exc (u0 K).NothingToUndo [], .exc (u0 K).NothingToRedo []], true⟩])) (ev_iLC (ev_var rfl) get_app) (show 2 ≤ sizeLine by decide) ?_ (show Ev (mkL [codeD 32, codeD 33]) (T.cs ++ [⟨.lst [.exc (u0 K).NothingToUndo [], .exc (u0 K).NothingToRedo []], true⟩]) (.lst [codeD 32, codeD 33]) (T.cs ++ [⟨.lst [.exc (u0 K).NothingToUndo [], .exc (u0 K).NothingToRedo []], true⟩]) from rfl)
        refine ev_comp (c1 := (T.cs ++ [⟨.lst [.exc (u0 K).NothingToUndo [], .exc (u0 K).NothingToRedo []], true⟩])) (c2 := (T.cs ++ [⟨.lst [.exc (u0 K).NothingToUndo [], .exc (u0 K).NothingToRedo []], true⟩])) (c3 := (T.cs ++ [⟨.lst [.exc (u0 K).NothingToUndo [], .exc (u0 K).NothingToRedo []], true⟩])) rfl ev_tfY (ev_call (c1 := (T.cs ++ [⟨.lst [.exc (u0 K).NothingToUndo [], .exc (u0 K).NothingToRedo []], true⟩])) (ws := [.exc (u0 K).NothingToUndo []]) (ev_cons (ev_var rfl) ev_nil) (ev_arg rfl (code_ev 32 _ rfl))) ?_ get_app
        refine ev_comp (c1 := (T.cs ++ [⟨.lst [.exc (u0 K).NothingToUndo [], .exc (u0 K).NothingToRedo []], true⟩])) (c2 := (T.cs ++ [⟨.lst [.exc (u0 K).NothingToUndo [], .exc (u0 K).NothingToRedo []], true⟩])) (c3 := (T.cs ++ [⟨.lst [.exc (u0 K).NothingToUndo [], .exc (u0 K).NothingToRedo []], true⟩])) rfl ev_tfY (ev_call (c1 := (T.cs ++ [⟨.lst [.exc (u0 K).NothingToUndo [], .exc (u0 K).NothingToRedo []], true⟩])) (ws := [.exc (u0 K).NothingToRedo []]) (ev_cons (ev_var rfl) ev_nil) (ev_arg rfl (code_ev 33 _ rfl))) ?_ get_app
        exact ev_comp0 get_app
      have cores : Ev (fLc [10] (iL (fVar 9)) (tgName 10) tfY (fCall (arg 1 (gz_law_is_error (u0 K))) (fCons (fVar 10) fNil)) mkL [some (.scr K ns), some (.cel 0), some (.str w), some (.lst (plainL p1.b w)), some d, some (.str T.s1), some (errs K d), some (errs K d), some (errs K (.tup [.str "later", .str w])), some (.cel T.cs.length), none]) (T.cs ++ [⟨.lst [.exc (u0 K).NothingToUndo [], .exc (u0 K).NothingToRedo [], .exc (u0 K).CoreError []], true⟩]) (.lst [.bl true, .bl true, .bl true]) (T.cs ++ [⟨.lst [.exc (u0 K).NothingToUndo [], .exc (u0 K).NothingToRedo [], .exc (u0 K).CoreError []], true⟩]) := by
        refine ev_lc (ds := [.exc (u0 K).NothingToUndo [], .exc (u0 K).NothingToRedo [], .exc (u0 K).CoreError []]) (q := some (T.cs.length, [.exc (u0 K).NothingToUndo [], .exc (u0 K).NothingToRedo [], .exc (u0 K).CoreError []])) (c1 := (T.cs ++ [⟨.lst [.exc (u0 K).NothingToUndo [], .exc (u0 K).NothingToRedo [], .exc (u0 K).CoreError []], true⟩])) (ws := [.bl true, .bl true, .bl true]) (c2 := (T.cs ++ [⟨.lst [.exc (u0 K).NothingToUndo [], .exc (u0 K).NothingToRedo [], .exc (u0 K).CoreError []], true⟩])) (ev_iLC (ev_var rfl) get_app) (show 3 ≤ sizeLine by decide) ?_ (show Ev (mkL [.bl true, .bl true, .bl true]) (T.cs ++ [⟨.lst [.exc (u0 K).NothingToUndo [], .exc (u0 K).NothingToRedo [], .exc (u0 K).CoreError []], true⟩]) (.lst [.bl true, .bl true, .bl true]) (T.cs ++ [⟨.lst [.exc (u0 K).NothingToUndo [], .exc (u0 K).NothingToRedo [], .exc (u0 K).CoreError []], true⟩]) from rfl)
        refine ev_comp (c1 := (T.cs ++ [⟨.lst [.exc (u0 K).NothingToUndo [], .exc (u0 K).NothingToRedo [], .exc (u0 K).CoreError []], true⟩])) (c2 := (T.cs ++ [⟨.lst [.exc (u0 K).NothingToUndo [], .exc (u0 K).NothingToRedo [], .exc (u0 K).CoreError []], true⟩])) (c3 := (T.cs ++ [⟨.lst [.exc (u0 K).NothingToUndo [], .exc (u0 K).NothingToRedo [], .exc (u0 K).CoreError []], true⟩])) rfl ev_tfY (ev_call (c1 := (T.cs ++ [⟨.lst [.exc (u0 K).NothingToUndo [], .exc (u0 K).NothingToRedo [], .exc (u0 K).CoreError []], true⟩])) (ws := [.exc (u0 K).NothingToUndo []]) (ev_cons (ev_var rfl) ev_nil) (ev_arg rfl (core_ev (by simp [U.all])))) ?_ get_app
        refine ev_comp (c1 := (T.cs ++ [⟨.lst [.exc (u0 K).NothingToUndo [], .exc (u0 K).NothingToRedo [], .exc (u0 K).CoreError []], true⟩])) (c2 := (T.cs ++ [⟨.lst [.exc (u0 K).NothingToUndo [], .exc (u0 K).NothingToRedo [], .exc (u0 K).CoreError []], true⟩])) (c3 := (T.cs ++ [⟨.lst [.exc (u0 K).NothingToUndo [], .exc (u0 K).NothingToRedo [], .exc (u0 K).CoreError []], true⟩])) rfl ev_tfY (ev_call (c1 := (T.cs ++ [⟨.lst [.exc (u0 K).NothingToUndo [], .exc (u0 K).NothingToRedo [], .exc (u0 K).CoreError []], true⟩])) (ws := [.exc (u0 K).NothingToRedo []]) (ev_cons (ev_var rfl) ev_nil) (ev_arg rfl (core_ev (by simp [U.all])))) ?_ get_app
        refine ev_comp (c1 := (T.cs ++ [⟨.lst [.exc (u0 K).NothingToUndo [], .exc (u0 K).NothingToRedo [], .exc (u0 K).CoreError []], true⟩])) (c2 := (T.cs ++ [⟨.lst [.exc (u0 K).NothingToUndo [], .exc (u0 K).NothingToRedo [], .exc (u0 K).CoreError []], true⟩])) (c3 := (T.cs ++ [⟨.lst [.exc (u0 K).NothingToUndo [], .exc (u0 K).NothingToRedo [], .exc (u0 K).CoreError []], true⟩])) rfl ev_tfY (ev_call (c1 := (T.cs ++ [⟨.lst [.exc (u0 K).NothingToUndo [], .exc (u0 K).NothingToRedo [], .exc (u0 K).CoreError []], true⟩])) (ws := [.exc (u0 K).CoreError []]) (ev_cons (ev_var rfl) ev_nil) (ev_arg rfl (core_ev (by simp [U.all])))) ?_ get_app
        exact ev_comp0 get_app
      refine evs_seq (c1 := (T.cs ++ [⟨.lst [.exc (u0 K).NothingToUndo [], .exc (u0 K).NothingToRedo []], true⟩])) (evs_ifF (c1 := (T.cs ++ [⟨.lst [.exc (u0 K).NothingToUndo [], .exc (u0 K).NothingToRedo []], true⟩])) (ev_tst (b := false) (ev_op (c1 := (T.cs ++ [⟨.lst [.exc (u0 K).NothingToUndo [], .exc (u0 K).NothingToRedo []], true⟩])) (c2 := (T.cs ++ [⟨.lst [.exc (u0 K).NothingToUndo [], .exc (u0 K).NothingToRedo []], true⟩])) (c3 := (T.cs ++ [⟨.lst [.exc (u0 K).NothingToUndo [], .exc (u0 K).NothingToRedo []], true⟩])) (x := .lst [codeD 32, codeD 33]) (y := .lst [codeD 32, codeD 33]) codes (by unfold Ev; kernel_rfl)
        (ev_neP (p := .list [.list [.int 32], .list [.int 33]]) (q := .list [.list [.int 32], .list [.int 33]]) rfl rfl rfl ⟨rfl, rfl⟩))) rfl) ?_
      refine evs_seq (c1 := (T.cs ++ [⟨.lst [.exc (u0 K).NothingToUndo [], .exc (u0 K).NothingToRedo [], .exc (u0 K).CoreError []], true⟩])) (evs_expr (d := .non) (Ev.bnd (x := .cel T.cs.length) (c1 := (T.cs ++ [⟨.lst [.exc (u0 K).NothingToUndo [], .exc (u0 K).NothingToRedo []], true⟩])) (ev_var rfl) (Ev.bnd (c1 := (T.cs ++ [⟨.lst [.exc (u0 K).NothingToUndo [], .exc (u0 K).NothingToRedo []], true⟩])) (ev_ty get_app) (Ev.bnd (c1 := (T.cs ++ [⟨.lst [.exc (u0 K).NothingToUndo [], .exc (u0 K).NothingToRedo []], true⟩])) (ev_cons (x := .exc (u0 K).CoreError []) ev_ret ev_nil) ?_)))) ?_
      · have h := ev_app (x := .exc (u0 K).CoreError []) (get_app (l := T.cs) (c := ⟨.lst [.exc (u0 K).NothingToUndo [], .exc (u0 K).NothingToRedo []], true⟩)) (show 2 < sizeLine by decide)
        rw [set_app] at h
        exact h
      refine evs_ret (ev_and1 (c1 := (T.cs ++ [⟨.lst [.exc (u0 K).NothingToUndo [], .exc (u0 K).NothingToRedo [], .exc (u0 K).CoreError []], true⟩])) (ev_call (c1 := (T.cs ++ [⟨.lst [.exc (u0 K).NothingToUndo [], .exc (u0 K).NothingToRedo [], .exc (u0 K).CoreError []], true⟩])) (ev_cons cores ev_nil) (show Ev (gAll [.lst [.bl true, .bl true, .bl true]]) (T.cs ++ [⟨.lst [.exc (u0 K).NothingToUndo [], .exc (u0 K).NothingToRedo [], .exc (u0 K).CoreError []], true⟩]) (.bl true) (T.cs ++ [⟨.lst [.exc (u0 K).NothingToUndo [], .exc (u0 K).NothingToRedo [], .exc (u0 K).CoreError []], true⟩]) from rfl))
        (ev_op (c1 := (T.cs ++ [⟨.lst [.exc (u0 K).NothingToUndo [], .exc (u0 K).NothingToRedo [], .exc (u0 K).CoreError []], true⟩])) (c2 := (T.cs ++ [⟨.lst [.exc (u0 K).NothingToUndo [], .exc (u0 K).NothingToRedo [], .exc (u0 K).CoreError []], true⟩])) (x := .lst []) (y := .lst []) (ev_call (c1 := (T.cs ++ [⟨.lst [.exc (u0 K).NothingToUndo [], .exc (u0 K).NothingToRedo [], .exc (u0 K).CoreError []], true⟩])) (ws := [.exc (u0 K).CoreError []]) (ev_cons (ev_op (ev_var rfl) ev_c (ev_atL get_app rfl)) ev_nil) (ev_arg rfl core_code)) (ev_mkF ev_nil (Nat.zero_le _)) (ev_eqP (p := .list []) (q := .list []) rfl rfl rfl ⟨rfl, rfl⟩)))
  · exact ⟨Nat.zero_le _, fun n c h => absurd h (Nat.not_lt_zero n)⟩
end K01

set_option Elab.async false
set_option linter.all false
set_option maxRecDepth 100000
set_option maxHeartbeats 4000000
namespace K01
open PySem PySem.Spec PyProof.Rows L2 MW
theorem eInvalidKind {P : Program} {w : World} {K : PySem.W.Frag} {mg : Str → Option Value} {base : Heap} {C f T cc cda : Addr} {oc kV doc pm ct ccl cl : Value} {an od cdd cld odT : Option Addr} {osl ccs csl slT : Array (Option Value)} {vs0 : Array Value} {file : Str} {tf : Tok} {n : Nat}
    (E : ExC K C) (hm : mg "InvalidKind" = some (.ref C)) (hms : mg "super" = none) (iC : PySem.W.findIn K (.ref C) "__init__" = some (some (.ref f))) (tI : PySem.W.typeIn K (.ref f) = some (.type "function"))
    (lk : K.lookup f = some ⟨oc, od, .func (PySem.W.ksFn "__init__" "InvalidKind.__init__" (defArgs iInvalidKind) (defBody iInvalidKind) (defScope iInvalidKind) (.ref T) kV doc pm an (.ref cda) ct cc), osl⟩) (hcd : PySem.W.codeIn K (.ref cda) "InvalidKind.__init__" = true)
    (lT : K.lookup T = some ⟨.type "tuple", odT, .seq #[.none] n, slT⟩) (lcc : K.lookup cc = some ⟨cl, cld, .cell (some (.ref C)), csl⟩) (lcd : K.lookup cda = some ⟨ccl, cdd, .fields vs0, ccs⟩) (hvs : vs0[2]? = some (.str file tf)) (hfile : ((P.main.file : Str) == file) = true)
    (htop : (P.main.scope.names.lookup ("super" : Str)).isSome = false) : EC P w K mg base "InvalidKind" C 1 :=
  ⟨E, hm, f, _, iC, tI, exc_ini (k := 0) E lk hcd lcc lcd hvs hfile htop hms rfl rfl rfl rfl rfl rfl (by decide +kernel) rfl rfl rfl (fun _ => rfl) (fun _ => rfl) (fun _ => rfl) (fun _ => rfl),
    fun s us X hl => match us, hl with | [_, _], _ => PySem.W.binds_K X rfl lT rfl rfl rfl,
    fun s us X hl => by
      obtain ⟨a, rfl⟩ := one_of hl rfl
      exact PySem.W.binds_K X rfl lT rfl rfl rfl,
    fun s e u X => PySem.W.binds_K X rfl lT rfl rfl rfl⟩
theorem eInvalidTable {P : Program} {w : World} {K : PySem.W.Frag} {mg : Str → Option Value} {base : Heap} {C f T cc cda : Addr} {oc kV doc pm ct ccl cl : Value} {an od cdd cld odT : Option Addr} {osl ccs csl slT : Array (Option Value)} {vs0 : Array Value} {file : Str} {tf : Tok} {n : Nat}
    (E : ExC K C) (hm : mg "InvalidTable" = some (.ref C)) (hms : mg "super" = none) (iC : PySem.W.findIn K (.ref C) "__init__" = some (some (.ref f))) (tI : PySem.W.typeIn K (.ref f) = some (.type "function"))
    (lk : K.lookup f = some ⟨oc, od, .func (PySem.W.ksFn "__init__" "InvalidTable.__init__" (defArgs iInvalidTable) (defBody iInvalidTable) (defScope iInvalidTable) (.ref T) kV doc pm an (.ref cda) ct cc), osl⟩) (hcd : PySem.W.codeIn K (.ref cda) "InvalidTable.__init__" = true)
    (lT : K.lookup T = some ⟨.type "tuple", odT, .seq #[.none] n, slT⟩) (lcc : K.lookup cc = some ⟨cl, cld, .cell (some (.ref C)), csl⟩) (lcd : K.lookup cda = some ⟨ccl, cdd, .fields vs0, ccs⟩) (hvs : vs0[2]? = some (.str file tf)) (hfile : ((P.main.file : Str) == file) = true)
    (htop : (P.main.scope.names.lookup ("super" : Str)).isSome = false) : EC P w K mg base "InvalidTable" C 1 :=
  ⟨E, hm, f, _, iC, tI, exc_ini (k := 0) E lk hcd lcc lcd hvs hfile htop hms rfl rfl rfl rfl rfl rfl (by decide +kernel) rfl rfl rfl (fun _ => rfl) (fun _ => rfl) (fun _ => rfl) (fun _ => rfl),
    fun s us X hl => match us, hl with | [_, _], _ => PySem.W.binds_K X rfl lT rfl rfl rfl,
    fun s us X hl => by
      obtain ⟨a, rfl⟩ := one_of hl rfl
      exact PySem.W.binds_K X rfl lT rfl rfl rfl,
    fun s e u X => PySem.W.binds_K X rfl lT rfl rfl rfl⟩
theorem eInvalidKinds {P : Program} {w : World} {K : PySem.W.Frag} {mg : Str → Option Value} {base : Heap} {C f T cc cda : Addr} {oc kV doc pm ct ccl cl : Value} {an od cdd cld odT : Option Addr} {osl ccs csl slT : Array (Option Value)} {vs0 : Array Value} {file : Str} {tf : Tok} {n : Nat}
    (E : ExC K C) (hm : mg "InvalidKinds" = some (.ref C)) (hms : mg "super" = none) (iC : PySem.W.findIn K (.ref C) "__init__" = some (some (.ref f))) (tI : PySem.W.typeIn K (.ref f) = some (.type "function"))
    (lk : K.lookup f = some ⟨oc, od, .func (PySem.W.ksFn "__init__" "InvalidKinds.__init__" (defArgs iInvalidKinds) (defBody iInvalidKinds) (defScope iInvalidKinds) (.ref T) kV doc pm an (.ref cda) ct cc), osl⟩) (hcd : PySem.W.codeIn K (.ref cda) "InvalidKinds.__init__" = true)
    (lT : K.lookup T = some ⟨.type "tuple", odT, .seq #[.none] n, slT⟩) (lcc : K.lookup cc = some ⟨cl, cld, .cell (some (.ref C)), csl⟩) (lcd : K.lookup cda = some ⟨ccl, cdd, .fields vs0, ccs⟩) (hvs : vs0[2]? = some (.str file tf)) (hfile : ((P.main.file : Str) == file) = true)
    (htop : (P.main.scope.names.lookup ("super" : Str)).isSome = false) : EC P w K mg base "InvalidKinds" C 1 :=
  ⟨E, hm, f, _, iC, tI, exc_ini (k := 0) E lk hcd lcc lcd hvs hfile htop hms rfl rfl rfl rfl rfl rfl (by decide +kernel) rfl rfl rfl (fun _ => rfl) (fun _ => rfl) (fun _ => rfl) (fun _ => rfl),
    fun s us X hl => match us, hl with | [_, _], _ => PySem.W.binds_K X rfl lT rfl rfl rfl,
    fun s us X hl => by
      obtain ⟨a, rfl⟩ := one_of hl rfl
      exact PySem.W.binds_K X rfl lT rfl rfl rfl,
    fun s e u X => PySem.W.binds_K X rfl lT rfl rfl rfl⟩
theorem eInvalidPairs {P : Program} {w : World} {K : PySem.W.Frag} {mg : Str → Option Value} {base : Heap} {C f T cc cda : Addr} {oc kV doc pm ct ccl cl : Value} {an od cdd cld odT : Option Addr} {osl ccs csl slT : Array (Option Value)} {vs0 : Array Value} {file : Str} {tf : Tok} {n : Nat}
    (E : ExC K C) (hm : mg "InvalidPairs" = some (.ref C)) (hms : mg "super" = none) (iC : PySem.W.findIn K (.ref C) "__init__" = some (some (.ref f))) (tI : PySem.W.typeIn K (.ref f) = some (.type "function"))
    (lk : K.lookup f = some ⟨oc, od, .func (PySem.W.ksFn "__init__" "InvalidPairs.__init__" (defArgs iInvalidPairs) (defBody iInvalidPairs) (defScope iInvalidPairs) (.ref T) kV doc pm an (.ref cda) ct cc), osl⟩) (hcd : PySem.W.codeIn K (.ref cda) "InvalidPairs.__init__" = true)
    (lT : K.lookup T = some ⟨.type "tuple", odT, .seq #[.none] n, slT⟩) (lcc : K.lookup cc = some ⟨cl, cld, .cell (some (.ref C)), csl⟩) (lcd : K.lookup cda = some ⟨ccl, cdd, .fields vs0, ccs⟩) (hvs : vs0[2]? = some (.str file tf)) (hfile : ((P.main.file : Str) == file) = true)
    (htop : (P.main.scope.names.lookup ("super" : Str)).isSome = false) : EC P w K mg base "InvalidPairs" C 1 :=
  ⟨E, hm, f, _, iC, tI, exc_ini (k := 0) E lk hcd lcc lcd hvs hfile htop hms rfl rfl rfl rfl rfl rfl (by decide +kernel) rfl rfl rfl (fun _ => rfl) (fun _ => rfl) (fun _ => rfl) (fun _ => rfl),
    fun s us X hl => match us, hl with | [_, _], _ => PySem.W.binds_K X rfl lT rfl rfl rfl,
    fun s us X hl => by
      obtain ⟨a, rfl⟩ := one_of hl rfl
      exact PySem.W.binds_K X rfl lT rfl rfl rfl,
    fun s e u X => PySem.W.binds_K X rfl lT rfl rfl rfl⟩
theorem eInvalidWord {P : Program} {w : World} {K : PySem.W.Frag} {mg : Str → Option Value} {base : Heap} {C f T cc cda : Addr} {oc kV doc pm ct ccl cl : Value} {an od cdd cld odT : Option Addr} {osl ccs csl slT : Array (Option Value)} {vs0 : Array Value} {file : Str} {tf : Tok} {n : Nat}
    (E : ExC K C) (hm : mg "InvalidWord" = some (.ref C)) (hms : mg "super" = none) (iC : PySem.W.findIn K (.ref C) "__init__" = some (some (.ref f))) (tI : PySem.W.typeIn K (.ref f) = some (.type "function"))
    (lk : K.lookup f = some ⟨oc, od, .func (PySem.W.ksFn "__init__" "InvalidWord.__init__" (defArgs iInvalidWord) (defBody iInvalidWord) (defScope iInvalidWord) (.ref T) kV doc pm an (.ref cda) ct cc), osl⟩) (hcd : PySem.W.codeIn K (.ref cda) "InvalidWord.__init__" = true)
    (lT : K.lookup T = some ⟨.type "tuple", odT, .seq #[.none] n, slT⟩) (lcc : K.lookup cc = some ⟨cl, cld, .cell (some (.ref C)), csl⟩) (lcd : K.lookup cda = some ⟨ccl, cdd, .fields vs0, ccs⟩) (hvs : vs0[2]? = some (.str file tf)) (hfile : ((P.main.file : Str) == file) = true)
    (htop : (P.main.scope.names.lookup ("super" : Str)).isSome = false) : EC P w K mg base "InvalidWord" C 1 :=
  ⟨E, hm, f, _, iC, tI, exc_ini (k := 0) E lk hcd lcc lcd hvs hfile htop hms rfl rfl rfl rfl rfl rfl (by decide +kernel) rfl rfl rfl (fun _ => rfl) (fun _ => rfl) (fun _ => rfl) (fun _ => rfl),
    fun s us X hl => match us, hl with | [_, _], _ => PySem.W.binds_K X rfl lT rfl rfl rfl,
    fun s us X hl => by
      obtain ⟨a, rfl⟩ := one_of hl rfl
      exact PySem.W.binds_K X rfl lT rfl rfl rfl,
    fun s e u X => PySem.W.binds_K X rfl lT rfl rfl rfl⟩
theorem eInvalidRule {P : Program} {w : World} {K : PySem.W.Frag} {mg : Str → Option Value} {base : Heap} {C f T cc cda : Addr} {oc kV doc pm ct ccl cl : Value} {an od cdd cld odT : Option Addr} {osl ccs csl slT : Array (Option Value)} {vs0 : Array Value} {file : Str} {tf : Tok} {n : Nat}
    (E : ExC K C) (hm : mg "InvalidRule" = some (.ref C)) (hms : mg "super" = none) (iC : PySem.W.findIn K (.ref C) "__init__" = some (some (.ref f))) (tI : PySem.W.typeIn K (.ref f) = some (.type "function"))
    (lk : K.lookup f = some ⟨oc, od, .func (PySem.W.ksFn "__init__" "InvalidRule.__init__" (defArgs iInvalidRule) (defBody iInvalidRule) (defScope iInvalidRule) (.ref T) kV doc pm an (.ref cda) ct cc), osl⟩) (hcd : PySem.W.codeIn K (.ref cda) "InvalidRule.__init__" = true)
    (lT : K.lookup T = some ⟨.type "tuple", odT, .seq #[.none] n, slT⟩) (lcc : K.lookup cc = some ⟨cl, cld, .cell (some (.ref C)), csl⟩) (lcd : K.lookup cda = some ⟨ccl, cdd, .fields vs0, ccs⟩) (hvs : vs0[2]? = some (.str file tf)) (hfile : ((P.main.file : Str) == file) = true)
    (htop : (P.main.scope.names.lookup ("super" : Str)).isSome = false) : EC P w K mg base "InvalidRule" C 1 :=
  ⟨E, hm, f, _, iC, tI, exc_ini (k := 0) E lk hcd lcc lcd hvs hfile htop hms rfl rfl rfl rfl rfl rfl (by decide +kernel) rfl rfl rfl (fun _ => rfl) (fun _ => rfl) (fun _ => rfl) (fun _ => rfl),
    fun s us X hl => match us, hl with | [_, _], _ => PySem.W.binds_K X rfl lT rfl rfl rfl,
    fun s us X hl => by
      obtain ⟨a, rfl⟩ := one_of hl rfl
      exact PySem.W.binds_K X rfl lT rfl rfl rfl,
    fun s e u X => PySem.W.binds_K X rfl lT rfl rfl rfl⟩
theorem eInvalidMap {P : Program} {w : World} {K : PySem.W.Frag} {mg : Str → Option Value} {base : Heap} {C f T cc cda : Addr} {oc kV doc pm ct ccl cl : Value} {an od cdd cld odT : Option Addr} {osl ccs csl slT : Array (Option Value)} {vs0 : Array Value} {file : Str} {tf : Tok} {n : Nat}
    (E : ExC K C) (hm : mg "InvalidMap" = some (.ref C)) (hms : mg "super" = none) (iC : PySem.W.findIn K (.ref C) "__init__" = some (some (.ref f))) (tI : PySem.W.typeIn K (.ref f) = some (.type "function"))
    (lk : K.lookup f = some ⟨oc, od, .func (PySem.W.ksFn "__init__" "InvalidMap.__init__" (defArgs iInvalidMap) (defBody iInvalidMap) (defScope iInvalidMap) (.ref T) kV doc pm an (.ref cda) ct cc), osl⟩) (hcd : PySem.W.codeIn K (.ref cda) "InvalidMap.__init__" = true)
    (lT : K.lookup T = some ⟨.type "tuple", odT, .seq #[.none] n, slT⟩) (lcc : K.lookup cc = some ⟨cl, cld, .cell (some (.ref C)), csl⟩) (lcd : K.lookup cda = some ⟨ccl, cdd, .fields vs0, ccs⟩) (hvs : vs0[2]? = some (.str file tf)) (hfile : ((P.main.file : Str) == file) = true)
    (htop : (P.main.scope.names.lookup ("super" : Str)).isSome = false) : EC P w K mg base "InvalidMap" C 1 :=
  ⟨E, hm, f, _, iC, tI, exc_ini (k := 0) E lk hcd lcc lcd hvs hfile htop hms rfl rfl rfl rfl rfl rfl (by decide +kernel) rfl rfl rfl (fun _ => rfl) (fun _ => rfl) (fun _ => rfl) (fun _ => rfl),
    fun s us X hl => match us, hl with | [_, _], _ => PySem.W.binds_K X rfl lT rfl rfl rfl,
    fun s us X hl => by
      obtain ⟨a, rfl⟩ := one_of hl rfl
      exact PySem.W.binds_K X rfl lT rfl rfl rfl,
    fun s e u X => PySem.W.binds_K X rfl lT rfl rfl rfl⟩
theorem eInvalidNames {P : Program} {w : World} {K : PySem.W.Frag} {mg : Str → Option Value} {base : Heap} {C f T cc cda : Addr} {oc kV doc pm ct ccl cl : Value} {an od cdd cld odT : Option Addr} {osl ccs csl slT : Array (Option Value)} {vs0 : Array Value} {file : Str} {tf : Tok} {n : Nat}
    (E : ExC K C) (hm : mg "InvalidNames" = some (.ref C)) (hms : mg "super" = none) (iC : PySem.W.findIn K (.ref C) "__init__" = some (some (.ref f))) (tI : PySem.W.typeIn K (.ref f) = some (.type "function"))
    (lk : K.lookup f = some ⟨oc, od, .func (PySem.W.ksFn "__init__" "InvalidNames.__init__" (defArgs iInvalidNames) (defBody iInvalidNames) (defScope iInvalidNames) (.ref T) kV doc pm an (.ref cda) ct cc), osl⟩) (hcd : PySem.W.codeIn K (.ref cda) "InvalidNames.__init__" = true)
    (lT : K.lookup T = some ⟨.type "tuple", odT, .seq #[.none] n, slT⟩) (lcc : K.lookup cc = some ⟨cl, cld, .cell (some (.ref C)), csl⟩) (lcd : K.lookup cda = some ⟨ccl, cdd, .fields vs0, ccs⟩) (hvs : vs0[2]? = some (.str file tf)) (hfile : ((P.main.file : Str) == file) = true)
    (htop : (P.main.scope.names.lookup ("super" : Str)).isSome = false) : EC P w K mg base "InvalidNames" C 1 :=
  ⟨E, hm, f, _, iC, tI, exc_ini (k := 0) E lk hcd lcc lcd hvs hfile htop hms rfl rfl rfl rfl rfl rfl (by decide +kernel) rfl rfl rfl (fun _ => rfl) (fun _ => rfl) (fun _ => rfl) (fun _ => rfl),
    fun s us X hl => match us, hl with | [_, _], _ => PySem.W.binds_K X rfl lT rfl rfl rfl,
    fun s us X hl => by
      obtain ⟨a, rfl⟩ := one_of hl rfl
      exact PySem.W.binds_K X rfl lT rfl rfl rfl,
    fun s e u X => PySem.W.binds_K X rfl lT rfl rfl rfl⟩
theorem eInvalidBook {P : Program} {w : World} {K : PySem.W.Frag} {mg : Str → Option Value} {base : Heap} {C f T cc cda : Addr} {oc kV doc pm ct ccl cl : Value} {an od cdd cld odT : Option Addr} {osl ccs csl slT : Array (Option Value)} {vs0 : Array Value} {file : Str} {tf : Tok} {n : Nat}
    (E : ExC K C) (hm : mg "InvalidBook" = some (.ref C)) (hms : mg "super" = none) (iC : PySem.W.findIn K (.ref C) "__init__" = some (some (.ref f))) (tI : PySem.W.typeIn K (.ref f) = some (.type "function"))
    (lk : K.lookup f = some ⟨oc, od, .func (PySem.W.ksFn "__init__" "InvalidBook.__init__" (defArgs iInvalidBook) (defBody iInvalidBook) (defScope iInvalidBook) (.ref T) kV doc pm an (.ref cda) ct cc), osl⟩) (hcd : PySem.W.codeIn K (.ref cda) "InvalidBook.__init__" = true)
    (lT : K.lookup T = some ⟨.type "tuple", odT, .seq #[.none] n, slT⟩) (lcc : K.lookup cc = some ⟨cl, cld, .cell (some (.ref C)), csl⟩) (lcd : K.lookup cda = some ⟨ccl, cdd, .fields vs0, ccs⟩) (hvs : vs0[2]? = some (.str file tf)) (hfile : ((P.main.file : Str) == file) = true)
    (htop : (P.main.scope.names.lookup ("super" : Str)).isSome = false) : EC P w K mg base "InvalidBook" C 1 :=
  ⟨E, hm, f, _, iC, tI, exc_ini (k := 0) E lk hcd lcc lcd hvs hfile htop hms rfl rfl rfl rfl rfl rfl (by decide +kernel) rfl rfl rfl (fun _ => rfl) (fun _ => rfl) (fun _ => rfl) (fun _ => rfl),
    fun s us X hl => match us, hl with | [_, _], _ => PySem.W.binds_K X rfl lT rfl rfl rfl,
    fun s us X hl => by
      obtain ⟨a, rfl⟩ := one_of hl rfl
      exact PySem.W.binds_K X rfl lT rfl rfl rfl,
    fun s e u X => PySem.W.binds_K X rfl lT rfl rfl rfl⟩
theorem eInvalidName {P : Program} {w : World} {K : PySem.W.Frag} {mg : Str → Option Value} {base : Heap} {C f T cc cda : Addr} {oc kV doc pm ct ccl cl : Value} {an od cdd cld odT : Option Addr} {osl ccs csl slT : Array (Option Value)} {vs0 : Array Value} {file : Str} {tf : Tok} {n : Nat}
    (E : ExC K C) (hm : mg "InvalidName" = some (.ref C)) (hms : mg "super" = none) (iC : PySem.W.findIn K (.ref C) "__init__" = some (some (.ref f))) (tI : PySem.W.typeIn K (.ref f) = some (.type "function"))
    (lk : K.lookup f = some ⟨oc, od, .func (PySem.W.ksFn "__init__" "InvalidName.__init__" (defArgs iInvalidName) (defBody iInvalidName) (defScope iInvalidName) (.ref T) kV doc pm an (.ref cda) ct cc), osl⟩) (hcd : PySem.W.codeIn K (.ref cda) "InvalidName.__init__" = true)
    (lT : K.lookup T = some ⟨.type "tuple", odT, .seq #[.none] n, slT⟩) (lcc : K.lookup cc = some ⟨cl, cld, .cell (some (.ref C)), csl⟩) (lcd : K.lookup cda = some ⟨ccl, cdd, .fields vs0, ccs⟩) (hvs : vs0[2]? = some (.str file tf)) (hfile : ((P.main.file : Str) == file) = true)
    (htop : (P.main.scope.names.lookup ("super" : Str)).isSome = false) : EC P w K mg base "InvalidName" C 1 :=
  ⟨E, hm, f, _, iC, tI, exc_ini (k := 0) E lk hcd lcc lcd hvs hfile htop hms rfl rfl rfl rfl rfl rfl (by decide +kernel) rfl rfl rfl (fun _ => rfl) (fun _ => rfl) (fun _ => rfl) (fun _ => rfl),
    fun s us X hl => match us, hl with | [_, _], _ => PySem.W.binds_K X rfl lT rfl rfl rfl,
    fun s us X hl => by
      obtain ⟨a, rfl⟩ := one_of hl rfl
      exact PySem.W.binds_K X rfl lT rfl rfl rfl,
    fun s e u X => PySem.W.binds_K X rfl lT rfl rfl rfl⟩
theorem eInvalidLog {P : Program} {w : World} {K : PySem.W.Frag} {mg : Str → Option Value} {base : Heap} {C f T cc cda : Addr} {oc kV doc pm ct ccl cl : Value} {an od cdd cld odT : Option Addr} {osl ccs csl slT : Array (Option Value)} {vs0 : Array Value} {file : Str} {tf : Tok} {n : Nat}
    (E : ExC K C) (hm : mg "InvalidLog" = some (.ref C)) (hms : mg "super" = none) (iC : PySem.W.findIn K (.ref C) "__init__" = some (some (.ref f))) (tI : PySem.W.typeIn K (.ref f) = some (.type "function"))
    (lk : K.lookup f = some ⟨oc, od, .func (PySem.W.ksFn "__init__" "InvalidLog.__init__" (defArgs iInvalidLog) (defBody iInvalidLog) (defScope iInvalidLog) (.ref T) kV doc pm an (.ref cda) ct cc), osl⟩) (hcd : PySem.W.codeIn K (.ref cda) "InvalidLog.__init__" = true)
    (lT : K.lookup T = some ⟨.type "tuple", odT, .seq #[.none] n, slT⟩) (lcc : K.lookup cc = some ⟨cl, cld, .cell (some (.ref C)), csl⟩) (lcd : K.lookup cda = some ⟨ccl, cdd, .fields vs0, ccs⟩) (hvs : vs0[2]? = some (.str file tf)) (hfile : ((P.main.file : Str) == file) = true)
    (htop : (P.main.scope.names.lookup ("super" : Str)).isSome = false) : EC P w K mg base "InvalidLog" C 1 :=
  ⟨E, hm, f, _, iC, tI, exc_ini (k := 0) E lk hcd lcc lcd hvs hfile htop hms rfl rfl rfl rfl rfl rfl (by decide +kernel) rfl rfl rfl (fun _ => rfl) (fun _ => rfl) (fun _ => rfl) (fun _ => rfl),
    fun s us X hl => match us, hl with | [_, _], _ => PySem.W.binds_K X rfl lT rfl rfl rfl,
    fun s us X hl => by
      obtain ⟨a, rfl⟩ := one_of hl rfl
      exact PySem.W.binds_K X rfl lT rfl rfl rfl,
    fun s e u X => PySem.W.binds_K X rfl lT rfl rfl rfl⟩
theorem eInvalidLogs {P : Program} {w : World} {K : PySem.W.Frag} {mg : Str → Option Value} {base : Heap} {C f T cc cda : Addr} {oc kV doc pm ct ccl cl : Value} {an od cdd cld odT : Option Addr} {osl ccs csl slT : Array (Option Value)} {vs0 : Array Value} {file : Str} {tf : Tok} {n : Nat}
    (E : ExC K C) (hm : mg "InvalidLogs" = some (.ref C)) (hms : mg "super" = none) (iC : PySem.W.findIn K (.ref C) "__init__" = some (some (.ref f))) (tI : PySem.W.typeIn K (.ref f) = some (.type "function"))
    (lk : K.lookup f = some ⟨oc, od, .func (PySem.W.ksFn "__init__" "InvalidLogs.__init__" (defArgs iInvalidLogs) (defBody iInvalidLogs) (defScope iInvalidLogs) (.ref T) kV doc pm an (.ref cda) ct cc), osl⟩) (hcd : PySem.W.codeIn K (.ref cda) "InvalidLogs.__init__" = true)
    (lT : K.lookup T = some ⟨.type "tuple", odT, .seq #[.none] n, slT⟩) (lcc : K.lookup cc = some ⟨cl, cld, .cell (some (.ref C)), csl⟩) (lcd : K.lookup cda = some ⟨ccl, cdd, .fields vs0, ccs⟩) (hvs : vs0[2]? = some (.str file tf)) (hfile : ((P.main.file : Str) == file) = true)
    (htop : (P.main.scope.names.lookup ("super" : Str)).isSome = false) : EC P w K mg base "InvalidLogs" C 1 :=
  ⟨E, hm, f, _, iC, tI, exc_ini (k := 0) E lk hcd lcc lcd hvs hfile htop hms rfl rfl rfl rfl rfl rfl (by decide +kernel) rfl rfl rfl (fun _ => rfl) (fun _ => rfl) (fun _ => rfl) (fun _ => rfl),
    fun s us X hl => match us, hl with | [_, _], _ => PySem.W.binds_K X rfl lT rfl rfl rfl,
    fun s us X hl => by
      obtain ⟨a, rfl⟩ := one_of hl rfl
      exact PySem.W.binds_K X rfl lT rfl rfl rfl,
    fun s e u X => PySem.W.binds_K X rfl lT rfl rfl rfl⟩
theorem eInvalidMerging {P : Program} {w : World} {K : PySem.W.Frag} {mg : Str → Option Value} {base : Heap} {C f T cc cda : Addr} {oc kV doc pm ct ccl cl : Value} {an od cdd cld odT : Option Addr} {osl ccs csl slT : Array (Option Value)} {vs0 : Array Value} {file : Str} {tf : Tok} {n : Nat}
    (E : ExC K C) (hm : mg "InvalidMerging" = some (.ref C)) (hms : mg "super" = none) (iC : PySem.W.findIn K (.ref C) "__init__" = some (some (.ref f))) (tI : PySem.W.typeIn K (.ref f) = some (.type "function"))
    (lk : K.lookup f = some ⟨oc, od, .func (PySem.W.ksFn "__init__" "InvalidMerging.__init__" (defArgs iInvalidMerging) (defBody iInvalidMerging) (defScope iInvalidMerging) (.ref T) kV doc pm an (.ref cda) ct cc), osl⟩) (hcd : PySem.W.codeIn K (.ref cda) "InvalidMerging.__init__" = true)
    (lT : K.lookup T = some ⟨.type "tuple", odT, .seq #[.none] n, slT⟩) (lcc : K.lookup cc = some ⟨cl, cld, .cell (some (.ref C)), csl⟩) (lcd : K.lookup cda = some ⟨ccl, cdd, .fields vs0, ccs⟩) (hvs : vs0[2]? = some (.str file tf)) (hfile : ((P.main.file : Str) == file) = true)
    (htop : (P.main.scope.names.lookup ("super" : Str)).isSome = false) : EC P w K mg base "InvalidMerging" C 1 :=
  ⟨E, hm, f, _, iC, tI, exc_ini (k := 0) E lk hcd lcc lcd hvs hfile htop hms rfl rfl rfl rfl rfl rfl (by decide +kernel) rfl rfl rfl (fun _ => rfl) (fun _ => rfl) (fun _ => rfl) (fun _ => rfl),
    fun s us X hl => match us, hl with | [_, _], _ => PySem.W.binds_K X rfl lT rfl rfl rfl,
    fun s us X hl => by
      obtain ⟨a, rfl⟩ := one_of hl rfl
      exact PySem.W.binds_K X rfl lT rfl rfl rfl,
    fun s e u X => PySem.W.binds_K X rfl lT rfl rfl rfl⟩
theorem eInvalidStrike {P : Program} {w : World} {K : PySem.W.Frag} {mg : Str → Option Value} {base : Heap} {C f T cc cda : Addr} {oc kV doc pm ct ccl cl : Value} {an od cdd cld odT : Option Addr} {osl ccs csl slT : Array (Option Value)} {vs0 : Array Value} {file : Str} {tf : Tok} {n : Nat}
    (E : ExC K C) (hm : mg "InvalidStrike" = some (.ref C)) (hms : mg "super" = none) (iC : PySem.W.findIn K (.ref C) "__init__" = some (some (.ref f))) (tI : PySem.W.typeIn K (.ref f) = some (.type "function"))
    (lk : K.lookup f = some ⟨oc, od, .func (PySem.W.ksFn "__init__" "InvalidStrike.__init__" (defArgs iInvalidStrike) (defBody iInvalidStrike) (defScope iInvalidStrike) (.ref T) kV doc pm an (.ref cda) ct cc), osl⟩) (hcd : PySem.W.codeIn K (.ref cda) "InvalidStrike.__init__" = true)
    (lT : K.lookup T = some ⟨.type "tuple", odT, .seq #[.none] n, slT⟩) (lcc : K.lookup cc = some ⟨cl, cld, .cell (some (.ref C)), csl⟩) (lcd : K.lookup cda = some ⟨ccl, cdd, .fields vs0, ccs⟩) (hvs : vs0[2]? = some (.str file tf)) (hfile : ((P.main.file : Str) == file) = true)
    (htop : (P.main.scope.names.lookup ("super" : Str)).isSome = false) : EC P w K mg base "InvalidStrike" C 1 :=
  ⟨E, hm, f, _, iC, tI, exc_ini (k := 0) E lk hcd lcc lcd hvs hfile htop hms rfl rfl rfl rfl rfl rfl (by decide +kernel) rfl rfl rfl (fun _ => rfl) (fun _ => rfl) (fun _ => rfl) (fun _ => rfl),
    fun s us X hl => match us, hl with | [_, _], _ => PySem.W.binds_K X rfl lT rfl rfl rfl,
    fun s us X hl => by
      obtain ⟨a, rfl⟩ := one_of hl rfl
      exact PySem.W.binds_K X rfl lT rfl rfl rfl,
    fun s e u X => PySem.W.binds_K X rfl lT rfl rfl rfl⟩
theorem eInvalidRoad {P : Program} {w : World} {K : PySem.W.Frag} {mg : Str → Option Value} {base : Heap} {C f T cc cda : Addr} {oc kV doc pm ct ccl cl : Value} {an od cdd cld odT : Option Addr} {osl ccs csl slT : Array (Option Value)} {vs0 : Array Value} {file : Str} {tf : Tok} {n : Nat}
    (E : ExC K C) (hm : mg "InvalidRoad" = some (.ref C)) (hms : mg "super" = none) (iC : PySem.W.findIn K (.ref C) "__init__" = some (some (.ref f))) (tI : PySem.W.typeIn K (.ref f) = some (.type "function"))
    (lk : K.lookup f = some ⟨oc, od, .func (PySem.W.ksFn "__init__" "InvalidRoad.__init__" (defArgs iInvalidRoad) (defBody iInvalidRoad) (defScope iInvalidRoad) (.ref T) kV doc pm an (.ref cda) ct cc), osl⟩) (hcd : PySem.W.codeIn K (.ref cda) "InvalidRoad.__init__" = true)
    (lT : K.lookup T = some ⟨.type "tuple", odT, .seq #[.none] n, slT⟩) (lcc : K.lookup cc = some ⟨cl, cld, .cell (some (.ref C)), csl⟩) (lcd : K.lookup cda = some ⟨ccl, cdd, .fields vs0, ccs⟩) (hvs : vs0[2]? = some (.str file tf)) (hfile : ((P.main.file : Str) == file) = true)
    (htop : (P.main.scope.names.lookup ("super" : Str)).isSome = false) : EC P w K mg base "InvalidRoad" C 1 :=
  ⟨E, hm, f, _, iC, tI, exc_ini (k := 0) E lk hcd lcc lcd hvs hfile htop hms rfl rfl rfl rfl rfl rfl (by decide +kernel) rfl rfl rfl (fun _ => rfl) (fun _ => rfl) (fun _ => rfl) (fun _ => rfl),
    fun s us X hl => match us, hl with | [_, _], _ => PySem.W.binds_K X rfl lT rfl rfl rfl,
    fun s us X hl => by
      obtain ⟨a, rfl⟩ := one_of hl rfl
      exact PySem.W.binds_K X rfl lT rfl rfl rfl,
    fun s e u X => PySem.W.binds_K X rfl lT rfl rfl rfl⟩
theorem eInvalidPlaces {P : Program} {w : World} {K : PySem.W.Frag} {mg : Str → Option Value} {base : Heap} {C f T cc cda : Addr} {oc kV doc pm ct ccl cl : Value} {an od cdd cld odT : Option Addr} {osl ccs csl slT : Array (Option Value)} {vs0 : Array Value} {file : Str} {tf : Tok} {n : Nat}
    (E : ExC K C) (hm : mg "InvalidPlaces" = some (.ref C)) (hms : mg "super" = none) (iC : PySem.W.findIn K (.ref C) "__init__" = some (some (.ref f))) (tI : PySem.W.typeIn K (.ref f) = some (.type "function"))
    (lk : K.lookup f = some ⟨oc, od, .func (PySem.W.ksFn "__init__" "InvalidPlaces.__init__" (defArgs iInvalidPlaces) (defBody iInvalidPlaces) (defScope iInvalidPlaces) (.ref T) kV doc pm an (.ref cda) ct cc), osl⟩) (hcd : PySem.W.codeIn K (.ref cda) "InvalidPlaces.__init__" = true)
    (lT : K.lookup T = some ⟨.type "tuple", odT, .seq #[.none] n, slT⟩) (lcc : K.lookup cc = some ⟨cl, cld, .cell (some (.ref C)), csl⟩) (lcd : K.lookup cda = some ⟨ccl, cdd, .fields vs0, ccs⟩) (hvs : vs0[2]? = some (.str file tf)) (hfile : ((P.main.file : Str) == file) = true)
    (htop : (P.main.scope.names.lookup ("super" : Str)).isSome = false) : EC P w K mg base "InvalidPlaces" C 1 :=
  ⟨E, hm, f, _, iC, tI, exc_ini (k := 0) E lk hcd lcc lcd hvs hfile htop hms rfl rfl rfl rfl rfl rfl (by decide +kernel) rfl rfl rfl (fun _ => rfl) (fun _ => rfl) (fun _ => rfl) (fun _ => rfl),
    fun s us X hl => match us, hl with | [_, _], _ => PySem.W.binds_K X rfl lT rfl rfl rfl,
    fun s us X hl => by
      obtain ⟨a, rfl⟩ := one_of hl rfl
      exact PySem.W.binds_K X rfl lT rfl rfl rfl,
    fun s e u X => PySem.W.binds_K X rfl lT rfl rfl rfl⟩
theorem eInvalidCount {P : Program} {w : World} {K : PySem.W.Frag} {mg : Str → Option Value} {base : Heap} {C f T cc cda : Addr} {oc kV doc pm ct ccl cl : Value} {an od cdd cld odT : Option Addr} {osl ccs csl slT : Array (Option Value)} {vs0 : Array Value} {file : Str} {tf : Tok} {n : Nat}
    (E : ExC K C) (hm : mg "InvalidCount" = some (.ref C)) (hms : mg "super" = none) (iC : PySem.W.findIn K (.ref C) "__init__" = some (some (.ref f))) (tI : PySem.W.typeIn K (.ref f) = some (.type "function"))
    (lk : K.lookup f = some ⟨oc, od, .func (PySem.W.ksFn "__init__" "InvalidCount.__init__" (defArgs iInvalidCount) (defBody iInvalidCount) (defScope iInvalidCount) (.ref T) kV doc pm an (.ref cda) ct cc), osl⟩) (hcd : PySem.W.codeIn K (.ref cda) "InvalidCount.__init__" = true)
    (lT : K.lookup T = some ⟨.type "tuple", odT, .seq #[.none] n, slT⟩) (lcc : K.lookup cc = some ⟨cl, cld, .cell (some (.ref C)), csl⟩) (lcd : K.lookup cda = some ⟨ccl, cdd, .fields vs0, ccs⟩) (hvs : vs0[2]? = some (.str file tf)) (hfile : ((P.main.file : Str) == file) = true)
    (htop : (P.main.scope.names.lookup ("super" : Str)).isSome = false) : EC P w K mg base "InvalidCount" C 1 :=
  ⟨E, hm, f, _, iC, tI, exc_ini (k := 0) E lk hcd lcc lcd hvs hfile htop hms rfl rfl rfl rfl rfl rfl (by decide +kernel) rfl rfl rfl (fun _ => rfl) (fun _ => rfl) (fun _ => rfl) (fun _ => rfl),
    fun s us X hl => match us, hl with | [_, _], _ => PySem.W.binds_K X rfl lT rfl rfl rfl,
    fun s us X hl => by
      obtain ⟨a, rfl⟩ := one_of hl rfl
      exact PySem.W.binds_K X rfl lT rfl rfl rfl,
    fun s e u X => PySem.W.binds_K X rfl lT rfl rfl rfl⟩
theorem eInvalidFuture {P : Program} {w : World} {K : PySem.W.Frag} {mg : Str → Option Value} {base : Heap} {C f T cc cda : Addr} {oc kV doc pm ct ccl cl : Value} {an od cdd cld odT : Option Addr} {osl ccs csl slT : Array (Option Value)} {vs0 : Array Value} {file : Str} {tf : Tok} {n : Nat}
    (E : ExC K C) (hm : mg "InvalidFuture" = some (.ref C)) (hms : mg "super" = none) (iC : PySem.W.findIn K (.ref C) "__init__" = some (some (.ref f))) (tI : PySem.W.typeIn K (.ref f) = some (.type "function"))
    (lk : K.lookup f = some ⟨oc, od, .func (PySem.W.ksFn "__init__" "InvalidFuture.__init__" (defArgs iInvalidFuture) (defBody iInvalidFuture) (defScope iInvalidFuture) (.ref T) kV doc pm an (.ref cda) ct cc), osl⟩) (hcd : PySem.W.codeIn K (.ref cda) "InvalidFuture.__init__" = true)
    (lT : K.lookup T = some ⟨.type "tuple", odT, .seq #[.none] n, slT⟩) (lcc : K.lookup cc = some ⟨cl, cld, .cell (some (.ref C)), csl⟩) (lcd : K.lookup cda = some ⟨ccl, cdd, .fields vs0, ccs⟩) (hvs : vs0[2]? = some (.str file tf)) (hfile : ((P.main.file : Str) == file) = true)
    (htop : (P.main.scope.names.lookup ("super" : Str)).isSome = false) : EC P w K mg base "InvalidFuture" C 1 :=
  ⟨E, hm, f, _, iC, tI, exc_ini (k := 0) E lk hcd lcc lcd hvs hfile htop hms rfl rfl rfl rfl rfl rfl (by decide +kernel) rfl rfl rfl (fun _ => rfl) (fun _ => rfl) (fun _ => rfl) (fun _ => rfl),
    fun s us X hl => match us, hl with | [_, _], _ => PySem.W.binds_K X rfl lT rfl rfl rfl,
    fun s us X hl => by
      obtain ⟨a, rfl⟩ := one_of hl rfl
      exact PySem.W.binds_K X rfl lT rfl rfl rfl,
    fun s e u X => PySem.W.binds_K X rfl lT rfl rfl rfl⟩
theorem eInvalidValue {P : Program} {w : World} {K : PySem.W.Frag} {mg : Str → Option Value} {base : Heap} {C f T cc cda : Addr} {oc kV doc pm ct ccl cl : Value} {an od cdd cld odT : Option Addr} {osl ccs csl slT : Array (Option Value)} {vs0 : Array Value} {file : Str} {tf : Tok} {n : Nat}
    (E : ExC K C) (hm : mg "InvalidValue" = some (.ref C)) (hms : mg "super" = none) (iC : PySem.W.findIn K (.ref C) "__init__" = some (some (.ref f))) (tI : PySem.W.typeIn K (.ref f) = some (.type "function"))
    (lk : K.lookup f = some ⟨oc, od, .func (PySem.W.ksFn "__init__" "InvalidValue.__init__" (defArgs iInvalidValue) (defBody iInvalidValue) (defScope iInvalidValue) (.ref T) kV doc pm an (.ref cda) ct cc), osl⟩) (hcd : PySem.W.codeIn K (.ref cda) "InvalidValue.__init__" = true)
    (lT : K.lookup T = some ⟨.type "tuple", odT, .seq #[.none] n, slT⟩) (lcc : K.lookup cc = some ⟨cl, cld, .cell (some (.ref C)), csl⟩) (lcd : K.lookup cda = some ⟨ccl, cdd, .fields vs0, ccs⟩) (hvs : vs0[2]? = some (.str file tf)) (hfile : ((P.main.file : Str) == file) = true)
    (htop : (P.main.scope.names.lookup ("super" : Str)).isSome = false) : EC P w K mg base "InvalidValue" C 1 :=
  ⟨E, hm, f, _, iC, tI, exc_ini (k := 0) E lk hcd lcc lcd hvs hfile htop hms rfl rfl rfl rfl rfl rfl (by decide +kernel) rfl rfl rfl (fun _ => rfl) (fun _ => rfl) (fun _ => rfl) (fun _ => rfl),
    fun s us X hl => match us, hl with | [_, _], _ => PySem.W.binds_K X rfl lT rfl rfl rfl,
    fun s us X hl => by
      obtain ⟨a, rfl⟩ := one_of hl rfl
      exact PySem.W.binds_K X rfl lT rfl rfl rfl,
    fun s e u X => PySem.W.binds_K X rfl lT rfl rfl rfl⟩
theorem eInvalidStore {P : Program} {w : World} {K : PySem.W.Frag} {mg : Str → Option Value} {base : Heap} {C f T cc cda : Addr} {oc kV doc pm ct ccl cl : Value} {an od cdd cld odT : Option Addr} {osl ccs csl slT : Array (Option Value)} {vs0 : Array Value} {file : Str} {tf : Tok} {n : Nat}
    (E : ExC K C) (hm : mg "InvalidStore" = some (.ref C)) (hms : mg "super" = none) (iC : PySem.W.findIn K (.ref C) "__init__" = some (some (.ref f))) (tI : PySem.W.typeIn K (.ref f) = some (.type "function"))
    (lk : K.lookup f = some ⟨oc, od, .func (PySem.W.ksFn "__init__" "InvalidStore.__init__" (defArgs iInvalidStore) (defBody iInvalidStore) (defScope iInvalidStore) (.ref T) kV doc pm an (.ref cda) ct cc), osl⟩) (hcd : PySem.W.codeIn K (.ref cda) "InvalidStore.__init__" = true)
    (lT : K.lookup T = some ⟨.type "tuple", odT, .seq #[.none] n, slT⟩) (lcc : K.lookup cc = some ⟨cl, cld, .cell (some (.ref C)), csl⟩) (lcd : K.lookup cda = some ⟨ccl, cdd, .fields vs0, ccs⟩) (hvs : vs0[2]? = some (.str file tf)) (hfile : ((P.main.file : Str) == file) = true)
    (htop : (P.main.scope.names.lookup ("super" : Str)).isSome = false) : EC P w K mg base "InvalidStore" C 1 :=
  ⟨E, hm, f, _, iC, tI, exc_ini (k := 0) E lk hcd lcc lcd hvs hfile htop hms rfl rfl rfl rfl rfl rfl (by decide +kernel) rfl rfl rfl (fun _ => rfl) (fun _ => rfl) (fun _ => rfl) (fun _ => rfl),
    fun s us X hl => match us, hl with | [_, _], _ => PySem.W.binds_K X rfl lT rfl rfl rfl,
    fun s us X hl => by
      obtain ⟨a, rfl⟩ := one_of hl rfl
      exact PySem.W.binds_K X rfl lT rfl rfl rfl,
    fun s e u X => PySem.W.binds_K X rfl lT rfl rfl rfl⟩
theorem eInvalidInputs {P : Program} {w : World} {K : PySem.W.Frag} {mg : Str → Option Value} {base : Heap} {C f T cc cda : Addr} {oc kV doc pm ct ccl cl : Value} {an od cdd cld odT : Option Addr} {osl ccs csl slT : Array (Option Value)} {vs0 : Array Value} {file : Str} {tf : Tok} {n : Nat}
    (E : ExC K C) (hm : mg "InvalidInputs" = some (.ref C)) (hms : mg "super" = none) (iC : PySem.W.findIn K (.ref C) "__init__" = some (some (.ref f))) (tI : PySem.W.typeIn K (.ref f) = some (.type "function"))
    (lk : K.lookup f = some ⟨oc, od, .func (PySem.W.ksFn "__init__" "InvalidInputs.__init__" (defArgs iInvalidInputs) (defBody iInvalidInputs) (defScope iInvalidInputs) (.ref T) kV doc pm an (.ref cda) ct cc), osl⟩) (hcd : PySem.W.codeIn K (.ref cda) "InvalidInputs.__init__" = true)
    (lT : K.lookup T = some ⟨.type "tuple", odT, .seq #[.none] n, slT⟩) (lcc : K.lookup cc = some ⟨cl, cld, .cell (some (.ref C)), csl⟩) (lcd : K.lookup cda = some ⟨ccl, cdd, .fields vs0, ccs⟩) (hvs : vs0[2]? = some (.str file tf)) (hfile : ((P.main.file : Str) == file) = true)
    (htop : (P.main.scope.names.lookup ("super" : Str)).isSome = false) : EC P w K mg base "InvalidInputs" C 1 :=
  ⟨E, hm, f, _, iC, tI, exc_ini (k := 0) E lk hcd lcc lcd hvs hfile htop hms rfl rfl rfl rfl rfl rfl (by decide +kernel) rfl rfl rfl (fun _ => rfl) (fun _ => rfl) (fun _ => rfl) (fun _ => rfl),
    fun s us X hl => match us, hl with | [_, _], _ => PySem.W.binds_K X rfl lT rfl rfl rfl,
    fun s us X hl => by
      obtain ⟨a, rfl⟩ := one_of hl rfl
      exact PySem.W.binds_K X rfl lT rfl rfl rfl,
    fun s e u X => PySem.W.binds_K X rfl lT rfl rfl rfl⟩
theorem eInvalidFolding {P : Program} {w : World} {K : PySem.W.Frag} {mg : Str → Option Value} {base : Heap} {C f T cc cda : Addr} {oc kV doc pm ct ccl cl : Value} {an od cdd cld odT : Option Addr} {osl ccs csl slT : Array (Option Value)} {vs0 : Array Value} {file : Str} {tf : Tok} {n : Nat}
    (E : ExC K C) (hm : mg "InvalidFolding" = some (.ref C)) (hms : mg "super" = none) (iC : PySem.W.findIn K (.ref C) "__init__" = some (some (.ref f))) (tI : PySem.W.typeIn K (.ref f) = some (.type "function"))
    (lk : K.lookup f = some ⟨oc, od, .func (PySem.W.ksFn "__init__" "InvalidFolding.__init__" (defArgs iInvalidFolding) (defBody iInvalidFolding) (defScope iInvalidFolding) (.ref T) kV doc pm an (.ref cda) ct cc), osl⟩) (hcd : PySem.W.codeIn K (.ref cda) "InvalidFolding.__init__" = true)
    (lT : K.lookup T = some ⟨.type "tuple", odT, .seq #[.none] n, slT⟩) (lcc : K.lookup cc = some ⟨cl, cld, .cell (some (.ref C)), csl⟩) (lcd : K.lookup cda = some ⟨ccl, cdd, .fields vs0, ccs⟩) (hvs : vs0[2]? = some (.str file tf)) (hfile : ((P.main.file : Str) == file) = true)
    (htop : (P.main.scope.names.lookup ("super" : Str)).isSome = false) : EC P w K mg base "InvalidFolding" C 1 :=
  ⟨E, hm, f, _, iC, tI, exc_ini (k := 0) E lk hcd lcc lcd hvs hfile htop hms rfl rfl rfl rfl rfl rfl (by decide +kernel) rfl rfl rfl (fun _ => rfl) (fun _ => rfl) (fun _ => rfl) (fun _ => rfl),
    fun s us X hl => match us, hl with | [_, _], _ => PySem.W.binds_K X rfl lT rfl rfl rfl,
    fun s us X hl => by
      obtain ⟨a, rfl⟩ := one_of hl rfl
      exact PySem.W.binds_K X rfl lT rfl rfl rfl,
    fun s e u X => PySem.W.binds_K X rfl lT rfl rfl rfl⟩
theorem eInvalidJournal {P : Program} {w : World} {K : PySem.W.Frag} {mg : Str → Option Value} {base : Heap} {C f T cc cda : Addr} {oc kV doc pm ct ccl cl : Value} {an od cdd cld odT : Option Addr} {osl ccs csl slT : Array (Option Value)} {vs0 : Array Value} {file : Str} {tf : Tok} {n : Nat}
    (E : ExC K C) (hm : mg "InvalidJournal" = some (.ref C)) (hms : mg "super" = none) (iC : PySem.W.findIn K (.ref C) "__init__" = some (some (.ref f))) (tI : PySem.W.typeIn K (.ref f) = some (.type "function"))
    (lk : K.lookup f = some ⟨oc, od, .func (PySem.W.ksFn "__init__" "InvalidJournal.__init__" (defArgs iInvalidJournal) (defBody iInvalidJournal) (defScope iInvalidJournal) (.ref T) kV doc pm an (.ref cda) ct cc), osl⟩) (hcd : PySem.W.codeIn K (.ref cda) "InvalidJournal.__init__" = true)
    (lT : K.lookup T = some ⟨.type "tuple", odT, .seq #[.none] n, slT⟩) (lcc : K.lookup cc = some ⟨cl, cld, .cell (some (.ref C)), csl⟩) (lcd : K.lookup cda = some ⟨ccl, cdd, .fields vs0, ccs⟩) (hvs : vs0[2]? = some (.str file tf)) (hfile : ((P.main.file : Str) == file) = true)
    (htop : (P.main.scope.names.lookup ("super" : Str)).isSome = false) : EC P w K mg base "InvalidJournal" C 1 :=
  ⟨E, hm, f, _, iC, tI, exc_ini (k := 0) E lk hcd lcc lcd hvs hfile htop hms rfl rfl rfl rfl rfl rfl (by decide +kernel) rfl rfl rfl (fun _ => rfl) (fun _ => rfl) (fun _ => rfl) (fun _ => rfl),
    fun s us X hl => match us, hl with | [_, _], _ => PySem.W.binds_K X rfl lT rfl rfl rfl,
    fun s us X hl => by
      obtain ⟨a, rfl⟩ := one_of hl rfl
      exact PySem.W.binds_K X rfl lT rfl rfl rfl,
    fun s e u X => PySem.W.binds_K X rfl lT rfl rfl rfl⟩
theorem eInvalidSpot {P : Program} {w : World} {K : PySem.W.Frag} {mg : Str → Option Value} {base : Heap} {C f T cc cda : Addr} {oc kV doc pm ct ccl cl : Value} {an od cdd cld odT : Option Addr} {osl ccs csl slT : Array (Option Value)} {vs0 : Array Value} {file : Str} {tf : Tok} {n : Nat}
    (E : ExC K C) (hm : mg "InvalidSpot" = some (.ref C)) (hms : mg "super" = none) (iC : PySem.W.findIn K (.ref C) "__init__" = some (some (.ref f))) (tI : PySem.W.typeIn K (.ref f) = some (.type "function"))
    (lk : K.lookup f = some ⟨oc, od, .func (PySem.W.ksFn "__init__" "InvalidSpot.__init__" (defArgs iInvalidSpot) (defBody iInvalidSpot) (defScope iInvalidSpot) (.ref T) kV doc pm an (.ref cda) ct cc), osl⟩) (hcd : PySem.W.codeIn K (.ref cda) "InvalidSpot.__init__" = true)
    (lT : K.lookup T = some ⟨.type "tuple", odT, .seq #[.none] n, slT⟩) (lcc : K.lookup cc = some ⟨cl, cld, .cell (some (.ref C)), csl⟩) (lcd : K.lookup cda = some ⟨ccl, cdd, .fields vs0, ccs⟩) (hvs : vs0[2]? = some (.str file tf)) (hfile : ((P.main.file : Str) == file) = true)
    (htop : (P.main.scope.names.lookup ("super" : Str)).isSome = false) : EC P w K mg base "InvalidSpot" C 1 :=
  ⟨E, hm, f, _, iC, tI, exc_ini (k := 0) E lk hcd lcc lcd hvs hfile htop hms rfl rfl rfl rfl rfl rfl (by decide +kernel) rfl rfl rfl (fun _ => rfl) (fun _ => rfl) (fun _ => rfl) (fun _ => rfl),
    fun s us X hl => match us, hl with | [_, _], _ => PySem.W.binds_K X rfl lT rfl rfl rfl,
    fun s us X hl => by
      obtain ⟨a, rfl⟩ := one_of hl rfl
      exact PySem.W.binds_K X rfl lT rfl rfl rfl,
    fun s e u X => PySem.W.binds_K X rfl lT rfl rfl rfl⟩
theorem eInvalidScript {P : Program} {w : World} {K : PySem.W.Frag} {mg : Str → Option Value} {base : Heap} {C f T cc cda : Addr} {oc kV doc pm ct ccl cl : Value} {an od cdd cld odT : Option Addr} {osl ccs csl slT : Array (Option Value)} {vs0 : Array Value} {file : Str} {tf : Tok} {n : Nat}
    (E : ExC K C) (hm : mg "InvalidScript" = some (.ref C)) (hms : mg "super" = none) (iC : PySem.W.findIn K (.ref C) "__init__" = some (some (.ref f))) (tI : PySem.W.typeIn K (.ref f) = some (.type "function"))
    (lk : K.lookup f = some ⟨oc, od, .func (PySem.W.ksFn "__init__" "InvalidScript.__init__" (defArgs iInvalidScript) (defBody iInvalidScript) (defScope iInvalidScript) (.ref T) kV doc pm an (.ref cda) ct cc), osl⟩) (hcd : PySem.W.codeIn K (.ref cda) "InvalidScript.__init__" = true)
    (lT : K.lookup T = some ⟨.type "tuple", odT, .seq #[.none] n, slT⟩) (lcc : K.lookup cc = some ⟨cl, cld, .cell (some (.ref C)), csl⟩) (lcd : K.lookup cda = some ⟨ccl, cdd, .fields vs0, ccs⟩) (hvs : vs0[2]? = some (.str file tf)) (hfile : ((P.main.file : Str) == file) = true)
    (htop : (P.main.scope.names.lookup ("super" : Str)).isSome = false) : EC P w K mg base "InvalidScript" C 1 :=
  ⟨E, hm, f, _, iC, tI, exc_ini (k := 0) E lk hcd lcc lcd hvs hfile htop hms rfl rfl rfl rfl rfl rfl (by decide +kernel) rfl rfl rfl (fun _ => rfl) (fun _ => rfl) (fun _ => rfl) (fun _ => rfl),
    fun s us X hl => match us, hl with | [_, _], _ => PySem.W.binds_K X rfl lT rfl rfl rfl,
    fun s us X hl => by
      obtain ⟨a, rfl⟩ := one_of hl rfl
      exact PySem.W.binds_K X rfl lT rfl rfl rfl,
    fun s e u X => PySem.W.binds_K X rfl lT rfl rfl rfl⟩
theorem eInvalidText {P : Program} {w : World} {K : PySem.W.Frag} {mg : Str → Option Value} {base : Heap} {C f T cc cda : Addr} {oc kV doc pm ct ccl cl : Value} {an od cdd cld odT : Option Addr} {osl ccs csl slT : Array (Option Value)} {vs0 : Array Value} {file : Str} {tf : Tok} {n : Nat}
    (E : ExC K C) (hm : mg "InvalidText" = some (.ref C)) (hms : mg "super" = none) (iC : PySem.W.findIn K (.ref C) "__init__" = some (some (.ref f))) (tI : PySem.W.typeIn K (.ref f) = some (.type "function"))
    (lk : K.lookup f = some ⟨oc, od, .func (PySem.W.ksFn "__init__" "InvalidText.__init__" (defArgs iInvalidText) (defBody iInvalidText) (defScope iInvalidText) (.ref T) kV doc pm an (.ref cda) ct cc), osl⟩) (hcd : PySem.W.codeIn K (.ref cda) "InvalidText.__init__" = true)
    (lT : K.lookup T = some ⟨.type "tuple", odT, .seq #[.none] n, slT⟩) (lcc : K.lookup cc = some ⟨cl, cld, .cell (some (.ref C)), csl⟩) (lcd : K.lookup cda = some ⟨ccl, cdd, .fields vs0, ccs⟩) (hvs : vs0[2]? = some (.str file tf)) (hfile : ((P.main.file : Str) == file) = true)
    (htop : (P.main.scope.names.lookup ("super" : Str)).isSome = false) : EC P w K mg base "InvalidText" C 1 :=
  ⟨E, hm, f, _, iC, tI, exc_ini (k := 0) E lk hcd lcc lcd hvs hfile htop hms rfl rfl rfl rfl rfl rfl (by decide +kernel) rfl rfl rfl (fun _ => rfl) (fun _ => rfl) (fun _ => rfl) (fun _ => rfl),
    fun s us X hl => match us, hl with | [_, _], _ => PySem.W.binds_K X rfl lT rfl rfl rfl,
    fun s us X hl => by
      obtain ⟨a, rfl⟩ := one_of hl rfl
      exact PySem.W.binds_K X rfl lT rfl rfl rfl,
    fun s e u X => PySem.W.binds_K X rfl lT rfl rfl rfl⟩
theorem eInvalidRecord {P : Program} {w : World} {K : PySem.W.Frag} {mg : Str → Option Value} {base : Heap} {C f T cc cda : Addr} {oc kV doc pm ct ccl cl : Value} {an od cdd cld odT : Option Addr} {osl ccs csl slT : Array (Option Value)} {vs0 : Array Value} {file : Str} {tf : Tok} {n : Nat}
    (E : ExC K C) (hm : mg "InvalidRecord" = some (.ref C)) (hms : mg "super" = none) (iC : PySem.W.findIn K (.ref C) "__init__" = some (some (.ref f))) (tI : PySem.W.typeIn K (.ref f) = some (.type "function"))
    (lk : K.lookup f = some ⟨oc, od, .func (PySem.W.ksFn "__init__" "InvalidRecord.__init__" (defArgs iInvalidRecord) (defBody iInvalidRecord) (defScope iInvalidRecord) (.ref T) kV doc pm an (.ref cda) ct cc), osl⟩) (hcd : PySem.W.codeIn K (.ref cda) "InvalidRecord.__init__" = true)
    (lT : K.lookup T = some ⟨.type "tuple", odT, .seq #[.none] n, slT⟩) (lcc : K.lookup cc = some ⟨cl, cld, .cell (some (.ref C)), csl⟩) (lcd : K.lookup cda = some ⟨ccl, cdd, .fields vs0, ccs⟩) (hvs : vs0[2]? = some (.str file tf)) (hfile : ((P.main.file : Str) == file) = true)
    (htop : (P.main.scope.names.lookup ("super" : Str)).isSome = false) : EC P w K mg base "InvalidRecord" C 1 :=
  ⟨E, hm, f, _, iC, tI, exc_ini (k := 0) E lk hcd lcc lcd hvs hfile htop hms rfl rfl rfl rfl rfl rfl (by decide +kernel) rfl rfl rfl (fun _ => rfl) (fun _ => rfl) (fun _ => rfl) (fun _ => rfl),
    fun s us X hl => match us, hl with | [_, _], _ => PySem.W.binds_K X rfl lT rfl rfl rfl,
    fun s us X hl => by
      obtain ⟨a, rfl⟩ := one_of hl rfl
      exact PySem.W.binds_K X rfl lT rfl rfl rfl,
    fun s e u X => PySem.W.binds_K X rfl lT rfl rfl rfl⟩
theorem eUnlike {P : Program} {w : World} {K : PySem.W.Frag} {mg : Str → Option Value} {base : Heap} {C f T cc cda : Addr} {oc kV doc pm ct ccl cl : Value} {an od cdd cld odT : Option Addr} {osl ccs csl slT : Array (Option Value)} {vs0 : Array Value} {file : Str} {tf : Tok} {n : Nat}
    (E : ExC K C) (hm : mg "Unlike" = some (.ref C)) (hms : mg "super" = none) (iC : PySem.W.findIn K (.ref C) "__init__" = some (some (.ref f))) (tI : PySem.W.typeIn K (.ref f) = some (.type "function"))
    (lk : K.lookup f = some ⟨oc, od, .func (PySem.W.ksFn "__init__" "Unlike.__init__" (defArgs iUnlike) (defBody iUnlike) (defScope iUnlike) (.ref T) kV doc pm an (.ref cda) ct cc), osl⟩) (hcd : PySem.W.codeIn K (.ref cda) "Unlike.__init__" = true)
    (lT : K.lookup T = some ⟨.type "tuple", odT, .seq #[.none] n, slT⟩) (lcc : K.lookup cc = some ⟨cl, cld, .cell (some (.ref C)), csl⟩) (lcd : K.lookup cda = some ⟨ccl, cdd, .fields vs0, ccs⟩) (hvs : vs0[2]? = some (.str file tf)) (hfile : ((P.main.file : Str) == file) = true)
    (htop : (P.main.scope.names.lookup ("super" : Str)).isSome = false) : EC P w K mg base "Unlike" C 1 :=
  ⟨E, hm, f, _, iC, tI, exc_ini (k := 0) E lk hcd lcc lcd hvs hfile htop hms rfl rfl rfl rfl rfl rfl (by decide +kernel) rfl rfl rfl (fun _ => rfl) (fun _ => rfl) (fun _ => rfl) (fun _ => rfl),
    fun s us X hl => match us, hl with | [_, _], _ => PySem.W.binds_K X rfl lT rfl rfl rfl,
    fun s us X hl => by
      obtain ⟨a, rfl⟩ := one_of hl rfl
      exact PySem.W.binds_K X rfl lT rfl rfl rfl,
    fun s e u X => PySem.W.binds_K X rfl lT rfl rfl rfl⟩
theorem eApart {P : Program} {w : World} {K : PySem.W.Frag} {mg : Str → Option Value} {base : Heap} {C f T cc cda : Addr} {oc kV doc pm ct ccl cl : Value} {an od cdd cld odT : Option Addr} {osl ccs csl slT : Array (Option Value)} {vs0 : Array Value} {file : Str} {tf : Tok} {n : Nat}
    (E : ExC K C) (hm : mg "Apart" = some (.ref C)) (hms : mg "super" = none) (iC : PySem.W.findIn K (.ref C) "__init__" = some (some (.ref f))) (tI : PySem.W.typeIn K (.ref f) = some (.type "function"))
    (lk : K.lookup f = some ⟨oc, od, .func (PySem.W.ksFn "__init__" "Apart.__init__" (defArgs iApart) (defBody iApart) (defScope iApart) (.ref T) kV doc pm an (.ref cda) ct cc), osl⟩) (hcd : PySem.W.codeIn K (.ref cda) "Apart.__init__" = true)
    (lT : K.lookup T = some ⟨.type "tuple", odT, .seq #[.none] n, slT⟩) (lcc : K.lookup cc = some ⟨cl, cld, .cell (some (.ref C)), csl⟩) (lcd : K.lookup cda = some ⟨ccl, cdd, .fields vs0, ccs⟩) (hvs : vs0[2]? = some (.str file tf)) (hfile : ((P.main.file : Str) == file) = true)
    (htop : (P.main.scope.names.lookup ("super" : Str)).isSome = false) : EC P w K mg base "Apart" C 1 :=
  ⟨E, hm, f, _, iC, tI, exc_ini (k := 0) E lk hcd lcc lcd hvs hfile htop hms rfl rfl rfl rfl rfl rfl (by decide +kernel) rfl rfl rfl (fun _ => rfl) (fun _ => rfl) (fun _ => rfl) (fun _ => rfl),
    fun s us X hl => match us, hl with | [_, _], _ => PySem.W.binds_K X rfl lT rfl rfl rfl,
    fun s us X hl => by
      obtain ⟨a, rfl⟩ := one_of hl rfl
      exact PySem.W.binds_K X rfl lT rfl rfl rfl,
    fun s e u X => PySem.W.binds_K X rfl lT rfl rfl rfl⟩
theorem eUnsettled {P : Program} {w : World} {K : PySem.W.Frag} {mg : Str → Option Value} {base : Heap} {C f T cc cda : Addr} {oc kV doc pm ct ccl cl : Value} {an od cdd cld odT : Option Addr} {osl ccs csl slT : Array (Option Value)} {vs0 : Array Value} {file : Str} {tf : Tok} {n : Nat}
    (E : ExC K C) (hm : mg "Unsettled" = some (.ref C)) (hms : mg "super" = none) (iC : PySem.W.findIn K (.ref C) "__init__" = some (some (.ref f))) (tI : PySem.W.typeIn K (.ref f) = some (.type "function"))
    (lk : K.lookup f = some ⟨oc, od, .func (PySem.W.ksFn "__init__" "Unsettled.__init__" (defArgs iUnsettled) (defBody iUnsettled) (defScope iUnsettled) (.ref T) kV doc pm an (.ref cda) ct cc), osl⟩) (hcd : PySem.W.codeIn K (.ref cda) "Unsettled.__init__" = true)
    (lT : K.lookup T = some ⟨.type "tuple", odT, .seq #[.none] n, slT⟩) (lcc : K.lookup cc = some ⟨cl, cld, .cell (some (.ref C)), csl⟩) (lcd : K.lookup cda = some ⟨ccl, cdd, .fields vs0, ccs⟩) (hvs : vs0[2]? = some (.str file tf)) (hfile : ((P.main.file : Str) == file) = true)
    (htop : (P.main.scope.names.lookup ("super" : Str)).isSome = false) : EC P w K mg base "Unsettled" C 1 :=
  ⟨E, hm, f, _, iC, tI, exc_ini (k := 0) E lk hcd lcc lcd hvs hfile htop hms rfl rfl rfl rfl rfl rfl (by decide +kernel) rfl rfl rfl (fun _ => rfl) (fun _ => rfl) (fun _ => rfl) (fun _ => rfl),
    fun s us X hl => match us, hl with | [_, _], _ => PySem.W.binds_K X rfl lT rfl rfl rfl,
    fun s us X hl => by
      obtain ⟨a, rfl⟩ := one_of hl rfl
      exact PySem.W.binds_K X rfl lT rfl rfl rfl,
    fun s e u X => PySem.W.binds_K X rfl lT rfl rfl rfl⟩
theorem eBoundless {P : Program} {w : World} {K : PySem.W.Frag} {mg : Str → Option Value} {base : Heap} {C f T cc cda : Addr} {oc kV doc pm ct ccl cl : Value} {an od cdd cld odT : Option Addr} {osl ccs csl slT : Array (Option Value)} {vs0 : Array Value} {file : Str} {tf : Tok} {n : Nat}
    (E : ExC K C) (hm : mg "Boundless" = some (.ref C)) (hms : mg "super" = none) (iC : PySem.W.findIn K (.ref C) "__init__" = some (some (.ref f))) (tI : PySem.W.typeIn K (.ref f) = some (.type "function"))
    (lk : K.lookup f = some ⟨oc, od, .func (PySem.W.ksFn "__init__" "Boundless.__init__" (defArgs iBoundless) (defBody iBoundless) (defScope iBoundless) (.ref T) kV doc pm an (.ref cda) ct cc), osl⟩) (hcd : PySem.W.codeIn K (.ref cda) "Boundless.__init__" = true)
    (lT : K.lookup T = some ⟨.type "tuple", odT, .seq #[.none] n, slT⟩) (lcc : K.lookup cc = some ⟨cl, cld, .cell (some (.ref C)), csl⟩) (lcd : K.lookup cda = some ⟨ccl, cdd, .fields vs0, ccs⟩) (hvs : vs0[2]? = some (.str file tf)) (hfile : ((P.main.file : Str) == file) = true)
    (htop : (P.main.scope.names.lookup ("super" : Str)).isSome = false) : EC P w K mg base "Boundless" C 1 :=
  ⟨E, hm, f, _, iC, tI, exc_ini (k := 0) E lk hcd lcc lcd hvs hfile htop hms rfl rfl rfl rfl rfl rfl (by decide +kernel) rfl rfl rfl (fun _ => rfl) (fun _ => rfl) (fun _ => rfl) (fun _ => rfl),
    fun s us X hl => match us, hl with | [_, _], _ => PySem.W.binds_K X rfl lT rfl rfl rfl,
    fun s us X hl => by
      obtain ⟨a, rfl⟩ := one_of hl rfl
      exact PySem.W.binds_K X rfl lT rfl rfl rfl,
    fun s e u X => PySem.W.binds_K X rfl lT rfl rfl rfl⟩
theorem eRefused {P : Program} {w : World} {K : PySem.W.Frag} {mg : Str → Option Value} {base : Heap} {C f T cc cda : Addr} {oc kV doc pm ct ccl cl : Value} {an od cdd cld odT : Option Addr} {osl ccs csl slT : Array (Option Value)} {vs0 : Array Value} {file : Str} {tf : Tok} {n : Nat}
    (E : ExC K C) (hm : mg "Refused" = some (.ref C)) (hms : mg "super" = none) (iC : PySem.W.findIn K (.ref C) "__init__" = some (some (.ref f))) (tI : PySem.W.typeIn K (.ref f) = some (.type "function"))
    (lk : K.lookup f = some ⟨oc, od, .func (PySem.W.ksFn "__init__" "Refused.__init__" (defArgs iRefused) (defBody iRefused) (defScope iRefused) (.ref T) kV doc pm an (.ref cda) ct cc), osl⟩) (hcd : PySem.W.codeIn K (.ref cda) "Refused.__init__" = true)
    (lT : K.lookup T = some ⟨.type "tuple", odT, .seq #[.none] n, slT⟩) (lcc : K.lookup cc = some ⟨cl, cld, .cell (some (.ref C)), csl⟩) (lcd : K.lookup cda = some ⟨ccl, cdd, .fields vs0, ccs⟩) (hvs : vs0[2]? = some (.str file tf)) (hfile : ((P.main.file : Str) == file) = true)
    (htop : (P.main.scope.names.lookup ("super" : Str)).isSome = false) : EC P w K mg base "Refused" C 1 :=
  ⟨E, hm, f, _, iC, tI, exc_ini (k := 0) E lk hcd lcc lcd hvs hfile htop hms rfl rfl rfl rfl rfl rfl (by decide +kernel) rfl rfl rfl (fun _ => rfl) (fun _ => rfl) (fun _ => rfl) (fun _ => rfl),
    fun s us X hl => match us, hl with | [_, _], _ => PySem.W.binds_K X rfl lT rfl rfl rfl,
    fun s us X hl => by
      obtain ⟨a, rfl⟩ := one_of hl rfl
      exact PySem.W.binds_K X rfl lT rfl rfl rfl,
    fun s e u X => PySem.W.binds_K X rfl lT rfl rfl rfl⟩
theorem all_mk {P : Program} {w : World} {K : PySem.W.Frag} {h : Heap} {mg : Str → Option Value} {fa : Addr}
    {f_z_law_purse f_z_law_mixed f_z_law_draw f_z_law_purses f_z_law_one_of f_z_law_word f_z_law_first f_z_law_called f_z_law_bare f_z_law_code f_z_law_is_error f_z_law_right f_law : Addr}
    {od_z_law_purse an_z_law_purse od_z_law_mixed an_z_law_mixed od_z_law_draw an_z_law_draw od_z_law_purses an_z_law_purses od_z_law_one_of an_z_law_one_of od_z_law_word an_z_law_word od_z_law_first an_z_law_first od_z_law_called an_z_law_called od_z_law_bare an_z_law_bare od_z_law_code an_z_law_code od_z_law_is_error an_z_law_is_error od_z_law_right an_z_law_right od_law an_law : Option Addr} {sl_z_law_purse sl_z_law_mixed sl_z_law_draw sl_z_law_purses sl_z_law_one_of sl_z_law_word sl_z_law_first sl_z_law_called sl_z_law_bare sl_z_law_code sl_z_law_is_error sl_z_law_right sl_law : Array (Option Value)} {oc_z_law_purse kV_z_law_purse dc_z_law_purse pm_z_law_purse cd_z_law_purse ct_z_law_purse oc_z_law_mixed kV_z_law_mixed dc_z_law_mixed pm_z_law_mixed cd_z_law_mixed ct_z_law_mixed oc_z_law_draw kV_z_law_draw dc_z_law_draw pm_z_law_draw cd_z_law_draw ct_z_law_draw oc_z_law_purses kV_z_law_purses dc_z_law_purses pm_z_law_purses cd_z_law_purses ct_z_law_purses oc_z_law_one_of kV_z_law_one_of dc_z_law_one_of pm_z_law_one_of cd_z_law_one_of ct_z_law_one_of oc_z_law_word kV_z_law_word dc_z_law_word pm_z_law_word cd_z_law_word ct_z_law_word oc_z_law_first kV_z_law_first dc_z_law_first pm_z_law_first cd_z_law_first ct_z_law_first oc_z_law_called kV_z_law_called dc_z_law_called pm_z_law_called cd_z_law_called ct_z_law_called oc_z_law_bare kV_z_law_bare dc_z_law_bare pm_z_law_bare cd_z_law_bare ct_z_law_bare oc_z_law_code kV_z_law_code dc_z_law_code pm_z_law_code cd_z_law_code ct_z_law_code oc_z_law_is_error kV_z_law_is_error dc_z_law_is_error pm_z_law_is_error cd_z_law_is_error ct_z_law_is_error oc_z_law_right kV_z_law_right dc_z_law_right pm_z_law_right cd_z_law_right ct_z_law_right oc_law kV_law dc_law pm_law cd_law ct_law : Value}
    {C_CoreError C_InvalidKind C_InvalidTable C_InvalidKinds C_InvalidPairs C_InvalidWord C_InvalidRule C_InvalidMap C_InvalidNames C_InvalidBook C_InvalidName C_InvalidLog C_InvalidLogs C_InvalidMerging C_InvalidStrike C_InvalidRoad C_InvalidPlaces C_InvalidCount C_InvalidFuture C_InvalidValue C_InvalidStore C_InvalidInputs C_InvalidFolding C_InvalidJournal C_InvalidSpot C_InvalidScript C_InvalidText C_InvalidRecord C_Unlike C_Apart C_Unsettled C_Boundless C_Refused C_NothingToUndo C_NothingToRedo : Addr}
    {f_InvalidKind T_InvalidKind cc_InvalidKind cd_InvalidKind f_InvalidTable T_InvalidTable cc_InvalidTable cd_InvalidTable f_InvalidKinds T_InvalidKinds cc_InvalidKinds cd_InvalidKinds f_InvalidPairs T_InvalidPairs cc_InvalidPairs cd_InvalidPairs f_InvalidWord T_InvalidWord cc_InvalidWord cd_InvalidWord f_InvalidRule T_InvalidRule cc_InvalidRule cd_InvalidRule f_InvalidMap T_InvalidMap cc_InvalidMap cd_InvalidMap f_InvalidNames T_InvalidNames cc_InvalidNames cd_InvalidNames f_InvalidBook T_InvalidBook cc_InvalidBook cd_InvalidBook f_InvalidName T_InvalidName cc_InvalidName cd_InvalidName f_InvalidLog T_InvalidLog cc_InvalidLog cd_InvalidLog f_InvalidLogs T_InvalidLogs cc_InvalidLogs cd_InvalidLogs f_InvalidMerging T_InvalidMerging cc_InvalidMerging cd_InvalidMerging f_InvalidStrike T_InvalidStrike cc_InvalidStrike cd_InvalidStrike f_InvalidRoad T_InvalidRoad cc_InvalidRoad cd_InvalidRoad f_InvalidPlaces T_InvalidPlaces cc_InvalidPlaces cd_InvalidPlaces f_InvalidCount T_InvalidCount cc_InvalidCount cd_InvalidCount f_InvalidFuture T_InvalidFuture cc_InvalidFuture cd_InvalidFuture f_InvalidValue T_InvalidValue cc_InvalidValue cd_InvalidValue f_InvalidStore T_InvalidStore cc_InvalidStore cd_InvalidStore f_InvalidInputs T_InvalidInputs cc_InvalidInputs cd_InvalidInputs f_InvalidFolding T_InvalidFolding cc_InvalidFolding cd_InvalidFolding f_InvalidJournal T_InvalidJournal cc_InvalidJournal cd_InvalidJournal f_InvalidSpot T_InvalidSpot cc_InvalidSpot cd_InvalidSpot f_InvalidScript T_InvalidScript cc_InvalidScript cd_InvalidScript f_InvalidText T_InvalidText cc_InvalidText cd_InvalidText f_InvalidRecord T_InvalidRecord cc_InvalidRecord cd_InvalidRecord f_Unlike T_Unlike cc_Unlike cd_Unlike f_Apart T_Apart cc_Apart cd_Apart f_Unsettled T_Unsettled cc_Unsettled cd_Unsettled f_Boundless T_Boundless cc_Boundless cd_Boundless f_Refused T_Refused cc_Refused cd_Refused : Addr} {oc_InvalidKind kV_InvalidKind dc_InvalidKind pm_InvalidKind ct_InvalidKind ccl_InvalidKind cl_InvalidKind oc_InvalidTable kV_InvalidTable dc_InvalidTable pm_InvalidTable ct_InvalidTable ccl_InvalidTable cl_InvalidTable oc_InvalidKinds kV_InvalidKinds dc_InvalidKinds pm_InvalidKinds ct_InvalidKinds ccl_InvalidKinds cl_InvalidKinds oc_InvalidPairs kV_InvalidPairs dc_InvalidPairs pm_InvalidPairs ct_InvalidPairs ccl_InvalidPairs cl_InvalidPairs oc_InvalidWord kV_InvalidWord dc_InvalidWord pm_InvalidWord ct_InvalidWord ccl_InvalidWord cl_InvalidWord oc_InvalidRule kV_InvalidRule dc_InvalidRule pm_InvalidRule ct_InvalidRule ccl_InvalidRule cl_InvalidRule oc_InvalidMap kV_InvalidMap dc_InvalidMap pm_InvalidMap ct_InvalidMap ccl_InvalidMap cl_InvalidMap oc_InvalidNames kV_InvalidNames dc_InvalidNames pm_InvalidNames ct_InvalidNames ccl_InvalidNames cl_InvalidNames oc_InvalidBook kV_InvalidBook dc_InvalidBook pm_InvalidBook ct_InvalidBook ccl_InvalidBook cl_InvalidBook oc_InvalidName kV_InvalidName dc_InvalidName pm_InvalidName ct_InvalidName ccl_InvalidName cl_InvalidName oc_InvalidLog kV_InvalidLog dc_InvalidLog pm_InvalidLog ct_InvalidLog ccl_InvalidLog cl_InvalidLog oc_InvalidLogs kV_InvalidLogs dc_InvalidLogs pm_InvalidLogs ct_InvalidLogs ccl_InvalidLogs cl_InvalidLogs oc_InvalidMerging kV_InvalidMerging dc_InvalidMerging pm_InvalidMerging ct_InvalidMerging ccl_InvalidMerging cl_InvalidMerging oc_InvalidStrike kV_InvalidStrike dc_InvalidStrike pm_InvalidStrike ct_InvalidStrike ccl_InvalidStrike cl_InvalidStrike oc_InvalidRoad kV_InvalidRoad dc_InvalidRoad pm_InvalidRoad ct_InvalidRoad ccl_InvalidRoad cl_InvalidRoad oc_InvalidPlaces kV_InvalidPlaces dc_InvalidPlaces pm_InvalidPlaces ct_InvalidPlaces ccl_InvalidPlaces cl_InvalidPlaces oc_InvalidCount kV_InvalidCount dc_InvalidCount pm_InvalidCount ct_InvalidCount ccl_InvalidCount cl_InvalidCount oc_InvalidFuture kV_InvalidFuture dc_InvalidFuture pm_InvalidFuture ct_InvalidFuture ccl_InvalidFuture cl_InvalidFuture oc_InvalidValue kV_InvalidValue dc_InvalidValue pm_InvalidValue ct_InvalidValue ccl_InvalidValue cl_InvalidValue oc_InvalidStore kV_InvalidStore dc_InvalidStore pm_InvalidStore ct_InvalidStore ccl_InvalidStore cl_InvalidStore oc_InvalidInputs kV_InvalidInputs dc_InvalidInputs pm_InvalidInputs ct_InvalidInputs ccl_InvalidInputs cl_InvalidInputs oc_InvalidFolding kV_InvalidFolding dc_InvalidFolding pm_InvalidFolding ct_InvalidFolding ccl_InvalidFolding cl_InvalidFolding oc_InvalidJournal kV_InvalidJournal dc_InvalidJournal pm_InvalidJournal ct_InvalidJournal ccl_InvalidJournal cl_InvalidJournal oc_InvalidSpot kV_InvalidSpot dc_InvalidSpot pm_InvalidSpot ct_InvalidSpot ccl_InvalidSpot cl_InvalidSpot oc_InvalidScript kV_InvalidScript dc_InvalidScript pm_InvalidScript ct_InvalidScript ccl_InvalidScript cl_InvalidScript oc_InvalidText kV_InvalidText dc_InvalidText pm_InvalidText ct_InvalidText ccl_InvalidText cl_InvalidText oc_InvalidRecord kV_InvalidRecord dc_InvalidRecord pm_InvalidRecord ct_InvalidRecord ccl_InvalidRecord cl_InvalidRecord oc_Unlike kV_Unlike dc_Unlike pm_Unlike ct_Unlike ccl_Unlike cl_Unlike oc_Apart kV_Apart dc_Apart pm_Apart ct_Apart ccl_Apart cl_Apart oc_Unsettled kV_Unsettled dc_Unsettled pm_Unsettled ct_Unsettled ccl_Unsettled cl_Unsettled oc_Boundless kV_Boundless dc_Boundless pm_Boundless ct_Boundless ccl_Boundless cl_Boundless oc_Refused kV_Refused dc_Refused pm_Refused ct_Refused ccl_Refused cl_Refused : Value} {an_InvalidKind od_InvalidKind cdd_InvalidKind cld_InvalidKind odT_InvalidKind an_InvalidTable od_InvalidTable cdd_InvalidTable cld_InvalidTable odT_InvalidTable an_InvalidKinds od_InvalidKinds cdd_InvalidKinds cld_InvalidKinds odT_InvalidKinds an_InvalidPairs od_InvalidPairs cdd_InvalidPairs cld_InvalidPairs odT_InvalidPairs an_InvalidWord od_InvalidWord cdd_InvalidWord cld_InvalidWord odT_InvalidWord an_InvalidRule od_InvalidRule cdd_InvalidRule cld_InvalidRule odT_InvalidRule an_InvalidMap od_InvalidMap cdd_InvalidMap cld_InvalidMap odT_InvalidMap an_InvalidNames od_InvalidNames cdd_InvalidNames cld_InvalidNames odT_InvalidNames an_InvalidBook od_InvalidBook cdd_InvalidBook cld_InvalidBook odT_InvalidBook an_InvalidName od_InvalidName cdd_InvalidName cld_InvalidName odT_InvalidName an_InvalidLog od_InvalidLog cdd_InvalidLog cld_InvalidLog odT_InvalidLog an_InvalidLogs od_InvalidLogs cdd_InvalidLogs cld_InvalidLogs odT_InvalidLogs an_InvalidMerging od_InvalidMerging cdd_InvalidMerging cld_InvalidMerging odT_InvalidMerging an_InvalidStrike od_InvalidStrike cdd_InvalidStrike cld_InvalidStrike odT_InvalidStrike an_InvalidRoad od_InvalidRoad cdd_InvalidRoad cld_InvalidRoad odT_InvalidRoad an_InvalidPlaces od_InvalidPlaces cdd_InvalidPlaces cld_InvalidPlaces odT_InvalidPlaces an_InvalidCount od_InvalidCount cdd_InvalidCount cld_InvalidCount odT_InvalidCount an_InvalidFuture od_InvalidFuture cdd_InvalidFuture cld_InvalidFuture odT_InvalidFuture an_InvalidValue od_InvalidValue cdd_InvalidValue cld_InvalidValue odT_InvalidValue an_InvalidStore od_InvalidStore cdd_InvalidStore cld_InvalidStore odT_InvalidStore an_InvalidInputs od_InvalidInputs cdd_InvalidInputs cld_InvalidInputs odT_InvalidInputs an_InvalidFolding od_InvalidFolding cdd_InvalidFolding cld_InvalidFolding odT_InvalidFolding an_InvalidJournal od_InvalidJournal cdd_InvalidJournal cld_InvalidJournal odT_InvalidJournal an_InvalidSpot od_InvalidSpot cdd_InvalidSpot cld_InvalidSpot odT_InvalidSpot an_InvalidScript od_InvalidScript cdd_InvalidScript cld_InvalidScript odT_InvalidScript an_InvalidText od_InvalidText cdd_InvalidText cld_InvalidText odT_InvalidText an_InvalidRecord od_InvalidRecord cdd_InvalidRecord cld_InvalidRecord odT_InvalidRecord an_Unlike od_Unlike cdd_Unlike cld_Unlike odT_Unlike an_Apart od_Apart cdd_Apart cld_Apart odT_Apart an_Unsettled od_Unsettled cdd_Unsettled cld_Unsettled odT_Unsettled an_Boundless od_Boundless cdd_Boundless cld_Boundless odT_Boundless an_Refused od_Refused cdd_Refused cld_Refused odT_Refused : Option Addr} {sl_InvalidKind ccs_InvalidKind csl_InvalidKind slT_InvalidKind sl_InvalidTable ccs_InvalidTable csl_InvalidTable slT_InvalidTable sl_InvalidKinds ccs_InvalidKinds csl_InvalidKinds slT_InvalidKinds sl_InvalidPairs ccs_InvalidPairs csl_InvalidPairs slT_InvalidPairs sl_InvalidWord ccs_InvalidWord csl_InvalidWord slT_InvalidWord sl_InvalidRule ccs_InvalidRule csl_InvalidRule slT_InvalidRule sl_InvalidMap ccs_InvalidMap csl_InvalidMap slT_InvalidMap sl_InvalidNames ccs_InvalidNames csl_InvalidNames slT_InvalidNames sl_InvalidBook ccs_InvalidBook csl_InvalidBook slT_InvalidBook sl_InvalidName ccs_InvalidName csl_InvalidName slT_InvalidName sl_InvalidLog ccs_InvalidLog csl_InvalidLog slT_InvalidLog sl_InvalidLogs ccs_InvalidLogs csl_InvalidLogs slT_InvalidLogs sl_InvalidMerging ccs_InvalidMerging csl_InvalidMerging slT_InvalidMerging sl_InvalidStrike ccs_InvalidStrike csl_InvalidStrike slT_InvalidStrike sl_InvalidRoad ccs_InvalidRoad csl_InvalidRoad slT_InvalidRoad sl_InvalidPlaces ccs_InvalidPlaces csl_InvalidPlaces slT_InvalidPlaces sl_InvalidCount ccs_InvalidCount csl_InvalidCount slT_InvalidCount sl_InvalidFuture ccs_InvalidFuture csl_InvalidFuture slT_InvalidFuture sl_InvalidValue ccs_InvalidValue csl_InvalidValue slT_InvalidValue sl_InvalidStore ccs_InvalidStore csl_InvalidStore slT_InvalidStore sl_InvalidInputs ccs_InvalidInputs csl_InvalidInputs slT_InvalidInputs sl_InvalidFolding ccs_InvalidFolding csl_InvalidFolding slT_InvalidFolding sl_InvalidJournal ccs_InvalidJournal csl_InvalidJournal slT_InvalidJournal sl_InvalidSpot ccs_InvalidSpot csl_InvalidSpot slT_InvalidSpot sl_InvalidScript ccs_InvalidScript csl_InvalidScript slT_InvalidScript sl_InvalidText ccs_InvalidText csl_InvalidText slT_InvalidText sl_InvalidRecord ccs_InvalidRecord csl_InvalidRecord slT_InvalidRecord sl_Unlike ccs_Unlike csl_Unlike slT_Unlike sl_Apart ccs_Apart csl_Apart slT_Apart sl_Unsettled ccs_Unsettled csl_Unsettled slT_Unsettled sl_Boundless ccs_Boundless csl_Boundless slT_Boundless sl_Refused ccs_Refused csl_Refused slT_Refused : Array (Option Value)} {vs_InvalidKind vs_InvalidTable vs_InvalidKinds vs_InvalidPairs vs_InvalidWord vs_InvalidRule vs_InvalidMap vs_InvalidNames vs_InvalidBook vs_InvalidName vs_InvalidLog vs_InvalidLogs vs_InvalidMerging vs_InvalidStrike vs_InvalidRoad vs_InvalidPlaces vs_InvalidCount vs_InvalidFuture vs_InvalidValue vs_InvalidStore vs_InvalidInputs vs_InvalidFolding vs_InvalidJournal vs_InvalidSpot vs_InvalidScript vs_InvalidText vs_InvalidRecord vs_Unlike vs_Apart vs_Unsettled vs_Boundless vs_Refused : Array Value} {file_InvalidKind file_InvalidTable file_InvalidKinds file_InvalidPairs file_InvalidWord file_InvalidRule file_InvalidMap file_InvalidNames file_InvalidBook file_InvalidName file_InvalidLog file_InvalidLogs file_InvalidMerging file_InvalidStrike file_InvalidRoad file_InvalidPlaces file_InvalidCount file_InvalidFuture file_InvalidValue file_InvalidStore file_InvalidInputs file_InvalidFolding file_InvalidJournal file_InvalidSpot file_InvalidScript file_InvalidText file_InvalidRecord file_Unlike file_Apart file_Unsettled file_Boundless file_Refused : Str} {tf_InvalidKind tf_InvalidTable tf_InvalidKinds tf_InvalidPairs tf_InvalidWord tf_InvalidRule tf_InvalidMap tf_InvalidNames tf_InvalidBook tf_InvalidName tf_InvalidLog tf_InvalidLogs tf_InvalidMerging tf_InvalidStrike tf_InvalidRoad tf_InvalidPlaces tf_InvalidCount tf_InvalidFuture tf_InvalidValue tf_InvalidStore tf_InvalidInputs tf_InvalidFolding tf_InvalidJournal tf_InvalidSpot tf_InvalidScript tf_InvalidText tf_InvalidRecord tf_Unlike tf_Apart tf_Unsettled tf_Boundless tf_Refused : Tok} {n_InvalidKind n_InvalidTable n_InvalidKinds n_InvalidPairs n_InvalidWord n_InvalidRule n_InvalidMap n_InvalidNames n_InvalidBook n_InvalidName n_InvalidLog n_InvalidLogs n_InvalidMerging n_InvalidStrike n_InvalidRoad n_InvalidPlaces n_InvalidCount n_InvalidFuture n_InvalidValue n_InvalidStore n_InvalidInputs n_InvalidFolding n_InvalidJournal n_InvalidSpot n_InvalidScript n_InvalidText n_InvalidRecord n_Unlike n_Apart n_Unsettled n_Boundless n_Refused : Nat}
    (X : K.In h) (G : h.Ns mainGlobals mg) (hfa : mg "law" = some (.ref fa))
    (a_z_law_purse : PySem.W.nsIn K mainGlobals "_law_purse" = some (some (.ref f_z_law_purse)))
    (l_z_law_purse : K.lookup f_z_law_purse = some ⟨oc_z_law_purse, od_z_law_purse, .func (PySem.W.fnOf "_law_purse" "_law_purse" (defArgs sz_law_purse) (defBody sz_law_purse) (defScope sz_law_purse) .none kV_z_law_purse dc_z_law_purse pm_z_law_purse an_z_law_purse cd_z_law_purse ct_z_law_purse), sl_z_law_purse⟩)
    (c_z_law_purse : PySem.W.codeIn K cd_z_law_purse "_law_purse" = true)
    (k_z_law_purse : PySem.W.keepIn K (.ref f_z_law_purse) = true)
    (a_z_law_mixed : PySem.W.nsIn K mainGlobals "_law_mixed" = some (some (.ref f_z_law_mixed)))
    (l_z_law_mixed : K.lookup f_z_law_mixed = some ⟨oc_z_law_mixed, od_z_law_mixed, .func (PySem.W.fnOf "_law_mixed" "_law_mixed" (defArgs sz_law_mixed) (defBody sz_law_mixed) (defScope sz_law_mixed) .none kV_z_law_mixed dc_z_law_mixed pm_z_law_mixed an_z_law_mixed cd_z_law_mixed ct_z_law_mixed), sl_z_law_mixed⟩)
    (c_z_law_mixed : PySem.W.codeIn K cd_z_law_mixed "_law_mixed" = true)
    (k_z_law_mixed : PySem.W.keepIn K (.ref f_z_law_mixed) = true)
    (a_z_law_draw : PySem.W.nsIn K mainGlobals "_law_draw" = some (some (.ref f_z_law_draw)))
    (l_z_law_draw : K.lookup f_z_law_draw = some ⟨oc_z_law_draw, od_z_law_draw, .func (PySem.W.fnOf "_law_draw" "_law_draw" (defArgs sz_law_draw) (defBody sz_law_draw) (defScope sz_law_draw) .none kV_z_law_draw dc_z_law_draw pm_z_law_draw an_z_law_draw cd_z_law_draw ct_z_law_draw), sl_z_law_draw⟩)
    (c_z_law_draw : PySem.W.codeIn K cd_z_law_draw "_law_draw" = true)
    (k_z_law_draw : PySem.W.keepIn K (.ref f_z_law_draw) = true)
    (a_z_law_purses : PySem.W.nsIn K mainGlobals "_law_purses" = some (some (.ref f_z_law_purses)))
    (l_z_law_purses : K.lookup f_z_law_purses = some ⟨oc_z_law_purses, od_z_law_purses, .func (PySem.W.fnOf "_law_purses" "_law_purses" (defArgs sz_law_purses) (defBody sz_law_purses) (defScope sz_law_purses) .none kV_z_law_purses dc_z_law_purses pm_z_law_purses an_z_law_purses cd_z_law_purses ct_z_law_purses), sl_z_law_purses⟩)
    (c_z_law_purses : PySem.W.codeIn K cd_z_law_purses "_law_purses" = true)
    (k_z_law_purses : PySem.W.keepIn K (.ref f_z_law_purses) = true)
    (a_z_law_one_of : PySem.W.nsIn K mainGlobals "_law_one_of" = some (some (.ref f_z_law_one_of)))
    (l_z_law_one_of : K.lookup f_z_law_one_of = some ⟨oc_z_law_one_of, od_z_law_one_of, .func (PySem.W.fnOf "_law_one_of" "_law_one_of" (defArgs sz_law_one_of) (defBody sz_law_one_of) (defScope sz_law_one_of) .none kV_z_law_one_of dc_z_law_one_of pm_z_law_one_of an_z_law_one_of cd_z_law_one_of ct_z_law_one_of), sl_z_law_one_of⟩)
    (c_z_law_one_of : PySem.W.codeIn K cd_z_law_one_of "_law_one_of" = true)
    (k_z_law_one_of : PySem.W.keepIn K (.ref f_z_law_one_of) = true)
    (a_z_law_word : PySem.W.nsIn K mainGlobals "_law_word" = some (some (.ref f_z_law_word)))
    (l_z_law_word : K.lookup f_z_law_word = some ⟨oc_z_law_word, od_z_law_word, .func (PySem.W.fnOf "_law_word" "_law_word" (defArgs sz_law_word) (defBody sz_law_word) (defScope sz_law_word) .none kV_z_law_word dc_z_law_word pm_z_law_word an_z_law_word cd_z_law_word ct_z_law_word), sl_z_law_word⟩)
    (c_z_law_word : PySem.W.codeIn K cd_z_law_word "_law_word" = true)
    (k_z_law_word : PySem.W.keepIn K (.ref f_z_law_word) = true)
    (a_z_law_first : PySem.W.nsIn K mainGlobals "_law_first" = some (some (.ref f_z_law_first)))
    (l_z_law_first : K.lookup f_z_law_first = some ⟨oc_z_law_first, od_z_law_first, .func (PySem.W.fnOf "_law_first" "_law_first" (defArgs sz_law_first) (defBody sz_law_first) (defScope sz_law_first) .none kV_z_law_first dc_z_law_first pm_z_law_first an_z_law_first cd_z_law_first ct_z_law_first), sl_z_law_first⟩)
    (c_z_law_first : PySem.W.codeIn K cd_z_law_first "_law_first" = true)
    (k_z_law_first : PySem.W.keepIn K (.ref f_z_law_first) = true)
    (a_z_law_called : PySem.W.nsIn K mainGlobals "_law_called" = some (some (.ref f_z_law_called)))
    (l_z_law_called : K.lookup f_z_law_called = some ⟨oc_z_law_called, od_z_law_called, .func (PySem.W.fnOf "_law_called" "_law_called" (defArgs sz_law_called) (defBody sz_law_called) (defScope sz_law_called) .none kV_z_law_called dc_z_law_called pm_z_law_called an_z_law_called cd_z_law_called ct_z_law_called), sl_z_law_called⟩)
    (c_z_law_called : PySem.W.codeIn K cd_z_law_called "_law_called" = true)
    (k_z_law_called : PySem.W.keepIn K (.ref f_z_law_called) = true)
    (a_z_law_bare : PySem.W.nsIn K mainGlobals "_law_bare" = some (some (.ref f_z_law_bare)))
    (l_z_law_bare : K.lookup f_z_law_bare = some ⟨oc_z_law_bare, od_z_law_bare, .func (PySem.W.fnOf "_law_bare" "_law_bare" (defArgs sz_law_bare) (defBody sz_law_bare) (defScope sz_law_bare) .none kV_z_law_bare dc_z_law_bare pm_z_law_bare an_z_law_bare cd_z_law_bare ct_z_law_bare), sl_z_law_bare⟩)
    (c_z_law_bare : PySem.W.codeIn K cd_z_law_bare "_law_bare" = true)
    (k_z_law_bare : PySem.W.keepIn K (.ref f_z_law_bare) = true)
    (a_z_law_code : PySem.W.nsIn K mainGlobals "_law_code" = some (some (.ref f_z_law_code)))
    (l_z_law_code : K.lookup f_z_law_code = some ⟨oc_z_law_code, od_z_law_code, .func (PySem.W.fnOf "_law_code" "_law_code" (defArgs sz_law_code) (defBody sz_law_code) (defScope sz_law_code) .none kV_z_law_code dc_z_law_code pm_z_law_code an_z_law_code cd_z_law_code ct_z_law_code), sl_z_law_code⟩)
    (c_z_law_code : PySem.W.codeIn K cd_z_law_code "_law_code" = true)
    (k_z_law_code : PySem.W.keepIn K (.ref f_z_law_code) = true)
    (a_z_law_is_error : PySem.W.nsIn K mainGlobals "_law_is_error" = some (some (.ref f_z_law_is_error)))
    (l_z_law_is_error : K.lookup f_z_law_is_error = some ⟨oc_z_law_is_error, od_z_law_is_error, .func (PySem.W.fnOf "_law_is_error" "_law_is_error" (defArgs sz_law_is_error) (defBody sz_law_is_error) (defScope sz_law_is_error) .none kV_z_law_is_error dc_z_law_is_error pm_z_law_is_error an_z_law_is_error cd_z_law_is_error ct_z_law_is_error), sl_z_law_is_error⟩)
    (c_z_law_is_error : PySem.W.codeIn K cd_z_law_is_error "_law_is_error" = true)
    (k_z_law_is_error : PySem.W.keepIn K (.ref f_z_law_is_error) = true)
    (a_z_law_right : PySem.W.nsIn K mainGlobals "_law_right" = some (some (.ref f_z_law_right)))
    (l_z_law_right : K.lookup f_z_law_right = some ⟨oc_z_law_right, od_z_law_right, .func (PySem.W.fnOf "_law_right" "_law_right" (defArgs sz_law_right) (defBody sz_law_right) (defScope sz_law_right) .none kV_z_law_right dc_z_law_right pm_z_law_right an_z_law_right cd_z_law_right ct_z_law_right), sl_z_law_right⟩)
    (c_z_law_right : PySem.W.codeIn K cd_z_law_right "_law_right" = true)
    (k_z_law_right : PySem.W.keepIn K (.ref f_z_law_right) = true)
    (a_law : PySem.W.nsIn K mainGlobals "law" = some (some (.ref f_law)))
    (l_law : K.lookup f_law = some ⟨oc_law, od_law, .func (PySem.W.fnOf "law" "law" (defArgs slaw) (defBody slaw) (defScope slaw) .none kV_law dc_law pm_law an_law cd_law ct_law), sl_law⟩)
    (c_law : PySem.W.codeIn K cd_law "law" = true)
    (k_law : PySem.W.keepIn K (.ref f_law) = true)
    (a_InvalidKind : PySem.W.nsIn K mainGlobals "InvalidKind" = some (some (.ref C_InvalidKind)))
    (i_InvalidKind : PySem.W.findIn K (.ref C_InvalidKind) "__init__" = some (some (.ref f_InvalidKind)))
    (t_InvalidKind : PySem.W.typeIn K (.ref f_InvalidKind) = some (.type "function"))
    (l_InvalidKind : K.lookup f_InvalidKind = some ⟨oc_InvalidKind, od_InvalidKind, .func (PySem.W.ksFn "__init__" "InvalidKind.__init__" (defArgs iInvalidKind) (defBody iInvalidKind) (defScope iInvalidKind) (.ref T_InvalidKind) kV_InvalidKind dc_InvalidKind pm_InvalidKind an_InvalidKind (.ref cd_InvalidKind) ct_InvalidKind cc_InvalidKind), sl_InvalidKind⟩)
    (c_InvalidKind : PySem.W.codeIn K (.ref cd_InvalidKind) "InvalidKind.__init__" = true)
    (d_InvalidKind : K.lookup T_InvalidKind = some ⟨.type "tuple", odT_InvalidKind, .seq #[.none] n_InvalidKind, slT_InvalidKind⟩)
    (z_InvalidKind : K.lookup cc_InvalidKind = some ⟨cl_InvalidKind, cld_InvalidKind, .cell (some (.ref C_InvalidKind)), csl_InvalidKind⟩)
    (y_InvalidKind : K.lookup cd_InvalidKind = some ⟨ccl_InvalidKind, cdd_InvalidKind, .fields vs_InvalidKind, ccs_InvalidKind⟩)
    (v_InvalidKind : vs_InvalidKind[2]? = some (.str file_InvalidKind tf_InvalidKind))
    (x_InvalidKind : ((P.main.file : Str) == file_InvalidKind) = true)
    (a_InvalidTable : PySem.W.nsIn K mainGlobals "InvalidTable" = some (some (.ref C_InvalidTable)))
    (i_InvalidTable : PySem.W.findIn K (.ref C_InvalidTable) "__init__" = some (some (.ref f_InvalidTable)))
    (t_InvalidTable : PySem.W.typeIn K (.ref f_InvalidTable) = some (.type "function"))
    (l_InvalidTable : K.lookup f_InvalidTable = some ⟨oc_InvalidTable, od_InvalidTable, .func (PySem.W.ksFn "__init__" "InvalidTable.__init__" (defArgs iInvalidTable) (defBody iInvalidTable) (defScope iInvalidTable) (.ref T_InvalidTable) kV_InvalidTable dc_InvalidTable pm_InvalidTable an_InvalidTable (.ref cd_InvalidTable) ct_InvalidTable cc_InvalidTable), sl_InvalidTable⟩)
    (c_InvalidTable : PySem.W.codeIn K (.ref cd_InvalidTable) "InvalidTable.__init__" = true)
    (d_InvalidTable : K.lookup T_InvalidTable = some ⟨.type "tuple", odT_InvalidTable, .seq #[.none] n_InvalidTable, slT_InvalidTable⟩)
    (z_InvalidTable : K.lookup cc_InvalidTable = some ⟨cl_InvalidTable, cld_InvalidTable, .cell (some (.ref C_InvalidTable)), csl_InvalidTable⟩)
    (y_InvalidTable : K.lookup cd_InvalidTable = some ⟨ccl_InvalidTable, cdd_InvalidTable, .fields vs_InvalidTable, ccs_InvalidTable⟩)
    (v_InvalidTable : vs_InvalidTable[2]? = some (.str file_InvalidTable tf_InvalidTable))
    (x_InvalidTable : ((P.main.file : Str) == file_InvalidTable) = true)
    (a_InvalidKinds : PySem.W.nsIn K mainGlobals "InvalidKinds" = some (some (.ref C_InvalidKinds)))
    (i_InvalidKinds : PySem.W.findIn K (.ref C_InvalidKinds) "__init__" = some (some (.ref f_InvalidKinds)))
    (t_InvalidKinds : PySem.W.typeIn K (.ref f_InvalidKinds) = some (.type "function"))
    (l_InvalidKinds : K.lookup f_InvalidKinds = some ⟨oc_InvalidKinds, od_InvalidKinds, .func (PySem.W.ksFn "__init__" "InvalidKinds.__init__" (defArgs iInvalidKinds) (defBody iInvalidKinds) (defScope iInvalidKinds) (.ref T_InvalidKinds) kV_InvalidKinds dc_InvalidKinds pm_InvalidKinds an_InvalidKinds (.ref cd_InvalidKinds) ct_InvalidKinds cc_InvalidKinds), sl_InvalidKinds⟩)
    (c_InvalidKinds : PySem.W.codeIn K (.ref cd_InvalidKinds) "InvalidKinds.__init__" = true)
    (d_InvalidKinds : K.lookup T_InvalidKinds = some ⟨.type "tuple", odT_InvalidKinds, .seq #[.none] n_InvalidKinds, slT_InvalidKinds⟩)
    (z_InvalidKinds : K.lookup cc_InvalidKinds = some ⟨cl_InvalidKinds, cld_InvalidKinds, .cell (some (.ref C_InvalidKinds)), csl_InvalidKinds⟩)
    (y_InvalidKinds : K.lookup cd_InvalidKinds = some ⟨ccl_InvalidKinds, cdd_InvalidKinds, .fields vs_InvalidKinds, ccs_InvalidKinds⟩)
    (v_InvalidKinds : vs_InvalidKinds[2]? = some (.str file_InvalidKinds tf_InvalidKinds))
    (x_InvalidKinds : ((P.main.file : Str) == file_InvalidKinds) = true)
    (a_InvalidPairs : PySem.W.nsIn K mainGlobals "InvalidPairs" = some (some (.ref C_InvalidPairs)))
    (i_InvalidPairs : PySem.W.findIn K (.ref C_InvalidPairs) "__init__" = some (some (.ref f_InvalidPairs)))
    (t_InvalidPairs : PySem.W.typeIn K (.ref f_InvalidPairs) = some (.type "function"))
    (l_InvalidPairs : K.lookup f_InvalidPairs = some ⟨oc_InvalidPairs, od_InvalidPairs, .func (PySem.W.ksFn "__init__" "InvalidPairs.__init__" (defArgs iInvalidPairs) (defBody iInvalidPairs) (defScope iInvalidPairs) (.ref T_InvalidPairs) kV_InvalidPairs dc_InvalidPairs pm_InvalidPairs an_InvalidPairs (.ref cd_InvalidPairs) ct_InvalidPairs cc_InvalidPairs), sl_InvalidPairs⟩)
    (c_InvalidPairs : PySem.W.codeIn K (.ref cd_InvalidPairs) "InvalidPairs.__init__" = true)
    (d_InvalidPairs : K.lookup T_InvalidPairs = some ⟨.type "tuple", odT_InvalidPairs, .seq #[.none] n_InvalidPairs, slT_InvalidPairs⟩)
    (z_InvalidPairs : K.lookup cc_InvalidPairs = some ⟨cl_InvalidPairs, cld_InvalidPairs, .cell (some (.ref C_InvalidPairs)), csl_InvalidPairs⟩)
    (y_InvalidPairs : K.lookup cd_InvalidPairs = some ⟨ccl_InvalidPairs, cdd_InvalidPairs, .fields vs_InvalidPairs, ccs_InvalidPairs⟩)
    (v_InvalidPairs : vs_InvalidPairs[2]? = some (.str file_InvalidPairs tf_InvalidPairs))
    (x_InvalidPairs : ((P.main.file : Str) == file_InvalidPairs) = true)
    (a_InvalidWord : PySem.W.nsIn K mainGlobals "InvalidWord" = some (some (.ref C_InvalidWord)))
    (i_InvalidWord : PySem.W.findIn K (.ref C_InvalidWord) "__init__" = some (some (.ref f_InvalidWord)))
    (t_InvalidWord : PySem.W.typeIn K (.ref f_InvalidWord) = some (.type "function"))
    (l_InvalidWord : K.lookup f_InvalidWord = some ⟨oc_InvalidWord, od_InvalidWord, .func (PySem.W.ksFn "__init__" "InvalidWord.__init__" (defArgs iInvalidWord) (defBody iInvalidWord) (defScope iInvalidWord) (.ref T_InvalidWord) kV_InvalidWord dc_InvalidWord pm_InvalidWord an_InvalidWord (.ref cd_InvalidWord) ct_InvalidWord cc_InvalidWord), sl_InvalidWord⟩)
    (c_InvalidWord : PySem.W.codeIn K (.ref cd_InvalidWord) "InvalidWord.__init__" = true)
    (d_InvalidWord : K.lookup T_InvalidWord = some ⟨.type "tuple", odT_InvalidWord, .seq #[.none] n_InvalidWord, slT_InvalidWord⟩)
    (z_InvalidWord : K.lookup cc_InvalidWord = some ⟨cl_InvalidWord, cld_InvalidWord, .cell (some (.ref C_InvalidWord)), csl_InvalidWord⟩)
    (y_InvalidWord : K.lookup cd_InvalidWord = some ⟨ccl_InvalidWord, cdd_InvalidWord, .fields vs_InvalidWord, ccs_InvalidWord⟩)
    (v_InvalidWord : vs_InvalidWord[2]? = some (.str file_InvalidWord tf_InvalidWord))
    (x_InvalidWord : ((P.main.file : Str) == file_InvalidWord) = true)
    (a_InvalidRule : PySem.W.nsIn K mainGlobals "InvalidRule" = some (some (.ref C_InvalidRule)))
    (i_InvalidRule : PySem.W.findIn K (.ref C_InvalidRule) "__init__" = some (some (.ref f_InvalidRule)))
    (t_InvalidRule : PySem.W.typeIn K (.ref f_InvalidRule) = some (.type "function"))
    (l_InvalidRule : K.lookup f_InvalidRule = some ⟨oc_InvalidRule, od_InvalidRule, .func (PySem.W.ksFn "__init__" "InvalidRule.__init__" (defArgs iInvalidRule) (defBody iInvalidRule) (defScope iInvalidRule) (.ref T_InvalidRule) kV_InvalidRule dc_InvalidRule pm_InvalidRule an_InvalidRule (.ref cd_InvalidRule) ct_InvalidRule cc_InvalidRule), sl_InvalidRule⟩)
    (c_InvalidRule : PySem.W.codeIn K (.ref cd_InvalidRule) "InvalidRule.__init__" = true)
    (d_InvalidRule : K.lookup T_InvalidRule = some ⟨.type "tuple", odT_InvalidRule, .seq #[.none] n_InvalidRule, slT_InvalidRule⟩)
    (z_InvalidRule : K.lookup cc_InvalidRule = some ⟨cl_InvalidRule, cld_InvalidRule, .cell (some (.ref C_InvalidRule)), csl_InvalidRule⟩)
    (y_InvalidRule : K.lookup cd_InvalidRule = some ⟨ccl_InvalidRule, cdd_InvalidRule, .fields vs_InvalidRule, ccs_InvalidRule⟩)
    (v_InvalidRule : vs_InvalidRule[2]? = some (.str file_InvalidRule tf_InvalidRule))
    (x_InvalidRule : ((P.main.file : Str) == file_InvalidRule) = true)
    (a_InvalidMap : PySem.W.nsIn K mainGlobals "InvalidMap" = some (some (.ref C_InvalidMap)))
    (i_InvalidMap : PySem.W.findIn K (.ref C_InvalidMap) "__init__" = some (some (.ref f_InvalidMap)))
    (t_InvalidMap : PySem.W.typeIn K (.ref f_InvalidMap) = some (.type "function"))
    (l_InvalidMap : K.lookup f_InvalidMap = some ⟨oc_InvalidMap, od_InvalidMap, .func (PySem.W.ksFn "__init__" "InvalidMap.__init__" (defArgs iInvalidMap) (defBody iInvalidMap) (defScope iInvalidMap) (.ref T_InvalidMap) kV_InvalidMap dc_InvalidMap pm_InvalidMap an_InvalidMap (.ref cd_InvalidMap) ct_InvalidMap cc_InvalidMap), sl_InvalidMap⟩)
    (c_InvalidMap : PySem.W.codeIn K (.ref cd_InvalidMap) "InvalidMap.__init__" = true)
    (d_InvalidMap : K.lookup T_InvalidMap = some ⟨.type "tuple", odT_InvalidMap, .seq #[.none] n_InvalidMap, slT_InvalidMap⟩)
    (z_InvalidMap : K.lookup cc_InvalidMap = some ⟨cl_InvalidMap, cld_InvalidMap, .cell (some (.ref C_InvalidMap)), csl_InvalidMap⟩)
    (y_InvalidMap : K.lookup cd_InvalidMap = some ⟨ccl_InvalidMap, cdd_InvalidMap, .fields vs_InvalidMap, ccs_InvalidMap⟩)
    (v_InvalidMap : vs_InvalidMap[2]? = some (.str file_InvalidMap tf_InvalidMap))
    (x_InvalidMap : ((P.main.file : Str) == file_InvalidMap) = true)
    (a_InvalidNames : PySem.W.nsIn K mainGlobals "InvalidNames" = some (some (.ref C_InvalidNames)))
    (i_InvalidNames : PySem.W.findIn K (.ref C_InvalidNames) "__init__" = some (some (.ref f_InvalidNames)))
    (t_InvalidNames : PySem.W.typeIn K (.ref f_InvalidNames) = some (.type "function"))
    (l_InvalidNames : K.lookup f_InvalidNames = some ⟨oc_InvalidNames, od_InvalidNames, .func (PySem.W.ksFn "__init__" "InvalidNames.__init__" (defArgs iInvalidNames) (defBody iInvalidNames) (defScope iInvalidNames) (.ref T_InvalidNames) kV_InvalidNames dc_InvalidNames pm_InvalidNames an_InvalidNames (.ref cd_InvalidNames) ct_InvalidNames cc_InvalidNames), sl_InvalidNames⟩)
    (c_InvalidNames : PySem.W.codeIn K (.ref cd_InvalidNames) "InvalidNames.__init__" = true)
    (d_InvalidNames : K.lookup T_InvalidNames = some ⟨.type "tuple", odT_InvalidNames, .seq #[.none] n_InvalidNames, slT_InvalidNames⟩)
    (z_InvalidNames : K.lookup cc_InvalidNames = some ⟨cl_InvalidNames, cld_InvalidNames, .cell (some (.ref C_InvalidNames)), csl_InvalidNames⟩)
    (y_InvalidNames : K.lookup cd_InvalidNames = some ⟨ccl_InvalidNames, cdd_InvalidNames, .fields vs_InvalidNames, ccs_InvalidNames⟩)
    (v_InvalidNames : vs_InvalidNames[2]? = some (.str file_InvalidNames tf_InvalidNames))
    (x_InvalidNames : ((P.main.file : Str) == file_InvalidNames) = true)
    (a_InvalidBook : PySem.W.nsIn K mainGlobals "InvalidBook" = some (some (.ref C_InvalidBook)))
    (i_InvalidBook : PySem.W.findIn K (.ref C_InvalidBook) "__init__" = some (some (.ref f_InvalidBook)))
    (t_InvalidBook : PySem.W.typeIn K (.ref f_InvalidBook) = some (.type "function"))
    (l_InvalidBook : K.lookup f_InvalidBook = some ⟨oc_InvalidBook, od_InvalidBook, .func (PySem.W.ksFn "__init__" "InvalidBook.__init__" (defArgs iInvalidBook) (defBody iInvalidBook) (defScope iInvalidBook) (.ref T_InvalidBook) kV_InvalidBook dc_InvalidBook pm_InvalidBook an_InvalidBook (.ref cd_InvalidBook) ct_InvalidBook cc_InvalidBook), sl_InvalidBook⟩)
    (c_InvalidBook : PySem.W.codeIn K (.ref cd_InvalidBook) "InvalidBook.__init__" = true)
    (d_InvalidBook : K.lookup T_InvalidBook = some ⟨.type "tuple", odT_InvalidBook, .seq #[.none] n_InvalidBook, slT_InvalidBook⟩)
    (z_InvalidBook : K.lookup cc_InvalidBook = some ⟨cl_InvalidBook, cld_InvalidBook, .cell (some (.ref C_InvalidBook)), csl_InvalidBook⟩)
    (y_InvalidBook : K.lookup cd_InvalidBook = some ⟨ccl_InvalidBook, cdd_InvalidBook, .fields vs_InvalidBook, ccs_InvalidBook⟩)
    (v_InvalidBook : vs_InvalidBook[2]? = some (.str file_InvalidBook tf_InvalidBook))
    (x_InvalidBook : ((P.main.file : Str) == file_InvalidBook) = true)
    (a_InvalidName : PySem.W.nsIn K mainGlobals "InvalidName" = some (some (.ref C_InvalidName)))
    (i_InvalidName : PySem.W.findIn K (.ref C_InvalidName) "__init__" = some (some (.ref f_InvalidName)))
    (t_InvalidName : PySem.W.typeIn K (.ref f_InvalidName) = some (.type "function"))
    (l_InvalidName : K.lookup f_InvalidName = some ⟨oc_InvalidName, od_InvalidName, .func (PySem.W.ksFn "__init__" "InvalidName.__init__" (defArgs iInvalidName) (defBody iInvalidName) (defScope iInvalidName) (.ref T_InvalidName) kV_InvalidName dc_InvalidName pm_InvalidName an_InvalidName (.ref cd_InvalidName) ct_InvalidName cc_InvalidName), sl_InvalidName⟩)
    (c_InvalidName : PySem.W.codeIn K (.ref cd_InvalidName) "InvalidName.__init__" = true)
    (d_InvalidName : K.lookup T_InvalidName = some ⟨.type "tuple", odT_InvalidName, .seq #[.none] n_InvalidName, slT_InvalidName⟩)
    (z_InvalidName : K.lookup cc_InvalidName = some ⟨cl_InvalidName, cld_InvalidName, .cell (some (.ref C_InvalidName)), csl_InvalidName⟩)
    (y_InvalidName : K.lookup cd_InvalidName = some ⟨ccl_InvalidName, cdd_InvalidName, .fields vs_InvalidName, ccs_InvalidName⟩)
    (v_InvalidName : vs_InvalidName[2]? = some (.str file_InvalidName tf_InvalidName))
    (x_InvalidName : ((P.main.file : Str) == file_InvalidName) = true)
    (a_InvalidLog : PySem.W.nsIn K mainGlobals "InvalidLog" = some (some (.ref C_InvalidLog)))
    (i_InvalidLog : PySem.W.findIn K (.ref C_InvalidLog) "__init__" = some (some (.ref f_InvalidLog)))
    (t_InvalidLog : PySem.W.typeIn K (.ref f_InvalidLog) = some (.type "function"))
    (l_InvalidLog : K.lookup f_InvalidLog = some ⟨oc_InvalidLog, od_InvalidLog, .func (PySem.W.ksFn "__init__" "InvalidLog.__init__" (defArgs iInvalidLog) (defBody iInvalidLog) (defScope iInvalidLog) (.ref T_InvalidLog) kV_InvalidLog dc_InvalidLog pm_InvalidLog an_InvalidLog (.ref cd_InvalidLog) ct_InvalidLog cc_InvalidLog), sl_InvalidLog⟩)
    (c_InvalidLog : PySem.W.codeIn K (.ref cd_InvalidLog) "InvalidLog.__init__" = true)
    (d_InvalidLog : K.lookup T_InvalidLog = some ⟨.type "tuple", odT_InvalidLog, .seq #[.none] n_InvalidLog, slT_InvalidLog⟩)
    (z_InvalidLog : K.lookup cc_InvalidLog = some ⟨cl_InvalidLog, cld_InvalidLog, .cell (some (.ref C_InvalidLog)), csl_InvalidLog⟩)
    (y_InvalidLog : K.lookup cd_InvalidLog = some ⟨ccl_InvalidLog, cdd_InvalidLog, .fields vs_InvalidLog, ccs_InvalidLog⟩)
    (v_InvalidLog : vs_InvalidLog[2]? = some (.str file_InvalidLog tf_InvalidLog))
    (x_InvalidLog : ((P.main.file : Str) == file_InvalidLog) = true)
    (a_InvalidLogs : PySem.W.nsIn K mainGlobals "InvalidLogs" = some (some (.ref C_InvalidLogs)))
    (i_InvalidLogs : PySem.W.findIn K (.ref C_InvalidLogs) "__init__" = some (some (.ref f_InvalidLogs)))
    (t_InvalidLogs : PySem.W.typeIn K (.ref f_InvalidLogs) = some (.type "function"))
    (l_InvalidLogs : K.lookup f_InvalidLogs = some ⟨oc_InvalidLogs, od_InvalidLogs, .func (PySem.W.ksFn "__init__" "InvalidLogs.__init__" (defArgs iInvalidLogs) (defBody iInvalidLogs) (defScope iInvalidLogs) (.ref T_InvalidLogs) kV_InvalidLogs dc_InvalidLogs pm_InvalidLogs an_InvalidLogs (.ref cd_InvalidLogs) ct_InvalidLogs cc_InvalidLogs), sl_InvalidLogs⟩)
    (c_InvalidLogs : PySem.W.codeIn K (.ref cd_InvalidLogs) "InvalidLogs.__init__" = true)
    (d_InvalidLogs : K.lookup T_InvalidLogs = some ⟨.type "tuple", odT_InvalidLogs, .seq #[.none] n_InvalidLogs, slT_InvalidLogs⟩)
    (z_InvalidLogs : K.lookup cc_InvalidLogs = some ⟨cl_InvalidLogs, cld_InvalidLogs, .cell (some (.ref C_InvalidLogs)), csl_InvalidLogs⟩)
    (y_InvalidLogs : K.lookup cd_InvalidLogs = some ⟨ccl_InvalidLogs, cdd_InvalidLogs, .fields vs_InvalidLogs, ccs_InvalidLogs⟩)
    (v_InvalidLogs : vs_InvalidLogs[2]? = some (.str file_InvalidLogs tf_InvalidLogs))
    (x_InvalidLogs : ((P.main.file : Str) == file_InvalidLogs) = true)
    (a_InvalidMerging : PySem.W.nsIn K mainGlobals "InvalidMerging" = some (some (.ref C_InvalidMerging)))
    (i_InvalidMerging : PySem.W.findIn K (.ref C_InvalidMerging) "__init__" = some (some (.ref f_InvalidMerging)))
    (t_InvalidMerging : PySem.W.typeIn K (.ref f_InvalidMerging) = some (.type "function"))
    (l_InvalidMerging : K.lookup f_InvalidMerging = some ⟨oc_InvalidMerging, od_InvalidMerging, .func (PySem.W.ksFn "__init__" "InvalidMerging.__init__" (defArgs iInvalidMerging) (defBody iInvalidMerging) (defScope iInvalidMerging) (.ref T_InvalidMerging) kV_InvalidMerging dc_InvalidMerging pm_InvalidMerging an_InvalidMerging (.ref cd_InvalidMerging) ct_InvalidMerging cc_InvalidMerging), sl_InvalidMerging⟩)
    (c_InvalidMerging : PySem.W.codeIn K (.ref cd_InvalidMerging) "InvalidMerging.__init__" = true)
    (d_InvalidMerging : K.lookup T_InvalidMerging = some ⟨.type "tuple", odT_InvalidMerging, .seq #[.none] n_InvalidMerging, slT_InvalidMerging⟩)
    (z_InvalidMerging : K.lookup cc_InvalidMerging = some ⟨cl_InvalidMerging, cld_InvalidMerging, .cell (some (.ref C_InvalidMerging)), csl_InvalidMerging⟩)
    (y_InvalidMerging : K.lookup cd_InvalidMerging = some ⟨ccl_InvalidMerging, cdd_InvalidMerging, .fields vs_InvalidMerging, ccs_InvalidMerging⟩)
    (v_InvalidMerging : vs_InvalidMerging[2]? = some (.str file_InvalidMerging tf_InvalidMerging))
    (x_InvalidMerging : ((P.main.file : Str) == file_InvalidMerging) = true)
    (a_InvalidStrike : PySem.W.nsIn K mainGlobals "InvalidStrike" = some (some (.ref C_InvalidStrike)))
    (i_InvalidStrike : PySem.W.findIn K (.ref C_InvalidStrike) "__init__" = some (some (.ref f_InvalidStrike)))
    (t_InvalidStrike : PySem.W.typeIn K (.ref f_InvalidStrike) = some (.type "function"))
    (l_InvalidStrike : K.lookup f_InvalidStrike = some ⟨oc_InvalidStrike, od_InvalidStrike, .func (PySem.W.ksFn "__init__" "InvalidStrike.__init__" (defArgs iInvalidStrike) (defBody iInvalidStrike) (defScope iInvalidStrike) (.ref T_InvalidStrike) kV_InvalidStrike dc_InvalidStrike pm_InvalidStrike an_InvalidStrike (.ref cd_InvalidStrike) ct_InvalidStrike cc_InvalidStrike), sl_InvalidStrike⟩)
    (c_InvalidStrike : PySem.W.codeIn K (.ref cd_InvalidStrike) "InvalidStrike.__init__" = true)
    (d_InvalidStrike : K.lookup T_InvalidStrike = some ⟨.type "tuple", odT_InvalidStrike, .seq #[.none] n_InvalidStrike, slT_InvalidStrike⟩)
    (z_InvalidStrike : K.lookup cc_InvalidStrike = some ⟨cl_InvalidStrike, cld_InvalidStrike, .cell (some (.ref C_InvalidStrike)), csl_InvalidStrike⟩)
    (y_InvalidStrike : K.lookup cd_InvalidStrike = some ⟨ccl_InvalidStrike, cdd_InvalidStrike, .fields vs_InvalidStrike, ccs_InvalidStrike⟩)
    (v_InvalidStrike : vs_InvalidStrike[2]? = some (.str file_InvalidStrike tf_InvalidStrike))
    (x_InvalidStrike : ((P.main.file : Str) == file_InvalidStrike) = true)
    (a_InvalidRoad : PySem.W.nsIn K mainGlobals "InvalidRoad" = some (some (.ref C_InvalidRoad)))
    (i_InvalidRoad : PySem.W.findIn K (.ref C_InvalidRoad) "__init__" = some (some (.ref f_InvalidRoad)))
    (t_InvalidRoad : PySem.W.typeIn K (.ref f_InvalidRoad) = some (.type "function"))
    (l_InvalidRoad : K.lookup f_InvalidRoad = some ⟨oc_InvalidRoad, od_InvalidRoad, .func (PySem.W.ksFn "__init__" "InvalidRoad.__init__" (defArgs iInvalidRoad) (defBody iInvalidRoad) (defScope iInvalidRoad) (.ref T_InvalidRoad) kV_InvalidRoad dc_InvalidRoad pm_InvalidRoad an_InvalidRoad (.ref cd_InvalidRoad) ct_InvalidRoad cc_InvalidRoad), sl_InvalidRoad⟩)
    (c_InvalidRoad : PySem.W.codeIn K (.ref cd_InvalidRoad) "InvalidRoad.__init__" = true)
    (d_InvalidRoad : K.lookup T_InvalidRoad = some ⟨.type "tuple", odT_InvalidRoad, .seq #[.none] n_InvalidRoad, slT_InvalidRoad⟩)
    (z_InvalidRoad : K.lookup cc_InvalidRoad = some ⟨cl_InvalidRoad, cld_InvalidRoad, .cell (some (.ref C_InvalidRoad)), csl_InvalidRoad⟩)
    (y_InvalidRoad : K.lookup cd_InvalidRoad = some ⟨ccl_InvalidRoad, cdd_InvalidRoad, .fields vs_InvalidRoad, ccs_InvalidRoad⟩)
    (v_InvalidRoad : vs_InvalidRoad[2]? = some (.str file_InvalidRoad tf_InvalidRoad))
    (x_InvalidRoad : ((P.main.file : Str) == file_InvalidRoad) = true)
    (a_InvalidPlaces : PySem.W.nsIn K mainGlobals "InvalidPlaces" = some (some (.ref C_InvalidPlaces)))
    (i_InvalidPlaces : PySem.W.findIn K (.ref C_InvalidPlaces) "__init__" = some (some (.ref f_InvalidPlaces)))
    (t_InvalidPlaces : PySem.W.typeIn K (.ref f_InvalidPlaces) = some (.type "function"))
    (l_InvalidPlaces : K.lookup f_InvalidPlaces = some ⟨oc_InvalidPlaces, od_InvalidPlaces, .func (PySem.W.ksFn "__init__" "InvalidPlaces.__init__" (defArgs iInvalidPlaces) (defBody iInvalidPlaces) (defScope iInvalidPlaces) (.ref T_InvalidPlaces) kV_InvalidPlaces dc_InvalidPlaces pm_InvalidPlaces an_InvalidPlaces (.ref cd_InvalidPlaces) ct_InvalidPlaces cc_InvalidPlaces), sl_InvalidPlaces⟩)
    (c_InvalidPlaces : PySem.W.codeIn K (.ref cd_InvalidPlaces) "InvalidPlaces.__init__" = true)
    (d_InvalidPlaces : K.lookup T_InvalidPlaces = some ⟨.type "tuple", odT_InvalidPlaces, .seq #[.none] n_InvalidPlaces, slT_InvalidPlaces⟩)
    (z_InvalidPlaces : K.lookup cc_InvalidPlaces = some ⟨cl_InvalidPlaces, cld_InvalidPlaces, .cell (some (.ref C_InvalidPlaces)), csl_InvalidPlaces⟩)
    (y_InvalidPlaces : K.lookup cd_InvalidPlaces = some ⟨ccl_InvalidPlaces, cdd_InvalidPlaces, .fields vs_InvalidPlaces, ccs_InvalidPlaces⟩)
    (v_InvalidPlaces : vs_InvalidPlaces[2]? = some (.str file_InvalidPlaces tf_InvalidPlaces))
    (x_InvalidPlaces : ((P.main.file : Str) == file_InvalidPlaces) = true)
    (a_InvalidCount : PySem.W.nsIn K mainGlobals "InvalidCount" = some (some (.ref C_InvalidCount)))
    (i_InvalidCount : PySem.W.findIn K (.ref C_InvalidCount) "__init__" = some (some (.ref f_InvalidCount)))
    (t_InvalidCount : PySem.W.typeIn K (.ref f_InvalidCount) = some (.type "function"))
    (l_InvalidCount : K.lookup f_InvalidCount = some ⟨oc_InvalidCount, od_InvalidCount, .func (PySem.W.ksFn "__init__" "InvalidCount.__init__" (defArgs iInvalidCount) (defBody iInvalidCount) (defScope iInvalidCount) (.ref T_InvalidCount) kV_InvalidCount dc_InvalidCount pm_InvalidCount an_InvalidCount (.ref cd_InvalidCount) ct_InvalidCount cc_InvalidCount), sl_InvalidCount⟩)
    (c_InvalidCount : PySem.W.codeIn K (.ref cd_InvalidCount) "InvalidCount.__init__" = true)
    (d_InvalidCount : K.lookup T_InvalidCount = some ⟨.type "tuple", odT_InvalidCount, .seq #[.none] n_InvalidCount, slT_InvalidCount⟩)
    (z_InvalidCount : K.lookup cc_InvalidCount = some ⟨cl_InvalidCount, cld_InvalidCount, .cell (some (.ref C_InvalidCount)), csl_InvalidCount⟩)
    (y_InvalidCount : K.lookup cd_InvalidCount = some ⟨ccl_InvalidCount, cdd_InvalidCount, .fields vs_InvalidCount, ccs_InvalidCount⟩)
    (v_InvalidCount : vs_InvalidCount[2]? = some (.str file_InvalidCount tf_InvalidCount))
    (x_InvalidCount : ((P.main.file : Str) == file_InvalidCount) = true)
    (a_InvalidFuture : PySem.W.nsIn K mainGlobals "InvalidFuture" = some (some (.ref C_InvalidFuture)))
    (i_InvalidFuture : PySem.W.findIn K (.ref C_InvalidFuture) "__init__" = some (some (.ref f_InvalidFuture)))
    (t_InvalidFuture : PySem.W.typeIn K (.ref f_InvalidFuture) = some (.type "function"))
    (l_InvalidFuture : K.lookup f_InvalidFuture = some ⟨oc_InvalidFuture, od_InvalidFuture, .func (PySem.W.ksFn "__init__" "InvalidFuture.__init__" (defArgs iInvalidFuture) (defBody iInvalidFuture) (defScope iInvalidFuture) (.ref T_InvalidFuture) kV_InvalidFuture dc_InvalidFuture pm_InvalidFuture an_InvalidFuture (.ref cd_InvalidFuture) ct_InvalidFuture cc_InvalidFuture), sl_InvalidFuture⟩)
    (c_InvalidFuture : PySem.W.codeIn K (.ref cd_InvalidFuture) "InvalidFuture.__init__" = true)
    (d_InvalidFuture : K.lookup T_InvalidFuture = some ⟨.type "tuple", odT_InvalidFuture, .seq #[.none] n_InvalidFuture, slT_InvalidFuture⟩)
    (z_InvalidFuture : K.lookup cc_InvalidFuture = some ⟨cl_InvalidFuture, cld_InvalidFuture, .cell (some (.ref C_InvalidFuture)), csl_InvalidFuture⟩)
    (y_InvalidFuture : K.lookup cd_InvalidFuture = some ⟨ccl_InvalidFuture, cdd_InvalidFuture, .fields vs_InvalidFuture, ccs_InvalidFuture⟩)
    (v_InvalidFuture : vs_InvalidFuture[2]? = some (.str file_InvalidFuture tf_InvalidFuture))
    (x_InvalidFuture : ((P.main.file : Str) == file_InvalidFuture) = true)
    (a_InvalidValue : PySem.W.nsIn K mainGlobals "InvalidValue" = some (some (.ref C_InvalidValue)))
    (i_InvalidValue : PySem.W.findIn K (.ref C_InvalidValue) "__init__" = some (some (.ref f_InvalidValue)))
    (t_InvalidValue : PySem.W.typeIn K (.ref f_InvalidValue) = some (.type "function"))
    (l_InvalidValue : K.lookup f_InvalidValue = some ⟨oc_InvalidValue, od_InvalidValue, .func (PySem.W.ksFn "__init__" "InvalidValue.__init__" (defArgs iInvalidValue) (defBody iInvalidValue) (defScope iInvalidValue) (.ref T_InvalidValue) kV_InvalidValue dc_InvalidValue pm_InvalidValue an_InvalidValue (.ref cd_InvalidValue) ct_InvalidValue cc_InvalidValue), sl_InvalidValue⟩)
    (c_InvalidValue : PySem.W.codeIn K (.ref cd_InvalidValue) "InvalidValue.__init__" = true)
    (d_InvalidValue : K.lookup T_InvalidValue = some ⟨.type "tuple", odT_InvalidValue, .seq #[.none] n_InvalidValue, slT_InvalidValue⟩)
    (z_InvalidValue : K.lookup cc_InvalidValue = some ⟨cl_InvalidValue, cld_InvalidValue, .cell (some (.ref C_InvalidValue)), csl_InvalidValue⟩)
    (y_InvalidValue : K.lookup cd_InvalidValue = some ⟨ccl_InvalidValue, cdd_InvalidValue, .fields vs_InvalidValue, ccs_InvalidValue⟩)
    (v_InvalidValue : vs_InvalidValue[2]? = some (.str file_InvalidValue tf_InvalidValue))
    (x_InvalidValue : ((P.main.file : Str) == file_InvalidValue) = true)
    (a_InvalidStore : PySem.W.nsIn K mainGlobals "InvalidStore" = some (some (.ref C_InvalidStore)))
    (i_InvalidStore : PySem.W.findIn K (.ref C_InvalidStore) "__init__" = some (some (.ref f_InvalidStore)))
    (t_InvalidStore : PySem.W.typeIn K (.ref f_InvalidStore) = some (.type "function"))
    (l_InvalidStore : K.lookup f_InvalidStore = some ⟨oc_InvalidStore, od_InvalidStore, .func (PySem.W.ksFn "__init__" "InvalidStore.__init__" (defArgs iInvalidStore) (defBody iInvalidStore) (defScope iInvalidStore) (.ref T_InvalidStore) kV_InvalidStore dc_InvalidStore pm_InvalidStore an_InvalidStore (.ref cd_InvalidStore) ct_InvalidStore cc_InvalidStore), sl_InvalidStore⟩)
    (c_InvalidStore : PySem.W.codeIn K (.ref cd_InvalidStore) "InvalidStore.__init__" = true)
    (d_InvalidStore : K.lookup T_InvalidStore = some ⟨.type "tuple", odT_InvalidStore, .seq #[.none] n_InvalidStore, slT_InvalidStore⟩)
    (z_InvalidStore : K.lookup cc_InvalidStore = some ⟨cl_InvalidStore, cld_InvalidStore, .cell (some (.ref C_InvalidStore)), csl_InvalidStore⟩)
    (y_InvalidStore : K.lookup cd_InvalidStore = some ⟨ccl_InvalidStore, cdd_InvalidStore, .fields vs_InvalidStore, ccs_InvalidStore⟩)
    (v_InvalidStore : vs_InvalidStore[2]? = some (.str file_InvalidStore tf_InvalidStore))
    (x_InvalidStore : ((P.main.file : Str) == file_InvalidStore) = true)
    (a_InvalidInputs : PySem.W.nsIn K mainGlobals "InvalidInputs" = some (some (.ref C_InvalidInputs)))
    (i_InvalidInputs : PySem.W.findIn K (.ref C_InvalidInputs) "__init__" = some (some (.ref f_InvalidInputs)))
    (t_InvalidInputs : PySem.W.typeIn K (.ref f_InvalidInputs) = some (.type "function"))
    (l_InvalidInputs : K.lookup f_InvalidInputs = some ⟨oc_InvalidInputs, od_InvalidInputs, .func (PySem.W.ksFn "__init__" "InvalidInputs.__init__" (defArgs iInvalidInputs) (defBody iInvalidInputs) (defScope iInvalidInputs) (.ref T_InvalidInputs) kV_InvalidInputs dc_InvalidInputs pm_InvalidInputs an_InvalidInputs (.ref cd_InvalidInputs) ct_InvalidInputs cc_InvalidInputs), sl_InvalidInputs⟩)
    (c_InvalidInputs : PySem.W.codeIn K (.ref cd_InvalidInputs) "InvalidInputs.__init__" = true)
    (d_InvalidInputs : K.lookup T_InvalidInputs = some ⟨.type "tuple", odT_InvalidInputs, .seq #[.none] n_InvalidInputs, slT_InvalidInputs⟩)
    (z_InvalidInputs : K.lookup cc_InvalidInputs = some ⟨cl_InvalidInputs, cld_InvalidInputs, .cell (some (.ref C_InvalidInputs)), csl_InvalidInputs⟩)
    (y_InvalidInputs : K.lookup cd_InvalidInputs = some ⟨ccl_InvalidInputs, cdd_InvalidInputs, .fields vs_InvalidInputs, ccs_InvalidInputs⟩)
    (v_InvalidInputs : vs_InvalidInputs[2]? = some (.str file_InvalidInputs tf_InvalidInputs))
    (x_InvalidInputs : ((P.main.file : Str) == file_InvalidInputs) = true)
    (a_InvalidFolding : PySem.W.nsIn K mainGlobals "InvalidFolding" = some (some (.ref C_InvalidFolding)))
    (i_InvalidFolding : PySem.W.findIn K (.ref C_InvalidFolding) "__init__" = some (some (.ref f_InvalidFolding)))
    (t_InvalidFolding : PySem.W.typeIn K (.ref f_InvalidFolding) = some (.type "function"))
    (l_InvalidFolding : K.lookup f_InvalidFolding = some ⟨oc_InvalidFolding, od_InvalidFolding, .func (PySem.W.ksFn "__init__" "InvalidFolding.__init__" (defArgs iInvalidFolding) (defBody iInvalidFolding) (defScope iInvalidFolding) (.ref T_InvalidFolding) kV_InvalidFolding dc_InvalidFolding pm_InvalidFolding an_InvalidFolding (.ref cd_InvalidFolding) ct_InvalidFolding cc_InvalidFolding), sl_InvalidFolding⟩)
    (c_InvalidFolding : PySem.W.codeIn K (.ref cd_InvalidFolding) "InvalidFolding.__init__" = true)
    (d_InvalidFolding : K.lookup T_InvalidFolding = some ⟨.type "tuple", odT_InvalidFolding, .seq #[.none] n_InvalidFolding, slT_InvalidFolding⟩)
    (z_InvalidFolding : K.lookup cc_InvalidFolding = some ⟨cl_InvalidFolding, cld_InvalidFolding, .cell (some (.ref C_InvalidFolding)), csl_InvalidFolding⟩)
    (y_InvalidFolding : K.lookup cd_InvalidFolding = some ⟨ccl_InvalidFolding, cdd_InvalidFolding, .fields vs_InvalidFolding, ccs_InvalidFolding⟩)
    (v_InvalidFolding : vs_InvalidFolding[2]? = some (.str file_InvalidFolding tf_InvalidFolding))
    (x_InvalidFolding : ((P.main.file : Str) == file_InvalidFolding) = true)
    (a_InvalidJournal : PySem.W.nsIn K mainGlobals "InvalidJournal" = some (some (.ref C_InvalidJournal)))
    (i_InvalidJournal : PySem.W.findIn K (.ref C_InvalidJournal) "__init__" = some (some (.ref f_InvalidJournal)))
    (t_InvalidJournal : PySem.W.typeIn K (.ref f_InvalidJournal) = some (.type "function"))
    (l_InvalidJournal : K.lookup f_InvalidJournal = some ⟨oc_InvalidJournal, od_InvalidJournal, .func (PySem.W.ksFn "__init__" "InvalidJournal.__init__" (defArgs iInvalidJournal) (defBody iInvalidJournal) (defScope iInvalidJournal) (.ref T_InvalidJournal) kV_InvalidJournal dc_InvalidJournal pm_InvalidJournal an_InvalidJournal (.ref cd_InvalidJournal) ct_InvalidJournal cc_InvalidJournal), sl_InvalidJournal⟩)
    (c_InvalidJournal : PySem.W.codeIn K (.ref cd_InvalidJournal) "InvalidJournal.__init__" = true)
    (d_InvalidJournal : K.lookup T_InvalidJournal = some ⟨.type "tuple", odT_InvalidJournal, .seq #[.none] n_InvalidJournal, slT_InvalidJournal⟩)
    (z_InvalidJournal : K.lookup cc_InvalidJournal = some ⟨cl_InvalidJournal, cld_InvalidJournal, .cell (some (.ref C_InvalidJournal)), csl_InvalidJournal⟩)
    (y_InvalidJournal : K.lookup cd_InvalidJournal = some ⟨ccl_InvalidJournal, cdd_InvalidJournal, .fields vs_InvalidJournal, ccs_InvalidJournal⟩)
    (v_InvalidJournal : vs_InvalidJournal[2]? = some (.str file_InvalidJournal tf_InvalidJournal))
    (x_InvalidJournal : ((P.main.file : Str) == file_InvalidJournal) = true)
    (a_InvalidSpot : PySem.W.nsIn K mainGlobals "InvalidSpot" = some (some (.ref C_InvalidSpot)))
    (i_InvalidSpot : PySem.W.findIn K (.ref C_InvalidSpot) "__init__" = some (some (.ref f_InvalidSpot)))
    (t_InvalidSpot : PySem.W.typeIn K (.ref f_InvalidSpot) = some (.type "function"))
    (l_InvalidSpot : K.lookup f_InvalidSpot = some ⟨oc_InvalidSpot, od_InvalidSpot, .func (PySem.W.ksFn "__init__" "InvalidSpot.__init__" (defArgs iInvalidSpot) (defBody iInvalidSpot) (defScope iInvalidSpot) (.ref T_InvalidSpot) kV_InvalidSpot dc_InvalidSpot pm_InvalidSpot an_InvalidSpot (.ref cd_InvalidSpot) ct_InvalidSpot cc_InvalidSpot), sl_InvalidSpot⟩)
    (c_InvalidSpot : PySem.W.codeIn K (.ref cd_InvalidSpot) "InvalidSpot.__init__" = true)
    (d_InvalidSpot : K.lookup T_InvalidSpot = some ⟨.type "tuple", odT_InvalidSpot, .seq #[.none] n_InvalidSpot, slT_InvalidSpot⟩)
    (z_InvalidSpot : K.lookup cc_InvalidSpot = some ⟨cl_InvalidSpot, cld_InvalidSpot, .cell (some (.ref C_InvalidSpot)), csl_InvalidSpot⟩)
    (y_InvalidSpot : K.lookup cd_InvalidSpot = some ⟨ccl_InvalidSpot, cdd_InvalidSpot, .fields vs_InvalidSpot, ccs_InvalidSpot⟩)
    (v_InvalidSpot : vs_InvalidSpot[2]? = some (.str file_InvalidSpot tf_InvalidSpot))
    (x_InvalidSpot : ((P.main.file : Str) == file_InvalidSpot) = true)
    (a_InvalidScript : PySem.W.nsIn K mainGlobals "InvalidScript" = some (some (.ref C_InvalidScript)))
    (i_InvalidScript : PySem.W.findIn K (.ref C_InvalidScript) "__init__" = some (some (.ref f_InvalidScript)))
    (t_InvalidScript : PySem.W.typeIn K (.ref f_InvalidScript) = some (.type "function"))
    (l_InvalidScript : K.lookup f_InvalidScript = some ⟨oc_InvalidScript, od_InvalidScript, .func (PySem.W.ksFn "__init__" "InvalidScript.__init__" (defArgs iInvalidScript) (defBody iInvalidScript) (defScope iInvalidScript) (.ref T_InvalidScript) kV_InvalidScript dc_InvalidScript pm_InvalidScript an_InvalidScript (.ref cd_InvalidScript) ct_InvalidScript cc_InvalidScript), sl_InvalidScript⟩)
    (c_InvalidScript : PySem.W.codeIn K (.ref cd_InvalidScript) "InvalidScript.__init__" = true)
    (d_InvalidScript : K.lookup T_InvalidScript = some ⟨.type "tuple", odT_InvalidScript, .seq #[.none] n_InvalidScript, slT_InvalidScript⟩)
    (z_InvalidScript : K.lookup cc_InvalidScript = some ⟨cl_InvalidScript, cld_InvalidScript, .cell (some (.ref C_InvalidScript)), csl_InvalidScript⟩)
    (y_InvalidScript : K.lookup cd_InvalidScript = some ⟨ccl_InvalidScript, cdd_InvalidScript, .fields vs_InvalidScript, ccs_InvalidScript⟩)
    (v_InvalidScript : vs_InvalidScript[2]? = some (.str file_InvalidScript tf_InvalidScript))
    (x_InvalidScript : ((P.main.file : Str) == file_InvalidScript) = true)
    (a_InvalidText : PySem.W.nsIn K mainGlobals "InvalidText" = some (some (.ref C_InvalidText)))
    (i_InvalidText : PySem.W.findIn K (.ref C_InvalidText) "__init__" = some (some (.ref f_InvalidText)))
    (t_InvalidText : PySem.W.typeIn K (.ref f_InvalidText) = some (.type "function"))
    (l_InvalidText : K.lookup f_InvalidText = some ⟨oc_InvalidText, od_InvalidText, .func (PySem.W.ksFn "__init__" "InvalidText.__init__" (defArgs iInvalidText) (defBody iInvalidText) (defScope iInvalidText) (.ref T_InvalidText) kV_InvalidText dc_InvalidText pm_InvalidText an_InvalidText (.ref cd_InvalidText) ct_InvalidText cc_InvalidText), sl_InvalidText⟩)
    (c_InvalidText : PySem.W.codeIn K (.ref cd_InvalidText) "InvalidText.__init__" = true)
    (d_InvalidText : K.lookup T_InvalidText = some ⟨.type "tuple", odT_InvalidText, .seq #[.none] n_InvalidText, slT_InvalidText⟩)
    (z_InvalidText : K.lookup cc_InvalidText = some ⟨cl_InvalidText, cld_InvalidText, .cell (some (.ref C_InvalidText)), csl_InvalidText⟩)
    (y_InvalidText : K.lookup cd_InvalidText = some ⟨ccl_InvalidText, cdd_InvalidText, .fields vs_InvalidText, ccs_InvalidText⟩)
    (v_InvalidText : vs_InvalidText[2]? = some (.str file_InvalidText tf_InvalidText))
    (x_InvalidText : ((P.main.file : Str) == file_InvalidText) = true)
    (a_InvalidRecord : PySem.W.nsIn K mainGlobals "InvalidRecord" = some (some (.ref C_InvalidRecord)))
    (i_InvalidRecord : PySem.W.findIn K (.ref C_InvalidRecord) "__init__" = some (some (.ref f_InvalidRecord)))
    (t_InvalidRecord : PySem.W.typeIn K (.ref f_InvalidRecord) = some (.type "function"))
    (l_InvalidRecord : K.lookup f_InvalidRecord = some ⟨oc_InvalidRecord, od_InvalidRecord, .func (PySem.W.ksFn "__init__" "InvalidRecord.__init__" (defArgs iInvalidRecord) (defBody iInvalidRecord) (defScope iInvalidRecord) (.ref T_InvalidRecord) kV_InvalidRecord dc_InvalidRecord pm_InvalidRecord an_InvalidRecord (.ref cd_InvalidRecord) ct_InvalidRecord cc_InvalidRecord), sl_InvalidRecord⟩)
    (c_InvalidRecord : PySem.W.codeIn K (.ref cd_InvalidRecord) "InvalidRecord.__init__" = true)
    (d_InvalidRecord : K.lookup T_InvalidRecord = some ⟨.type "tuple", odT_InvalidRecord, .seq #[.none] n_InvalidRecord, slT_InvalidRecord⟩)
    (z_InvalidRecord : K.lookup cc_InvalidRecord = some ⟨cl_InvalidRecord, cld_InvalidRecord, .cell (some (.ref C_InvalidRecord)), csl_InvalidRecord⟩)
    (y_InvalidRecord : K.lookup cd_InvalidRecord = some ⟨ccl_InvalidRecord, cdd_InvalidRecord, .fields vs_InvalidRecord, ccs_InvalidRecord⟩)
    (v_InvalidRecord : vs_InvalidRecord[2]? = some (.str file_InvalidRecord tf_InvalidRecord))
    (x_InvalidRecord : ((P.main.file : Str) == file_InvalidRecord) = true)
    (a_Unlike : PySem.W.nsIn K mainGlobals "Unlike" = some (some (.ref C_Unlike)))
    (i_Unlike : PySem.W.findIn K (.ref C_Unlike) "__init__" = some (some (.ref f_Unlike)))
    (t_Unlike : PySem.W.typeIn K (.ref f_Unlike) = some (.type "function"))
    (l_Unlike : K.lookup f_Unlike = some ⟨oc_Unlike, od_Unlike, .func (PySem.W.ksFn "__init__" "Unlike.__init__" (defArgs iUnlike) (defBody iUnlike) (defScope iUnlike) (.ref T_Unlike) kV_Unlike dc_Unlike pm_Unlike an_Unlike (.ref cd_Unlike) ct_Unlike cc_Unlike), sl_Unlike⟩)
    (c_Unlike : PySem.W.codeIn K (.ref cd_Unlike) "Unlike.__init__" = true)
    (d_Unlike : K.lookup T_Unlike = some ⟨.type "tuple", odT_Unlike, .seq #[.none] n_Unlike, slT_Unlike⟩)
    (z_Unlike : K.lookup cc_Unlike = some ⟨cl_Unlike, cld_Unlike, .cell (some (.ref C_Unlike)), csl_Unlike⟩)
    (y_Unlike : K.lookup cd_Unlike = some ⟨ccl_Unlike, cdd_Unlike, .fields vs_Unlike, ccs_Unlike⟩)
    (v_Unlike : vs_Unlike[2]? = some (.str file_Unlike tf_Unlike))
    (x_Unlike : ((P.main.file : Str) == file_Unlike) = true)
    (a_Apart : PySem.W.nsIn K mainGlobals "Apart" = some (some (.ref C_Apart)))
    (i_Apart : PySem.W.findIn K (.ref C_Apart) "__init__" = some (some (.ref f_Apart)))
    (t_Apart : PySem.W.typeIn K (.ref f_Apart) = some (.type "function"))
    (l_Apart : K.lookup f_Apart = some ⟨oc_Apart, od_Apart, .func (PySem.W.ksFn "__init__" "Apart.__init__" (defArgs iApart) (defBody iApart) (defScope iApart) (.ref T_Apart) kV_Apart dc_Apart pm_Apart an_Apart (.ref cd_Apart) ct_Apart cc_Apart), sl_Apart⟩)
    (c_Apart : PySem.W.codeIn K (.ref cd_Apart) "Apart.__init__" = true)
    (d_Apart : K.lookup T_Apart = some ⟨.type "tuple", odT_Apart, .seq #[.none] n_Apart, slT_Apart⟩)
    (z_Apart : K.lookup cc_Apart = some ⟨cl_Apart, cld_Apart, .cell (some (.ref C_Apart)), csl_Apart⟩)
    (y_Apart : K.lookup cd_Apart = some ⟨ccl_Apart, cdd_Apart, .fields vs_Apart, ccs_Apart⟩)
    (v_Apart : vs_Apart[2]? = some (.str file_Apart tf_Apart))
    (x_Apart : ((P.main.file : Str) == file_Apart) = true)
    (a_Unsettled : PySem.W.nsIn K mainGlobals "Unsettled" = some (some (.ref C_Unsettled)))
    (i_Unsettled : PySem.W.findIn K (.ref C_Unsettled) "__init__" = some (some (.ref f_Unsettled)))
    (t_Unsettled : PySem.W.typeIn K (.ref f_Unsettled) = some (.type "function"))
    (l_Unsettled : K.lookup f_Unsettled = some ⟨oc_Unsettled, od_Unsettled, .func (PySem.W.ksFn "__init__" "Unsettled.__init__" (defArgs iUnsettled) (defBody iUnsettled) (defScope iUnsettled) (.ref T_Unsettled) kV_Unsettled dc_Unsettled pm_Unsettled an_Unsettled (.ref cd_Unsettled) ct_Unsettled cc_Unsettled), sl_Unsettled⟩)
    (c_Unsettled : PySem.W.codeIn K (.ref cd_Unsettled) "Unsettled.__init__" = true)
    (d_Unsettled : K.lookup T_Unsettled = some ⟨.type "tuple", odT_Unsettled, .seq #[.none] n_Unsettled, slT_Unsettled⟩)
    (z_Unsettled : K.lookup cc_Unsettled = some ⟨cl_Unsettled, cld_Unsettled, .cell (some (.ref C_Unsettled)), csl_Unsettled⟩)
    (y_Unsettled : K.lookup cd_Unsettled = some ⟨ccl_Unsettled, cdd_Unsettled, .fields vs_Unsettled, ccs_Unsettled⟩)
    (v_Unsettled : vs_Unsettled[2]? = some (.str file_Unsettled tf_Unsettled))
    (x_Unsettled : ((P.main.file : Str) == file_Unsettled) = true)
    (a_Boundless : PySem.W.nsIn K mainGlobals "Boundless" = some (some (.ref C_Boundless)))
    (i_Boundless : PySem.W.findIn K (.ref C_Boundless) "__init__" = some (some (.ref f_Boundless)))
    (t_Boundless : PySem.W.typeIn K (.ref f_Boundless) = some (.type "function"))
    (l_Boundless : K.lookup f_Boundless = some ⟨oc_Boundless, od_Boundless, .func (PySem.W.ksFn "__init__" "Boundless.__init__" (defArgs iBoundless) (defBody iBoundless) (defScope iBoundless) (.ref T_Boundless) kV_Boundless dc_Boundless pm_Boundless an_Boundless (.ref cd_Boundless) ct_Boundless cc_Boundless), sl_Boundless⟩)
    (c_Boundless : PySem.W.codeIn K (.ref cd_Boundless) "Boundless.__init__" = true)
    (d_Boundless : K.lookup T_Boundless = some ⟨.type "tuple", odT_Boundless, .seq #[.none] n_Boundless, slT_Boundless⟩)
    (z_Boundless : K.lookup cc_Boundless = some ⟨cl_Boundless, cld_Boundless, .cell (some (.ref C_Boundless)), csl_Boundless⟩)
    (y_Boundless : K.lookup cd_Boundless = some ⟨ccl_Boundless, cdd_Boundless, .fields vs_Boundless, ccs_Boundless⟩)
    (v_Boundless : vs_Boundless[2]? = some (.str file_Boundless tf_Boundless))
    (x_Boundless : ((P.main.file : Str) == file_Boundless) = true)
    (a_Refused : PySem.W.nsIn K mainGlobals "Refused" = some (some (.ref C_Refused)))
    (i_Refused : PySem.W.findIn K (.ref C_Refused) "__init__" = some (some (.ref f_Refused)))
    (t_Refused : PySem.W.typeIn K (.ref f_Refused) = some (.type "function"))
    (l_Refused : K.lookup f_Refused = some ⟨oc_Refused, od_Refused, .func (PySem.W.ksFn "__init__" "Refused.__init__" (defArgs iRefused) (defBody iRefused) (defScope iRefused) (.ref T_Refused) kV_Refused dc_Refused pm_Refused an_Refused (.ref cd_Refused) ct_Refused cc_Refused), sl_Refused⟩)
    (c_Refused : PySem.W.codeIn K (.ref cd_Refused) "Refused.__init__" = true)
    (d_Refused : K.lookup T_Refused = some ⟨.type "tuple", odT_Refused, .seq #[.none] n_Refused, slT_Refused⟩)
    (z_Refused : K.lookup cc_Refused = some ⟨cl_Refused, cld_Refused, .cell (some (.ref C_Refused)), csl_Refused⟩)
    (y_Refused : K.lookup cd_Refused = some ⟨ccl_Refused, cdd_Refused, .fields vs_Refused, ccs_Refused⟩)
    (v_Refused : vs_Refused[2]? = some (.str file_Refused tf_Refused))
    (x_Refused : ((P.main.file : Str) == file_Refused) = true)
    (a_CoreError : PySem.W.nsIn K mainGlobals "CoreError" = some (some (.ref C_CoreError)))
    (k_CoreError : PySem.W.keepIn K (.ref C_CoreError) = true)
    (x_CoreError : PySem.W.excIn K C_CoreError PySem.HandSPX.veTail "ValueError.__new__" = true)
    (a_NothingToUndo : PySem.W.nsIn K mainGlobals "NothingToUndo" = some (some (.ref C_NothingToUndo)))
    (k_NothingToUndo : PySem.W.keepIn K (.ref C_NothingToUndo) = true)
    (x_NothingToUndo : PySem.W.excIn K C_NothingToUndo PySem.HandSPX.veTail "ValueError.__new__" = true)
    (a_NothingToRedo : PySem.W.nsIn K mainGlobals "NothingToRedo" = some (some (.ref C_NothingToRedo)))
    (k_NothingToRedo : PySem.W.keepIn K (.ref C_NothingToRedo) = true)
    (x_NothingToRedo : PySem.W.excIn K C_NothingToRedo PySem.HandSPX.veTail "ValueError.__new__" = true)
    (bb_all : ([C_CoreError, C_InvalidKind, C_InvalidTable, C_InvalidKinds, C_InvalidPairs, C_InvalidWord, C_InvalidRule, C_InvalidMap, C_InvalidNames, C_InvalidBook, C_InvalidName, C_InvalidLog, C_InvalidLogs, C_InvalidMerging, C_InvalidStrike, C_InvalidRoad, C_InvalidPlaces, C_InvalidCount, C_InvalidFuture, C_InvalidValue, C_InvalidStore, C_InvalidInputs, C_InvalidFolding, C_InvalidJournal, C_InvalidSpot, C_InvalidScript, C_InvalidText, C_InvalidRecord, C_Unlike, C_Apart, C_Unsettled, C_Boundless, C_Refused, C_NothingToUndo, C_NothingToRedo] : List Addr).all (fun C => excB K C) = true)
    (bb_leaf : ([C_InvalidKind, C_InvalidTable, C_InvalidKinds, C_InvalidPairs, C_InvalidWord, C_InvalidRule, C_InvalidMap, C_InvalidNames, C_InvalidBook, C_InvalidName, C_InvalidLog, C_InvalidLogs, C_InvalidMerging, C_InvalidStrike, C_InvalidRoad, C_InvalidPlaces, C_InvalidCount, C_InvalidFuture, C_InvalidValue, C_InvalidStore, C_InvalidInputs, C_InvalidFolding, C_InvalidJournal, C_InvalidSpot, C_InvalidScript, C_InvalidText, C_InvalidRecord, C_Unlike, C_Apart, C_Unsettled, C_Boundless, C_Refused] : List Addr).all (fun C => leafB K C) = true)
    (bb_cross : crossB K [C_CoreError, C_InvalidKind, C_InvalidTable, C_InvalidKinds, C_InvalidPairs, C_InvalidWord, C_InvalidRule, C_InvalidMap, C_InvalidNames, C_InvalidBook, C_InvalidName, C_InvalidLog, C_InvalidLogs, C_InvalidMerging, C_InvalidStrike, C_InvalidRoad, C_InvalidPlaces, C_InvalidCount, C_InvalidFuture, C_InvalidValue, C_InvalidStore, C_InvalidInputs, C_InvalidFolding, C_InvalidJournal, C_InvalidSpot, C_InvalidScript, C_InvalidText, C_InvalidRecord, C_Unlike, C_Apart, C_Unsettled, C_Boundless, C_Refused, C_NothingToUndo, C_NothingToRedo] [C_InvalidKind, C_InvalidTable, C_InvalidKinds, C_InvalidPairs, C_InvalidWord, C_InvalidRule, C_InvalidMap, C_InvalidNames, C_InvalidBook, C_InvalidName, C_InvalidLog, C_InvalidLogs, C_InvalidMerging, C_InvalidStrike, C_InvalidRoad, C_InvalidPlaces, C_InvalidCount, C_InvalidFuture, C_InvalidValue, C_InvalidStore, C_InvalidInputs, C_InvalidFolding, C_InvalidJournal, C_InvalidSpot, C_InvalidScript, C_InvalidText, C_InvalidRecord, C_Unlike, C_Apart, C_Unsettled, C_Boundless, C_Refused, C_NothingToUndo, C_NothingToRedo] = true)
    (bb_CoreError : rootB K [C_CoreError, C_InvalidKind, C_InvalidTable, C_InvalidKinds, C_InvalidPairs, C_InvalidWord, C_InvalidRule, C_InvalidMap, C_InvalidNames, C_InvalidBook, C_InvalidName, C_InvalidLog, C_InvalidLogs, C_InvalidMerging, C_InvalidStrike, C_InvalidRoad, C_InvalidPlaces, C_InvalidCount, C_InvalidFuture, C_InvalidValue, C_InvalidStore, C_InvalidInputs, C_InvalidFolding, C_InvalidJournal, C_InvalidSpot, C_InvalidScript, C_InvalidText, C_InvalidRecord, C_Unlike, C_Apart, C_Unsettled, C_Boundless, C_Refused, C_NothingToUndo, C_NothingToRedo] (.ref C_CoreError) = true)
    (bb_VE : rootB K [C_CoreError, C_InvalidKind, C_InvalidTable, C_InvalidKinds, C_InvalidPairs, C_InvalidWord, C_InvalidRule, C_InvalidMap, C_InvalidNames, C_InvalidBook, C_InvalidName, C_InvalidLog, C_InvalidLogs, C_InvalidMerging, C_InvalidStrike, C_InvalidRoad, C_InvalidPlaces, C_InvalidCount, C_InvalidFuture, C_InvalidValue, C_InvalidStore, C_InvalidInputs, C_InvalidFolding, C_InvalidJournal, C_InvalidSpot, C_InvalidScript, C_InvalidText, C_InvalidRecord, C_Unlike, C_Apart, C_Unsettled, C_Boundless, C_Refused, C_NothingToUndo, C_NothingToRedo] (.type "ValueError") = true)
    (bb_sys : (K.lookup sysModules).isSome = true)
    (n_len : PySem.W.nsIn K mainGlobals "len" = some none)
    (n_int : PySem.W.nsIn K mainGlobals "int" = some none)
    (n_sum : PySem.W.nsIn K mainGlobals "sum" = some none)
    (n_max : PySem.W.nsIn K mainGlobals "max" = some none)
    (n_min : PySem.W.nsIn K mainGlobals "min" = some none)
    (n_range : PySem.W.nsIn K mainGlobals "range" = some none)
    (n_all : PySem.W.nsIn K mainGlobals "all" = some none)
    (n_any : PySem.W.nsIn K mainGlobals "any" = some none)
    (n_repr : PySem.W.nsIn K mainGlobals "repr" = some none)
    (n_isinstance : PySem.W.nsIn K mainGlobals "isinstance" = some none)
    (n_list : PySem.W.nsIn K mainGlobals "list" = some none)
    (n_dict : PySem.W.nsIn K mainGlobals "dict" = some none)
    (n_tuple : PySem.W.nsIn K mainGlobals "tuple" = some none)
    (n_str : PySem.W.nsIn K mainGlobals "str" = some none)
    (n_bool : PySem.W.nsIn K mainGlobals "bool" = some none)
    (n_sorted : PySem.W.nsIn K mainGlobals "sorted" = some none)
    (n_zip : PySem.W.nsIn K mainGlobals "zip" = some none)
    (n_enumerate : PySem.W.nsIn K mainGlobals "enumerate" = some none)
    (n_set : PySem.W.nsIn K mainGlobals "set" = some none)
    (n_ValueError : PySem.W.nsIn K mainGlobals "ValueError" = some none)
    (n_super : PySem.W.nsIn K mainGlobals "super" = some none)
    (h_top : (P.main.scope.names.lookup ("super" : Str)).isSome = false) :
    ∃ fd : FuncData, (∀ (s : Shared) (v : Value), BindsTo s fd ⟨[v], []⟩ [("script", v)]) ∧ ∀ base : Heap, K.In base → base.Ns mainGlobals mg → FnG P w K mg base (L2.CX P w) 4 fa fd ["script"] (spD 1 (glaw { K := K, CoreError := C_CoreError, InvalidKind := C_InvalidKind, InvalidTable := C_InvalidTable, InvalidKinds := C_InvalidKinds, InvalidPairs := C_InvalidPairs, InvalidWord := C_InvalidWord, InvalidRule := C_InvalidRule, InvalidMap := C_InvalidMap, InvalidNames := C_InvalidNames, InvalidBook := C_InvalidBook, InvalidName := C_InvalidName, InvalidLog := C_InvalidLog, InvalidLogs := C_InvalidLogs, InvalidMerging := C_InvalidMerging, InvalidStrike := C_InvalidStrike, InvalidRoad := C_InvalidRoad, InvalidPlaces := C_InvalidPlaces, InvalidCount := C_InvalidCount, InvalidFuture := C_InvalidFuture, InvalidValue := C_InvalidValue, InvalidStore := C_InvalidStore, InvalidInputs := C_InvalidInputs, InvalidFolding := C_InvalidFolding, InvalidJournal := C_InvalidJournal, InvalidSpot := C_InvalidSpot, InvalidScript := C_InvalidScript, InvalidText := C_InvalidText, InvalidRecord := C_InvalidRecord, Unlike := C_Unlike, Apart := C_Apart, Unsettled := C_Unsettled, Boundless := C_Boundless, Refused := C_Refused, NothingToUndo := C_NothingToUndo, NothingToRedo := C_NothingToRedo })) := by
  have e0 := hfa.symm.trans (PySem.W.mg_of X G a_law)
  cases e0
  have mo : ∀ {y : Str}, PySem.W.nsIn K mainGlobals y = some none → mg y = none := fun h => PySem.W.mg_none_of X G h
  have B : Bl mg := ⟨mo n_len, mo n_int, mo n_sum, mo n_max, mo n_min, mo n_range, mo n_all, mo n_any, mo n_repr, mo n_isinstance, mo n_list, mo n_dict, mo n_tuple, mo n_str, mo n_bool, mo n_sorted, mo n_zip, mo n_enumerate, mo n_set, mo n_ValueError⟩
  rw [List.all_eq_true] at bb_all bb_leaf
  have xa : ∀ C ∈ ([C_CoreError, C_InvalidKind, C_InvalidTable, C_InvalidKinds, C_InvalidPairs, C_InvalidWord, C_InvalidRule, C_InvalidMap, C_InvalidNames, C_InvalidBook, C_InvalidName, C_InvalidLog, C_InvalidLogs, C_InvalidMerging, C_InvalidStrike, C_InvalidRoad, C_InvalidPlaces, C_InvalidCount, C_InvalidFuture, C_InvalidValue, C_InvalidStore, C_InvalidInputs, C_InvalidFolding, C_InvalidJournal, C_InvalidSpot, C_InvalidScript, C_InvalidText, C_InvalidRecord, C_Unlike, C_Apart, C_Unsettled, C_Boundless, C_Refused, C_NothingToUndo, C_NothingToRedo] : List Addr), ExcFacts K C := fun C hC => excB_ok (bb_all C hC)
  have sub : ∀ C ∈ ([C_InvalidKind, C_InvalidTable, C_InvalidKinds, C_InvalidPairs, C_InvalidWord, C_InvalidRule, C_InvalidMap, C_InvalidNames, C_InvalidBook, C_InvalidName, C_InvalidLog, C_InvalidLogs, C_InvalidMerging, C_InvalidStrike, C_InvalidRoad, C_InvalidPlaces, C_InvalidCount, C_InvalidFuture, C_InvalidValue, C_InvalidStore, C_InvalidInputs, C_InvalidFolding, C_InvalidJournal, C_InvalidSpot, C_InvalidScript, C_InvalidText, C_InvalidRecord, C_Unlike, C_Apart, C_Unsettled, C_Boundless, C_Refused] : List Addr), C ∈ ([C_CoreError, C_InvalidKind, C_InvalidTable, C_InvalidKinds, C_InvalidPairs, C_InvalidWord, C_InvalidRule, C_InvalidMap, C_InvalidNames, C_InvalidBook, C_InvalidName, C_InvalidLog, C_InvalidLogs, C_InvalidMerging, C_InvalidStrike, C_InvalidRoad, C_InvalidPlaces, C_InvalidCount, C_InvalidFuture, C_InvalidValue, C_InvalidStore, C_InvalidInputs, C_InvalidFolding, C_InvalidJournal, C_InvalidSpot, C_InvalidScript, C_InvalidText, C_InvalidRecord, C_Unlike, C_Apart, C_Unsettled, C_Boundless, C_Refused, C_NothingToUndo, C_NothingToRedo] : List Addr) := by
    intro C hC
    simp only [List.mem_cons, List.not_mem_nil, or_false] at hC
    rcases hC with rfl | rfl | rfl | rfl | rfl | rfl | rfl | rfl | rfl | rfl | rfl | rfl | rfl | rfl | rfl | rfl | rfl | rfl | rfl | rfl | rfl | rfl | rfl | rfl | rfl | rfl | rfl | rfl | rfl | rfl | rfl | rfl <;> simp
  have xl : ∀ C ∈ ([C_InvalidKind, C_InvalidTable, C_InvalidKinds, C_InvalidPairs, C_InvalidWord, C_InvalidRule, C_InvalidMap, C_InvalidNames, C_InvalidBook, C_InvalidName, C_InvalidLog, C_InvalidLogs, C_InvalidMerging, C_InvalidStrike, C_InvalidRoad, C_InvalidPlaces, C_InvalidCount, C_InvalidFuture, C_InvalidValue, C_InvalidStore, C_InvalidInputs, C_InvalidFolding, C_InvalidJournal, C_InvalidSpot, C_InvalidScript, C_InvalidText, C_InvalidRecord, C_Unlike, C_Apart, C_Unsettled, C_Boundless, C_Refused] : List Addr), ExC K C := fun C hC => leaf_ok (bb_all C (sub C hC)) (bb_leaf C hC)
  have U0 : ∃ u : U, u = { K := K, CoreError := C_CoreError, InvalidKind := C_InvalidKind, InvalidTable := C_InvalidTable, InvalidKinds := C_InvalidKinds, InvalidPairs := C_InvalidPairs, InvalidWord := C_InvalidWord, InvalidRule := C_InvalidRule, InvalidMap := C_InvalidMap, InvalidNames := C_InvalidNames, InvalidBook := C_InvalidBook, InvalidName := C_InvalidName, InvalidLog := C_InvalidLog, InvalidLogs := C_InvalidLogs, InvalidMerging := C_InvalidMerging, InvalidStrike := C_InvalidStrike, InvalidRoad := C_InvalidRoad, InvalidPlaces := C_InvalidPlaces, InvalidCount := C_InvalidCount, InvalidFuture := C_InvalidFuture, InvalidValue := C_InvalidValue, InvalidStore := C_InvalidStore, InvalidInputs := C_InvalidInputs, InvalidFolding := C_InvalidFolding, InvalidJournal := C_InvalidJournal, InvalidSpot := C_InvalidSpot, InvalidScript := C_InvalidScript, InvalidText := C_InvalidText, InvalidRecord := C_InvalidRecord, Unlike := C_Unlike, Apart := C_Apart, Unsettled := C_Unsettled, Boundless := C_Boundless, Refused := C_Refused, NothingToUndo := C_NothingToUndo, NothingToRedo := C_NothingToRedo } := ⟨_, rfl⟩
  obtain ⟨u, hu⟩ := U0
  have uall : u.all = [C_CoreError, C_InvalidKind, C_InvalidTable, C_InvalidKinds, C_InvalidPairs, C_InvalidWord, C_InvalidRule, C_InvalidMap, C_InvalidNames, C_InvalidBook, C_InvalidName, C_InvalidLog, C_InvalidLogs, C_InvalidMerging, C_InvalidStrike, C_InvalidRoad, C_InvalidPlaces, C_InvalidCount, C_InvalidFuture, C_InvalidValue, C_InvalidStore, C_InvalidInputs, C_InvalidFolding, C_InvalidJournal, C_InvalidSpot, C_InvalidScript, C_InvalidText, C_InvalidRecord, C_Unlike, C_Apart, C_Unsettled, C_Boundless, C_Refused, C_NothingToUndo, C_NothingToRedo] := by rw [hu]; rfl
  have isx : ∀ C, u.isX C = true → C ∈ ([C_CoreError, C_InvalidKind, C_InvalidTable, C_InvalidKinds, C_InvalidPairs, C_InvalidWord, C_InvalidRule, C_InvalidMap, C_InvalidNames, C_InvalidBook, C_InvalidName, C_InvalidLog, C_InvalidLogs, C_InvalidMerging, C_InvalidStrike, C_InvalidRoad, C_InvalidPlaces, C_InvalidCount, C_InvalidFuture, C_InvalidValue, C_InvalidStore, C_InvalidInputs, C_InvalidFolding, C_InvalidJournal, C_InvalidSpot, C_InvalidScript, C_InvalidText, C_InvalidRecord, C_Unlike, C_Apart, C_Unsettled, C_Boundless, C_Refused, C_NothingToUndo, C_NothingToRedo] : List Addr) := fun C h => by
    unfold U.isX at h
    rw [uall] at h
    exact List.contains_iff_mem.mp h
  have okX : ∀ D ∈ ([C_InvalidKind, C_InvalidTable, C_InvalidKinds, C_InvalidPairs, C_InvalidWord, C_InvalidRule, C_InvalidMap, C_InvalidNames, C_InvalidBook, C_InvalidName, C_InvalidLog, C_InvalidLogs, C_InvalidMerging, C_InvalidStrike, C_InvalidRoad, C_InvalidPlaces, C_InvalidCount, C_InvalidFuture, C_InvalidValue, C_InvalidStore, C_InvalidInputs, C_InvalidFolding, C_InvalidJournal, C_InvalidSpot, C_InvalidScript, C_InvalidText, C_InvalidRecord, C_Unlike, C_Apart, C_Unsettled, C_Boundless, C_Refused, C_NothingToUndo, C_NothingToRedo] : List Addr), KitOk K (kX u D) [.ref D] := fun D hD t b h => by
    cases t with
    | b n => cases h
    | o C => cases h
    | x C =>
      change (if u.isX C = true then some (C == D) else none) = some b at h
      by_cases hx : u.isX C = true
      · rw [if_pos hx] at h
        have hc := isx C hx
        unfold crossB at bb_cross
        rw [List.all_eq_true] at bb_cross
        have h2 := bb_cross D hD
        rw [List.all_eq_true] at h2
        have h3 := of_decide_eq_true (h2 C hc)
        cases h
        exact ⟨kit_any1 h3, (xa C hc).ix⟩
      · rw [if_neg hx] at h
        cases h
  have okR : ∀ t : Value, rootB K [C_CoreError, C_InvalidKind, C_InvalidTable, C_InvalidKinds, C_InvalidPairs, C_InvalidWord, C_InvalidRule, C_InvalidMap, C_InvalidNames, C_InvalidBook, C_InvalidName, C_InvalidLog, C_InvalidLogs, C_InvalidMerging, C_InvalidStrike, C_InvalidRoad, C_InvalidPlaces, C_InvalidCount, C_InvalidFuture, C_InvalidValue, C_InvalidStore, C_InvalidInputs, C_InvalidFolding, C_InvalidJournal, C_InvalidSpot, C_InvalidScript, C_InvalidText, C_InvalidRecord, C_Unlike, C_Apart, C_Unsettled, C_Boundless, C_Refused, C_NothingToUndo, C_NothingToRedo] t = true → KitOk K (kAll u) [t] := fun v hv t b h => by
    cases t with
    | b n => cases h
    | o C => cases h
    | x C =>
      change (if u.isX C = true then some true else none) = some b at h
      by_cases hx : u.isX C = true
      · rw [if_pos hx] at h
        have hc := isx C hx
        unfold rootB at hv
        rw [List.all_eq_true] at hv
        have h3 := of_decide_eq_true (hv C hc)
        cases h
        exact ⟨kit_any1 h3, (xa C hc).ix⟩
      · rw [if_neg hx] at h
        cases h
  refine ⟨PySem.W.fnOf "law" "law" (defArgs slaw) (defBody slaw) (defScope slaw) .none kV_law dc_law pm_law an_law cd_law ct_law, fun s v => .of_eq rfl, fun base _ _ => ?_⟩
  have T : Ex P w { K := K, CoreError := C_CoreError, InvalidKind := C_InvalidKind, InvalidTable := C_InvalidTable, InvalidKinds := C_InvalidKinds, InvalidPairs := C_InvalidPairs, InvalidWord := C_InvalidWord, InvalidRule := C_InvalidRule, InvalidMap := C_InvalidMap, InvalidNames := C_InvalidNames, InvalidBook := C_InvalidBook, InvalidName := C_InvalidName, InvalidLog := C_InvalidLog, InvalidLogs := C_InvalidLogs, InvalidMerging := C_InvalidMerging, InvalidStrike := C_InvalidStrike, InvalidRoad := C_InvalidRoad, InvalidPlaces := C_InvalidPlaces, InvalidCount := C_InvalidCount, InvalidFuture := C_InvalidFuture, InvalidValue := C_InvalidValue, InvalidStore := C_InvalidStore, InvalidInputs := C_InvalidInputs, InvalidFolding := C_InvalidFolding, InvalidJournal := C_InvalidJournal, InvalidSpot := C_InvalidSpot, InvalidScript := C_InvalidScript, InvalidText := C_InvalidText, InvalidRecord := C_InvalidRecord, Unlike := C_Unlike, Apart := C_Apart, Unsettled := C_Unsettled, Boundless := C_Boundless, Refused := C_Refused, NothingToUndo := C_NothingToUndo, NothingToRedo := C_NothingToRedo } mg base := by
    rw [← hu]
    rw [hu] at okX okR isx
    rw [hu]
    exact {
      gCoreError := PySem.W.mg_of X G a_CoreError,
      iCoreError := okR _ bb_CoreError,
      xCoreError := x_CoreError,
      kCoreError := k_CoreError,
      InvalidKind := eInvalidKind (xl _ (by simp)) (PySem.W.mg_of X G a_InvalidKind) (mo n_super) i_InvalidKind t_InvalidKind l_InvalidKind c_InvalidKind d_InvalidKind z_InvalidKind y_InvalidKind v_InvalidKind x_InvalidKind h_top,
      gInvalidKind := PySem.W.mg_of X G a_InvalidKind,
      iInvalidKind := okX _ (by simp),
      InvalidTable := eInvalidTable (xl _ (by simp)) (PySem.W.mg_of X G a_InvalidTable) (mo n_super) i_InvalidTable t_InvalidTable l_InvalidTable c_InvalidTable d_InvalidTable z_InvalidTable y_InvalidTable v_InvalidTable x_InvalidTable h_top,
      gInvalidTable := PySem.W.mg_of X G a_InvalidTable,
      iInvalidTable := okX _ (by simp),
      InvalidKinds := eInvalidKinds (xl _ (by simp)) (PySem.W.mg_of X G a_InvalidKinds) (mo n_super) i_InvalidKinds t_InvalidKinds l_InvalidKinds c_InvalidKinds d_InvalidKinds z_InvalidKinds y_InvalidKinds v_InvalidKinds x_InvalidKinds h_top,
      gInvalidKinds := PySem.W.mg_of X G a_InvalidKinds,
      iInvalidKinds := okX _ (by simp),
      InvalidPairs := eInvalidPairs (xl _ (by simp)) (PySem.W.mg_of X G a_InvalidPairs) (mo n_super) i_InvalidPairs t_InvalidPairs l_InvalidPairs c_InvalidPairs d_InvalidPairs z_InvalidPairs y_InvalidPairs v_InvalidPairs x_InvalidPairs h_top,
      gInvalidPairs := PySem.W.mg_of X G a_InvalidPairs,
      iInvalidPairs := okX _ (by simp),
      InvalidWord := eInvalidWord (xl _ (by simp)) (PySem.W.mg_of X G a_InvalidWord) (mo n_super) i_InvalidWord t_InvalidWord l_InvalidWord c_InvalidWord d_InvalidWord z_InvalidWord y_InvalidWord v_InvalidWord x_InvalidWord h_top,
      gInvalidWord := PySem.W.mg_of X G a_InvalidWord,
      iInvalidWord := okX _ (by simp),
      InvalidRule := eInvalidRule (xl _ (by simp)) (PySem.W.mg_of X G a_InvalidRule) (mo n_super) i_InvalidRule t_InvalidRule l_InvalidRule c_InvalidRule d_InvalidRule z_InvalidRule y_InvalidRule v_InvalidRule x_InvalidRule h_top,
      gInvalidRule := PySem.W.mg_of X G a_InvalidRule,
      iInvalidRule := okX _ (by simp),
      InvalidMap := eInvalidMap (xl _ (by simp)) (PySem.W.mg_of X G a_InvalidMap) (mo n_super) i_InvalidMap t_InvalidMap l_InvalidMap c_InvalidMap d_InvalidMap z_InvalidMap y_InvalidMap v_InvalidMap x_InvalidMap h_top,
      gInvalidMap := PySem.W.mg_of X G a_InvalidMap,
      iInvalidMap := okX _ (by simp),
      InvalidNames := eInvalidNames (xl _ (by simp)) (PySem.W.mg_of X G a_InvalidNames) (mo n_super) i_InvalidNames t_InvalidNames l_InvalidNames c_InvalidNames d_InvalidNames z_InvalidNames y_InvalidNames v_InvalidNames x_InvalidNames h_top,
      gInvalidNames := PySem.W.mg_of X G a_InvalidNames,
      iInvalidNames := okX _ (by simp),
      InvalidBook := eInvalidBook (xl _ (by simp)) (PySem.W.mg_of X G a_InvalidBook) (mo n_super) i_InvalidBook t_InvalidBook l_InvalidBook c_InvalidBook d_InvalidBook z_InvalidBook y_InvalidBook v_InvalidBook x_InvalidBook h_top,
      gInvalidBook := PySem.W.mg_of X G a_InvalidBook,
      iInvalidBook := okX _ (by simp),
      InvalidName := eInvalidName (xl _ (by simp)) (PySem.W.mg_of X G a_InvalidName) (mo n_super) i_InvalidName t_InvalidName l_InvalidName c_InvalidName d_InvalidName z_InvalidName y_InvalidName v_InvalidName x_InvalidName h_top,
      gInvalidName := PySem.W.mg_of X G a_InvalidName,
      iInvalidName := okX _ (by simp),
      InvalidLog := eInvalidLog (xl _ (by simp)) (PySem.W.mg_of X G a_InvalidLog) (mo n_super) i_InvalidLog t_InvalidLog l_InvalidLog c_InvalidLog d_InvalidLog z_InvalidLog y_InvalidLog v_InvalidLog x_InvalidLog h_top,
      gInvalidLog := PySem.W.mg_of X G a_InvalidLog,
      iInvalidLog := okX _ (by simp),
      InvalidLogs := eInvalidLogs (xl _ (by simp)) (PySem.W.mg_of X G a_InvalidLogs) (mo n_super) i_InvalidLogs t_InvalidLogs l_InvalidLogs c_InvalidLogs d_InvalidLogs z_InvalidLogs y_InvalidLogs v_InvalidLogs x_InvalidLogs h_top,
      gInvalidLogs := PySem.W.mg_of X G a_InvalidLogs,
      iInvalidLogs := okX _ (by simp),
      InvalidMerging := eInvalidMerging (xl _ (by simp)) (PySem.W.mg_of X G a_InvalidMerging) (mo n_super) i_InvalidMerging t_InvalidMerging l_InvalidMerging c_InvalidMerging d_InvalidMerging z_InvalidMerging y_InvalidMerging v_InvalidMerging x_InvalidMerging h_top,
      gInvalidMerging := PySem.W.mg_of X G a_InvalidMerging,
      iInvalidMerging := okX _ (by simp),
      InvalidStrike := eInvalidStrike (xl _ (by simp)) (PySem.W.mg_of X G a_InvalidStrike) (mo n_super) i_InvalidStrike t_InvalidStrike l_InvalidStrike c_InvalidStrike d_InvalidStrike z_InvalidStrike y_InvalidStrike v_InvalidStrike x_InvalidStrike h_top,
      gInvalidStrike := PySem.W.mg_of X G a_InvalidStrike,
      iInvalidStrike := okX _ (by simp),
      InvalidRoad := eInvalidRoad (xl _ (by simp)) (PySem.W.mg_of X G a_InvalidRoad) (mo n_super) i_InvalidRoad t_InvalidRoad l_InvalidRoad c_InvalidRoad d_InvalidRoad z_InvalidRoad y_InvalidRoad v_InvalidRoad x_InvalidRoad h_top,
      gInvalidRoad := PySem.W.mg_of X G a_InvalidRoad,
      iInvalidRoad := okX _ (by simp),
      InvalidPlaces := eInvalidPlaces (xl _ (by simp)) (PySem.W.mg_of X G a_InvalidPlaces) (mo n_super) i_InvalidPlaces t_InvalidPlaces l_InvalidPlaces c_InvalidPlaces d_InvalidPlaces z_InvalidPlaces y_InvalidPlaces v_InvalidPlaces x_InvalidPlaces h_top,
      gInvalidPlaces := PySem.W.mg_of X G a_InvalidPlaces,
      iInvalidPlaces := okX _ (by simp),
      InvalidCount := eInvalidCount (xl _ (by simp)) (PySem.W.mg_of X G a_InvalidCount) (mo n_super) i_InvalidCount t_InvalidCount l_InvalidCount c_InvalidCount d_InvalidCount z_InvalidCount y_InvalidCount v_InvalidCount x_InvalidCount h_top,
      gInvalidCount := PySem.W.mg_of X G a_InvalidCount,
      iInvalidCount := okX _ (by simp),
      InvalidFuture := eInvalidFuture (xl _ (by simp)) (PySem.W.mg_of X G a_InvalidFuture) (mo n_super) i_InvalidFuture t_InvalidFuture l_InvalidFuture c_InvalidFuture d_InvalidFuture z_InvalidFuture y_InvalidFuture v_InvalidFuture x_InvalidFuture h_top,
      gInvalidFuture := PySem.W.mg_of X G a_InvalidFuture,
      iInvalidFuture := okX _ (by simp),
      InvalidValue := eInvalidValue (xl _ (by simp)) (PySem.W.mg_of X G a_InvalidValue) (mo n_super) i_InvalidValue t_InvalidValue l_InvalidValue c_InvalidValue d_InvalidValue z_InvalidValue y_InvalidValue v_InvalidValue x_InvalidValue h_top,
      gInvalidValue := PySem.W.mg_of X G a_InvalidValue,
      iInvalidValue := okX _ (by simp),
      InvalidStore := eInvalidStore (xl _ (by simp)) (PySem.W.mg_of X G a_InvalidStore) (mo n_super) i_InvalidStore t_InvalidStore l_InvalidStore c_InvalidStore d_InvalidStore z_InvalidStore y_InvalidStore v_InvalidStore x_InvalidStore h_top,
      gInvalidStore := PySem.W.mg_of X G a_InvalidStore,
      iInvalidStore := okX _ (by simp),
      InvalidInputs := eInvalidInputs (xl _ (by simp)) (PySem.W.mg_of X G a_InvalidInputs) (mo n_super) i_InvalidInputs t_InvalidInputs l_InvalidInputs c_InvalidInputs d_InvalidInputs z_InvalidInputs y_InvalidInputs v_InvalidInputs x_InvalidInputs h_top,
      gInvalidInputs := PySem.W.mg_of X G a_InvalidInputs,
      iInvalidInputs := okX _ (by simp),
      InvalidFolding := eInvalidFolding (xl _ (by simp)) (PySem.W.mg_of X G a_InvalidFolding) (mo n_super) i_InvalidFolding t_InvalidFolding l_InvalidFolding c_InvalidFolding d_InvalidFolding z_InvalidFolding y_InvalidFolding v_InvalidFolding x_InvalidFolding h_top,
      gInvalidFolding := PySem.W.mg_of X G a_InvalidFolding,
      iInvalidFolding := okX _ (by simp),
      InvalidJournal := eInvalidJournal (xl _ (by simp)) (PySem.W.mg_of X G a_InvalidJournal) (mo n_super) i_InvalidJournal t_InvalidJournal l_InvalidJournal c_InvalidJournal d_InvalidJournal z_InvalidJournal y_InvalidJournal v_InvalidJournal x_InvalidJournal h_top,
      gInvalidJournal := PySem.W.mg_of X G a_InvalidJournal,
      iInvalidJournal := okX _ (by simp),
      InvalidSpot := eInvalidSpot (xl _ (by simp)) (PySem.W.mg_of X G a_InvalidSpot) (mo n_super) i_InvalidSpot t_InvalidSpot l_InvalidSpot c_InvalidSpot d_InvalidSpot z_InvalidSpot y_InvalidSpot v_InvalidSpot x_InvalidSpot h_top,
      gInvalidSpot := PySem.W.mg_of X G a_InvalidSpot,
      iInvalidSpot := okX _ (by simp),
      InvalidScript := eInvalidScript (xl _ (by simp)) (PySem.W.mg_of X G a_InvalidScript) (mo n_super) i_InvalidScript t_InvalidScript l_InvalidScript c_InvalidScript d_InvalidScript z_InvalidScript y_InvalidScript v_InvalidScript x_InvalidScript h_top,
      gInvalidScript := PySem.W.mg_of X G a_InvalidScript,
      iInvalidScript := okX _ (by simp),
      InvalidText := eInvalidText (xl _ (by simp)) (PySem.W.mg_of X G a_InvalidText) (mo n_super) i_InvalidText t_InvalidText l_InvalidText c_InvalidText d_InvalidText z_InvalidText y_InvalidText v_InvalidText x_InvalidText h_top,
      gInvalidText := PySem.W.mg_of X G a_InvalidText,
      iInvalidText := okX _ (by simp),
      InvalidRecord := eInvalidRecord (xl _ (by simp)) (PySem.W.mg_of X G a_InvalidRecord) (mo n_super) i_InvalidRecord t_InvalidRecord l_InvalidRecord c_InvalidRecord d_InvalidRecord z_InvalidRecord y_InvalidRecord v_InvalidRecord x_InvalidRecord h_top,
      gInvalidRecord := PySem.W.mg_of X G a_InvalidRecord,
      iInvalidRecord := okX _ (by simp),
      Unlike := eUnlike (xl _ (by simp)) (PySem.W.mg_of X G a_Unlike) (mo n_super) i_Unlike t_Unlike l_Unlike c_Unlike d_Unlike z_Unlike y_Unlike v_Unlike x_Unlike h_top,
      gUnlike := PySem.W.mg_of X G a_Unlike,
      iUnlike := okX _ (by simp),
      Apart := eApart (xl _ (by simp)) (PySem.W.mg_of X G a_Apart) (mo n_super) i_Apart t_Apart l_Apart c_Apart d_Apart z_Apart y_Apart v_Apart x_Apart h_top,
      gApart := PySem.W.mg_of X G a_Apart,
      iApart := okX _ (by simp),
      Unsettled := eUnsettled (xl _ (by simp)) (PySem.W.mg_of X G a_Unsettled) (mo n_super) i_Unsettled t_Unsettled l_Unsettled c_Unsettled d_Unsettled z_Unsettled y_Unsettled v_Unsettled x_Unsettled h_top,
      gUnsettled := PySem.W.mg_of X G a_Unsettled,
      iUnsettled := okX _ (by simp),
      Boundless := eBoundless (xl _ (by simp)) (PySem.W.mg_of X G a_Boundless) (mo n_super) i_Boundless t_Boundless l_Boundless c_Boundless d_Boundless z_Boundless y_Boundless v_Boundless x_Boundless h_top,
      gBoundless := PySem.W.mg_of X G a_Boundless,
      iBoundless := okX _ (by simp),
      Refused := eRefused (xl _ (by simp)) (PySem.W.mg_of X G a_Refused) (mo n_super) i_Refused t_Refused l_Refused c_Refused d_Refused z_Refused y_Refused v_Refused x_Refused h_top,
      gRefused := PySem.W.mg_of X G a_Refused,
      iRefused := okX _ (by simp),
      gNothingToUndo := PySem.W.mg_of X G a_NothingToUndo,
      iNothingToUndo := okX _ (by simp),
      xNothingToUndo := x_NothingToUndo,
      kNothingToUndo := k_NothingToUndo,
      gNothingToRedo := PySem.W.mg_of X G a_NothingToRedo,
      iNothingToRedo := okX _ (by simp),
      xNothingToRedo := x_NothingToRedo,
      kNothingToRedo := k_NothingToRedo,
      iValueError := okR _ bb_VE,
      val := fun C h => (xa C (isx C h)).xf,
      sys := bb_sys }
  have Fz_law_purse := fun_mk (st := sz_law_purse) l_z_law_purse c_z_law_purse k_z_law_purse
  have Fz_law_mixed := fun_mk (st := sz_law_mixed) l_z_law_mixed c_z_law_mixed k_z_law_mixed
  have Fz_law_draw := fun_mk (st := sz_law_draw) l_z_law_draw c_z_law_draw k_z_law_draw
  have Fz_law_purses := fun_mk (st := sz_law_purses) l_z_law_purses c_z_law_purses k_z_law_purses
  have Fz_law_one_of := fun_mk (st := sz_law_one_of) l_z_law_one_of c_z_law_one_of k_z_law_one_of
  have Fz_law_word := fun_mk (st := sz_law_word) l_z_law_word c_z_law_word k_z_law_word
  have Fz_law_first := fun_mk (st := sz_law_first) l_z_law_first c_z_law_first k_z_law_first
  have Fz_law_called := fun_mk (st := sz_law_called) l_z_law_called c_z_law_called k_z_law_called
  have Fz_law_bare := fun_mk (st := sz_law_bare) l_z_law_bare c_z_law_bare k_z_law_bare
  have Fz_law_code := fun_mk (st := sz_law_code) l_z_law_code c_z_law_code k_z_law_code
  have Fz_law_is_error := fun_mk (st := sz_law_is_error) l_z_law_is_error c_z_law_is_error k_z_law_is_error
  have Fz_law_right := fun_mk (st := sz_law_right) l_z_law_right c_z_law_right k_z_law_right
  have Flaw := fun_mk (st := slaw) l_law c_law k_law
  have dz_law_purse := kz_law_purse Fz_law_purse (PySem.W.mg_of X G a_z_law_purse) (Fz_law_purse.binds (ps := ["script", "at"]) fun _ _ _ _ _ _ us hl => match us, hl with | [_, _], _ => rfl) B T
  have dz_law_mixed := kz_law_mixed Fz_law_mixed (PySem.W.mg_of X G a_z_law_mixed) (Fz_law_mixed.binds (ps := ["seed", "turn", "at"]) fun _ _ _ _ _ _ us hl => match us, hl with | [_, _, _], _ => rfl) B T
  have dz_law_draw := kz_law_draw Fz_law_draw (PySem.W.mg_of X G a_z_law_draw) (Fz_law_draw.binds (ps := ["purse", "many"]) fun _ _ _ _ _ _ us hl => match us, hl with | [_, _], _ => rfl) B T dz_law_mixed
  have dz_law_purses := kz_law_purses Fz_law_purses (PySem.W.mg_of X G a_z_law_purses) (Fz_law_purses.binds (ps := ["script", "few"]) fun _ _ _ _ _ _ us hl => match us, hl with | [_, _], _ => rfl) B T dz_law_purse
  have dz_law_one_of := kz_law_one_of Fz_law_one_of (PySem.W.mg_of X G a_z_law_one_of) (Fz_law_one_of.binds (ps := ["purse", "some"]) fun _ _ _ _ _ _ us hl => match us, hl with | [_, _], _ => rfl) B T dz_law_draw
  have dz_law_word := kz_law_word Fz_law_word (PySem.W.mg_of X G a_z_law_word) (Fz_law_word.binds (ps := ["purse"]) fun _ _ _ _ _ _ us hl => match us, hl with | [_], _ => rfl) B T dz_law_draw
  have dz_law_first := kz_law_first Fz_law_first (PySem.W.mg_of X G a_z_law_first) (Fz_law_first.binds (ps := ["thing"]) fun _ _ _ _ _ _ us hl => match us, hl with | [_], _ => rfl) B T
  have dz_law_called := kz_law_called Fz_law_called (PySem.W.mg_of X G a_z_law_called) (Fz_law_called.binds (ps := ["thing"]) fun _ _ _ _ _ _ us hl => match us, hl with | [_], _ => rfl) B T
  have dz_law_bare := kz_law_bare Fz_law_bare (PySem.W.mg_of X G a_z_law_bare) (Fz_law_bare.binds (ps := []) fun _ _ _ _ _ _ us hl => match us, hl with | [], _ => rfl) B T
  have dz_law_code := kz_law_code Fz_law_code (PySem.W.mg_of X G a_z_law_code) (Fz_law_code.binds (ps := ["error"]) fun _ _ _ _ _ _ us hl => match us, hl with | [_], _ => rfl) B T
  have dz_law_is_error := kz_law_is_error Fz_law_is_error (PySem.W.mg_of X G a_z_law_is_error) (Fz_law_is_error.binds (ps := ["error"]) fun _ _ _ _ _ _ us hl => match us, hl with | [_], _ => rfl) B T
  have dz_law_right := kz_law_right Fz_law_right (PySem.W.mg_of X G a_z_law_right) (Fz_law_right.binds (ps := ["some", "noted"]) fun _ _ _ _ _ _ us hl => match us, hl with | [_, _], _ => rfl) B T dz_law_code dz_law_is_error
  exact kklaw Flaw B T dz_law_bare dz_law_called dz_law_code dz_law_first dz_law_is_error dz_law_one_of dz_law_purses dz_law_right dz_law_word
end K01

set_option Elab.async false
set_option linter.all false
set_option maxRecDepth 100000
set_option maxHeartbeats 0
namespace K01
open PySem PySem.Spec PyProof.Rows L2 MW
theorem all_h {w : World} {K : PySem.W.Frag} {h : Heap} {mg : Str → Option Value} {fa : Addr} (X : K.In h) (G : h.Ns mainGlobals mg) (hfa : mg "law" = some (.ref fa)) (c : SaysM fns inis exB K) :
    ∃ fd : FuncData, (∀ (s : Shared) (v : Value), BindsTo s fd ⟨[v], []⟩ [("script", v)]) ∧ ∀ base : Heap, K.In base → base.Ns mainGlobals mg → FnG PySem.Challenge.pw_manywrite_k01_errors_made w K mg base (L2.CX PySem.Challenge.pw_manywrite_k01_errors_made w) 4 fa fd ["script"] (spD 1 (glaw { K := K, CoreError := 24, InvalidKind := 47, InvalidTable := 69, InvalidKinds := 91, InvalidPairs := 113, InvalidWord := 135, InvalidRule := 157, InvalidMap := 179, InvalidNames := 201, InvalidBook := 223, InvalidName := 245, InvalidLog := 267, InvalidLogs := 289, InvalidMerging := 311, InvalidStrike := 333, InvalidRoad := 355, InvalidPlaces := 377, InvalidCount := 399, InvalidFuture := 421, InvalidValue := 443, InvalidStore := 465, InvalidInputs := 487, InvalidFolding := 509, InvalidJournal := 531, InvalidSpot := 553, InvalidScript := 575, InvalidText := 597, InvalidRecord := 619, Unlike := 641, Apart := 663, Unsettled := 685, Boundless := 707, Refused := 729, NothingToUndo := 741, NothingToRedo := 753 })) := by
  obtain ⟨x1, y1⟩ := He.ba c.all.2
  obtain ⟨x2, y2⟩ := He.ba y1
  obtain ⟨x3, y3⟩ := He.ba y2
  obtain ⟨x4, y4⟩ := He.ba y3
  obtain ⟨x5, y5⟩ := He.ba y4
  obtain ⟨x6, y6⟩ := He.ba y5
  obtain ⟨x7, y7⟩ := He.ba y6
  obtain ⟨x8, y8⟩ := He.ba y7
  obtain ⟨x9, x10⟩ := He.ba y8
  rw [List.all_eq_true] at x1 x2 x3 x4 x8 x9
  have fglo : ∀ x ∈ gl, PySem.W.nsIn K mainGlobals x = some (some (.ref (He.ga K x))) := fun x hx => He.eqO_ok (He.ba (x1 x hx)).1
  have fkee : ∀ x ∈ gl, PySem.W.keepIn K (.ref (He.ga K x)) = true := fun x hx => (He.ba (x1 x hx)).2
  have ffre : ∀ x ∈ fr, PySem.W.nsIn K mainGlobals x = some none := fun x hx => He.eqO_ok (x2 x hx)
  have fadr : ∀ p ∈ ad, PySem.W.nsIn K mainGlobals p.1 = some (some (.ref p.2)) := fun p hp => He.eqO_ok (x3 p hp)
  obtain ⟨_, _, _, _, _, _, _, _, _, l0, c0⟩ := c.def_ 0 (d := fdz_law_purse) rfl
  obtain ⟨_, _, _, _, _, _, _, _, _, l1, c1⟩ := c.def_ 1 (d := fdz_law_mixed) rfl
  obtain ⟨_, _, _, _, _, _, _, _, _, l2, c2⟩ := c.def_ 2 (d := fdz_law_draw) rfl
  obtain ⟨_, _, _, _, _, _, _, _, _, l3, c3⟩ := c.def_ 3 (d := fdz_law_purses) rfl
  obtain ⟨_, _, _, _, _, _, _, _, _, l4, c4⟩ := c.def_ 4 (d := fdz_law_one_of) rfl
  obtain ⟨_, _, _, _, _, _, _, _, _, l5, c5⟩ := c.def_ 5 (d := fdz_law_word) rfl
  obtain ⟨_, _, _, _, _, _, _, _, _, l6, c6⟩ := c.def_ 6 (d := fdz_law_first) rfl
  obtain ⟨_, _, _, _, _, _, _, _, _, l7, c7⟩ := c.def_ 7 (d := fdz_law_called) rfl
  obtain ⟨_, _, _, _, _, _, _, _, _, l8, c8⟩ := c.def_ 8 (d := fdz_law_bare) rfl
  obtain ⟨_, _, _, _, _, _, _, _, _, l9, c9⟩ := c.def_ 9 (d := fdz_law_code) rfl
  obtain ⟨_, _, _, _, _, _, _, _, _, l10, c10⟩ := c.def_ 10 (d := fdz_law_is_error) rfl
  obtain ⟨_, _, _, _, _, _, _, _, _, l11, c11⟩ := c.def_ 11 (d := fdz_law_right) rfl
  obtain ⟨_, _, _, _, _, _, _, _, _, l12, c12⟩ := c.def_ 12 (d := fdlaw) rfl
  have aInvalidKind := fadr ("InvalidKind", 47) (by simp [ad])
  obtain ⟨_, _, _, _, _, _, _, _, _, _, _, lInvalidKind⟩ := c.ini 0 (d := inInvalidKind) rfl
  rw [show inInvalidKind.cls = "InvalidKind" from rfl, ga_of aInvalidKind] at lInvalidKind
  obtain ⟨iInvalidKind, tInvalidKind, ⟨_, _, _, _, rfl, dInvalidKind⟩, ⟨_, _, _, _, _, _, _, rfl, cInvalidKind, yInvalidKind, vInvalidKind, fInvalidKind⟩, ⟨_, _, _, zInvalidKind⟩⟩ := iniB_ok (x4 (47, "InvalidKind.__init__") (by simp [lv])) lInvalidKind
  have aInvalidTable := fadr ("InvalidTable", 69) (by simp [ad])
  obtain ⟨_, _, _, _, _, _, _, _, _, _, _, lInvalidTable⟩ := c.ini 1 (d := inInvalidTable) rfl
  rw [show inInvalidTable.cls = "InvalidTable" from rfl, ga_of aInvalidTable] at lInvalidTable
  obtain ⟨iInvalidTable, tInvalidTable, ⟨_, _, _, _, rfl, dInvalidTable⟩, ⟨_, _, _, _, _, _, _, rfl, cInvalidTable, yInvalidTable, vInvalidTable, fInvalidTable⟩, ⟨_, _, _, zInvalidTable⟩⟩ := iniB_ok (x4 (69, "InvalidTable.__init__") (by simp [lv])) lInvalidTable
  have aInvalidKinds := fadr ("InvalidKinds", 91) (by simp [ad])
  obtain ⟨_, _, _, _, _, _, _, _, _, _, _, lInvalidKinds⟩ := c.ini 2 (d := inInvalidKinds) rfl
  rw [show inInvalidKinds.cls = "InvalidKinds" from rfl, ga_of aInvalidKinds] at lInvalidKinds
  obtain ⟨iInvalidKinds, tInvalidKinds, ⟨_, _, _, _, rfl, dInvalidKinds⟩, ⟨_, _, _, _, _, _, _, rfl, cInvalidKinds, yInvalidKinds, vInvalidKinds, fInvalidKinds⟩, ⟨_, _, _, zInvalidKinds⟩⟩ := iniB_ok (x4 (91, "InvalidKinds.__init__") (by simp [lv])) lInvalidKinds
  have aInvalidPairs := fadr ("InvalidPairs", 113) (by simp [ad])
  obtain ⟨_, _, _, _, _, _, _, _, _, _, _, lInvalidPairs⟩ := c.ini 3 (d := inInvalidPairs) rfl
  rw [show inInvalidPairs.cls = "InvalidPairs" from rfl, ga_of aInvalidPairs] at lInvalidPairs
  obtain ⟨iInvalidPairs, tInvalidPairs, ⟨_, _, _, _, rfl, dInvalidPairs⟩, ⟨_, _, _, _, _, _, _, rfl, cInvalidPairs, yInvalidPairs, vInvalidPairs, fInvalidPairs⟩, ⟨_, _, _, zInvalidPairs⟩⟩ := iniB_ok (x4 (113, "InvalidPairs.__init__") (by simp [lv])) lInvalidPairs
  have aInvalidWord := fadr ("InvalidWord", 135) (by simp [ad])
  obtain ⟨_, _, _, _, _, _, _, _, _, _, _, lInvalidWord⟩ := c.ini 4 (d := inInvalidWord) rfl
  rw [show inInvalidWord.cls = "InvalidWord" from rfl, ga_of aInvalidWord] at lInvalidWord
  obtain ⟨iInvalidWord, tInvalidWord, ⟨_, _, _, _, rfl, dInvalidWord⟩, ⟨_, _, _, _, _, _, _, rfl, cInvalidWord, yInvalidWord, vInvalidWord, fInvalidWord⟩, ⟨_, _, _, zInvalidWord⟩⟩ := iniB_ok (x4 (135, "InvalidWord.__init__") (by simp [lv])) lInvalidWord
  have aInvalidRule := fadr ("InvalidRule", 157) (by simp [ad])
  obtain ⟨_, _, _, _, _, _, _, _, _, _, _, lInvalidRule⟩ := c.ini 5 (d := inInvalidRule) rfl
  rw [show inInvalidRule.cls = "InvalidRule" from rfl, ga_of aInvalidRule] at lInvalidRule
  obtain ⟨iInvalidRule, tInvalidRule, ⟨_, _, _, _, rfl, dInvalidRule⟩, ⟨_, _, _, _, _, _, _, rfl, cInvalidRule, yInvalidRule, vInvalidRule, fInvalidRule⟩, ⟨_, _, _, zInvalidRule⟩⟩ := iniB_ok (x4 (157, "InvalidRule.__init__") (by simp [lv])) lInvalidRule
  have aInvalidMap := fadr ("InvalidMap", 179) (by simp [ad])
  obtain ⟨_, _, _, _, _, _, _, _, _, _, _, lInvalidMap⟩ := c.ini 6 (d := inInvalidMap) rfl
  rw [show inInvalidMap.cls = "InvalidMap" from rfl, ga_of aInvalidMap] at lInvalidMap
  obtain ⟨iInvalidMap, tInvalidMap, ⟨_, _, _, _, rfl, dInvalidMap⟩, ⟨_, _, _, _, _, _, _, rfl, cInvalidMap, yInvalidMap, vInvalidMap, fInvalidMap⟩, ⟨_, _, _, zInvalidMap⟩⟩ := iniB_ok (x4 (179, "InvalidMap.__init__") (by simp [lv])) lInvalidMap
  have aInvalidNames := fadr ("InvalidNames", 201) (by simp [ad])
  obtain ⟨_, _, _, _, _, _, _, _, _, _, _, lInvalidNames⟩ := c.ini 7 (d := inInvalidNames) rfl
  rw [show inInvalidNames.cls = "InvalidNames" from rfl, ga_of aInvalidNames] at lInvalidNames
  obtain ⟨iInvalidNames, tInvalidNames, ⟨_, _, _, _, rfl, dInvalidNames⟩, ⟨_, _, _, _, _, _, _, rfl, cInvalidNames, yInvalidNames, vInvalidNames, fInvalidNames⟩, ⟨_, _, _, zInvalidNames⟩⟩ := iniB_ok (x4 (201, "InvalidNames.__init__") (by simp [lv])) lInvalidNames
  have aInvalidBook := fadr ("InvalidBook", 223) (by simp [ad])
  obtain ⟨_, _, _, _, _, _, _, _, _, _, _, lInvalidBook⟩ := c.ini 8 (d := inInvalidBook) rfl
  rw [show inInvalidBook.cls = "InvalidBook" from rfl, ga_of aInvalidBook] at lInvalidBook
  obtain ⟨iInvalidBook, tInvalidBook, ⟨_, _, _, _, rfl, dInvalidBook⟩, ⟨_, _, _, _, _, _, _, rfl, cInvalidBook, yInvalidBook, vInvalidBook, fInvalidBook⟩, ⟨_, _, _, zInvalidBook⟩⟩ := iniB_ok (x4 (223, "InvalidBook.__init__") (by simp [lv])) lInvalidBook
  have aInvalidName := fadr ("InvalidName", 245) (by simp [ad])
  obtain ⟨_, _, _, _, _, _, _, _, _, _, _, lInvalidName⟩ := c.ini 9 (d := inInvalidName) rfl
  rw [show inInvalidName.cls = "InvalidName" from rfl, ga_of aInvalidName] at lInvalidName
  obtain ⟨iInvalidName, tInvalidName, ⟨_, _, _, _, rfl, dInvalidName⟩, ⟨_, _, _, _, _, _, _, rfl, cInvalidName, yInvalidName, vInvalidName, fInvalidName⟩, ⟨_, _, _, zInvalidName⟩⟩ := iniB_ok (x4 (245, "InvalidName.__init__") (by simp [lv])) lInvalidName
  have aInvalidLog := fadr ("InvalidLog", 267) (by simp [ad])
  obtain ⟨_, _, _, _, _, _, _, _, _, _, _, lInvalidLog⟩ := c.ini 10 (d := inInvalidLog) rfl
  rw [show inInvalidLog.cls = "InvalidLog" from rfl, ga_of aInvalidLog] at lInvalidLog
  obtain ⟨iInvalidLog, tInvalidLog, ⟨_, _, _, _, rfl, dInvalidLog⟩, ⟨_, _, _, _, _, _, _, rfl, cInvalidLog, yInvalidLog, vInvalidLog, fInvalidLog⟩, ⟨_, _, _, zInvalidLog⟩⟩ := iniB_ok (x4 (267, "InvalidLog.__init__") (by simp [lv])) lInvalidLog
  have aInvalidLogs := fadr ("InvalidLogs", 289) (by simp [ad])
  obtain ⟨_, _, _, _, _, _, _, _, _, _, _, lInvalidLogs⟩ := c.ini 11 (d := inInvalidLogs) rfl
  rw [show inInvalidLogs.cls = "InvalidLogs" from rfl, ga_of aInvalidLogs] at lInvalidLogs
  obtain ⟨iInvalidLogs, tInvalidLogs, ⟨_, _, _, _, rfl, dInvalidLogs⟩, ⟨_, _, _, _, _, _, _, rfl, cInvalidLogs, yInvalidLogs, vInvalidLogs, fInvalidLogs⟩, ⟨_, _, _, zInvalidLogs⟩⟩ := iniB_ok (x4 (289, "InvalidLogs.__init__") (by simp [lv])) lInvalidLogs
  have aInvalidMerging := fadr ("InvalidMerging", 311) (by simp [ad])
  obtain ⟨_, _, _, _, _, _, _, _, _, _, _, lInvalidMerging⟩ := c.ini 12 (d := inInvalidMerging) rfl
  rw [show inInvalidMerging.cls = "InvalidMerging" from rfl, ga_of aInvalidMerging] at lInvalidMerging
  obtain ⟨iInvalidMerging, tInvalidMerging, ⟨_, _, _, _, rfl, dInvalidMerging⟩, ⟨_, _, _, _, _, _, _, rfl, cInvalidMerging, yInvalidMerging, vInvalidMerging, fInvalidMerging⟩, ⟨_, _, _, zInvalidMerging⟩⟩ := iniB_ok (x4 (311, "InvalidMerging.__init__") (by simp [lv])) lInvalidMerging
  have aInvalidStrike := fadr ("InvalidStrike", 333) (by simp [ad])
  obtain ⟨_, _, _, _, _, _, _, _, _, _, _, lInvalidStrike⟩ := c.ini 13 (d := inInvalidStrike) rfl
  rw [show inInvalidStrike.cls = "InvalidStrike" from rfl, ga_of aInvalidStrike] at lInvalidStrike
  obtain ⟨iInvalidStrike, tInvalidStrike, ⟨_, _, _, _, rfl, dInvalidStrike⟩, ⟨_, _, _, _, _, _, _, rfl, cInvalidStrike, yInvalidStrike, vInvalidStrike, fInvalidStrike⟩, ⟨_, _, _, zInvalidStrike⟩⟩ := iniB_ok (x4 (333, "InvalidStrike.__init__") (by simp [lv])) lInvalidStrike
  have aInvalidRoad := fadr ("InvalidRoad", 355) (by simp [ad])
  obtain ⟨_, _, _, _, _, _, _, _, _, _, _, lInvalidRoad⟩ := c.ini 14 (d := inInvalidRoad) rfl
  rw [show inInvalidRoad.cls = "InvalidRoad" from rfl, ga_of aInvalidRoad] at lInvalidRoad
  obtain ⟨iInvalidRoad, tInvalidRoad, ⟨_, _, _, _, rfl, dInvalidRoad⟩, ⟨_, _, _, _, _, _, _, rfl, cInvalidRoad, yInvalidRoad, vInvalidRoad, fInvalidRoad⟩, ⟨_, _, _, zInvalidRoad⟩⟩ := iniB_ok (x4 (355, "InvalidRoad.__init__") (by simp [lv])) lInvalidRoad
  have aInvalidPlaces := fadr ("InvalidPlaces", 377) (by simp [ad])
  obtain ⟨_, _, _, _, _, _, _, _, _, _, _, lInvalidPlaces⟩ := c.ini 15 (d := inInvalidPlaces) rfl
  rw [show inInvalidPlaces.cls = "InvalidPlaces" from rfl, ga_of aInvalidPlaces] at lInvalidPlaces
  obtain ⟨iInvalidPlaces, tInvalidPlaces, ⟨_, _, _, _, rfl, dInvalidPlaces⟩, ⟨_, _, _, _, _, _, _, rfl, cInvalidPlaces, yInvalidPlaces, vInvalidPlaces, fInvalidPlaces⟩, ⟨_, _, _, zInvalidPlaces⟩⟩ := iniB_ok (x4 (377, "InvalidPlaces.__init__") (by simp [lv])) lInvalidPlaces
  have aInvalidCount := fadr ("InvalidCount", 399) (by simp [ad])
  obtain ⟨_, _, _, _, _, _, _, _, _, _, _, lInvalidCount⟩ := c.ini 16 (d := inInvalidCount) rfl
  rw [show inInvalidCount.cls = "InvalidCount" from rfl, ga_of aInvalidCount] at lInvalidCount
  obtain ⟨iInvalidCount, tInvalidCount, ⟨_, _, _, _, rfl, dInvalidCount⟩, ⟨_, _, _, _, _, _, _, rfl, cInvalidCount, yInvalidCount, vInvalidCount, fInvalidCount⟩, ⟨_, _, _, zInvalidCount⟩⟩ := iniB_ok (x4 (399, "InvalidCount.__init__") (by simp [lv])) lInvalidCount
  have aInvalidFuture := fadr ("InvalidFuture", 421) (by simp [ad])
  obtain ⟨_, _, _, _, _, _, _, _, _, _, _, lInvalidFuture⟩ := c.ini 17 (d := inInvalidFuture) rfl
  rw [show inInvalidFuture.cls = "InvalidFuture" from rfl, ga_of aInvalidFuture] at lInvalidFuture
  obtain ⟨iInvalidFuture, tInvalidFuture, ⟨_, _, _, _, rfl, dInvalidFuture⟩, ⟨_, _, _, _, _, _, _, rfl, cInvalidFuture, yInvalidFuture, vInvalidFuture, fInvalidFuture⟩, ⟨_, _, _, zInvalidFuture⟩⟩ := iniB_ok (x4 (421, "InvalidFuture.__init__") (by simp [lv])) lInvalidFuture
  have aInvalidValue := fadr ("InvalidValue", 443) (by simp [ad])
  obtain ⟨_, _, _, _, _, _, _, _, _, _, _, lInvalidValue⟩ := c.ini 18 (d := inInvalidValue) rfl
  rw [show inInvalidValue.cls = "InvalidValue" from rfl, ga_of aInvalidValue] at lInvalidValue
  obtain ⟨iInvalidValue, tInvalidValue, ⟨_, _, _, _, rfl, dInvalidValue⟩, ⟨_, _, _, _, _, _, _, rfl, cInvalidValue, yInvalidValue, vInvalidValue, fInvalidValue⟩, ⟨_, _, _, zInvalidValue⟩⟩ := iniB_ok (x4 (443, "InvalidValue.__init__") (by simp [lv])) lInvalidValue
  have aInvalidStore := fadr ("InvalidStore", 465) (by simp [ad])
  obtain ⟨_, _, _, _, _, _, _, _, _, _, _, lInvalidStore⟩ := c.ini 19 (d := inInvalidStore) rfl
  rw [show inInvalidStore.cls = "InvalidStore" from rfl, ga_of aInvalidStore] at lInvalidStore
  obtain ⟨iInvalidStore, tInvalidStore, ⟨_, _, _, _, rfl, dInvalidStore⟩, ⟨_, _, _, _, _, _, _, rfl, cInvalidStore, yInvalidStore, vInvalidStore, fInvalidStore⟩, ⟨_, _, _, zInvalidStore⟩⟩ := iniB_ok (x4 (465, "InvalidStore.__init__") (by simp [lv])) lInvalidStore
  have aInvalidInputs := fadr ("InvalidInputs", 487) (by simp [ad])
  obtain ⟨_, _, _, _, _, _, _, _, _, _, _, lInvalidInputs⟩ := c.ini 20 (d := inInvalidInputs) rfl
  rw [show inInvalidInputs.cls = "InvalidInputs" from rfl, ga_of aInvalidInputs] at lInvalidInputs
  obtain ⟨iInvalidInputs, tInvalidInputs, ⟨_, _, _, _, rfl, dInvalidInputs⟩, ⟨_, _, _, _, _, _, _, rfl, cInvalidInputs, yInvalidInputs, vInvalidInputs, fInvalidInputs⟩, ⟨_, _, _, zInvalidInputs⟩⟩ := iniB_ok (x4 (487, "InvalidInputs.__init__") (by simp [lv])) lInvalidInputs
  have aInvalidFolding := fadr ("InvalidFolding", 509) (by simp [ad])
  obtain ⟨_, _, _, _, _, _, _, _, _, _, _, lInvalidFolding⟩ := c.ini 21 (d := inInvalidFolding) rfl
  rw [show inInvalidFolding.cls = "InvalidFolding" from rfl, ga_of aInvalidFolding] at lInvalidFolding
  obtain ⟨iInvalidFolding, tInvalidFolding, ⟨_, _, _, _, rfl, dInvalidFolding⟩, ⟨_, _, _, _, _, _, _, rfl, cInvalidFolding, yInvalidFolding, vInvalidFolding, fInvalidFolding⟩, ⟨_, _, _, zInvalidFolding⟩⟩ := iniB_ok (x4 (509, "InvalidFolding.__init__") (by simp [lv])) lInvalidFolding
  have aInvalidJournal := fadr ("InvalidJournal", 531) (by simp [ad])
  obtain ⟨_, _, _, _, _, _, _, _, _, _, _, lInvalidJournal⟩ := c.ini 22 (d := inInvalidJournal) rfl
  rw [show inInvalidJournal.cls = "InvalidJournal" from rfl, ga_of aInvalidJournal] at lInvalidJournal
  obtain ⟨iInvalidJournal, tInvalidJournal, ⟨_, _, _, _, rfl, dInvalidJournal⟩, ⟨_, _, _, _, _, _, _, rfl, cInvalidJournal, yInvalidJournal, vInvalidJournal, fInvalidJournal⟩, ⟨_, _, _, zInvalidJournal⟩⟩ := iniB_ok (x4 (531, "InvalidJournal.__init__") (by simp [lv])) lInvalidJournal
  have aInvalidSpot := fadr ("InvalidSpot", 553) (by simp [ad])
  obtain ⟨_, _, _, _, _, _, _, _, _, _, _, lInvalidSpot⟩ := c.ini 23 (d := inInvalidSpot) rfl
  rw [show inInvalidSpot.cls = "InvalidSpot" from rfl, ga_of aInvalidSpot] at lInvalidSpot
  obtain ⟨iInvalidSpot, tInvalidSpot, ⟨_, _, _, _, rfl, dInvalidSpot⟩, ⟨_, _, _, _, _, _, _, rfl, cInvalidSpot, yInvalidSpot, vInvalidSpot, fInvalidSpot⟩, ⟨_, _, _, zInvalidSpot⟩⟩ := iniB_ok (x4 (553, "InvalidSpot.__init__") (by simp [lv])) lInvalidSpot
  have aInvalidScript := fadr ("InvalidScript", 575) (by simp [ad])
  obtain ⟨_, _, _, _, _, _, _, _, _, _, _, lInvalidScript⟩ := c.ini 24 (d := inInvalidScript) rfl
  rw [show inInvalidScript.cls = "InvalidScript" from rfl, ga_of aInvalidScript] at lInvalidScript
  obtain ⟨iInvalidScript, tInvalidScript, ⟨_, _, _, _, rfl, dInvalidScript⟩, ⟨_, _, _, _, _, _, _, rfl, cInvalidScript, yInvalidScript, vInvalidScript, fInvalidScript⟩, ⟨_, _, _, zInvalidScript⟩⟩ := iniB_ok (x4 (575, "InvalidScript.__init__") (by simp [lv])) lInvalidScript
  have aInvalidText := fadr ("InvalidText", 597) (by simp [ad])
  obtain ⟨_, _, _, _, _, _, _, _, _, _, _, lInvalidText⟩ := c.ini 25 (d := inInvalidText) rfl
  rw [show inInvalidText.cls = "InvalidText" from rfl, ga_of aInvalidText] at lInvalidText
  obtain ⟨iInvalidText, tInvalidText, ⟨_, _, _, _, rfl, dInvalidText⟩, ⟨_, _, _, _, _, _, _, rfl, cInvalidText, yInvalidText, vInvalidText, fInvalidText⟩, ⟨_, _, _, zInvalidText⟩⟩ := iniB_ok (x4 (597, "InvalidText.__init__") (by simp [lv])) lInvalidText
  have aInvalidRecord := fadr ("InvalidRecord", 619) (by simp [ad])
  obtain ⟨_, _, _, _, _, _, _, _, _, _, _, lInvalidRecord⟩ := c.ini 26 (d := inInvalidRecord) rfl
  rw [show inInvalidRecord.cls = "InvalidRecord" from rfl, ga_of aInvalidRecord] at lInvalidRecord
  obtain ⟨iInvalidRecord, tInvalidRecord, ⟨_, _, _, _, rfl, dInvalidRecord⟩, ⟨_, _, _, _, _, _, _, rfl, cInvalidRecord, yInvalidRecord, vInvalidRecord, fInvalidRecord⟩, ⟨_, _, _, zInvalidRecord⟩⟩ := iniB_ok (x4 (619, "InvalidRecord.__init__") (by simp [lv])) lInvalidRecord
  have aUnlike := fadr ("Unlike", 641) (by simp [ad])
  obtain ⟨_, _, _, _, _, _, _, _, _, _, _, lUnlike⟩ := c.ini 27 (d := inUnlike) rfl
  rw [show inUnlike.cls = "Unlike" from rfl, ga_of aUnlike] at lUnlike
  obtain ⟨iUnlike, tUnlike, ⟨_, _, _, _, rfl, dUnlike⟩, ⟨_, _, _, _, _, _, _, rfl, cUnlike, yUnlike, vUnlike, fUnlike⟩, ⟨_, _, _, zUnlike⟩⟩ := iniB_ok (x4 (641, "Unlike.__init__") (by simp [lv])) lUnlike
  have aApart := fadr ("Apart", 663) (by simp [ad])
  obtain ⟨_, _, _, _, _, _, _, _, _, _, _, lApart⟩ := c.ini 28 (d := inApart) rfl
  rw [show inApart.cls = "Apart" from rfl, ga_of aApart] at lApart
  obtain ⟨iApart, tApart, ⟨_, _, _, _, rfl, dApart⟩, ⟨_, _, _, _, _, _, _, rfl, cApart, yApart, vApart, fApart⟩, ⟨_, _, _, zApart⟩⟩ := iniB_ok (x4 (663, "Apart.__init__") (by simp [lv])) lApart
  have aUnsettled := fadr ("Unsettled", 685) (by simp [ad])
  obtain ⟨_, _, _, _, _, _, _, _, _, _, _, lUnsettled⟩ := c.ini 29 (d := inUnsettled) rfl
  rw [show inUnsettled.cls = "Unsettled" from rfl, ga_of aUnsettled] at lUnsettled
  obtain ⟨iUnsettled, tUnsettled, ⟨_, _, _, _, rfl, dUnsettled⟩, ⟨_, _, _, _, _, _, _, rfl, cUnsettled, yUnsettled, vUnsettled, fUnsettled⟩, ⟨_, _, _, zUnsettled⟩⟩ := iniB_ok (x4 (685, "Unsettled.__init__") (by simp [lv])) lUnsettled
  have aBoundless := fadr ("Boundless", 707) (by simp [ad])
  obtain ⟨_, _, _, _, _, _, _, _, _, _, _, lBoundless⟩ := c.ini 30 (d := inBoundless) rfl
  rw [show inBoundless.cls = "Boundless" from rfl, ga_of aBoundless] at lBoundless
  obtain ⟨iBoundless, tBoundless, ⟨_, _, _, _, rfl, dBoundless⟩, ⟨_, _, _, _, _, _, _, rfl, cBoundless, yBoundless, vBoundless, fBoundless⟩, ⟨_, _, _, zBoundless⟩⟩ := iniB_ok (x4 (707, "Boundless.__init__") (by simp [lv])) lBoundless
  have aRefused := fadr ("Refused", 729) (by simp [ad])
  obtain ⟨_, _, _, _, _, _, _, _, _, _, _, lRefused⟩ := c.ini 31 (d := inRefused) rfl
  rw [show inRefused.cls = "Refused" from rfl, ga_of aRefused] at lRefused
  obtain ⟨iRefused, tRefused, ⟨_, _, _, _, rfl, dRefused⟩, ⟨_, _, _, _, _, _, _, rfl, cRefused, yRefused, vRefused, fRefused⟩, ⟨_, _, _, zRefused⟩⟩ := iniB_ok (x4 (729, "Refused.__init__") (by simp [lv])) lRefused
  exact all_mk X G hfa (fglo "_law_purse" (by simp [gl])) l0 c0 (fkee "_law_purse" (by simp [gl])) (fglo "_law_mixed" (by simp [gl])) l1 c1 (fkee "_law_mixed" (by simp [gl])) (fglo "_law_draw" (by simp [gl])) l2 c2 (fkee "_law_draw" (by simp [gl])) (fglo "_law_purses" (by simp [gl])) l3 c3 (fkee "_law_purses" (by simp [gl])) (fglo "_law_one_of" (by simp [gl])) l4 c4 (fkee "_law_one_of" (by simp [gl])) (fglo "_law_word" (by simp [gl])) l5 c5 (fkee "_law_word" (by simp [gl])) (fglo "_law_first" (by simp [gl])) l6 c6 (fkee "_law_first" (by simp [gl])) (fglo "_law_called" (by simp [gl])) l7 c7 (fkee "_law_called" (by simp [gl])) (fglo "_law_bare" (by simp [gl])) l8 c8 (fkee "_law_bare" (by simp [gl])) (fglo "_law_code" (by simp [gl])) l9 c9 (fkee "_law_code" (by simp [gl])) (fglo "_law_is_error" (by simp [gl])) l10 c10 (fkee "_law_is_error" (by simp [gl])) (fglo "_law_right" (by simp [gl])) l11 c11 (fkee "_law_right" (by simp [gl])) (fglo "law" (by simp [gl])) l12 c12 (fkee "law" (by simp [gl])) aInvalidKind iInvalidKind tInvalidKind lInvalidKind cInvalidKind dInvalidKind zInvalidKind yInvalidKind vInvalidKind fInvalidKind aInvalidTable iInvalidTable tInvalidTable lInvalidTable cInvalidTable dInvalidTable zInvalidTable yInvalidTable vInvalidTable fInvalidTable aInvalidKinds iInvalidKinds tInvalidKinds lInvalidKinds cInvalidKinds dInvalidKinds zInvalidKinds yInvalidKinds vInvalidKinds fInvalidKinds aInvalidPairs iInvalidPairs tInvalidPairs lInvalidPairs cInvalidPairs dInvalidPairs zInvalidPairs yInvalidPairs vInvalidPairs fInvalidPairs aInvalidWord iInvalidWord tInvalidWord lInvalidWord cInvalidWord dInvalidWord zInvalidWord yInvalidWord vInvalidWord fInvalidWord aInvalidRule iInvalidRule tInvalidRule lInvalidRule cInvalidRule dInvalidRule zInvalidRule yInvalidRule vInvalidRule fInvalidRule aInvalidMap iInvalidMap tInvalidMap lInvalidMap cInvalidMap dInvalidMap zInvalidMap yInvalidMap vInvalidMap fInvalidMap aInvalidNames iInvalidNames tInvalidNames lInvalidNames cInvalidNames dInvalidNames zInvalidNames yInvalidNames vInvalidNames fInvalidNames aInvalidBook iInvalidBook tInvalidBook lInvalidBook cInvalidBook dInvalidBook zInvalidBook yInvalidBook vInvalidBook fInvalidBook aInvalidName iInvalidName tInvalidName lInvalidName cInvalidName dInvalidName zInvalidName yInvalidName vInvalidName fInvalidName aInvalidLog iInvalidLog tInvalidLog lInvalidLog cInvalidLog dInvalidLog zInvalidLog yInvalidLog vInvalidLog fInvalidLog aInvalidLogs iInvalidLogs tInvalidLogs lInvalidLogs cInvalidLogs dInvalidLogs zInvalidLogs yInvalidLogs vInvalidLogs fInvalidLogs aInvalidMerging iInvalidMerging tInvalidMerging lInvalidMerging cInvalidMerging dInvalidMerging zInvalidMerging yInvalidMerging vInvalidMerging fInvalidMerging aInvalidStrike iInvalidStrike tInvalidStrike lInvalidStrike cInvalidStrike dInvalidStrike zInvalidStrike yInvalidStrike vInvalidStrike fInvalidStrike aInvalidRoad iInvalidRoad tInvalidRoad lInvalidRoad cInvalidRoad dInvalidRoad zInvalidRoad yInvalidRoad vInvalidRoad fInvalidRoad aInvalidPlaces iInvalidPlaces tInvalidPlaces lInvalidPlaces cInvalidPlaces dInvalidPlaces zInvalidPlaces yInvalidPlaces vInvalidPlaces fInvalidPlaces aInvalidCount iInvalidCount tInvalidCount lInvalidCount cInvalidCount dInvalidCount zInvalidCount yInvalidCount vInvalidCount fInvalidCount aInvalidFuture iInvalidFuture tInvalidFuture lInvalidFuture cInvalidFuture dInvalidFuture zInvalidFuture yInvalidFuture vInvalidFuture fInvalidFuture aInvalidValue iInvalidValue tInvalidValue lInvalidValue cInvalidValue dInvalidValue zInvalidValue yInvalidValue vInvalidValue fInvalidValue aInvalidStore iInvalidStore tInvalidStore lInvalidStore cInvalidStore dInvalidStore zInvalidStore yInvalidStore vInvalidStore fInvalidStore aInvalidInputs iInvalidInputs tInvalidInputs lInvalidInputs cInvalidInputs dInvalidInputs zInvalidInputs yInvalidInputs vInvalidInputs fInvalidInputs aInvalidFolding iInvalidFolding tInvalidFolding lInvalidFolding cInvalidFolding dInvalidFolding zInvalidFolding yInvalidFolding vInvalidFolding fInvalidFolding aInvalidJournal iInvalidJournal tInvalidJournal lInvalidJournal cInvalidJournal dInvalidJournal zInvalidJournal yInvalidJournal vInvalidJournal fInvalidJournal aInvalidSpot iInvalidSpot tInvalidSpot lInvalidSpot cInvalidSpot dInvalidSpot zInvalidSpot yInvalidSpot vInvalidSpot fInvalidSpot aInvalidScript iInvalidScript tInvalidScript lInvalidScript cInvalidScript dInvalidScript zInvalidScript yInvalidScript vInvalidScript fInvalidScript aInvalidText iInvalidText tInvalidText lInvalidText cInvalidText dInvalidText zInvalidText yInvalidText vInvalidText fInvalidText aInvalidRecord iInvalidRecord tInvalidRecord lInvalidRecord cInvalidRecord dInvalidRecord zInvalidRecord yInvalidRecord vInvalidRecord fInvalidRecord aUnlike iUnlike tUnlike lUnlike cUnlike dUnlike zUnlike yUnlike vUnlike fUnlike aApart iApart tApart lApart cApart dApart zApart yApart vApart fApart aUnsettled iUnsettled tUnsettled lUnsettled cUnsettled dUnsettled zUnsettled yUnsettled vUnsettled fUnsettled aBoundless iBoundless tBoundless lBoundless cBoundless dBoundless zBoundless yBoundless vBoundless fBoundless aRefused iRefused tRefused lRefused cRefused dRefused zRefused yRefused vRefused fRefused (fadr ("CoreError", 24) (by simp [ad])) (He.ba (x9 24 (by simp [rc]))).1 (He.ba (x9 24 (by simp [rc]))).2 (fadr ("NothingToUndo", 741) (by simp [ad])) (He.ba (x9 741 (by simp [rc]))).1 (He.ba (x9 741 (by simp [rc]))).2 (fadr ("NothingToRedo", 753) (by simp [ad])) (He.ba (x9 753 (by simp [rc]))).1 (He.ba (x9 753 (by simp [rc]))).2 x5 x6 x7 (x8 (.ref 24) (by simp [rt])) (x8 (.type "ValueError") (by simp [rt])) x10 (ffre "len" (by simp [fr])) (ffre "int" (by simp [fr])) (ffre "sum" (by simp [fr])) (ffre "max" (by simp [fr])) (ffre "min" (by simp [fr])) (ffre "range" (by simp [fr])) (ffre "all" (by simp [fr])) (ffre "any" (by simp [fr])) (ffre "repr" (by simp [fr])) (ffre "isinstance" (by simp [fr])) (ffre "list" (by simp [fr])) (ffre "dict" (by simp [fr])) (ffre "tuple" (by simp [fr])) (ffre "str" (by simp [fr])) (ffre "bool" (by simp [fr])) (ffre "sorted" (by simp [fr])) (ffre "zip" (by simp [fr])) (ffre "enumerate" (by simp [fr])) (ffre "set" (by simp [fr])) (ffre "ValueError" (by simp [fr])) (ffre "super" (by simp [fr])) (by decide +kernel)
end K01

open PySem PySem.W PySem.Calls PyProof.Rows in
theorem PySem.Challenge.cw_manywrite_k01_errors_made_holds : PySem.Challenge.rw_manywrite_k01_errors_made.Holds := by
  w_on; o_law
  refine HandSHeadRun.head_any (r := OpenLaw.row PySem.Challenge.rw_manywrite_k01_errors_made) (q := view (OpenLaw.row PySem.Challenge.rw_manywrite_k01_errors_made).prog [49]) (H := K01.hk) (ob := K01.ob) (M := 12000) (loose := K01.los) (d := HandSHeadRun.topDef (OpenLaw.row PySem.Challenge.rw_manywrite_k01_errors_made).prog 49) (kwd := []) K01.ob_eq
    (by kernel_rfl) (fun s => by kernel_rfl) K01.run (by kernel_rfl) (by kernel_rfl) (by kernel_rfl) (by rfl) (by first | assumption | decide +kernel) (by decide +kernel) ⟨rfl, rfl, rfl, rfl, rfl, by decide +kernel⟩ ?hw ?hc
  case hw => w_witness2
  case hc =>
    refine MW.walk_GE (l := PySem.Challenge.rw_manywrite_k01_errors_made) (n := 63) (k := 4) (x := "script") (g := fun K => K01.glaw { K := K, CoreError := 24, InvalidKind := 47, InvalidTable := 69, InvalidKinds := 91, InvalidPairs := 113, InvalidWord := 135, InvalidRule := 157, InvalidMap := 179, InvalidNames := 201, InvalidBook := 223, InvalidName := 245, InvalidLog := 267, InvalidLogs := 289, InvalidMerging := 311, InvalidStrike := 333, InvalidRoad := 355, InvalidPlaces := 377, InvalidCount := 399, InvalidFuture := 421, InvalidValue := 443, InvalidStore := 465, InvalidInputs := 487, InvalidFolding := 509, InvalidJournal := 531, InvalidSpot := 553, InvalidScript := 575, InvalidText := 597, InvalidRecord := 619, Unlike := 641, Apart := 663, Unsettled := 685, Boundless := 707, Refused := 729, NothingToUndo := 741, NothingToRedo := 753 }) rfl (by decide) (by kernel_rfl) ⟨rfl, by decide, by decide⟩ ?F (fun K ns _ => K01.law_true K ns)
    intro w mg fa h Y G hmg0
    obtain ⟨K, KX, c⟩ := Y
    have hmg : mg ("law" : PySem.Str) = some (.ref fa) := by
      have e : (HandSHeadRun.topDef (OpenLaw.row PySem.Challenge.rw_manywrite_k01_errors_made).prog 49).name = ("law" : PySem.Str) := by kernel_rfl
      rw [← e]
      exact hmg0
    obtain ⟨fd, hb, hF⟩ := K01.all_h KX G hmg c
    exact ⟨K, fd, KX, hb, hF⟩

