import PyProof.Rows.All
import Wide.All
import OpenK.AllK
import Wide.FinOn
import HandS.ForMost
import HandS.ForExc
import HandS.Strs
import HandS.TryOnly
import HandS.Wide
import HandS.WideBits
import HandS.Deep
import HandS.IsInst
import HandS.Style
import PyProof.Rows.RuleB_pow
import HandS.SortInts
import KE.KSortedM
import HandS.SetFor
import HandS.More
import HandS.Small
import HandS.EndBits
import PySem.Challenge.RW_ringrestart_k37_orders_counted_by_listin
set_option Elab.async false
set_option linter.all false
set_option maxRecDepth 100000
namespace E
open PySem L2

abbrev D := PySem.PyData

/-- objects that are ours and unshared -/
inductive Ob where
  | lst (ds : List D)
  | dk (kvs : List (Key × D))
  | dt (kvs : List (List Key × D))
  | set (ns : List Int)
  | ins (c : Nat) (fs : List D)
/-- what a slot is known to hold -/
inductive Ent where
  | un
  | dat (d : D)
  | own (b : Bool) (o : Ob)
  | scr (ns : List Int)
inductive Val where
  | dat (d : D)
  | new (o : Ob)
  | loc (i : Nat)
abbrev Gm := List Ent

structure Gx where
  K : PySem.W.Frag
  mg : Str → Option Value
  w : World
abbrev gx (X : Cx) : Gx := ⟨X.K, X.mg, X.w⟩

def Sub (B H : Hp) : Prop := ∀ a o, B a = some o → H a = some o
theorem Sub.refl (H : Hp) : Sub H H := fun _ _ h => h
theorem Sub.trans {A B C : Hp} (h : Sub A B) (k : Sub B C) : Sub A C := fun a o e => k a o (h a o e)

theorem rd_mono {B B' : Hp} (e : Sub B B') {a : Addr} {u : HO} (h : Rd B a u) : Rd B' a u := by
  rcases h with h | ⟨o, h⟩
  · exact .inl (e a _ h)
  · exact .inr ⟨o, e a _ h⟩
theorem sql_mono {K : PySem.W.Frag} {B B' : Hp} (e : Sub B B') {a : Addr} {xs : List V} (h : SqL K B a xs) : SqL K B' a xs := by
  rcases h with h | h
  · exact .inl (rd_mono e h)
  · exact .inr h

/-- data, frozen in B -/
def kD : Key → D
  | .inl i => .int i
  | .inr x => .str x
mutual
inductive Dq (B : Hp) : V → D → Prop
  | non : Dq B .non .none
  | bl (b : Bool) : Dq B (.bl b) (.bool b)
  | int (i : Int) : Dq B (.int i) (.int i)
  | str (x : Str) : Dq B (.str x) (.str x)
  | lst {a : Addr} {xs : List V} {ds : List D} : B a = some (.lst xs) → DqA B xs ds → Dq B (.ref a) (.list ds)
  | tup {a : Addr} {xs : List V} {ds : List D} : B a = some (.tup xs) → DqA B xs ds → Dq B (.ref a) (.tuple ds)
  | dic {a : Addr} {ks : List Key} {xs : List V} {ds : List D} : B a = some (.dK (ks.zip xs)) → ks.length = xs.length → DqA B xs ds → Dq B (.ref a) (.dict ((ks.map kD).zip ds))
inductive DqA (B : Hp) : List V → List D → Prop
  | nil : DqA B [] []
  | cons {v : V} {vs : List V} {d : D} {ds : List D} : Dq B v d → DqA B vs ds → DqA B (v :: vs) (d :: ds)
end
mutual
theorem dq_mono {B B' : Hp} (e : Sub B B') : ∀ {v : V} {d : D}, Dq B v d → Dq B' v d
  | _, _, .non => .non
  | _, _, .bl b => .bl b
  | _, _, .int b => .int b
  | _, _, .str b => .str b
  | _, _, .lst h a => .lst (e _ _ h) (dqa_mono e a)
  | _, _, .tup h a => .tup (e _ _ h) (dqa_mono e a)
  | _, _, .dic h l a => .dic (e _ _ h) l (dqa_mono e a)
theorem dqa_mono {B B' : Hp} (e : Sub B B') : ∀ {vs : List V} {ds : List D}, DqA B vs ds → DqA B' vs ds
  | _, _, .nil => .nil
  | _, _, .cons h t => .cons (dq_mono e h) (dqa_mono e t)
end
-- without dicts
mutual
def flatD : D → Bool
  | .list ds => flatDs ds
  | .tuple ds => flatDs ds
  | .dict _ => false
  | _ => true
def flatDs : List D → Bool
  | [] => true
  | d :: ds => flatD d && flatDs ds
end
mutual
theorem dq_dp {K : PySem.W.Frag} {B : Hp} : ∀ (d : D) (v : V), flatD d = true → Dq B v d → Dp K B v d
  | .none, _, _, h => by cases h; exact .non
  | .bool b, _, _, h => by cases h; exact .bl b
  | .int i, _, _, h => by cases h; exact .int i
  | .str x, _, _, h => by cases h; exact .str x
  | .list ds, _, f, h => by
    cases h with
    | lst hs ha => exact .lst (SqL.of hs) (dqa_dp ds _ f ha)
  | .tuple ds, _, f, h => by
    cases h with
    | tup hs ha => exact .tup (SqT.of hs) (dqa_dp ds _ f ha)
  | .dict _, _, f, h => by cases f
theorem dqa_dp {K : PySem.W.Frag} {B : Hp} : ∀ (ds : List D) (vs : List V), flatDs ds = true → DqA B vs ds → DpAll K B vs ds
  | [], _, _, h => by cases h; exact .nil
  | d :: ds, _, f, h => by
    have f' : (flatD d && flatDs ds) = true := f
    rw [Bool.and_eq_true] at f'
    cases h with
    | cons h1 h2 => exact .cons (dq_dp d _ f'.1 h1) (dqa_dp ds _ f'.2 h2)
end
section
variable {B : Hp}
theorem dqa_len : ∀ {vs : List V} {ds : List D}, DqA B vs ds → vs.length = ds.length
  | _, _, .nil => rfl
  | _, _, .cons _ t => by simp [dqa_len t]
theorem dqa_get : ∀ {vs : List V} {ds : List D} {i : Nat} {d : D}, DqA B vs ds → ds[i]? = some d → ∃ v, vs[i]? = some v ∧ Dq B v d
  | _, _, _, _, .nil, e => by simp at e
  | _, _, 0, _, .cons r _, e => by simp at e; subst e; exact ⟨_, rfl, r⟩
  | _, _, i + 1, d, .cons _ t, e => by
    obtain ⟨v, h1, h2⟩ := dqa_get (i := i) (d := d) t (by simpa using e)
    exact ⟨v, by simpa using h1, h2⟩
theorem dqa_getv : ∀ {vs : List V} {ds : List D} {i : Nat} {v : V}, DqA B vs ds → vs[i]? = some v → ∃ d, ds[i]? = some d ∧ Dq B v d
  | _, _, _, _, .nil, e => by simp at e
  | _, _, 0, _, .cons r _, e => by simp at e; subst e; exact ⟨_, rfl, r⟩
  | _, _, i + 1, d, .cons _ t, e => by
    obtain ⟨v, h1, h2⟩ := dqa_getv (i := i) (v := d) t (by simpa using e)
    exact ⟨v, by simpa using h1, h2⟩
theorem dqa_app : ∀ {vs ws : List V} {ds es : List D}, DqA B vs ds → DqA B ws es → DqA B (vs ++ ws) (ds ++ es)
  | _, _, _, _, .nil, h => h
  | _, _, _, _, .cons r t, h => .cons r (dqa_app t h)
theorem dqa_set {v : V} {d : D} (r : Dq B v d) : ∀ {vs : List V} {ds : List D} (i : Nat), DqA B vs ds → DqA B (vs.set i v) (ds.set i d)
  | _, _, _, .nil => .nil
  | _, _, 0, .cons _ t => .cons r t
  | _, _, i + 1, .cons q t => .cons q (dqa_set r i t)
theorem dqa_take : ∀ {vs : List V} {ds : List D} (n : Nat), DqA B vs ds → DqA B (vs.take n) (ds.take n)
  | _, _, 0, _ => .nil
  | _, _, n + 1, .nil => .nil
  | _, _, n + 1, .cons q t => .cons q (dqa_take n t)
theorem dqa_drop : ∀ {vs : List V} {ds : List D} (n : Nat), DqA B vs ds → DqA B (vs.drop n) (ds.drop n)
  | _, _, 0, h => h
  | _, _, n + 1, .nil => .nil
  | _, _, n + 1, .cons q t => dqa_drop n t
theorem dqa_rev : ∀ {vs : List V} {ds : List D}, DqA B vs ds → DqA B vs.reverse ds.reverse
  | _, _, .nil => .nil
  | _, _, .cons q t => by
    rw [List.reverse_cons, List.reverse_cons]
    exact dqa_app (dqa_rev t) (.cons q .nil)
theorem dqa_erase : ∀ {vs : List V} {ds : List D} (n : Nat), DqA B vs ds → DqA B (vs.eraseIdx n) (ds.eraseIdx n)
  | _, _, _, .nil => .nil
  | _, _, 0, .cons _ t => t
  | _, _, n + 1, .cons q t => .cons q (dqa_erase n t)
theorem dqa_rep {vs : List V} {ds : List D} (h : DqA B vs ds) : ∀ n : Nat, DqA B (List.replicate n vs).flatten (List.replicate n ds).flatten
  | 0 => .nil
  | n + 1 => by
    rw [List.replicate_succ, List.replicate_succ, List.flatten_cons, List.flatten_cons]
    exact dqa_app h (dqa_rep h n)
theorem dqa_ints : ∀ (ns : List Int), DqA B (ns.map V.int) (ns.map PyData.int)
  | [] => .nil
  | n :: ns => .cons (.int n) (dqa_ints ns)
theorem dqa_of_ints : ∀ {ns : List Int} {vs : List V}, DqA B vs (ns.map PyData.int) → vs = ns.map V.int
  | [], _, .nil => rfl
  | n :: ns, _, .cons q t => by
    cases q
    rw [dqa_of_ints t] <;> rfl
theorem dqa_of_bools : ∀ {ns : List Bool} {vs : List V}, DqA B vs (ns.map PyData.bool) → vs = ns.map V.bl
  | [], _, .nil => rfl
  | n :: ns, _, .cons q t => by
    cases q
    rw [dqa_of_bools t] <;> rfl
end

/-- a dict's pairs -/
def KvR {κ : Type} (B : Hp) (ws : List (κ × V)) (kvs : List (κ × D)) : Prop := ws.map (·.1) = kvs.map (·.1) ∧ DqA B (ws.map (·.2)) (kvs.map (·.2))
theorem KvR.mono {κ : Type} {B B' : Hp} {ws : List (κ × V)} {kvs : List (κ × D)} (e : Sub B B') (h : KvR B ws kvs) : KvR B' ws kvs := ⟨h.1, dqa_mono e h.2⟩
/-- the classes: names, attributes in order -/
def clN : Nat → Str
  | 0 => "Progress"
  | _ => "Plateaus"
def clF : Nat → List Str
  | 0 => ["falls", "row_counts", "products", "rows_left"]
  | _ => ["size", "lasts", "heights", "many"]
def Holds (g : Gx) (B H : Hp) (p : Addr) : Ob → Prop
  | .lst ds => ∃ vs, H p = some (.lst vs) ∧ DqA B vs ds
  | .dk kvs => ∃ ws, H p = some (.dK ws) ∧ KvR B ws kvs
  | .dt kvs => ∃ ws, H p = some (.dT ws) ∧ KvR B ws kvs
  | .set ns => ns.Nodup ∧ H p = some (SetO g.w p (fun k => decide (k ∈ ns)) ns.length)
  | .ins c ds => ∃ C dx vs, g.mg (clN c) = some (.ref C) ∧ ds.length ≤ (clF c).length ∧ H p = some (.ins C dx ((clF c).zip vs)) ∧ DqA B vs ds

theorem Holds.there {g : Gx} {B H : Hp} {p : Addr} {o : Ob} (h : Holds g B H p o) : H p ≠ none := by
  cases o with
  | lst _ => obtain ⟨_, e, _⟩ := h; rw [e]; simp
  | dk _ => obtain ⟨_, e, _⟩ := h; rw [e]; simp
  | dt _ => obtain ⟨_, e, _⟩ := h; rw [e]; simp
  | set _ => obtain ⟨_, e⟩ := h; rw [e]; simp
  | ins _ _ => obtain ⟨_, _, _, _, _, e, _⟩ := h; rw [e]; simp
theorem Holds.mono {g : Gx} {B B' H H' : Hp} {p : Addr} {o : Ob} (h : Holds g B H p o) (b : Sub B B') (k : ∀ u, H p = some u → H' p = some u) : Holds g B' H' p o := by
  cases o with
  | lst _ => obtain ⟨vs, e, r⟩ := h; exact ⟨vs, k _ e, dqa_mono b r⟩
  | dk _ => obtain ⟨vs, e, r⟩ := h; exact ⟨vs, k _ e, r.mono b⟩
  | dt _ => obtain ⟨vs, e, r⟩ := h; exact ⟨vs, k _ e, r.mono b⟩
  | set _ => obtain ⟨n, e⟩ := h; exact ⟨n, k _ e⟩
  | ins _ _ => obtain ⟨C, dx, vs, m, l, e, r⟩ := h; exact ⟨C, dx, vs, m, l, k _ e, dqa_mono b r⟩

def EntOk (g : Gx) (B H : Hp) (s : Option (Option V)) : Ent → Prop
  | .un => True
  | .dat d => ∃ v, s = some (some v) ∧ Dq B v d
  | .own _ o => ∃ p, s = some (some (.ref p)) ∧ B p = none ∧ Holds g B H p o
  | .scr ns => ∃ p, s = some (some (.ref p)) ∧ SqL g.K B p (ns.map V.int)

def Own (σ : L2.St) (Γ : Gm) (p : Addr) : Prop := ∃ (i : Nat) (b : Bool) (o : Ob), Γ[i]? = some (.own b o) ∧ σ[i]? = some (some (.ref p))

structure EOk (g : Gx) (B H : Hp) (σ : L2.St) (Γ : Gm) : Prop where
  sub : Sub B H
  len : σ.length = Γ.length
  at_ : ∀ (i : Nat) (e : Ent), Γ[i]? = some e → EntOk g B H σ[i]? e
  sep : ∀ (i j : Nat) (b c : Bool) (o o' : Ob) (p : Addr), Γ[i]? = some (.own b o) → Γ[j]? = some (.own c o') → σ[i]? = some (some (.ref p)) → σ[j]? = some (some (.ref p)) → i = j

structure Stp (g : Gx) (B H : Hp) (σ : L2.St) (Γ : Gm) (B' H' : Hp) (σ' : L2.St) (Γ' : Gm) : Prop where
  env : EOk g B' H' σ' Γ'
  bb : Sub B B'
  keep : ∀ a o, H a = some o → ¬ Own σ Γ a → H' a = some o
  dom : ∀ a, H a ≠ none → H' a ≠ none
  newB : ∀ a, B' a ≠ none → B a ≠ none ∨ H a = none ∨ Own σ Γ a
  own : ∀ p, Own σ' Γ' p → Own σ Γ p ∨ H p = none
  par : ∀ (i : Nat) (o : Ob), Γ[i]? = some (.own true o) → ∃ o', Γ'[i]? = some (.own true o') ∧ σ'[i]? = σ[i]?

variable {g : Gx} {B B1 B2 B' H H1 H2 H' : Hp} {σ σ1 σ2 σ' : L2.St} {Γ Γ1 Γ2 Γ' : Gm}

theorem EOk.own_some (h : EOk g B H σ Γ) {p : Addr} (o : Own σ Γ p) : H p ≠ none ∧ B p = none := by
  obtain ⟨i, b, ob, e1, e2⟩ := o
  obtain ⟨q, e3, e4, e5⟩ := h.at_ i _ e1
  rw [e2] at e3
  cases e3
  exact ⟨e5.there, e4⟩
theorem Stp.refl (h : EOk g B H σ Γ) : Stp g B H σ Γ B H σ Γ :=
  ⟨h, Sub.refl _, fun _ _ e _ => e, fun _ e => e, fun _ e => .inl e, fun _ o => .inl o, fun i o e => ⟨o, e, rfl⟩⟩
theorem Stp.trans (a : Stp g B H σ Γ B1 H1 σ1 Γ1) (b : Stp g B1 H1 σ1 Γ1 B2 H2 σ2 Γ2) : Stp g B H σ Γ B2 H2 σ2 Γ2 where
  env := b.env
  bb := a.bb.trans b.bb
  keep := fun x o e n => b.keep x o (a.keep x o e n) fun q => by
    rcases a.own x q with q | q
    · exact n q
    · rw [q] at e; cases e
  dom := fun x e => b.dom x (a.dom x e)
  newB := fun x e => by
    rcases b.newB x e with q | q | q
    · exact a.newB x q
    · by_cases hh : H x = none
      · exact .inr (.inl hh)
      · exact absurd q (a.dom x hh)
    · rcases a.own x q with r | r
      · exact .inr (.inr r)
      · exact .inr (.inl r)
  own := fun x q => by
    rcases b.own x q with r | r
    · exact a.own x r
    · by_cases hh : H x = none
      · exact .inr hh
      · exact absurd r (a.dom x hh)
  par := fun i o e => by
    obtain ⟨o1, e1, s1⟩ := a.par i o e
    obtain ⟨o2, e2, s2⟩ := b.par i o1 e1
    exact ⟨o2, e2, s2.trans s1⟩

/-- what a value is; H0: the heap ahead of its evaluation -/
def ValOk (g : Gx) (H0 B H : Hp) (σ : L2.St) (Γ : Gm) (v : V) : Val → Prop
  | .dat d => Dq B v d
  | .new o => ∃ p, v = .ref p ∧ B p = none ∧ H0 p = none ∧ ¬ Own σ Γ p ∧ Holds g B H p o
  | .loc i => σ[i]? = some (some v)
theorem ValOk.step {v : V} {r : Val} {H0 : Hp} (h : ValOk g H0 B1 H1 σ1 Γ1 v r) (s : Stp g B1 H1 σ1 Γ1 B2 H2 σ1 Γ2) : ValOk g H0 B2 H2 σ1 Γ2 v r := by
  cases r with
  | dat d => exact dq_mono s.bb h
  | new o =>
    obtain ⟨p, e, b, f, n, k⟩ := h
    refine ⟨p, e, ?_, f, fun q => ?_, k.mono s.bb fun u hu => s.keep p u hu n⟩
    · cases hb : B2 p with
      | none => rfl
      | some u =>
        rcases s.newB p (by rw [hb]; simp) with q | q | q
        · exact absurd b q
        · exact absurd q k.there
        · exact absurd q n
    · rcases s.own p q with q | q
      · exact n q
      · exact k.there q
  | loc i => exact h
theorem ValOk.base {v : V} {r : Val} {H0 H00 : Hp} (h : ValOk g H0 B1 H1 σ1 Γ1 v r) (d : ∀ a, H00 a ≠ none → H0 a ≠ none) : ValOk g H00 B1 H1 σ1 Γ1 v r := by
  cases r with
  | dat _ => exact h
  | new o =>
    obtain ⟨p, e, b, f, n, k⟩ := h
    refine ⟨p, e, b, ?_, n, k⟩
    by_cases hh : H00 p = none
    · exact hh
    · exact absurd f (d p hh)
  | loc _ => exact h

/-! ### outcomes -/
structure Exn where
  cls : Str
  pay : Option (Str × D)
inductive Res (α : Type) where
  | ok (a : α) (Γ : Gm)
  | exc (x : Exn) (Γ : Gm)
abbrev M (α : Type) := Gm → Option (Res α)
def M.ret {α : Type} (a : α) : M α := fun Γ => some (.ok a Γ)
def M.bind {α β : Type} (c : M α) (k : α → M β) : M β := fun Γ => match c Γ with
  | none => none
  | some (.ok a Γ1) => k a Γ1
  | some (.exc x Γ1) => some (.exc x Γ1)
def M.lift {α : Type} (o : Option α) : M α := fun Γ => match o with
  | none => none
  | some a => some (.ok a Γ)

def ExOk (g : Gx) (B H : Hp) (x : Exn) (cls : Value) (d : Option Addr) : Prop :=
  ∃ C, g.mg x.cls = some (.ref C) ∧ cls = .ref C ∧ match x.pay with
    | none => d = none
    | some (f, y) => ∃ dd v, d = some dd ∧ H dd = some (.xd [(f, v)]) ∧ Dq B v y

/-- what is to be shown of an expression's outcome -/
def KE (g : Gx) (W : WX) (σ : L2.St) (B H : Hp) (Γ : Gm) (r : Option (Res Val)) (Q : VK) : Prop :=
  match r with
  | none => False
  | some (.ok r Γ') => ∀ B' H' v, Stp g B H σ Γ B' H' σ Γ' → ValOk g H B' H' σ Γ' v r → Q v H'
  | some (.exc x Γ') => ∀ B' H' cls d, Stp g B H σ Γ B' H' σ Γ' → ExOk g B' H' x cls d → W cls d σ H'
/-- .. of any step's that leaves the slots -/
def KM (g : Gx) (W : WX) (σ : L2.St) (B H : Hp) (Γ : Gm) {α : Type} (r : Option (Res α)) (Q : α → Hp → Hp → Gm → Prop) : Prop :=
  match r with
  | none => False
  | some (.ok r Γ') => ∀ B' H', Stp g B H σ Γ B' H' σ Γ' → Q r B' H' Γ'
  | some (.exc x Γ') => ∀ B' H' cls d, Stp g B H σ Γ B' H' σ Γ' → ExOk g B' H' x cls d → W cls d σ H'
def tE (g : Gx) (W : WX) (c : M Val) : TE := fun σ H Q => ∃ B Γ, EOk g B H σ Γ ∧ KE g W σ B H Γ (c Γ) Q
def tT (g : Gx) (W : WX) (c : M Bool) : TT := fun σ H Q => ∃ B Γ, EOk g B H σ Γ ∧ KM g W σ B H Γ (c Γ) fun b _ H' _ => Q b H'
/-- an argument: data, or a slot of ours lent -/
inductive AV where
  | dat (d : D)
  | loc (i : Nat)
def AVOk (g : Gx) (B : Hp) (σ : L2.St) (v : V) : AV → Prop
  | .dat d => Dq B v d
  | .loc i => σ[i]? = some (some v)
def tA (g : Gx) (W : WX) (c : M (List AV)) : TA := fun σ H Q => ∃ B Γ, EOk g B H σ Γ ∧ KM g W σ B H Γ (c Γ) fun as B' H' _ => ∀ vs, Paired (AVOk g B' σ) vs as → Q vs H'
inductive Flow where
  | nx | brk | ct
  | ret (r : Val)
def KS (g : Gx) (W : WX) (σ : L2.St) (B H : Hp) (Γ : Gm) (r : Option (Res Flow)) (Ed : Ends) : Prop :=
  match r with
  | none => False
  | some (.ok f Γ') => ∀ B' H' σ', Stp g B H σ Γ B' H' σ' Γ' → (match f with
      | .nx => Ed.nx σ' H'
      | .brk => Ed.bk σ' H'
      | .ct => Ed.ct σ' H'
      | .ret r => ∀ v, ValOk g H B' H' σ' Γ' v r → Ed.rt v H')
  | some (.exc x Γ') => ∀ B' H' σ' cls d, Stp g B H σ Γ B' H' σ' Γ' → ExOk g B' H' x cls d → W cls d σ' H'
def tS (g : Gx) (W : WX) (c : M Flow) : TS := fun Ed σ H => ∃ B Γ, EOk g B H σ Γ ∧ KS g W σ B H Γ (c Γ) Ed

theorem PE.weak {X : Cx} {e : PySem.Expr} {t t' : TE} (h : PE X e t) (k : ∀ σ H Q, t' σ H Q → t σ H Q) : PE X e t' := ⟨fun pins s σ H Q I q => h.run pins s σ H Q I (k σ H Q q)⟩
theorem PT.weak {X : Cx} {e : PySem.Expr} {t t' : TT} (h : PT X e t) (k : ∀ σ H Q, t' σ H Q → t σ H Q) : PT X e t' := ⟨fun pins s σ H Q I q => h.run pins s σ H Q I (k σ H Q q)⟩
theorem PA.weak {X : Cx} {e : List PySem.Expr} {t t' : TA} (h : PA X e t) (k : ∀ σ H Q, t' σ H Q → t σ H Q) : PA X e t' := ⟨fun pos pins s σ H Q I q => h.run pos pins s σ H Q I (k σ H Q q)⟩
theorem PS.weak {X : Cx} {e : PySem.Stmt} {t t' : TS} (h : PS X e t) (k : ∀ Ed σ H, t' Ed σ H → t Ed σ H) : PS X e t' := ⟨fun pins s σ H Ed I q => h.run pins s σ H Ed I (k Ed σ H q)⟩
theorem PSs.weak {X : Cx} {e : List PySem.Stmt} {t t' : TS} (h : PSs X e t) (k : ∀ Ed σ H, t' Ed σ H → t Ed σ H) : PSs X e t' := ⟨fun pins s σ H Ed I q => h.run pins s σ H Ed I (k Ed σ H q)⟩

/-! ### sequencing of readings -/
section
variable {W : WX} {B0 H0 : Hp} {Γ0 : Gm} {σ0 : L2.St}
/-- a goal about an outcome, from a base -/
structure Gl0 (g : Gx) (W : WX) (B0 H0 : Hp) (σ0 : L2.St) (Γ0 : Gm) {β : Type} (σ : L2.St) (KX : Option (Res β) → Prop) : Prop where
  none : KX none → False
  exc : ∀ x Γ1, KX (some (.exc x Γ1)) → ∀ B' H' cls d, Stp g B0 H0 σ0 Γ0 B' H' σ Γ1 → ExOk g B' H' x cls d → W cls d σ H'
theorem gl_e {Q : VK} : Gl0 g W B0 H0 σ Γ0 σ fun r => KE g W σ B0 H0 Γ0 r Q := ⟨fun h => h, fun _ _ h B' H' c d s o => h B' H' c d s o⟩
theorem gl_m {α : Type} {Q : α → Hp → Hp → Gm → Prop} : Gl0 g W B0 H0 σ Γ0 σ fun r => KM g W σ B0 H0 Γ0 r Q := ⟨fun h => h, fun _ _ h B' H' c d s o => h B' H' c d s o⟩
theorem gl_s {Q : Ends} : Gl0 g W B0 H0 σ0 Γ0 σ fun r => KS g W σ0 B0 H0 Γ0 r Q := ⟨fun h => h, fun _ _ h B' H' c d s o => h B' H' _ c d s o⟩
/-- an expression evaluated, then the rest -/
theorem te_bind {β : Type} {ca : M Val} {k : Val → M β} {KX : Option (Res β) → Prop} {P : VK} (G : Gl0 g W B0 H0 σ0 Γ0 σ KX) (s0 : Stp g B0 H0 σ0 Γ0 B H σ Γ) (h : KX (ca.bind k Γ))
    (hk : ∀ B1 H1 v r Γ1, Stp g B0 H0 σ0 Γ0 B1 H1 σ Γ1 → Stp g B H σ Γ B1 H1 σ Γ1 → ValOk g H B1 H1 σ Γ1 v r → KX (k r Γ1) → P v H1) : tE g W ca σ H P := by
  refine ⟨B, Γ, s0.env, ?_⟩
  unfold M.bind at h
  cases hc : ca Γ with
  | none => rw [hc] at h; exact G.none h
  | some r =>
    rw [hc] at h
    cases r with
    | ok r Γ1 => exact fun B1 H1 v s o => hk B1 H1 v r Γ1 (s0.trans s) s o h
    | exc x Γ1 => exact fun B' H' c d s o => G.exc _ _ h B' H' c d (s0.trans s) o
theorem tt_bind {β : Type} {ca : M Bool} {k : Bool → M β} {KX : Option (Res β) → Prop} {P : Bool → Hp → Prop} (G : Gl0 g W B0 H0 σ0 Γ0 σ KX) (s0 : Stp g B0 H0 σ0 Γ0 B H σ Γ) (h : KX (ca.bind k Γ))
    (hk : ∀ B1 H1 r Γ1, Stp g B0 H0 σ0 Γ0 B1 H1 σ Γ1 → Stp g B H σ Γ B1 H1 σ Γ1 → KX (k r Γ1) → P r H1) : tT g W ca σ H P := by
  refine ⟨B, Γ, s0.env, ?_⟩
  unfold M.bind at h
  cases hc : ca Γ with
  | none => rw [hc] at h; exact G.none h
  | some r =>
    rw [hc] at h
    cases r with
    | ok r Γ1 => exact fun B1 H1 s => hk B1 H1 r Γ1 (s0.trans s) s h
    | exc x Γ1 => exact fun B' H' c d s o => G.exc _ _ h B' H' c d (s0.trans s) o
theorem ta_bind {β : Type} {ca : M (List AV)} {k : List AV → M β} {KX : Option (Res β) → Prop} {P : List V → Hp → Prop} (G : Gl0 g W B0 H0 σ0 Γ0 σ KX) (s0 : Stp g B0 H0 σ0 Γ0 B H σ Γ) (h : KX (ca.bind k Γ))
    (hk : ∀ B1 H1 vs r Γ1, Stp g B0 H0 σ0 Γ0 B1 H1 σ Γ1 → Stp g B H σ Γ B1 H1 σ Γ1 → Paired (AVOk g B1 σ) vs r → KX (k r Γ1) → P vs H1) : tA g W ca σ H P := by
  refine ⟨B, Γ, s0.env, ?_⟩
  unfold M.bind at h
  cases hc : ca Γ with
  | none => rw [hc] at h; exact G.none h
  | some r =>
    rw [hc] at h
    cases r with
    | ok r Γ1 => exact fun B1 H1 s vs o => hk B1 H1 vs r Γ1 (s0.trans s) s o h
    | exc x Γ1 => exact fun B' H' c d s o => G.exc _ _ h B' H' c d (s0.trans s) o
/-- a ghost step -/
theorem m_bind {α β : Type} {c : M α} {k : α → M β} {KX : Option (Res β) → Prop} {P : Prop} (G : Gl0 g W B0 H0 σ0 Γ0 σ KX) (h : KX (c.bind k Γ))
    (hx : ∀ x Γ1, c Γ ≠ some (.exc x Γ1)) (hk : ∀ r Γ1, c Γ = some (.ok r Γ1) → KX (k r Γ1) → P) : P := by
  unfold M.bind at h
  cases hc : c Γ with
  | none => rw [hc] at h; exact (G.none h).elim
  | some r =>
    rw [hc] at h
    cases r with
    | ok r Γ1 => exact hk r Γ1 hc h
    | exc x Γ1 => exact absurd hc (hx x Γ1)
end

theorem KE.from {W : WX} {r : Option (Res Val)} {Q : VK} (s : Stp g B H σ Γ B1 H1 σ Γ1) (h : KE g W σ B H Γ r Q) : KE g W σ B1 H1 Γ1 r Q := by
  cases r with
  | none => exact h
  | some r =>
    cases r with
    | ok r Γ2 => exact fun B' H' v s2 o => h B' H' v (s.trans s2) (o.base s.dom)
    | exc x Γ2 => exact fun B' H' c d s2 o => h B' H' c d (s.trans s2) o
theorem KM.from {W : WX} {α : Type} {r : Option (Res α)} {Q : α → Hp → Hp → Gm → Prop} (s : Stp g B H σ Γ B1 H1 σ Γ1) (h : KM g W σ B H Γ r Q) : KM g W σ B1 H1 Γ1 r Q := by
  cases r with
  | none => exact h
  | some r =>
    cases r with
    | ok r Γ2 => exact fun B' H' s2 => h B' H' (s.trans s2)
    | exc x Γ2 => exact fun B' H' c d s2 o => h B' H' c d (s.trans s2) o
theorem KS.from {W : WX} {r : Option (Res Flow)} {Q : Ends} (s : Stp g B H σ Γ B1 H1 σ1 Γ1) (h : KS g W σ B H Γ r Q) : KS g W σ1 B1 H1 Γ1 r Q := by
  cases r with
  | none => exact h
  | some r =>
    cases r with
    | ok f Γ2 =>
      intro B' H' σ' s2
      have q := h B' H' σ' (s.trans s2)
      cases f with
      | nx => exact q
      | brk => exact q
      | ct => exact q
      | ret r => exact fun v o => q v (o.base s.dom)
    | exc x Γ2 => exact fun B' H' σ' c d s2 o => h B' H' σ' c d (s.trans s2) o
/-! ### steps of the ghost -/
theorem stp_alloc {p : Addr} {o : HO} (e : EOk g B H σ Γ) (n : H p = none) : Stp g B H σ Γ B (upd H p o) σ Γ := by
  have k : ∀ a u, H a = some u → upd H p o a = some u := fun a u h => by rw [upd_ne (ne_of_none h n)]; exact h
  refine ⟨⟨fun a u h => k a u (e.sub a u h), e.len, fun i t h => ?_, e.sep⟩, Sub.refl _, fun a u h _ => k a u h, fun a h => ?_, fun _ h => .inl h, fun _ h => .inl h, fun i u h => ⟨u, h, rfl⟩⟩
  · have q := e.at_ i t h
    cases t with
    | un => trivial
    | dat d => exact q
    | own b ob =>
      obtain ⟨p', e1, e2, e3⟩ := q
      exact ⟨p', e1, e2, e3.mono (Sub.refl _) fun u hu => k _ _ hu⟩
    | scr ns => exact q
  · cases hh : H a with
    | none => exact absurd hh h
    | some u => rw [k a u hh]; simp
theorem sub_upd {p : Addr} {o : HO} (n : B p = none) : Sub B (upd B p o) := fun a u h => by rw [upd_ne (ne_of_none h n)]; exact h
theorem upd_none {p a : Addr} {o : HO} (h : a ≠ p) (n : B a = none) : upd B p o a = none := by rw [upd_ne h]; exact n
/-- an object that the ghost does not know, new since the base, is frozen -/
theorem stp_frz {B0 H0 : Hp} {Γ0 : Gm} {σ0 : L2.St} {p : Addr} {o : HO} (s : Stp g B0 H0 σ0 Γ0 B H σ Γ) (n0 : H0 p = none) (nb : B p = none) (no : ¬ Own σ Γ p) (h : H p = some o) : Stp g B0 H0 σ0 Γ0 (upd B p o) H σ Γ := by
  have e := s.env
  have sb : Sub B (upd B p o) := sub_upd nb
  refine ⟨⟨fun a u q => ?_, e.len, fun i t q => ?_, e.sep⟩, s.bb.trans sb, s.keep, s.dom, fun a q => ?_, s.own, s.par⟩
  · by_cases ha : a = p
    · subst ha; rw [upd_same] at q; cases q; exact h
    · rw [upd_ne ha] at q; exact e.sub a u q
  · have q := e.at_ i t q
    rename_i ht
    cases t with
    | un => trivial
    | dat d =>
      obtain ⟨v, e1, e2⟩ := q
      exact ⟨v, e1, dq_mono sb e2⟩
    | own b ob =>
      obtain ⟨p', e1, e2, e3⟩ := q
      refine ⟨p', e1, upd_none (fun z => no ?_) e2, e3.mono sb fun _ hu => hu⟩
      subst z
      exact ⟨i, b, ob, ht, e1⟩
    | scr ns =>
      obtain ⟨p', e1, e2⟩ := q
      exact ⟨p', e1, sql_mono sb e2⟩
  · by_cases ha : a = p
    · subst ha; exact .inr (.inl n0)
    · rw [upd_ne ha] at q; exact s.newB a q
/-- a slot's own list is frozen -/
theorem stp_frzLoc {B0 H0 : Hp} {Γ0 : Gm} {σ0 : L2.St} {i : Nat} {ds : List D} (s : Stp g B0 H0 σ0 Γ0 B H σ Γ) (hi : Γ[i]? = some (.own false (.lst ds))) :
    ∃ p vs B', σ[i]? = some (some (.ref p)) ∧ Stp g B0 H0 σ0 Γ0 B' H σ (Γ.set i (.dat (.list ds))) ∧ Dq B' (.ref p) (.list ds) ∧ B' = upd B p (.lst vs) := by
  have e := s.env
  obtain ⟨p, e1, e2, vs, e3, e4⟩ := e.at_ i _ hi
  have sb : Sub B (upd B p (.lst vs)) := sub_upd e2
  have dq : Dq (upd B p (.lst vs)) (.ref p) (.list ds) := .lst upd_same (dqa_mono sb e4)
  have li : i < Γ.length := (List.getElem?_eq_some_iff.mp hi).1
  have ow : ∀ q, Own σ (Γ.set i (.dat (.list ds))) q → Own σ Γ q := fun q ⟨j, b, ob, h1, h2⟩ => by
    by_cases hj : i = j
    · subst hj
      rw [List.getElem?_set_self li] at h1; cases h1
    · rw [List.getElem?_set_ne hj] at h1
      exact ⟨j, b, ob, h1, h2⟩
  refine ⟨p, vs, upd B p (.lst vs), e1, ⟨⟨fun a u q => ?_, by rw [List.length_set]; exact e.len, fun j t q => ?_, fun j k b c o o' q h1 h2 h3 h4 => ?_⟩, s.bb.trans sb, s.keep, s.dom, fun a q => ?_, fun q h => s.own q (ow q h), fun j o h => ?_⟩, dq, rfl⟩
  · by_cases ha : a = p
    · subst ha; rw [upd_same] at q; cases q; exact e3
    · rw [upd_ne ha] at q; exact e.sub a u q
  · by_cases hj : i = j
    · subst hj
      rw [List.getElem?_set_self li] at q; cases q
      exact ⟨_, e1, dq⟩
    · rw [List.getElem?_set_ne hj] at q
      have q' := e.at_ j t q
      cases t with
      | un => trivial
      | dat d =>
        obtain ⟨v, f1, f2⟩ := q'
        exact ⟨v, f1, dq_mono sb f2⟩
      | own b ob =>
        obtain ⟨p', f1, f2, f3⟩ := q'
        refine ⟨p', f1, upd_none (fun z => hj ?_) f2, f3.mono sb fun _ hu => hu⟩
        subst z
        exact e.sep i j _ _ _ _ _ hi q e1 f1
      | scr ns =>
        obtain ⟨p', f1, f2⟩ := q'
        exact ⟨p', f1, sql_mono sb f2⟩
  · have m1 : Γ[j]? = some (.own b o) := by
      by_cases hj : i = j
      · subst hj; rw [List.getElem?_set_self li] at h1; cases h1
      · rw [List.getElem?_set_ne hj] at h1; exact h1
    have m2 : Γ[k]? = some (.own c o') := by
      by_cases hj : i = k
      · subst hj; rw [List.getElem?_set_self li] at h2; cases h2
      · rw [List.getElem?_set_ne hj] at h2; exact h2
    exact e.sep j k b c o o' q m1 m2 h3 h4
  · by_cases ha : a = p
    · subst ha
      rcases s.own a ⟨i, _, _, hi, e1⟩ with z | z
      · exact .inr (.inr z)
      · exact .inr (.inl z)
    · rw [upd_ne ha] at q; exact s.newB a q
  · obtain ⟨o', h1, h2⟩ := s.par j o h
    refine ⟨o', ?_, h2⟩
    by_cases hj : i = j
    · subst hj; rw [hi] at h1; cases h1
    · rw [List.getElem?_set_ne hj]; exact h1

/-- a value frozen -/
def frz (r : Val) : M D := fun Γ => match r with
  | .dat d => some (.ok d Γ)
  | .new (.lst ds) => some (.ok (.list ds) Γ)
  | .new _ => none
  | .loc i => match Γ[i]? with
    | some (.dat d) => some (.ok d Γ)
    | some (.own false (.lst ds)) => some (.ok (.list ds) (Γ.set i (.dat (.list ds))))
    | _ => none
theorem frz_noexc {r : Val} {x : Exn} : frz r Γ ≠ some (.exc x Γ1) := by
  intro h
  unfold frz at h
  split at h <;> first | (cases h; done) | skip
  split at h <;> cases h
theorem frz_ok {B0 H0 : Hp} {Γ0 : Gm} {σ0 : L2.St} {r : Val} {v : V} {d : D} (s : Stp g B0 H0 σ0 Γ0 B H σ Γ) (o : ValOk g H0 B H σ Γ v r) (h : frz r Γ = some (.ok d Γ1)) :
    ∃ B1, Stp g B0 H0 σ0 Γ0 B1 H σ Γ1 ∧ Dq B1 v d ∧ Sub B B1 := by
  unfold frz at h
  split at h
  · cases h
    exact ⟨B, s, o, Sub.refl _⟩
  · cases h
    obtain ⟨p, rfl, nb, n0, no, vs, e1, e2⟩ := o
    exact ⟨_, stp_frz s n0 nb no e1, .lst upd_same (dqa_mono (sub_upd nb) e2), sub_upd nb⟩
  · cases h
  · rename_i i
    have ov : σ[i]? = some (some v) := o
    split at h
    · rename_i dd hd
      cases h
      obtain ⟨v', e1, e2⟩ := s.env.at_ i _ hd
      rw [ov] at e1; cases e1
      exact ⟨B, s, e2, Sub.refl _⟩
    · rename_i ds hd
      cases h
      obtain ⟨p, vs, B', e1, s1, dq, rfl⟩ := stp_frzLoc s hd
      rw [ov] at e1; cases e1
      obtain ⟨p2, q1, q2, _⟩ := s.env.at_ i _ hd
      rw [ov] at q1; cases q1
      exact ⟨_, s1, dq, sub_upd q2⟩
    · cases h

/-! ### reading lists -/
def lookL (Γ : Gm) : Val → Option (List D)
  | .dat (.list ds) => some ds
  | .new (.lst ds) => some ds
  | .loc i => match Γ[i]? with
    | some (.own _ (.lst ds)) => some ds
    | some (.dat (.list ds)) => some ds
    | _ => none
  | _ => none
theorem lk_trk {H0 : Hp} {r : Val} {v : V} {ds : List D} (e : EOk g B H σ Γ) (o : ValOk g H0 B H σ Γ v r) (h : lookL Γ r = some ds) : ∃ p vs, v = .ref p ∧ H p = some (.lst vs) ∧ DqA B vs ds := by
  unfold lookL at h
  split at h
  · cases h
    have o' : Dq B v (.list ds) := o
    cases o' with
    | lst h1 h2 => exact ⟨_, _, rfl, e.sub _ _ h1, h2⟩
  · cases h
    obtain ⟨p, rfl, nb, n0, no, vs, e1, e2⟩ := o
    exact ⟨p, vs, rfl, e1, e2⟩
  · rename_i i
    have ov : σ[i]? = some (some v) := o
    split at h
    · rename_i hd
      cases h
      obtain ⟨p, q1, q2, vs, q3, q4⟩ := e.at_ i _ hd
      rw [ov] at q1; cases q1
      exact ⟨p, vs, rfl, q3, q4⟩
    · rename_i hd
      cases h
      obtain ⟨v', e1, e2⟩ := e.at_ i _ hd
      rw [ov] at e1; cases e1
      cases e2 with
      | lst h1 h2 => exact ⟨_, _, rfl, e.sub _ _ h1, h2⟩
    · cases h
  · cases h
/-- .. the script too -/
def lookR (Γ : Gm) (r : Val) : Option (List D) := match r with
  | .loc i => match Γ[i]? with
    | some (.scr ns) => some (ns.map PyData.int)
    | _ => lookL Γ r
  | _ => lookL Γ r
theorem lk_read {H0 : Hp} {r : Val} {v : V} {ds : List D} (e : EOk g B H σ Γ) (o : ValOk g H0 B H σ Γ v r) (h : lookR Γ r = some ds) : ∃ p vs, v = .ref p ∧ SqL g.K H p vs ∧ DqA B vs ds := by
  have main : lookL Γ r = some ds → ∃ p vs, v = .ref p ∧ SqL g.K H p vs ∧ DqA B vs ds := fun h => by
    obtain ⟨p, vs, e1, e2, e3⟩ := lk_trk e o h
    exact ⟨p, vs, e1, SqL.of e2, e3⟩
  unfold lookR at h
  split at h
  · rename_i i
    have ov : σ[i]? = some (some v) := o
    split at h
    · rename_i ns hd
      cases h
      obtain ⟨p, q1, q2⟩ := e.at_ i _ hd
      rw [ov] at q1; cases q1
      exact ⟨p, _, rfl, sql_mono e.sub q2, dqa_ints ns⟩
    · exact main h
  · exact main h
/-- data to be read, as it stands -/
def datR (Γ : Gm) (r : Val) : Option D := match r with
  | .dat d => some d
  | .loc i => match Γ[i]? with
    | some (.dat d) => some d
    | some (.own _ (.lst ds)) => some (.list ds)
    | _ => none
  | .new (.lst ds) => some (.list ds)
  | _ => none
theorem dat_read {H0 : Hp} {r : Val} {v : V} {d : D} (e : EOk g B H σ Γ) (o : ValOk g H0 B H σ Γ v r) (h : datR Γ r = some d) : Dq H v d := by
  unfold datR at h
  split at h
  · cases h
    exact dq_mono e.sub o
  · rename_i i
    have ov : σ[i]? = some (some v) := o
    split at h
    · rename_i hd
      cases h
      obtain ⟨v', e1, e2⟩ := e.at_ i _ hd
      rw [ov] at e1; cases e1
      exact dq_mono e.sub e2
    · rename_i hd
      cases h
      obtain ⟨p, q1, q2, vs, q3, q4⟩ := e.at_ i _ hd
      rw [ov] at q1; cases q1
      exact .lst q3 (dqa_mono e.sub q4)
    · cases h
  · cases h
    obtain ⟨p, rfl, nb, n0, no, vs, e1, e2⟩ := o
    exact .lst e1 (dqa_mono e.sub e2)
  · cases h

/-! ### ends of an expression -/
section
variable {W : WX} {B0 H0 : Hp} {Γ0 : Gm}
theorem ke_val {Q : VK} {v : V} {r : Val} (s : Stp g B0 H0 σ Γ0 B H σ Γ) (h : KE g W σ B0 H0 Γ0 (some (.ok r Γ)) Q) (o : ValOk g H0 B H σ Γ v r) : Q v H := h B H v s o
theorem ke_dat {Q : VK} {v : V} {d : D} (s : Stp g B0 H0 σ Γ0 B H σ Γ) (h : KE g W σ B0 H0 Γ0 (some (.ok (.dat d) Γ)) Q) (o : Dq B v d) : Q v H := h B H v s o
theorem fresh0 (s : Stp g B0 H0 σ Γ0 B H σ Γ) {p : Addr} (n : H p = none) : H0 p = none := by
  by_cases hh : H0 p = none
  · exact hh
  · exact absurd n (s.dom p hh)
theorem fresh_own (e : EOk g B H σ Γ) {p : Addr} (n : H p = none) : ¬ Own σ Γ p := fun q => (e.own_some q).1 n
theorem fresh_b (e : EOk g B H σ Γ) {p : Addr} (n : H p = none) : B p = none := by
  cases hb : B p with
  | none => rfl
  | some u => rw [e.sub p u hb] at n; cases n
theorem ke_newL {Q : VK} {p : Addr} {vs : List V} {ds : List D} (s : Stp g B0 H0 σ Γ0 B H σ Γ) (h : KE g W σ B0 H0 Γ0 (some (.ok (.new (.lst ds)) Γ)) Q) (n : H p = none) (a : DqA B vs ds) : Q (.ref p) (upd H p (.lst vs)) :=
  h B _ _ (s.trans (stp_alloc s.env n)) ⟨p, rfl, fresh_b s.env n, fresh0 s n, fresh_own s.env n, vs, upd_same, a⟩
theorem ke_tup {Q : VK} {p : Addr} {vs : List V} {ds : List D} (s : Stp g B0 H0 σ Γ0 B H σ Γ) (h : KE g W σ B0 H0 Γ0 (some (.ok (.dat (.tuple ds)) Γ)) Q) (n : H p = none) (a : DqA B vs ds) : Q (.ref p) (upd H p (.tup vs)) := by
  have s1 := s.trans (stp_alloc (p := p) (o := .tup vs) s.env n)
  have nb := fresh_b s.env n
  exact h _ _ _ (stp_frz s1 (fresh0 s n) nb (fresh_own s.env n) upd_same) (Dq.tup upd_same (dqa_mono (sub_upd nb) a))
end
end E


set_option Elab.async false
set_option linter.all false
set_option maxRecDepth 100000
set_option maxHeartbeats 1000000
namespace E
open PySem L2 PyProof.Rows

variable {g : Gx} {B B1 B2 B' H H1 H2 H' : Hp} {σ σ1 σ2 σ' : L2.St} {Γ Γ1 Γ2 Γ' : Gm} {W : WX} {X : Cx}

/-! ### constants, names -/
def cC (d : D) : M Val := M.ret (.dat d)
def cV (i : Nat) : M Val := fun Γ => match Γ[i]? with
  | some (.dat d) => some (.ok (.dat d) Γ)
  | some (.own _ _) => some (.ok (.loc i) Γ)
  | some (.scr _) => some (.ok (.loc i) Γ)
  | _ => none
theorem tc_ok {v : V} {d : D} (hd : ∀ B, Dq B v d) {Q : VK} (h : tE g W (cC d) σ H Q) : tC v σ H Q := by
  obtain ⟨B, Γ, e, h⟩ := h
  exact ke_dat (Stp.refl e) h (hd B)
theorem e_int {i j pos} : PE X (.Constant (.int i) j pos) (tE (gx X) W (cC (.int i))) := PE.weak pe_int fun _ _ _ h => tc_ok (fun _ => .int i) h
theorem e_bl {b j pos} : PE X (.Constant (.bool b) j pos) (tE (gx X) W (cC (.bool b))) := PE.weak pe_bl fun _ _ _ h => tc_ok (fun _ => .bl b) h
theorem e_non {j pos} : PE X (.Constant .none j pos) (tE (gx X) W (cC .none)) := PE.weak pe_non fun _ _ _ h => tc_ok (fun _ => .non) h
theorem e_str {x j pos} : PE X (.Constant (.str x) j pos) (tE (gx X) W (cC (.str x))) := PE.weak pe_str fun _ _ _ h => tc_ok (fun _ => .str x) h
theorem e_globI {x : Str} {i : Int} {t : Tok} {pos : Pos} (hg : Gl X x) (hm : X.mg x = some (.int i t)) (hd : (x == ("__debug__" : Str)) = false := by decide) : PE X (.Name x pos) (tE (gx X) W (cC (.int i))) :=
  PE.weak (pe_glob (v := .int i) hg hm ⟨_, rfl⟩ hd) fun _ _ _ h => tc_ok (fun _ => .int i) h
theorem e_globS {x y : Str} {t : Tok} {pos : Pos} (hg : Gl X x) (hm : X.mg x = some (.str y t)) (hd : (x == ("__debug__" : Str)) = false := by decide) : PE X (.Name x pos) (tE (gx X) W (cC (.str y))) :=
  PE.weak (pe_glob (v := .str y) hg hm ⟨_, rfl⟩ hd) fun _ _ _ h => tc_ok (fun _ => .str y) h
theorem tv_ok {i : Nat} {Q : VK} (h : tE g W (cV i) σ H Q) : tVar i σ H Q := by
  obtain ⟨B, Γ, e, h⟩ := h
  have s := Stp.refl e
  unfold cV at h
  split at h
  · rename_i hd
    obtain ⟨v, e1, e2⟩ := e.at_ i _ hd
    exact ⟨v, e1, ke_dat s h e2⟩
  · rename_i hd
    obtain ⟨p, e1, _⟩ := e.at_ i _ hd
    exact ⟨_, e1, ke_val s h e1⟩
  · rename_i hd
    obtain ⟨p, e1, _⟩ := e.at_ i _ hd
    exact ⟨_, e1, ke_val s h e1⟩
  · exact h.elim
theorem e_v (i : Nat) {x : Str} {pos : Pos} (hN : X.N[i]? = some x := by rfl) (hv : Vis X.env.scope x := by first | exact Or.inl rfl | exact Or.inr (Or.inl rfl) | exact Or.inr (Or.inr rfl)) (hd : (x == ("__debug__" : Str)) = false := by decide)
    (hcd : (x == ("__classdict__" : Str)) = false := by decide) : PE X (.Name x pos) (tE (gx X) W (cV i)) := PE.weak (pe_var hN hv hd hcd) fun _ _ _ h => tv_ok h

/-! ### one and two operands -/
def c1 (f : Gm → Val → Option Val) (a : M Val) : M Val := a.bind fun x Γ => (f Γ x).map fun z => .ok z Γ
def c2 (f : Gm → Val → Val → Option Val) (a b : M Val) : M Val := a.bind fun x => b.bind fun y Γ => (f Γ x y).map fun z => .ok z Γ
def Snd1 (g : Gx) (W : WX) (r : V → Hp → VK → Prop) (f : Gm → Val → Option Val) : Prop :=
  ∀ (σ : L2.St) (B0 H0 : Hp) (Γ0 : Gm) (B H : Hp) (Γ : Gm) (v : V) (x z : Val) (Q : VK), Stp g B0 H0 σ Γ0 B H σ Γ → ValOk g H0 B H σ Γ v x → f Γ x = some z → KE g W σ B0 H0 Γ0 (some (.ok z Γ)) Q → r v H Q
def Snd2 (g : Gx) (W : WX) (r : R2) (f : Gm → Val → Val → Option Val) : Prop :=
  ∀ (σ : L2.St) (B0 H0 : Hp) (Γ0 : Gm) (B H : Hp) (Γ : Gm) (v u : V) (x y z : Val) (Q : VK), Stp g B0 H0 σ Γ0 B H σ Γ → ValOk g H0 B H σ Γ v x → ValOk g H0 B H σ Γ u y → f Γ x y = some z →
    KE g W σ B0 H0 Γ0 (some (.ok z Γ)) Q → r v u H Q
theorem c1_ok {r : V → Hp → VK → Prop} {f : Gm → Val → Option Val} (S : Snd1 g W r f) {ca : M Val} {Q : VK} (h : tE g W (c1 f ca) σ H Q) : tE g W ca σ H fun x H1 => r x H1 Q := by
  obtain ⟨B, Γ, e, h⟩ := h
  refine te_bind (KX := fun r => KE g W σ B H Γ r Q) gl_e (Stp.refl e) h fun B1 H1 v x Γ1 s1 _ o h1 => ?_
  cases hf : f Γ1 x with
  | none => rw [hf] at h1; exact h1.elim
  | some z => rw [hf] at h1; exact S σ B H Γ B1 H1 Γ1 v x z Q s1 o hf h1
theorem c2_ok {r : R2} {f : Gm → Val → Val → Option Val} (S : Snd2 g W r f) {ca cb : M Val} {Q : VK} (h : tE g W (c2 f ca cb) σ H Q) : tOp r (tE g W ca) (tE g W cb) σ H Q := by
  obtain ⟨B, Γ, e, h⟩ := h
  refine te_bind (KX := fun r => KE g W σ B H Γ r Q) gl_e (Stp.refl e) h fun B1 H1 v x Γ1 s1 _ o h1 => ?_
  refine te_bind (KX := fun r => KE g W σ B H Γ r Q) gl_e s1 h1 fun B2 H2 u y Γ2 s2 s12 o2 h2 => ?_
  cases hf : f Γ2 x y with
  | none => rw [hf] at h2; exact h2.elim
  | some z => rw [hf] at h2; exact S σ B H Γ B2 H2 Γ2 v u x y z Q s2 (o.step s12) (o2.base s1.dom) hf h2
theorem Snd2.or {r r' : R2} {f f' : Gm → Val → Val → Option Val} (h : Snd2 g W r f) (h' : Snd2 g W r' f') : Snd2 g W (fun x y H Q => r x y H Q ∨ r' x y H Q) (fun Γ x y => (f Γ x y).or (f' Γ x y)) := by
  intro σ B0 H0 Γ0 B H Γ v u x y z Q s o1 o2 e k
  dsimp only at e
  cases hf : f Γ x y with
  | none => rw [hf] at e; exact .inr (h' σ B0 H0 Γ0 B H Γ v u x y z Q s o1 o2 e k)
  | some w => rw [hf] at e; cases e; exact .inl (h σ B0 H0 Γ0 B H Γ v u x y _ Q s o1 o2 hf k)
theorem e_op {op : Operator} {r : R2} {f : Gm → Val → Val → Option Val} {a b : PySem.Expr} {pos : Pos} {ca cb : M Val} (ho : OpR X (binaryOp op) r) (S : Snd2 (gx X) W r f) (ha : PE X a (tE (gx X) W ca)) (hb : PE X b (tE (gx X) W cb)) :
    PE X (.BinOp a op b pos) (tE (gx X) W (c2 f ca cb)) := PE.weak (pe_op ho ha hb) fun _ _ _ h => c2_ok S h
theorem e_cmp {op : CmpOp} {r : R2} {f : Gm → Val → Val → Option Val} {a b : PySem.Expr} {pos : Pos} {ca cb : M Val} (ho : OpR X (compareOp op) r) (S : Snd2 (gx X) W r f) (ha : PE X a (tE (gx X) W ca)) (hb : PE X b (tE (gx X) W cb))
    (hm : behindInMarks op b = false) : PE X (.Compare a [op] [b] pos) (tE (gx X) W (c2 f ca cb)) := PE.weak (pe_cmpR ho ha hb hm) fun _ _ _ h => c2_ok S h
theorem e_un {op : UnaryOp} {r : V → Hp → VK → Prop} {f : Gm → Val → Option Val} {a : PySem.Expr} {pos : Pos} {ca : M Val} (ho : UnR X (unaryOp op) r) (S : Snd1 (gx X) W r f) (ha : PE X a (tE (gx X) W ca)) :
    PE X (.UnaryOp op a pos) (tE (gx X) W (c1 f ca)) := PE.weak (pe_un ho ha) fun _ _ _ h => c1_ok S h

/-! ### ints -/
def fI2 (k : Int → Int → Option D) (_ : Gm) : Val → Val → Option Val
  | .dat (.int i), .dat (.int j) => (k i j).map .dat
  | _, _ => none
theorem sI2 {C : Int → Int → Prop} {gI : Int → Int → V} {k : Int → Int → Option D} (hk : ∀ i j d, k i j = some d → C i j ∧ ∀ B, Dq B (gI i j) d) : Snd2 g W (rI C gI) (fI2 k) := by
  intro σ B0 H0 Γ0 B H Γ v u x y z Q s o1 o2 e q
  unfold fI2 at e
  split at e
  · rename_i i j
    cases hki : k i j with
    | none => rw [hki] at e; cases e
    | some d =>
      rw [hki] at e
      cases e
      obtain ⟨hc, hd⟩ := hk i j d hki
      cases (show Dq B v (.int i) from o1)
      cases (show Dq B u (.int j) from o2)
      exact ⟨i, j, rfl, rfl, hc, ke_dat s q (hd B)⟩
  · cases e
theorem sI0 {gI : Int → Int → V} {k : Int → Int → D} (hk : ∀ i j B, Dq B (gI i j) (k i j)) : Snd2 g W (rI0 gI) (fI2 fun i j => some (k i j)) := by
  intro σ B0 H0 Γ0 B H Γ v u x y z Q s o1 o2 e q
  unfold fI2 at e
  split at e
  · rename_i i j
    cases e
    cases (show Dq B v (.int i) from o1)
    cases (show Dq B u (.int j) from o2)
    exact ⟨i, j, rfl, rfl, ke_dat s q (hk i j B)⟩
  · cases e
def fCat (Γ : Gm) (x y : Val) : Option Val := match lookL Γ x, lookL Γ y with
  | some xs, some ys => if xs.length + ys.length ≤ 1000000 then some (.new (.lst (xs ++ ys))) else none
  | _, _ => none
theorem sCat : Snd2 g W rCat fCat := by
  intro σ B0 H0 Γ0 B H Γ v u x y z Q s o1 o2 e q
  unfold fCat at e
  split at e
  · rename_i xs ys hx hy
    split at e
    · rename_i hl
      cases e
      obtain ⟨p, vs, rfl, e1, a1⟩ := lk_trk s.env o1 hx
      obtain ⟨p2, ws, rfl, e2, a2⟩ := lk_trk s.env o2 hy
      refine ⟨p, p2, vs, ws, rfl, rfl, e1, e2, ?_, fun p3 n => ke_newL s q n (dqa_app a1 a2)⟩
      rw [dqa_len a1, dqa_len a2]
      exact Nat.le_trans hl (by decide)
    · cases e
  · cases e
def fAdd : Gm → Val → Val → Option Val := fun Γ x y => (fI2 (fun i j => some (.int (i + j))) Γ x y).or (fCat Γ x y)
theorem sAdd : Snd2 g W (fun x y H Q => rI0 (fun i j => .int (i + j)) x y H Q ∨ rCat x y H Q) fAdd := Snd2.or (sI0 fun i j B => .int _) sCat
theorem e_add {a b : PySem.Expr} {pos : Pos} {ca cb : M Val} (ha : PE X a (tE (gx X) W ca)) (hb : PE X b (tE (gx X) W cb)) : PE X (.BinOp a .Add b pos) (tE (gx X) W (c2 fAdd ca cb)) := e_op (OpR.or op_add op_cat) sAdd ha hb
def fSub : Gm → Val → Val → Option Val := fI2 fun i j => some (.int (i - j))
theorem e_sub {a b : PySem.Expr} {pos : Pos} {ca cb : M Val} (ha : PE X a (tE (gx X) W ca)) (hb : PE X b (tE (gx X) W cb)) : PE X (.BinOp a .Sub b pos) (tE (gx X) W (c2 fSub ca cb)) := e_op op_sub (sI0 fun i j B => .int _) ha hb
def fRep (Γ : Gm) (x : Val) : Val → Option Val
  | .dat (.int k) => match lookL Γ x with
    | some xs => if xs.length * k.toNat ≤ 1000000 ∧ -(2 ^ 63) ≤ k ∧ k < 2 ^ 63 then some (.new (.lst (List.replicate k.toNat xs).flatten)) else none
    | none => none
  | _ => none
theorem sRep : Snd2 g W rRep fRep := by
  intro σ B0 H0 Γ0 B H Γ v u x y z Q s o1 o2 e q
  unfold fRep at e
  split at e
  · rename_i k
    split at e
    · rename_i xs hx
      split at e
      · rename_i hl
        cases e
        obtain ⟨p, vs, rfl, e1, a1⟩ := lk_trk s.env o1 hx
        cases (show Dq B u (.int k) from o2)
        refine ⟨p, k, vs, rfl, rfl, e1, hl.2.1, hl.2.2, ?_, fun p3 n => ke_newL s q n (dqa_rep a1 _)⟩
        rw [dqa_len a1]
        exact Nat.le_trans hl.1 (by decide)
      · cases e
    · cases e
  · cases e
def kMul (i j : Int) : Option D := if i.natAbs.log2 + j.natAbs.log2 < 1000000 then some (.int (i * j)) else none
def fMul : Gm → Val → Val → Option Val := fun Γ x y => (fI2 kMul Γ x y).or (fRep Γ x y)
theorem e_mul {a b : PySem.Expr} {pos : Pos} {ca cb : M Val} (ha : PE X a (tE (gx X) W ca)) (hb : PE X b (tE (gx X) W cb)) : PE X (.BinOp a .Mult b pos) (tE (gx X) W (c2 fMul ca cb)) :=
  e_op (OpR.or op_mulW op_rep) (Snd2.or (sI2 fun i j d h => by
    unfold kMul at h
    split at h
    · cases h
      exact ⟨by assumption, fun _ => .int _⟩
    · cases h) sRep) ha hb
def kDiv (i j : Int) : Option D := if 0 < j ∧ j.natAbs.log2 < 9000 then some (.int (i / j)) else none
def fDiv : Gm → Val → Val → Option Val := fI2 kDiv
theorem e_div {a b : PySem.Expr} {pos : Pos} {ca cb : M Val} (ha : PE X a (tE (gx X) W ca)) (hb : PE X b (tE (gx X) W cb)) : PE X (.BinOp a .FloorDiv b pos) (tE (gx X) W (c2 fDiv ca cb)) :=
  e_op op_fdivW (sI2 fun i j d h => by
    unfold kDiv at h
    split at h
    · cases h
      exact ⟨by assumption, fun _ => .int _⟩
    · cases h) ha hb
def kMod (i j : Int) : Option D := if 0 < j then some (.int (i % j)) else none
def fMod : Gm → Val → Val → Option Val := fI2 kMod
theorem e_mod {a b : PySem.Expr} {pos : Pos} {ca cb : M Val} (ha : PE X a (tE (gx X) W ca)) (hb : PE X b (tE (gx X) W cb)) : PE X (.BinOp a .Mod b pos) (tE (gx X) W (c2 fMod ca cb)) :=
  e_op op_mod (sI2 fun i j d h => by
    unfold kMod at h
    split at h
    · cases h
      exact ⟨by assumption, fun _ => .int _⟩
    · cases h) ha hb
def kPow (i j : Int) : Option D := if 0 ≤ j ∧ ((i.natAbs.log2 + 1 : Nat) : Int) * j ≤ 2 ^ 27 then some (.int (i ^ j.toNat)) else none
def fPow : Gm → Val → Val → Option Val := fI2 kPow
theorem op_powW : OpR X (binaryOp .Pow) (rI (fun i j => 0 ≤ j ∧ ((i.natAbs.log2 + 1 : Nat) : Int) * j ≤ 2 ^ 27) fun i j => .int (i ^ j.toNat)) := opI fun i j _ _ _ _ _ hc q => by
  refine pow_int hc.1 ?_ q
  have h1 : (Builtin.Int.intBits i : Int) ≤ ((i.natAbs.log2 + 1 : Nat) : Int) := by
    unfold Builtin.Int.intBits
    split <;> omega
  exact Int.le_trans (Int.mul_le_mul_of_nonneg_right h1 hc.1) hc.2
theorem e_pow {a b : PySem.Expr} {pos : Pos} {ca cb : M Val} (ha : PE X a (tE (gx X) W ca)) (hb : PE X b (tE (gx X) W cb)) : PE X (.BinOp a .Pow b pos) (tE (gx X) W (c2 fPow ca cb)) :=
  e_op op_powW (sI2 fun i j d h => by
    unfold kPow at h
    split at h
    · cases h
      exact ⟨by assumption, fun _ => .int _⟩
    · cases h) ha hb
def fNeg (_ : Gm) : Val → Option Val
  | .dat (.int i) => some (.dat (.int (-i)))
  | _ => none
theorem e_neg {a : PySem.Expr} {pos : Pos} {ca : M Val} (ha : PE X a (tE (gx X) W ca)) : PE X (.UnaryOp .USub a pos) (tE (gx X) W (c1 fNeg ca)) := e_un un_neg (fun σ B0 H0 Γ0 B H Γ v x z Q s o e q => by
  unfold fNeg at e
  split at e
  · rename_i i
    cases e
    cases (show Dq B v (.int i) from o)
    exact ⟨i, rfl, ke_dat s q (.int _)⟩
  · cases e) ha

/-! ### comparisons -/
def fLt : Gm → Val → Val → Option Val := fI2 fun i j => some (.bool (decide (i < j)))
def fLe : Gm → Val → Val → Option Val := fI2 fun i j => some (.bool (decide (i ≤ j)))
def fGt : Gm → Val → Val → Option Val := fI2 fun i j => some (.bool (decide (j < i)))
def fGe : Gm → Val → Val → Option Val := fI2 fun i j => some (.bool (decide (j ≤ i)))
section
variable {a b : PySem.Expr} {pos : Pos} {ca cb : M Val}
theorem sLt : Snd2 g W (rI0 fun i j => .bl (decide (i < j))) fLt := sI0 fun _ _ _ => .bl _
theorem sLe : Snd2 g W (rI0 fun i j => .bl (decide (i ≤ j))) fLe := sI0 fun _ _ _ => .bl _
theorem sGt : Snd2 g W (rI0 fun i j => .bl (decide (j < i))) fGt := sI0 fun _ _ _ => .bl _
theorem sGe : Snd2 g W (rI0 fun i j => .bl (decide (j ≤ i))) fGe := sI0 fun _ _ _ => .bl _
theorem e_lt (ha : PE X a (tE (gx X) W ca)) (hb : PE X b (tE (gx X) W cb)) : PE X (.Compare a [.Lt] [b] pos) (tE (gx X) W (c2 fLt ca cb)) := e_cmp op_lt sLt ha hb (nomark _)
theorem e_le (ha : PE X a (tE (gx X) W ca)) (hb : PE X b (tE (gx X) W cb)) : PE X (.Compare a [.LtE] [b] pos) (tE (gx X) W (c2 fLe ca cb)) := e_cmp op_le sLe ha hb (nomark _)
theorem e_gt (ha : PE X a (tE (gx X) W ca)) (hb : PE X b (tE (gx X) W cb)) : PE X (.Compare a [.Gt] [b] pos) (tE (gx X) W (c2 fGt ca cb)) := e_cmp op_gt sGt ha hb (nomark _)
theorem e_ge (ha : PE X a (tE (gx X) W ca)) (hb : PE X b (tE (gx X) W cb)) : PE X (.Compare a [.GtE] [b] pos) (tE (gx X) W (c2 fGe ca cb)) := e_cmp op_ge sGe ha hb (nomark _)
end
/-- == of data: ints at once, else by the whole -/
def eqD (d e : D) : Option Bool := if SeqAt.shaped d && SeqAt.shaped e && flatD d && flatD e then some (PyData.eqv d e) else none
def fEqD (neg : Bool) (Γ : Gm) (x y : Val) : Option Val := match datR Γ x, datR Γ y with
  | some d, some e => (eqD d e).map fun k => .dat (.bool (if neg then !k else k))
  | _, _ => none
def fEq : Gm → Val → Val → Option Val := fun Γ x y => (fI2 (fun i j => some (.bool (decide (i = j)))) Γ x y).or (fEqD false Γ x y)
def fNe : Gm → Val → Val → Option Val := fun Γ x y => (fI2 (fun i j => some (.bool (!decide (i = j)))) Γ x y).or (fEqD true Γ x y)
theorem eqD_ok {d e : D} {k : Bool} (h : eqD d e = some k) : SeqAt.shaped d = true ∧ SeqAt.shaped e = true ∧ flatD d = true ∧ flatD e = true ∧ k = PyData.eqv d e := by
  unfold eqD at h
  split at h
  · rename_i c
    simp only [Bool.and_eq_true] at c
    cases h
    exact ⟨c.1.1.1, c.1.1.2, c.1.2, c.2, rfl⟩
  · cases h
theorem sEqD : Snd2 (gx X) W (rEqD X.K) (fEqD false) := by
  intro σ B0 H0 Γ0 B H Γ v u x y z Q s o1 o2 e q
  unfold fEqD at e
  split at e
  · rename_i d1 d2 h1 h2
    cases hk : eqD d1 d2 with
    | none => rw [hk] at e; cases e
    | some k =>
      rw [hk] at e
      cases e
      obtain ⟨a1, a2, a3, a4, rfl⟩ := eqD_ok hk
      exact ⟨d1, d2, dq_dp _ _ a3 (dat_read s.env o1 h1), dq_dp _ _ a4 (dat_read s.env o2 h2), a1, a2, ke_dat s q (.bl _)⟩
  · cases e
theorem sNeD : Snd2 (gx X) W (rNeD X.K) (fEqD true) := by
  intro σ B0 H0 Γ0 B H Γ v u x y z Q s o1 o2 e q
  unfold fEqD at e
  split at e
  · rename_i d1 d2 h1 h2
    cases hk : eqD d1 d2 with
    | none => rw [hk] at e; cases e
    | some k =>
      rw [hk] at e
      cases e
      obtain ⟨a1, a2, a3, a4, rfl⟩ := eqD_ok hk
      exact ⟨d1, d2, dq_dp _ _ a3 (dat_read s.env o1 h1), dq_dp _ _ a4 (dat_read s.env o2 h2), a1, a2, ke_dat s q (.bl _)⟩
  · cases e
def rEqI : R2 := rI0 fun i j => .bl (decide (i = j))
def rNeI : R2 := rI0 fun i j => .bl (!decide (i = j))
theorem op_eqI : OpR X (compareOp .Eq) rEqI := opB0 fun i j t u s Q E h => eq_int (by rw [Bool.beq_eq_decide_eq]; exact h)
theorem op_neI : OpR X (compareOp .NotEq) rNeI := opB0 fun i j t u s Q E h => ne_int (by rw [bne, Bool.beq_eq_decide_eq]; exact h)
section
variable {a b : PySem.Expr} {pos : Pos} {ca cb : M Val}
theorem sEq : Snd2 (gx X) W (fun x y H Q => rEqI x y H Q ∨ rEqD X.K x y H Q) fEq := Snd2.or (sI0 fun _ _ _ => .bl _) sEqD
theorem sNe : Snd2 (gx X) W (fun x y H Q => rNeI x y H Q ∨ rNeD X.K x y H Q) fNe := Snd2.or (sI0 fun _ _ _ => .bl _) sNeD
theorem e_eq (hu : X.A.units + 64 < cLine) (ha : PE X a (tE (gx X) W ca)) (hb : PE X b (tE (gx X) W cb)) : PE X (.Compare a [.Eq] [b] pos) (tE (gx X) W (c2 fEq ca cb)) := e_cmp (OpR.or op_eqI (op_eqD hu)) sEq ha hb (nomark _)
theorem e_ne (hu : X.A.units + 64 < cLine) (ha : PE X a (tE (gx X) W ca)) (hb : PE X b (tE (gx X) W cb)) : PE X (.Compare a [.NotEq] [b] pos) (tE (gx X) W (c2 fNe ca cb)) := e_cmp (OpR.or op_neI (op_neD hu)) sNe ha hb (nomark _)
end
/-- is None -/
def isNone (Γ : Gm) : Val → Bool
  | .dat .none => true
  | .loc i => match Γ[i]? with
    | some (.dat .none) => true
    | _ => false
  | _ => false
def fIsN (neg : Bool) (Γ : Gm) (x : Val) : Option Val := match datR Γ x with
  | some .none => some (.dat (.bool (!neg)))
  | some _ => some (.dat (.bool neg))
  | none => none
theorem dq_non {v : V} {d : D} (h : Dq B v d) : v = .non ↔ d = .none := by
  cases h <;> simp
theorem e_isN {a : PySem.Expr} {pos pos' : Pos} {j} {ca : M Val} (ha : PE X a (tE (gx X) W ca)) : PE X (.Compare a [.Is] [.Constant .none j pos'] pos) (tE (gx X) W (c1 (fIsN false) ca)) :=
  PE.weak (pe_cmp (pc_isN ha) rfl) fun σ H Q h => c1_ok (r := fun x H1 Q => Q (.bl (decide (x = .non))) H1) (fun σ B0 H0 Γ0 B H Γ v x z Q s o e q => by
    unfold fIsN at e
    split at e
    · rename_i hd
      cases e
      have := (dq_non (dat_read s.env o hd)).mpr rfl
      subst this
      exact ke_dat s q (.bl _)
    · rename_i d hn hd
      cases e
      have h1 : v ≠ .non := fun z => hn ((dq_non (dat_read s.env o hd)).mp z)
      rw [decide_eq_false h1]
      exact ke_dat s q (.bl _)
    · cases e) h
theorem e_notN {a : PySem.Expr} {pos pos' : Pos} {j} {ca : M Val} (ha : PE X a (tE (gx X) W ca)) : PE X (.Compare a [.IsNot] [.Constant .none j pos'] pos) (tE (gx X) W (c1 (fIsN true) ca)) :=
  PE.weak (pe_cmp (pc_notN ha) rfl) fun σ H Q h => c1_ok (r := fun x H1 Q => Q (.bl (!decide (x = .non))) H1) (fun σ B0 H0 Γ0 B H Γ v x z Q s o e q => by
    unfold fIsN at e
    split at e
    · rename_i hd
      cases e
      have := (dq_non (dat_read s.env o hd)).mpr rfl
      subst this
      exact ke_dat s q (.bl _)
    · rename_i d hn hd
      cases e
      have h1 : v ≠ .non := fun z => hn ((dq_non (dat_read s.env o hd)).mp z)
      rw [decide_eq_false h1]
      exact ke_dat s q (.bl _)
    · cases e) h
end E


set_option Elab.async false
set_option linter.all false
set_option maxRecDepth 100000
set_option maxHeartbeats 1000000
namespace E
open PySem L2 PyProof.Rows

variable {g : Gx} {B B1 B2 B' H H1 H2 H' : Hp} {σ σ1 σ2 σ' : L2.St} {Γ Γ1 Γ2 Γ' : Gm} {W : WX} {X : Cx} {a b e : PySem.Expr} {es : List PySem.Expr} {pos : Pos} {ca cb : M Val}

/-! ### tests -/
def asB (c : M Val) : M Bool := c.bind fun x Γ => match x with
  | .dat (.bool k) => some (.ok k Γ)
  | _ => none
theorem asB_ok {Q : Bool → Hp → Prop} {c : M Val} (h : tT g W (asB c) σ H Q) : tE g W c σ H fun x H1 => ∃ k, x = .bl k ∧ Q k H1 := by
  obtain ⟨B, Γ, e, h⟩ := h
  refine te_bind (KX := fun r => KM g W σ B H Γ r fun b _ H' _ => Q b H') gl_m (Stp.refl e) h fun B1 H1 v x Γ1 s1 _ o h1 => ?_
  split at h1
  · rename_i k
    cases (show Dq B1 v (.bool k) from o)
    exact ⟨k, rfl, h1 B1 H1 s1⟩
  · exact h1.elim
theorem t_val (h : PE X e (tE (gx X) W ca)) (he : ∀ whole, isTrue e X.env whole = (do let v ← whole; standAt e.pos; holding [v] (truthy v)) := by intro _; rfl) : PT X e (tT (gx X) W (asB ca)) :=
  PT.weak (pt_val h he) fun _ _ _ h => asB_ok h
theorem t_cmp {op : CmpOp} {r : R2} {f : Gm → Val → Val → Option Val} (ho : OpR X (compareOp op) r) (S : Snd2 (gx X) W r f) (ha : PE X a (tE (gx X) W ca)) (hb : PE X b (tE (gx X) W cb))
    (hm : behindInMarks op b = false) : PT X (.Compare a [op] [b] pos) (tT (gx X) W (asB (c2 f ca cb))) := PT.weak (pt_cmpR ho ha hb hm) fun _ _ _ h => c2_ok S (asB_ok h) |> fun z => z
theorem t_lt (ha : PE X a (tE (gx X) W ca)) (hb : PE X b (tE (gx X) W cb)) : PT X (.Compare a [.Lt] [b] pos) (tT (gx X) W (asB (c2 fLt ca cb))) := t_cmp op_lt sLt ha hb (nomark _)
theorem t_le (ha : PE X a (tE (gx X) W ca)) (hb : PE X b (tE (gx X) W cb)) : PT X (.Compare a [.LtE] [b] pos) (tT (gx X) W (asB (c2 fLe ca cb))) := t_cmp op_le sLe ha hb (nomark _)
theorem t_gt (ha : PE X a (tE (gx X) W ca)) (hb : PE X b (tE (gx X) W cb)) : PT X (.Compare a [.Gt] [b] pos) (tT (gx X) W (asB (c2 fGt ca cb))) := t_cmp op_gt sGt ha hb (nomark _)
theorem t_ge (ha : PE X a (tE (gx X) W ca)) (hb : PE X b (tE (gx X) W cb)) : PT X (.Compare a [.GtE] [b] pos) (tT (gx X) W (asB (c2 fGe ca cb))) := t_cmp op_ge sGe ha hb (nomark _)
theorem t_eq (hu : X.A.units + 64 < cLine) (ha : PE X a (tE (gx X) W ca)) (hb : PE X b (tE (gx X) W cb)) : PT X (.Compare a [.Eq] [b] pos) (tT (gx X) W (asB (c2 fEq ca cb))) := t_cmp (OpR.or op_eqI (op_eqD hu)) sEq ha hb (nomark _)
theorem t_ne (hu : X.A.units + 64 < cLine) (ha : PE X a (tE (gx X) W ca)) (hb : PE X b (tE (gx X) W cb)) : PT X (.Compare a [.NotEq] [b] pos) (tT (gx X) W (asB (c2 fNe ca cb))) := t_cmp (OpR.or op_neI (op_neD hu)) sNe ha hb (nomark _)
theorem sIsN {neg : Bool} : Snd1 g W (fun x H1 Q => Q (.bl (if neg then !decide (x = .non) else decide (x = .non))) H1) (fIsN neg) := fun σ B0 H0 Γ0 B H Γ v x z Q s o e q => by
  unfold fIsN at e
  split at e
  · rename_i hd
    cases e
    have := (dq_non (dat_read s.env o hd)).mpr rfl
    subst this
    cases neg <;> exact ke_dat s q (.bl _)
  · rename_i d hn hd
    cases e
    have h1 : v ≠ .non := fun z => hn ((dq_non (dat_read s.env o hd)).mp z)
    rw [decide_eq_false h1]
    cases neg <;> exact ke_dat s q (.bl _)
  · cases e
theorem t_isN {pos' : Pos} {j} (ha : PE X a (tE (gx X) W ca)) : PT X (.Compare a [.Is] [.Constant .none j pos'] pos) (tT (gx X) W (asB (c1 (fIsN false) ca))) :=
  PT.weak (pt_cmp (pc_isN ha) rfl) fun σ H Q h => c1_ok (sIsN (neg := false)) (asB_ok h)
theorem t_notN {pos' : Pos} {j} (ha : PE X a (tE (gx X) W ca)) : PT X (.Compare a [.IsNot] [.Constant .none j pos'] pos) (tT (gx X) W (asB (c1 (fIsN true) ca))) :=
  PT.weak (pt_cmp (pc_notN ha) rfl) fun σ H Q h => c1_ok (sIsN (neg := true)) (asB_ok h)
def cAndT (a b : M Bool) : M Bool := a.bind fun k => if k then b else M.ret false
def cOrT (a b : M Bool) : M Bool := a.bind fun k => if k then M.ret true else b
def cNotT (a : M Bool) : M Bool := a.bind fun k => M.ret (!k)
section
variable {ta tb : M Bool} {rest : List PySem.Expr}
theorem w_one (ha : PT X a (tT (gx X) W ta)) : PW X (.BoolOp .And [a] pos) (tT (gx X) W ta) := pw_and1 ha
theorem w_one' (ha : PT X a (tT (gx X) W ta)) : PW X (.BoolOp .Or [a] pos) (tT (gx X) W ta) := pw_or1 ha
theorem PW.weak {t t' : TT} (h : PW X e t) (k : ∀ σ H Q, t' σ H Q → t σ H Q) : PW X e t' := ⟨fun wh pins s σ H Q I q => h.run wh pins s σ H Q I (k σ H Q q)⟩
theorem w_and (ha : PT X a (tT (gx X) W ta)) (hb : PW X (.BoolOp .And (b :: rest) pos) (tT (gx X) W tb)) : PW X (.BoolOp .And (a :: b :: rest) pos) (tT (gx X) W (cAndT ta tb)) := PW.weak (pw_and ha hb) fun σ H Q h => by
  obtain ⟨B, Γ, e, h⟩ := h
  refine tt_bind (KX := fun r => KM (gx X) W σ B H Γ r fun b _ H' _ => Q b H') gl_m (Stp.refl e) h fun B1 H1 k Γ1 s1 s01 h1 => ?_
  cases k with
  | true =>
    show tT (gx X) W tb σ H1 Q
    exact ⟨B1, Γ1, s1.env, KM.from s1 h1⟩
  | false =>
    show Q false H1
    exact h1 B1 H1 s1
theorem w_or (ha : PT X a (tT (gx X) W ta)) (hb : PW X (.BoolOp .Or (b :: rest) pos) (tT (gx X) W tb)) : PW X (.BoolOp .Or (a :: b :: rest) pos) (tT (gx X) W (cOrT ta tb)) := PW.weak (pw_or ha hb) fun σ H Q h => by
  obtain ⟨B, Γ, e, h⟩ := h
  refine tt_bind (KX := fun r => KM (gx X) W σ B H Γ r fun b _ H' _ => Q b H') gl_m (Stp.refl e) h fun B1 H1 k Γ1 s1 s01 h1 => ?_
  cases k with
  | true =>
    show Q true H1
    exact h1 B1 H1 s1
  | false =>
    show tT (gx X) W tb σ H1 Q
    exact ⟨B1, Γ1, s1.env, KM.from s1 h1⟩
theorem t_not (ha : PT X a (tT (gx X) W ta)) : PT X (.UnaryOp .Not a pos) (tT (gx X) W (cNotT ta)) := PT.weak (pt_not ha) fun σ H Q h => by
  obtain ⟨B, Γ, e, h⟩ := h
  exact tt_bind (KX := fun r => KM (gx X) W σ B H Γ r fun b _ H' _ => Q b H') gl_m (Stp.refl e) h fun B1 H1 k Γ1 s1 s01 h1 => h1 B1 H1 s1
/-! .. as values -/
def cAnd (a b : M Val) : M Val := (asB a).bind fun k => if k then b else M.ret (.dat (.bool false))
def cOr (a b : M Val) : M Val := (asB a).bind fun k => if k then M.ret (.dat (.bool true)) else b
def cNot (a : M Val) : M Val := (asB a).bind fun k => M.ret (.dat (.bool (!k)))
theorem asBv {β : Type} {k : Bool → M β} {KX : Option (Res β) → Prop} {B0 H0 : Hp} {Γ0 : Gm} {P : V → Hp → Prop} (G : Gl0 g W B0 H0 σ Γ0 σ KX) (s0 : Stp g B0 H0 σ Γ0 B H σ Γ) (h : KX ((asB ca).bind k Γ))
    (hk : ∀ B1 H1 r Γ1, Stp g B0 H0 σ Γ0 B1 H1 σ Γ1 → Stp g B H σ Γ B1 H1 σ Γ1 → KX (k r Γ1) → P (.bl r) H1) : tE g W ca σ H P := by
  refine te_bind (k := fun x Γ => match x with | .dat (.bool c) => k c Γ | _ => none) G s0 ?_ fun B1 H1 v x Γ1 s1 s01 o h1 => ?_
  · unfold M.bind asB M.bind at h
    unfold M.bind
    cases hc : ca Γ with
    | none => rw [hc] at h; exact h
    | some r =>
      rw [hc] at h
      cases r with
      | ok x Γ1 =>
        cases x with
        | dat d => cases d <;> exact h
        | new _ => exact h
        | loc _ => exact h
      | exc x Γ1 => exact h
  · cases x with
    | dat d =>
      cases d with
      | bool c =>
        cases (show Dq B1 v (.bool c) from o)
        exact hk B1 H1 c Γ1 s1 s01 h1
      | _ => exact (G.none h1).elim
    | new _ => exact (G.none h1).elim
    | loc _ => exact (G.none h1).elim
theorem e_one {op} {c : M Val} (h : PE X a (tE (gx X) W c)) : PE X (.BoolOp op [a] pos) (tE (gx X) W c) := pe_one h
theorem e_and (ha : PE X a (tE (gx X) W ca)) (hb : PE X (.BoolOp .And (b :: rest) pos) (tE (gx X) W cb)) : PE X (.BoolOp .And (a :: b :: rest) pos) (tE (gx X) W (cAnd ca cb)) := PE.weak (pe_and ha hb) fun σ H Q h => by
  obtain ⟨B, Γ, e, h⟩ := h
  refine asBv (KX := fun r => KE (gx X) W σ B H Γ r Q) gl_e (Stp.refl e) h fun B1 H1 k Γ1 s1 s01 h1 => ⟨k, rfl, ?_⟩
  cases k with
  | true =>
    show tE (gx X) W cb σ H1 Q
    exact ⟨B1, Γ1, s1.env, KE.from s1 h1⟩
  | false =>
    show Q (.bl false) H1
    exact ke_dat s1 h1 (.bl _)
theorem e_or (ha : PE X a (tE (gx X) W ca)) (hb : PE X (.BoolOp .Or (b :: rest) pos) (tE (gx X) W cb)) : PE X (.BoolOp .Or (a :: b :: rest) pos) (tE (gx X) W (cOr ca cb)) := PE.weak (pe_or ha hb) fun σ H Q h => by
  obtain ⟨B, Γ, e, h⟩ := h
  refine asBv (KX := fun r => KE (gx X) W σ B H Γ r Q) gl_e (Stp.refl e) h fun B1 H1 k Γ1 s1 s01 h1 => ⟨k, rfl, ?_⟩
  cases k with
  | true =>
    show Q (.bl true) H1
    exact ke_dat s1 h1 (.bl _)
  | false =>
    show tE (gx X) W cb σ H1 Q
    exact ⟨B1, Γ1, s1.env, KE.from s1 h1⟩
theorem e_not (ha : PE X a (tE (gx X) W ca)) : PE X (.UnaryOp .Not a pos) (tE (gx X) W (cNot ca)) := PE.weak (pe_not ha) fun σ H Q h => by
  obtain ⟨B, Γ, e, h⟩ := h
  exact asBv (KX := fun r => KE (gx X) W σ B H Γ r Q) gl_e (Stp.refl e) h fun B1 H1 k Γ1 s1 s01 h1 => ⟨k, rfl, ke_dat s1 h1 (.bl _)⟩
def cIf (t : M Bool) (a b : M Val) : M Val := t.bind fun k => if k then a else b
theorem e_if {c : PySem.Expr} (hc : PT X c (tT (gx X) W ta)) (ha : PE X a (tE (gx X) W ca)) (hb : PE X b (tE (gx X) W cb)) : PE X (.IfExp c a b pos) (tE (gx X) W (cIf ta ca cb)) := PE.weak (pe_ifExp hc ha hb) fun σ H Q h => by
  obtain ⟨B, Γ, e, h⟩ := h
  refine tt_bind (KX := fun r => KE (gx X) W σ B H Γ r Q) gl_e (Stp.refl e) h fun B1 H1 k Γ1 s1 s01 h1 => ?_
  cases k with
  | true =>
    show tE (gx X) W ca σ H1 Q
    exact ⟨B1, Γ1, s1.env, KE.from s1 h1⟩
  | false =>
    show tE (gx X) W cb σ H1 Q
    exact ⟨B1, Γ1, s1.env, KE.from s1 h1⟩
end

/-! ### two comparisons -/
def c3 (f f' : Gm → Val → Val → Option Val) (a b c : M Val) : M Val := a.bind fun x => b.bind fun y Γ => match f Γ x y with
  | some (.dat (.bool true)) => (c.bind fun z Γ1 => (f' Γ1 y z).map fun w => .ok w Γ1) Γ
  | some (.dat (.bool false)) => some (.ok (.dat (.bool false)) Γ)
  | _ => none
/-- where the first comparison is of scalars that leave all as it is -/
def SndB (g : Gx) (W : WX) (r : R2) (f : Gm → Val → Val → Option Val) : Prop :=
  ∀ (σ : L2.St) (B0 H0 : Hp) (Γ0 : Gm) (B H : Hp) (Γ : Gm) (v u : V) (x y : Val) (k : Bool) (Q : VK), Stp g B0 H0 σ Γ0 B H σ Γ → ValOk g H0 B H σ Γ v x → ValOk g H0 B H σ Γ u y → f Γ x y = some (.dat (.bool k)) → Q (.bl k) H → r v u H Q
theorem sndB_I {p : Int → Int → Bool} : SndB g W (rI0 fun i j => .bl (p i j)) (fI2 fun i j => some (.bool (p i j))) := by
  intro σ B0 H0 Γ0 B H Γ v u x y k Q s o1 o2 e q
  unfold fI2 at e
  split at e
  · rename_i i j
    cases e
    cases (show Dq B v (.int i) from o1)
    cases (show Dq B u (.int j) from o2)
    exact ⟨i, j, rfl, rfl, q⟩
  · cases e
theorem c3_ok {r r' : R2} {f f' : Gm → Val → Val → Option Val} {cc : M Val} (S : SndB g W r f) (S' : Snd2 g W r' f') {Q : VK} (h : tE g W (c3 f f' ca cb cc) σ H Q) : tChain r r' (tE g W ca) (tE g W cb) (tE g W cc) σ H Q := by
  obtain ⟨B, Γ, e, h⟩ := h
  refine te_bind (KX := fun r => KE g W σ B H Γ r Q) gl_e (Stp.refl e) h fun B1 H1 v x Γ1 s1 _ o h1 => ?_
  refine te_bind (KX := fun r => KE g W σ B H Γ r Q) gl_e s1 h1 fun B2 H2 u y Γ2 s2 s12 o2 h2 => ?_
  split at h2
  · rename_i hf
    refine S σ B H Γ B2 H2 Γ2 v u x y true _ s2 (o.step s12) (o2.base s1.dom) hf ⟨true, rfl, ?_⟩
    rw [if_pos rfl]
    refine te_bind (KX := fun r => KE g W σ B H Γ r Q) gl_e s2 h2 fun B3 H3 t z Γ3 s3 s23 o3 h3 => ?_
    cases hf' : f' Γ3 y z with
    | none => rw [hf'] at h3; exact h3.elim
    | some w => rw [hf'] at h3; exact S' σ B H Γ B3 H3 Γ3 u t y z w Q s3 ((o2.base s1.dom).step s23) (o3.base s2.dom) hf' h3
  · rename_i hf
    refine S σ B H Γ B2 H2 Γ2 v u x y false _ s2 (o.step s12) (o2.base s1.dom) hf ⟨false, rfl, ?_⟩
    rw [if_neg Bool.false_ne_true]
    exact ke_dat s2 h2 (.bl _)
  · exact h2.elim
theorem e_chain {op op' : CmpOp} {r r' : R2} {f f' : Gm → Val → Val → Option Val} {c : PySem.Expr} {cc : M Val} (ho : OpR X (compareOp op) r) (ho' : OpR X (compareOp op') r') (S : SndB (gx X) W r f) (S' : Snd2 (gx X) W r' f')
    (ha : PE X a (tE (gx X) W ca)) (hb : PE X b (tE (gx X) W cb)) (hc : PE X c (tE (gx X) W cc)) (hm : lastMarks [op, op'] [b, c] = false := by with_unfolding_all rfl) :
    PE X (.Compare a [op, op'] [b, c] pos) (tE (gx X) W (c3 f f' ca cb cc)) := PE.weak (pe_chain ho ho' ha hb hc hm) fun _ _ _ h => c3_ok S S' h
theorem t_chain {op op' : CmpOp} {r r' : R2} {f f' : Gm → Val → Val → Option Val} {c : PySem.Expr} {cc : M Val} (ho : OpR X (compareOp op) r) (ho' : OpR X (compareOp op') r') (S : SndB (gx X) W r f) (S' : Snd2 (gx X) W r' f')
    (ha : PE X a (tE (gx X) W ca)) (hb : PE X b (tE (gx X) W cb)) (hc : PE X c (tE (gx X) W cc)) (hm : lastMarks [op, op'] [b, c] = false := by with_unfolding_all rfl) :
    PT X (.Compare a [op, op'] [b, c] pos) (tT (gx X) W (asB (c3 f f' ca cb cc))) := PT.weak (pt_chain ho ho' ha hb hc hm) fun _ _ _ h => c3_ok S S' (asB_ok h)

/-! ### argument lists -/
def aNil : M (List AV) := M.ret []
/-- frozen -/
def aF (c : M Val) (r : M (List AV)) : M (List AV) := c.bind fun v => (frz v).bind fun d => r.bind fun l => M.ret (.dat d :: l)
/-- lent -/
def aL (c : M Val) (r : M (List AV)) : M (List AV) := c.bind fun v => match v with
  | .dat d => r.bind fun l => M.ret (.dat d :: l)
  | .loc i => r.bind fun l => M.ret (.loc i :: l)
  | .new _ => fun _ => none
theorem a_nil : PA X [] (tA (gx X) W aNil) := PA.weak pa_nil fun σ H Q h => by
  obtain ⟨B, Γ, e, h⟩ := h
  exact h B H (Stp.refl e) [] .nil
theorem a_F {cr : M (List AV)} (ha : PE X e (tE (gx X) W ca)) (hr : PA X es (tA (gx X) W cr)) (hs : starEach (e :: es) X.env = (false, eval e X.env) :: starEach es X.env := by rfl) : PA X (e :: es) (tA (gx X) W (aF ca cr)) :=
  PA.weak (pa_cons ha hr hs) fun σ H Q h => by
    obtain ⟨B, Γ, e, h⟩ := h
    refine te_bind (KX := fun r => KM (gx X) W σ B H Γ r fun as B' H' _ => ∀ vs, Paired (AVOk (gx X) B' σ) vs as → Q vs H') gl_m (Stp.refl e) h fun B1 H1 v x Γ1 s1 _ o h1 => ?_
    refine m_bind (KX := fun r => KM (gx X) W σ B H Γ r fun as B' H' _ => ∀ vs, Paired (AVOk (gx X) B' σ) vs as → Q vs H') (gl_m (B0 := B) (H0 := H) (Γ0 := Γ) (σ := σ)) h1 (fun _ _ => frz_noexc) fun d Γ2 hf h2 => ?_
    obtain ⟨B2, s2, dq, _⟩ := frz_ok s1 o hf
    refine ta_bind (KX := fun r => KM (gx X) W σ B H Γ r fun as B' H' _ => ∀ vs, Paired (AVOk (gx X) B' σ) vs as → Q vs H') gl_m s2 h2 fun B3 H3 vs as Γ3 s3 s23 p h3 => ?_
    exact h3 B3 H3 s3 _ (.cons (dq_mono s23.bb dq) p)
theorem a_L {cr : M (List AV)} (ha : PE X e (tE (gx X) W ca)) (hr : PA X es (tA (gx X) W cr)) (hs : starEach (e :: es) X.env = (false, eval e X.env) :: starEach es X.env := by rfl) : PA X (e :: es) (tA (gx X) W (aL ca cr)) :=
  PA.weak (pa_cons ha hr hs) fun σ H Q h => by
    obtain ⟨B, Γ, e, h⟩ := h
    refine te_bind (KX := fun r => KM (gx X) W σ B H Γ r fun as B' H' _ => ∀ vs, Paired (AVOk (gx X) B' σ) vs as → Q vs H') gl_m (Stp.refl e) h fun B1 H1 v x Γ1 s1 _ o h1 => ?_
    cases x with
    | dat d =>
      refine ta_bind (KX := fun r => KM (gx X) W σ B H Γ r fun as B' H' _ => ∀ vs, Paired (AVOk (gx X) B' σ) vs as → Q vs H') gl_m s1 h1 fun B3 H3 vs as Γ3 s3 s23 p h3 => ?_
      exact h3 B3 H3 s3 _ (.cons (dq_mono s23.bb o) p)
    | loc i =>
      refine ta_bind (KX := fun r => KM (gx X) W σ B H Γ r fun as B' H' _ => ∀ vs, Paired (AVOk (gx X) B' σ) vs as → Q vs H') gl_m s1 h1 fun B3 H3 vs as Γ3 s3 s23 p h3 => ?_
      exact h3 B3 H3 s3 _ (.cons o p)
    | new _ => exact h1.elim
def datsOf : List AV → Option (List D)
  | [] => some []
  | .dat d :: r => (datsOf r).map (d :: ·)
  | .loc _ :: _ => none
theorem dats_ok {vs : List V} : ∀ {as : List AV} {vs : List V} {ds : List D}, Paired (AVOk g B σ) vs as → datsOf as = some ds → DqA B vs ds
  | [], _, _, .nil, h => by cases h; exact .nil
  | .dat d :: r, _, _, .cons p t, h => by
    unfold datsOf at h
    cases hr : datsOf r with
    | none => rw [hr] at h; cases h
    | some ds =>
      rw [hr] at h
      cases h
      exact .cons p (dats_ok (vs := []) t hr)
  | .loc _ :: _, _, _, _, h => by cases h
def cLst (ca : M (List AV)) : M Val := ca.bind fun as Γ => match datsOf as with
  | some ds => if ds.length ≤ 1000000 then some (.ok (.new (.lst ds)) Γ) else none
  | none => none
def cTup (ca : M (List AV)) : M Val := ca.bind fun as Γ => match datsOf as with
  | some ds => if ds.length ≤ 1000000 then some (.ok (.dat (.tuple ds)) Γ) else none
  | none => none
theorem e_lst {cl : M (List AV)} (h : PA X es (tA (gx X) W cl)) : PE X (.List es pos) (tE (gx X) W (cLst cl)) := PE.weak (pe_lst h) fun σ H Q h => by
  obtain ⟨B, Γ, e, h⟩ := h
  refine ta_bind (KX := fun r => KE (gx X) W σ B H Γ r Q) gl_e (Stp.refl e) h fun B1 H1 vs as Γ1 s1 _ p h1 => ?_
  split at h1
  · rename_i ds hd
    split at h1
    · rename_i hl
      have a := dats_ok (vs := vs) p hd
      exact ⟨by rw [dqa_len a]; exact Nat.le_trans hl (by decide), fun p n => ke_newL s1 h1 n a⟩
    · exact h1.elim
  · exact h1.elim
theorem e_tup {cl : M (List AV)} {x1} (h : PA X es (tA (gx X) W cl)) : PE X (.Tuple es x1 pos) (tE (gx X) W (cTup cl)) := PE.weak (pe_tup h) fun σ H Q h => by
  obtain ⟨B, Γ, e, h⟩ := h
  refine ta_bind (KX := fun r => KE (gx X) W σ B H Γ r Q) gl_e (Stp.refl e) h fun B1 H1 vs as Γ1 s1 _ p h1 => ?_
  split at h1
  · rename_i ds hd
    split at h1
    · rename_i hl
      have a := dats_ok (vs := vs) p hd
      exact ⟨by rw [dqa_len a]; exact Nat.le_trans hl (by decide), fun p n => ke_tup s1 h1 n a⟩
    · exact h1.elim
  · exact h1.elim

/-! ### subscripts, slices -/
theorem dqa_at {vs : List V} {ds : List D} {i : Int} {d : D} (h : DqA B vs ds) (e : atI ds i = some d) : ∃ v, atI vs i = some v ∧ Dq B v d := by
  unfold atI at e ⊢
  rw [dqa_len h]
  cases hi : ixN ds.length i with
  | none => rw [hi] at e; cases e
  | some j =>
    rw [hi] at e
    exact dqa_get h e
def tupOf (Γ : Gm) : Val → Option (List D)
  | .dat (.tuple ds) => some ds
  | .loc i => match Γ[i]? with
    | some (.dat (.tuple ds)) => some ds
    | _ => none
  | _ => none
theorem tup_read {H0 : Hp} {r : Val} {v : V} {ds : List D} (e : EOk g B H σ Γ) (o : ValOk g H0 B H σ Γ v r) (h : tupOf Γ r = some ds) : ∃ p vs, v = .ref p ∧ B p = some (.tup vs) ∧ DqA B vs ds := by
  unfold tupOf at h
  split at h
  · cases h
    cases (show Dq B v (.tuple ds) from o) with
    | tup h1 h2 => exact ⟨_, _, rfl, h1, h2⟩
  · rename_i i
    have ov : σ[i]? = some (some v) := o
    split at h
    · rename_i hd
      cases h
      obtain ⟨v', e1, e2⟩ := e.at_ i _ hd
      rw [ov] at e1; cases e1
      cases e2 with
      | tup h1 h2 => exact ⟨_, _, rfl, h1, h2⟩
    · cases h
  · cases h
def fIx (Γ : Gm) (x : Val) : Val → Option Val
  | .dat (.int i) => match lookR Γ x with
    | some ds => (atI ds i).map .dat
    | none => match tupOf Γ x with
      | some ds => (atI ds i).map .dat
      | none => none
  | _ => none
theorem sIx : Snd2 (gx X) W (fun x y H Q => rIxL X.K x y H Q ∨ rIxT X.K x y H Q) fIx := by
  intro σ B0 H0 Γ0 B H Γ v u x y z Q s o1 o2 e q
  unfold fIx at e
  split at e
  · rename_i i
    cases (show Dq B u (.int i) from o2)
    split at e
    · rename_i ds hx
      cases ha : atI ds i with
      | none => rw [ha] at e; cases e
      | some d =>
        rw [ha] at e; cases e
        obtain ⟨p, vs, rfl, h1, h2⟩ := lk_read s.env o1 hx
        obtain ⟨w, h3, h4⟩ := dqa_at h2 ha
        exact .inl ⟨p, vs, i, w, rfl, rfl, h1, h3, ke_dat s q h4⟩
    · split at e
      · rename_i ds hx
        cases ha : atI ds i with
        | none => rw [ha] at e; cases e
        | some d =>
          rw [ha] at e; cases e
          obtain ⟨p, vs, rfl, h1, h2⟩ := tup_read s.env o1 hx
          obtain ⟨w, h3, h4⟩ := dqa_at h2 ha
          exact .inr ⟨p, vs, i, w, rfl, rfl, SqT.of (s.env.sub _ _ h1), h3, ke_dat s q h4⟩
      · cases e
  · cases e
theorem e_ix (ha : PE X a (tE (gx X) W ca)) (hb : PE X b (tE (gx X) W cb)) (hs : PlainIx b := by intro _ _; rfl) : PE X (.Subscript a b pos) (tE (gx X) W (c2 fIx ca cb)) :=
  PE.weak (pe_ix (IxR.or ix_list ix_tup) ha hb hs) fun _ _ _ h => c2_ok sIx h

def cutD (xs : List D) (lo hi : Option Int) : List D := (xs.drop (HT.sIx xs.length 0 lo)).take (HT.sIx xs.length xs.length hi - HT.sIx xs.length 0 lo)
theorem dqa_cut {vs : List V} {ds : List D} (h : DqA B vs ds) (lo hi : Option Int) : DqA B (cutV vs lo hi) (cutD ds lo hi) := by
  unfold cutV cutD
  rw [dqa_len h]
  exact dqa_take _ (dqa_drop _ h)
/-- a part of a slice -/
def tO (g : Gx) (W : WX) (c : M (Option Int)) : TO := fun σ H Q => ∃ B Γ, EOk g B H σ Γ ∧ KM g W σ B H Γ (c Γ) fun o _ H' _ => Q o H'
theorem PO.weak {o : Option PySem.Expr} {t t' : TO} (h : PO X o t) (k : ∀ σ H Q, t' σ H Q → t σ H Q) : PO X o t' := ⟨fun pins s σ H Q I q => h.run pins s σ H Q I (k σ H Q q)⟩
def oNone : M (Option Int) := M.ret none
def oSome (c : M Val) : M (Option Int) := c.bind fun x Γ => match x with
  | .dat (.int i) => some (.ok (some i) Γ)
  | _ => none
theorem o_none : PO X none (tO (gx X) W oNone) := PO.weak po_none fun σ H Q h => by
  obtain ⟨B, Γ, e, h⟩ := h
  exact h B H (Stp.refl e)
theorem o_some (ha : PE X e (tE (gx X) W ca)) : PO X (some e) (tO (gx X) W (oSome ca)) := PO.weak (po_some ha) fun σ H Q h => by
  obtain ⟨B, Γ, e, h⟩ := h
  refine te_bind (KX := fun r => KM (gx X) W σ B H Γ r fun b _ H' _ => Q b H') gl_m (Stp.refl e) h fun B1 H1 v x Γ1 s1 _ o h1 => ?_
  split at h1
  · rename_i i
    cases (show Dq B1 v (.int i) from o)
    exact ⟨i, rfl, h1 B1 H1 s1⟩
  · exact h1.elim
theorem to_bind {β : Type} {B0 H0 : Hp} {Γ0 : Gm} {σ0 : L2.St} {cl : M (Option Int)} {k : Option Int → M β} {KX : Option (Res β) → Prop} {P : Option Int → Hp → Prop} (G : Gl0 g W B0 H0 σ0 Γ0 σ KX) (s0 : Stp g B0 H0 σ0 Γ0 B H σ Γ) (h : KX (cl.bind k Γ))
    (hk : ∀ B1 H1 r Γ1, Stp g B0 H0 σ0 Γ0 B1 H1 σ Γ1 → Stp g B H σ Γ B1 H1 σ Γ1 → KX (k r Γ1) → P r H1) : tO g W cl σ H P := by
  refine ⟨B, Γ, s0.env, ?_⟩
  unfold M.bind at h
  cases hc : cl Γ with
  | none => rw [hc] at h; exact G.none h
  | some r =>
    rw [hc] at h
    cases r with
    | ok r Γ1 => exact fun B1 H1 s => hk B1 H1 r Γ1 (s0.trans s) s h
    | exc x Γ1 => exact fun B' H' c d s o => G.exc _ _ h B' H' c d (s0.trans s) o
def cSl (c : M Val) (lo hi : M (Option Int)) : M Val := c.bind fun x => lo.bind fun l => hi.bind fun u Γ => match lookR Γ x with
  | some ds => some (.ok (.new (.lst (cutD ds l u))) Γ)
  | none => none
theorem e_sl {lo hi : Option PySem.Expr} {p2 : Pos} {cl ch : M (Option Int)} (ha : PE X e (tE (gx X) W ca)) (hl : PO X lo (tO (gx X) W cl)) (hh : PO X hi (tO (gx X) W ch)) : PE X (.Subscript e (.Slice lo hi none p2) pos) (tE (gx X) W (cSl ca cl ch)) :=
  PE.weak (pe_slice sl_list ha hl hh) fun σ H Q h => by
    obtain ⟨B, Γ, e, h⟩ := h
    refine te_bind (KX := fun r => KE (gx X) W σ B H Γ r Q) gl_e (Stp.refl e) h fun B1 H1 v x Γ1 s1 _ o h1 => ?_
    refine to_bind (KX := fun r => KE (gx X) W σ B H Γ r Q) gl_e s1 h1 fun B2 H2 l Γ2 s2 s12 h2 => ?_
    refine to_bind (KX := fun r => KE (gx X) W σ B H Γ r Q) gl_e s2 h2 fun B3 H3 u Γ3 s3 s23 h3 => ?_
    split at h3
    · rename_i ds hd
      obtain ⟨p, vs, rfl, q1, q2⟩ := lk_read s3.env ((o.step s12).step s23) hd
      exact ⟨p, vs, rfl, q1, fun p2 n => ke_newL s3 h3 n (dqa_cut q2 l u)⟩
    · exact h3.elim
def fRev (Γ : Gm) (x : Val) : Option Val := (lookR Γ x).map fun ds => .new (.lst ds.reverse)
theorem e_rev {k : Nat} {p1 p2 p3 : Pos} (ha : PE X e (tE (gx X) W ca)) : PE X (.Subscript e (.Slice none none (some (.UnaryOp .USub (.Constant (.int 1) k p1) p2)) p3) pos) (tE (gx X) W (c1 fRev ca)) :=
  PE.weak (pe_revL ha) fun σ H Q h => c1_ok (r := fun x H1 Q => ∃ a xs, x = .ref a ∧ SqL X.K H1 a xs ∧ ∀ p, H1 p = none → Q (.ref p) (upd H1 p (.lst xs.reverse))) (fun σ B0 H0 Γ0 B H Γ v x z Q s o e q => by
    unfold fRev at e
    cases hx : lookR Γ x with
    | none => rw [hx] at e; cases e
    | some ds =>
      rw [hx] at e; cases e
      obtain ⟨p, vs, rfl, q1, q2⟩ := lk_read s.env o hx
      exact ⟨p, vs, rfl, q1, fun p2 n => ke_newL s q n (dqa_rev q2)⟩) h
end E


set_option Elab.async false
set_option linter.all false
set_option maxRecDepth 100000
set_option maxHeartbeats 1000000
namespace E
open PySem L2 PyProof.Rows

variable {g : Gx} {B B1 B2 B' H H1 H2 H' : Hp} {σ σ1 σ2 σ' : L2.St} {Γ Γ1 Γ2 Γ' : Gm} {W : WX} {X : Cx} {a b e : PySem.Expr} {es : List PySem.Expr} {pos : Pos} {ca cb : M Val}

/-! ### built-ins of one and of two arguments -/
section
variable {x : Str} {p : Pos} {id T : String} {r : List V → Hp → VK → Prop} {f1 : Gm → Val → Option Val} {f2 : Gm → Val → Val → Option Val}
theorem e_b1 (hc : CallR X (.builtin id) r) (S : Snd1 (gx X) W (fun v H Q => r [v] H Q) f1) (hv : bootBuiltins x = some (.builtin id)) (hg : Gl X x) (hm : X.mg x = none) (ha : PE X a (tE (gx X) W ca)) (hn : x ≠ "__name__" := by decide) (hdb : (x == ("__debug__" : Str)) = false := by decide)
    (he : starEach [a] X.env = (false, eval a X.env) :: starEach [] X.env := by rfl) (hpl : (backTo pos (starEach [] X.env)).any (·.1) = false := by rfl) : PE X (.Call (.Name x p) [a] [] pos) (tE (gx X) W (c1 f1 ca)) :=
  PE.weak (pe_callB hc hg hm hv (pa_cons ha pa_nil he) hn hdb he hpl) fun _ _ _ h => c1_ok S h
theorem e_b2 (hc : CallR X (.builtin id) r) (S : Snd2 (gx X) W (fun v u H Q => r [v, u] H Q) f2) (hv : bootBuiltins x = some (.builtin id)) (hg : Gl X x) (hm : X.mg x = none) (ha : PE X a (tE (gx X) W ca)) (hb : PE X b (tE (gx X) W cb)) (hn : x ≠ "__name__" := by decide) (hdb : (x == ("__debug__" : Str)) = false := by decide)
    (he : starEach [a, b] X.env = (false, eval a X.env) :: starEach [b] X.env := by rfl) (he2 : starEach [b] X.env = (false, eval b X.env) :: starEach [] X.env := by rfl) (hpl : (backTo pos (starEach [b] X.env)).any (·.1) = false := by rfl) : PE X (.Call (.Name x p) [a, b] [] pos) (tE (gx X) W (c2 f2 ca cb)) :=
  PE.weak (pe_callB hc hg hm hv (pa_cons ha (pa_cons hb pa_nil he2) he) hn hdb he hpl) fun _ _ _ h => c2_ok S h
theorem e_t1 (hc : CallR X (.type T) r) (S : Snd1 (gx X) W (fun v H Q => r [v] H Q) f1) (hv : bootBuiltins x = some (.type T)) (hg : Gl X x) (hm : X.mg x = none) (ha : PE X a (tE (gx X) W ca)) (hn : x ≠ "__name__" := by decide) (hdb : (x == ("__debug__" : Str)) = false := by decide)
    (he : starEach [a] X.env = (false, eval a X.env) :: starEach [] X.env := by rfl) (hpl : (backTo pos (starEach [] X.env)).any (·.1) = false := by rfl) : PE X (.Call (.Name x p) [a] [] pos) (tE (gx X) W (c1 f1 ca)) :=
  PE.weak (pe_callTy hc hg hm hv (pa_cons ha pa_nil he) hn hdb he hpl) fun _ _ _ h => c1_ok S h
end
def fLen (Γ : Gm) (x : Val) : Option Val := match lookR Γ x with
  | some ds => some (.dat (.int ds.length))
  | none => match tupOf Γ x with
    | some ds => some (.dat (.int ds.length))
    | none => none
theorem sLen : Snd1 (gx X) W (fun v H Q => ∃ p ys, [v] = [.ref p] ∧ (SqL X.K H p ys ∨ SqT X.K H p ys) ∧ Q (.int ys.length) H) fLen := by
  intro σ B0 H0 Γ0 B H Γ v x z Q s o e q
  unfold fLen at e
  split at e
  · rename_i ds hx
    cases e
    obtain ⟨p, vs, rfl, h1, h2⟩ := lk_read s.env o hx
    refine ⟨p, vs, rfl, .inl h1, ?_⟩
    rw [dqa_len h2]
    exact ke_dat s q (.int _)
  · split at e
    · rename_i ds hx
      cases e
      obtain ⟨p, vs, rfl, h1, h2⟩ := tup_read s.env o hx
      refine ⟨p, vs, rfl, .inr (SqT.of (s.env.sub _ _ h1)), ?_⟩
      rw [dqa_len h2]
      exact ke_dat s q (.int _)
    · cases e
def fList (Γ : Gm) (x : Val) : Option Val := match lookR Γ x with
  | some ds => some (.new (.lst ds))
  | none => match tupOf Γ x with
    | some ds => some (.new (.lst ds))
    | none => none
theorem sList : Snd1 (gx X) W (fun v H Q => ∃ p ys, [v] = [.ref p] ∧ (SqL X.K H p ys ∨ SqT X.K H p ys) ∧ ∀ l, H l = none → Q (.ref l) (upd H l (.lst ys))) fList := by
  intro σ B0 H0 Γ0 B H Γ v x z Q s o e q
  unfold fList at e
  split at e
  · rename_i ds hx
    cases e
    obtain ⟨p, vs, rfl, h1, h2⟩ := lk_read s.env o hx
    exact ⟨p, vs, rfl, .inl h1, fun l n => ke_newL s q n h2⟩
  · split at e
    · rename_i ds hx
      cases e
      obtain ⟨p, vs, rfl, h1, h2⟩ := tup_read s.env o hx
      exact ⟨p, vs, rfl, .inr (SqT.of (s.env.sub _ _ h1)), fun l n => ke_newL s q n h2⟩
    · cases e
def fTuple (Γ : Gm) (x : Val) : Option Val := (lookR Γ x).map fun ds => .dat (.tuple ds)
theorem sTuple : Snd1 (gx X) W (fun v H Q => ∃ p ys, [v] = [.ref p] ∧ ((SqL X.K H p ys ∧ ∀ l, H l = none → Q (.ref l) (upd H l (.tup ys))) ∨ (SqT X.K H p ys ∧ Q (.ref p) H))) fTuple := by
  intro σ B0 H0 Γ0 B H Γ v x z Q s o e q
  unfold fTuple at e
  cases hx : lookR Γ x with
  | none => rw [hx] at e; cases e
  | some ds =>
    rw [hx] at e; cases e
    obtain ⟨p, vs, rfl, h1, h2⟩ := lk_read s.env o hx
    exact ⟨p, vs, rfl, .inl ⟨h1, fun l n => ke_tup s q n h2⟩⟩
def intsOf : List D → Option (List Int)
  | [] => some []
  | .int i :: r => (intsOf r).map (i :: ·)
  | _ :: _ => none
def boolsOf : List D → Option (List Bool)
  | [] => some []
  | .bool i :: r => (boolsOf r).map (i :: ·)
  | _ :: _ => none
theorem intsOf_eq : ∀ {ds : List D} {ns : List Int}, intsOf ds = some ns → ds = ns.map PyData.int
  | [], _, h => by cases h; rfl
  | .int i :: r, _, h => by
    unfold intsOf at h
    cases hr : intsOf r with
    | none => rw [hr] at h; cases h
    | some ns => rw [hr] at h; cases h; rw [intsOf_eq hr] <;> rfl
  | .none :: _, _, h => by cases h
  | .bool _ :: _, _, h => by cases h
  | .str _ :: _, _, h => by cases h
  | .list _ :: _, _, h => by cases h
  | .tuple _ :: _, _, h => by cases h
  | .dict _ :: _, _, h => by cases h
theorem boolsOf_eq : ∀ {ds : List D} {ns : List Bool}, boolsOf ds = some ns → ds = ns.map PyData.bool
  | [], _, h => by cases h; rfl
  | .bool i :: r, _, h => by
    unfold boolsOf at h
    cases hr : boolsOf r with
    | none => rw [hr] at h; cases h
    | some ns => rw [hr] at h; cases h; rw [boolsOf_eq hr] <;> rfl
  | .none :: _, _, h => by cases h
  | .int _ :: _, _, h => by cases h
  | .str _ :: _, _, h => by cases h
  | .list _ :: _, _, h => by cases h
  | .tuple _ :: _, _, h => by cases h
  | .dict _ :: _, _, h => by cases h
theorem intsOf_map (ns : List Int) : intsOf (ns.map PyData.int) = some ns := by
  induction ns with
  | nil => rfl
  | cons n ns ih => show (intsOf (ns.map PyData.int)).map (n :: ·) = _; rw [ih]; rfl
theorem boolsOf_map (ns : List Bool) : boolsOf (ns.map PyData.bool) = some ns := by
  induction ns with
  | nil => rfl
  | cons n ns ih => show (boolsOf (ns.map PyData.bool)).map (n :: ·) = _; rw [ih]; rfl
def listI (Γ : Gm) (x : Val) : Option (List Int) := (lookR Γ x).bind intsOf
def listB (Γ : Gm) (x : Val) : Option (List Bool) := (lookR Γ x).bind boolsOf
theorem listI_ok {H0 : Hp} {r : Val} {v : V} {ns : List Int} (e : EOk g B H σ Γ) (o : ValOk g H0 B H σ Γ v r) (h : listI Γ r = some ns) : ∃ p, v = .ref p ∧ SqL g.K H p (ns.map V.int) := by
  unfold listI at h
  cases hx : lookR Γ r with
  | none => rw [hx] at h; cases h
  | some ds =>
    rw [hx] at h
    obtain ⟨p, vs, rfl, h1, h2⟩ := lk_read e o hx
    rw [intsOf_eq h] at h2
    rw [dqa_of_ints h2] at h1
    exact ⟨p, rfl, h1⟩
theorem listB_ok {H0 : Hp} {r : Val} {v : V} {ns : List Bool} (e : EOk g B H σ Γ) (o : ValOk g H0 B H σ Γ v r) (h : listB Γ r = some ns) : ∃ p, v = .ref p ∧ SqL g.K H p (ns.map V.bl) := by
  unfold listB at h
  cases hx : lookR Γ r with
  | none => rw [hx] at h; cases h
  | some ds =>
    rw [hx] at h
    obtain ⟨p, vs, rfl, h1, h2⟩ := lk_read e o hx
    rw [boolsOf_eq h] at h2
    rw [dqa_of_bools h2] at h1
    exact ⟨p, rfl, h1⟩
def fSum (Γ : Gm) (x : Val) : Option Val := (listI Γ x).map fun ns => .dat (.int ns.sum)
theorem sSum : Snd1 (gx X) W (fun v H Q => rSum X.K [v] H Q) fSum := by
  intro σ B0 H0 Γ0 B H Γ v x z Q s o e q
  unfold fSum at e
  cases hx : listI Γ x with
  | none => rw [hx] at e; cases e
  | some ns =>
    rw [hx] at e; cases e
    obtain ⟨p, rfl, h1⟩ := listI_ok s.env o hx
    exact ⟨p, ns, rfl, h1, ke_dat s q (.int _)⟩
def fAll (Γ : Gm) (x : Val) : Option Val := (listB Γ x).map fun ns => .dat (.bool (ns.all id))
theorem sAll : Snd1 (gx X) W (fun v H Q => rAll X.K [v] H Q) fAll := by
  intro σ B0 H0 Γ0 B H Γ v x z Q s o e q
  unfold fAll at e
  cases hx : listB Γ x with
  | none => rw [hx] at e; cases e
  | some ns =>
    rw [hx] at e; cases e
    obtain ⟨p, rfl, h1⟩ := listB_ok s.env o hx
    exact ⟨p, ns, rfl, h1, ke_dat s q (.bl _)⟩
def fAny (Γ : Gm) (x : Val) : Option Val := (listB Γ x).map fun ns => .dat (.bool (ns.any id))
theorem sAny : Snd1 (gx X) W (fun v H Q => rAny X.K [v] H Q) fAny := by
  intro σ B0 H0 Γ0 B H Γ v x z Q s o e q
  unfold fAny at e
  cases hx : listB Γ x with
  | none => rw [hx] at e; cases e
  | some ns =>
    rw [hx] at e; cases e
    obtain ⟨p, rfl, h1⟩ := listB_ok s.env o hx
    exact ⟨p, ns, rfl, h1, ke_dat s q (.bl _)⟩
/-- sorting, for the kernel -/
def ins (n : Int) : List Int → List Int
  | [] => [n]
  | m :: r => if n ≤ m then n :: m :: r else m :: ins n r
def isort : List Int → List Int
  | [] => []
  | n :: r => ins n (isort r)
theorem ins_perm (n : Int) : ∀ r : List Int, (ins n r).Perm (n :: r)
  | [] => .refl _
  | m :: r => by
    unfold ins
    split
    · exact .refl _
    · exact ((ins_perm n r).cons m).trans (.swap n m r)
theorem isort_perm : ∀ r : List Int, (isort r).Perm r
  | [] => .refl _
  | n :: r => (ins_perm n (isort r)).trans ((isort_perm r).cons n)
theorem ins_sorted (n : Int) : ∀ r : List Int, r.Pairwise (· ≤ ·) → (ins n r).Pairwise (· ≤ ·)
  | [], _ => by simp [ins]
  | m :: r, h => by
    unfold ins
    rw [List.pairwise_cons] at h
    split
    · rename_i hn
      refine List.pairwise_cons.mpr ⟨fun y hy => ?_, List.pairwise_cons.mpr h⟩
      rcases List.mem_cons.mp hy with rfl | hy
      · exact hn
      · exact Int.le_trans hn (h.1 y hy)
    · rename_i hn
      refine List.pairwise_cons.mpr ⟨fun y hy => ?_, ins_sorted n r h.2⟩
      rcases List.mem_cons.mp ((ins_perm n r).mem_iff.mp hy) with rfl | hy
      · omega
      · exact h.1 y hy
theorem isort_sorted : ∀ r : List Int, (isort r).Pairwise (· ≤ ·)
  | [] => .nil
  | n :: r => ins_sorted n _ (isort_sorted r)
def fSorted (Γ : Gm) (x : Val) : Option Val := (listI Γ x).map fun ns => .new (.lst ((isort ns).map PyData.int))
theorem sSorted : Snd1 (gx X) W (fun v H Q => rSortedI X.K [v] H Q) fSorted := by
  intro σ B0 H0 Γ0 B H Γ v x z Q s o e q
  unfold fSorted at e
  cases hx : listI Γ x with
  | none => rw [hx] at e; cases e
  | some ns =>
    rw [hx] at e; cases e
    obtain ⟨p, rfl, h1⟩ := listI_ok s.env o hx
    refine ⟨p, ns, rfl, h1, fun ns' p2 hp hs n => ?_⟩
    have : ns' = isort ns := PySem.W.ksm_same (hp.trans (isort_perm ns).symm) hs (isort_sorted ns)
    subst this
    exact ke_newL s q n (dqa_ints _)
def maxI : List Int → Int
  | [] => 0
  | [n] => n
  | n :: r => max n (maxI r)
def minI : List Int → Int
  | [] => 0
  | [n] => n
  | n :: r => min n (minI r)
theorem maxI_mem : ∀ {ns : List Int}, ns ≠ [] → maxI ns ∈ ns ∧ ∀ y ∈ ns, y ≤ maxI ns
  | [n], _ => by simp [maxI]
  | n :: m :: r, _ => by
    obtain ⟨h1, h2⟩ := maxI_mem (ns := m :: r) (by simp)
    have e : maxI (n :: m :: r) = max n (maxI (m :: r)) := rfl
    rw [e]
    refine ⟨?_, fun y hy => ?_⟩
    · by_cases h : n ≤ maxI (m :: r)
      · rw [Int.max_eq_right h]; exact List.mem_cons_of_mem _ h1
      · rw [Int.max_eq_left (by omega)]; exact List.mem_cons_self
    · rcases List.mem_cons.mp hy with rfl | hy
      · omega
      · have := h2 y hy; omega
theorem minI_mem : ∀ {ns : List Int}, ns ≠ [] → minI ns ∈ ns ∧ ∀ y ∈ ns, minI ns ≤ y
  | [n], _ => by simp [minI]
  | n :: m :: r, _ => by
    obtain ⟨h1, h2⟩ := minI_mem (ns := m :: r) (by simp)
    have e : minI (n :: m :: r) = min n (minI (m :: r)) := rfl
    rw [e]
    refine ⟨?_, fun y hy => ?_⟩
    · by_cases h : n ≤ minI (m :: r)
      · rw [Int.min_eq_left h]; exact List.mem_cons_self
      · rw [Int.min_eq_right (by omega)]; exact List.mem_cons_of_mem _ h1
    · rcases List.mem_cons.mp hy with rfl | hy
      · omega
      · have := h2 y hy; omega
def fMax1 (Γ : Gm) (x : Val) : Option Val := (listI Γ x).bind fun ns => if ns.isEmpty then none else some (.dat (.int (maxI ns)))
def fMin1 (Γ : Gm) (x : Val) : Option Val := (listI Γ x).bind fun ns => if ns.isEmpty then none else some (.dat (.int (minI ns)))
theorem sMax1 : Snd1 (gx X) W (fun v H Q => rMax X.K [v] H Q) fMax1 := by
  intro σ B0 H0 Γ0 B H Γ v x z Q s o e q
  unfold fMax1 at e
  cases hx : listI Γ x with
  | none => rw [hx] at e; cases e
  | some ns =>
    rw [hx] at e
    have hn : ns ≠ [] := fun z => by subst z; cases e
    have e2 : some (Val.dat (.int (maxI ns))) = some z := by
      cases ns with
      | nil => exact absurd rfl hn
      | cons _ _ => exact e
    cases e2
    obtain ⟨p, rfl, h1⟩ := listI_ok s.env o hx
    refine ⟨p, ns, rfl, h1, List.length_pos_iff.mpr hn, fun m hm hle => ?_⟩
    obtain ⟨q1, q2⟩ := maxI_mem hn
    have : m = maxI ns := Int.le_antisymm (q2 m hm) (hle _ q1)
    subst this
    exact ke_dat s q (.int _)
theorem sMin1 : Snd1 (gx X) W (fun v H Q => rMin X.K [v] H Q) fMin1 := by
  intro σ B0 H0 Γ0 B H Γ v x z Q s o e q
  unfold fMin1 at e
  cases hx : listI Γ x with
  | none => rw [hx] at e; cases e
  | some ns =>
    rw [hx] at e
    have hn : ns ≠ [] := fun z => by subst z; cases e
    have e2 : some (Val.dat (.int (minI ns))) = some z := by
      cases ns with
      | nil => exact absurd rfl hn
      | cons _ _ => exact e
    cases e2
    obtain ⟨p, rfl, h1⟩ := listI_ok s.env o hx
    refine ⟨p, ns, rfl, h1, List.length_pos_iff.mpr hn, fun m hm hle => ?_⟩
    obtain ⟨q1, q2⟩ := minI_mem hn
    have : m = minI ns := Int.le_antisymm (hle _ q1) (q2 m hm)
    subst this
    exact ke_dat s q (.int _)
def fAbs (_ : Gm) : Val → Option Val
  | .dat (.int i) => some (.dat (.int (if i < 0 then -i else i)))
  | _ => none
theorem sAbs : Snd1 g W (fun v H Q => ∃ i, [v] = [.int i] ∧ Q (.int (if i < 0 then -i else i)) H) fAbs := by
  intro σ B0 H0 Γ0 B H Γ v x z Q s o e q
  unfold fAbs at e
  split at e
  · rename_i i
    cases e
    cases (show Dq B v (.int i) from o)
    exact ⟨i, rfl, ke_dat s q (.int _)⟩
  · cases e
def fInt (_ : Gm) : Val → Option Val
  | .dat (.int i) => some (.dat (.int i))
  | .dat (.bool k) => some (.dat (.int (if k then 1 else 0)))
  | _ => none
theorem sInt : Snd1 g W (fun v H Q => (∃ i, [v] = [V.int i] ∧ Q (.int i) H) ∨ ∃ k, [v] = [V.bl k] ∧ Q (.int (if k then 1 else 0)) H) fInt := by
  intro σ B0 H0 Γ0 B H Γ v x z Q s o e q
  unfold fInt at e
  split at e
  · rename_i i
    cases e
    cases (show Dq B v (.int i) from o)
    exact .inl ⟨i, rfl, ke_dat s q (.int _)⟩
  · rename_i i
    cases e
    cases (show Dq B v (.bool i) from o)
    exact .inr ⟨i, rfl, ke_dat s q (.int _)⟩
  · cases e
def fMax2 : Gm → Val → Val → Option Val := fI2 fun i j => some (.int (if j > i then j else i))
def fMin2 : Gm → Val → Val → Option Val := fI2 fun i j => some (.int (if j < i then j else i))
theorem s2I {k : Int → Int → Int} : Snd2 g W (fun v u H Q => ∃ i j, [v, u] = [V.int i, V.int j] ∧ Q (.int (k i j)) H) (fI2 fun i j => some (.int (k i j))) := by
  intro σ B0 H0 Γ0 B H Γ v u x y z Q s o1 o2 e q
  unfold fI2 at e
  split at e
  · rename_i i j
    cases e
    cases (show Dq B v (.int i) from o1)
    cases (show Dq B u (.int j) from o2)
    exact ⟨i, j, rfl, ke_dat s q (.int _)⟩
  · cases e
section
variable {p : Pos} (hg : Gl X "len") (hm : X.mg "len" = none)
theorem e_len (hg : Gl X "len") (hm : X.mg "len" = none) (ha : PE X a (tE (gx X) W ca)) (he : starEach [a] X.env = (false, eval a X.env) :: starEach [] X.env := by rfl) : PE X (.Call (.Name "len" p) [a] [] pos) (tE (gx X) W (c1 fLen ca)) := e_b1 call_len_seq sLen PySem.boot_len hg hm ha (he := he)
theorem e_list (hg : Gl X "list") (hm : X.mg "list" = none) (ha : PE X a (tE (gx X) W ca)) (he : starEach [a] X.env = (false, eval a X.env) :: starEach [] X.env := by rfl) : PE X (.Call (.Name "list" p) [a] [] pos) (tE (gx X) W (c1 fList ca)) := e_t1 call_list_of sList (by decide +kernel) hg hm ha (he := he)
theorem e_tuple (hg : Gl X "tuple") (hm : X.mg "tuple" = none) (ha : PE X a (tE (gx X) W ca)) (he : starEach [a] X.env = (false, eval a X.env) :: starEach [] X.env := by rfl) : PE X (.Call (.Name "tuple" p) [a] [] pos) (tE (gx X) W (c1 fTuple ca)) := e_t1 call_tuple_of sTuple (by decide +kernel) hg hm ha (he := he)
theorem e_sum (hc : X.calm = true) (hg : Gl X "sum") (hm : X.mg "sum" = none) (ha : PE X a (tE (gx X) W ca)) (he : starEach [a] X.env = (false, eval a X.env) :: starEach [] X.env := by rfl) : PE X (.Call (.Name "sum" p) [a] [] pos) (tE (gx X) W (c1 fSum ca)) := e_b1 (cr_sum hc) sSum (by decide +kernel) hg hm ha (he := he)
theorem e_all (hc : X.calm = true) (hg : Gl X "all") (hm : X.mg "all" = none) (ha : PE X a (tE (gx X) W ca)) (he : starEach [a] X.env = (false, eval a X.env) :: starEach [] X.env := by rfl) : PE X (.Call (.Name "all" p) [a] [] pos) (tE (gx X) W (c1 fAll ca)) := e_b1 (cr_all hc) sAll (by decide +kernel) hg hm ha (he := he)
theorem e_any (hc : X.calm = true) (hg : Gl X "any") (hm : X.mg "any" = none) (ha : PE X a (tE (gx X) W ca)) (he : starEach [a] X.env = (false, eval a X.env) :: starEach [] X.env := by rfl) : PE X (.Call (.Name "any" p) [a] [] pos) (tE (gx X) W (c1 fAny ca)) := e_b1 (cr_any hc) sAny (by decide +kernel) hg hm ha (he := he)
theorem e_sorted (hg : Gl X "sorted") (hm : X.mg "sorted" = none) (ha : PE X a (tE (gx X) W ca)) (he : starEach [a] X.env = (false, eval a X.env) :: starEach [] X.env := by rfl) : PE X (.Call (.Name "sorted" p) [a] [] pos) (tE (gx X) W (c1 fSorted ca)) := e_b1 cr_sortedI sSorted (by decide +kernel) hg hm ha (he := he)
theorem e_max1 (hc : X.calm = true) (hg : Gl X "max") (hm : X.mg "max" = none) (ha : PE X a (tE (gx X) W ca)) (he : starEach [a] X.env = (false, eval a X.env) :: starEach [] X.env := by rfl) : PE X (.Call (.Name "max" p) [a] [] pos) (tE (gx X) W (c1 fMax1 ca)) := e_b1 (cr_max hc) sMax1 (by decide +kernel) hg hm ha (he := he)
theorem e_min1 (hc : X.calm = true) (hg : Gl X "min") (hm : X.mg "min" = none) (ha : PE X a (tE (gx X) W ca)) (he : starEach [a] X.env = (false, eval a X.env) :: starEach [] X.env := by rfl) : PE X (.Call (.Name "min" p) [a] [] pos) (tE (gx X) W (c1 fMin1 ca)) := e_b1 (cr_min hc) sMin1 (by decide +kernel) hg hm ha (he := he)
theorem e_abs (hg : Gl X "abs") (hm : X.mg "abs" = none) (ha : PE X a (tE (gx X) W ca)) (he : starEach [a] X.env = (false, eval a X.env) :: starEach [] X.env := by rfl) : PE X (.Call (.Name "abs" p) [a] [] pos) (tE (gx X) W (c1 fAbs ca)) := e_b1 call_abs sAbs (by decide +kernel) hg hm ha (he := he)
theorem e_int' (hg : Gl X "int") (hm : X.mg "int" = none) (ha : PE X a (tE (gx X) W ca)) (he : starEach [a] X.env = (false, eval a X.env) :: starEach [] X.env := by rfl) : PE X (.Call (.Name "int" p) [a] [] pos) (tE (gx X) W (c1 fInt ca)) := e_t1 call_int1 sInt (by decide +kernel) hg hm ha (he := he)
theorem e_max2 (hc : X.calm = true) (hg : Gl X "max") (hm : X.mg "max" = none) (ha : PE X a (tE (gx X) W ca)) (hb : PE X b (tE (gx X) W cb)) (he : starEach [a, b] X.env = (false, eval a X.env) :: starEach [b] X.env := by rfl) (he2 : starEach [b] X.env = (false, eval b X.env) :: starEach [] X.env := by rfl) (hpl : (backTo pos (starEach [b] X.env)).any (·.1) = false := by rfl) :
    PE X (.Call (.Name "max" p) [a, b] [] pos) (tE (gx X) W (c2 fMax2 ca cb)) := e_b2 (call_max2 hc) s2I (by decide +kernel) hg hm ha hb (he := he) (he2 := he2) (hpl := hpl)
theorem e_min2 (hc : X.calm = true) (hg : Gl X "min") (hm : X.mg "min" = none) (ha : PE X a (tE (gx X) W ca)) (hb : PE X b (tE (gx X) W cb)) (he : starEach [a, b] X.env = (false, eval a X.env) :: starEach [b] X.env := by rfl) (he2 : starEach [b] X.env = (false, eval b X.env) :: starEach [] X.env := by rfl) (hpl : (backTo pos (starEach [b] X.env)).any (·.1) = false := by rfl) :
    PE X (.Call (.Name "min" p) [a, b] [] pos) (tE (gx X) W (c2 fMin2 ca cb)) := e_b2 (call_min2 hc) s2I (by decide +kernel) hg hm ha hb (he := he) (he2 := he2) (hpl := hpl)
end

/-! ### in -/
def fInD (neg : Bool) (Γ : Gm) (x y : Val) : Option Val := match datR Γ x, datR Γ y with
  | some d, some (.list ds) => if SeqAt.shaped d && SeqAt.shaped (.list ds) && flatD d && flatDs ds then some (.dat (.bool (if neg then !ds.any fun z => PyData.eqv z d else ds.any fun z => PyData.eqv z d))) else none
  | _, _ => none
theorem sInD : Snd2 (gx X) W (rInD X.K) (fInD false) := by
  intro σ B0 H0 Γ0 B H Γ v u x y z Q s o1 o2 e q
  unfold fInD at e
  split at e
  · rename_i d ds h1 h2
    split at e
    · rename_i c
      simp only [Bool.and_eq_true] at c
      cases e
      exact ⟨d, ds, dq_dp _ _ c.1.2 (dat_read s.env o1 h1), dq_dp (.list ds) _ c.2 (dat_read s.env o2 h2), c.1.1.1, c.1.1.2, ke_dat s q (.bl _)⟩
    · cases e
  · cases e
theorem sNotInD : Snd2 (gx X) W (rNotInD X.K) (fInD true) := by
  intro σ B0 H0 Γ0 B H Γ v u x y z Q s o1 o2 e q
  unfold fInD at e
  split at e
  · rename_i d ds h1 h2
    split at e
    · rename_i c
      simp only [Bool.and_eq_true] at c
      cases e
      exact ⟨d, ds, dq_dp _ _ c.1.2 (dat_read s.env o1 h1), dq_dp (.list ds) _ c.2 (dat_read s.env o2 h2), c.1.1.1, c.1.1.2, ke_dat s q (.bl _)⟩
    · cases e
  · cases e
theorem Room.hu65 {k : Nat} {A : Around} (r : Room k A) : A.units + 65 < cLine := by have := r.un; omega
theorem e_in {k : Nat} (hr : Room k X.A) (ha : PE X a (tE (gx X) W ca)) (hb : PE X b (tE (gx X) W cb)) (hm : behindInMarks .In b = false := by with_unfolding_all rfl) : PE X (.Compare a [.In] [b] pos) (tE (gx X) W (c2 (fInD false) ca cb)) := e_cmp (op_inD (E.Room.hu65 hr)) sInD ha hb hm
theorem e_notin {k : Nat} (hr : Room k X.A) (ha : PE X a (tE (gx X) W ca)) (hb : PE X b (tE (gx X) W cb)) (hm : behindInMarks .NotIn b = false := by with_unfolding_all rfl) : PE X (.Compare a [.NotIn] [b] pos) (tE (gx X) W (c2 (fInD true) ca cb)) := e_cmp (op_notInD (E.Room.hu65 hr)) sNotInD ha hb hm
theorem t_in {k : Nat} (hr : Room k X.A) (ha : PE X a (tE (gx X) W ca)) (hb : PE X b (tE (gx X) W cb)) (hm : behindInMarks .In b = false := by with_unfolding_all rfl) : PT X (.Compare a [.In] [b] pos) (tT (gx X) W (asB (c2 (fInD false) ca cb))) := t_cmp (op_inD (E.Room.hu65 hr)) sInD ha hb hm
theorem t_notin {k : Nat} (hr : Room k X.A) (ha : PE X a (tE (gx X) W ca)) (hb : PE X b (tE (gx X) W cb)) (hm : behindInMarks .NotIn b = false := by with_unfolding_all rfl) : PT X (.Compare a [.NotIn] [b] pos) (tT (gx X) W (asB (c2 (fInD true) ca cb))) := t_cmp (op_notInD (E.Room.hu65 hr)) sNotInD ha hb hm

/-! ### isinstance -/
def tyName : D → String
  | .none => "NoneType"
  | .bool _ => "bool"
  | .int _ => "int"
  | .str _ => "str"
  | .list _ => "list"
  | .tuple _ => "tuple"
  | .dict _ => "dict"
def isInN (n T : String) : Bool := T == n || (n == "bool" && T == "int")
def isIn (d : D) (T : String) : Bool := isInN (tyName d) T
def KitT (T : String) : Prop := ∀ d : D, kitB (tyName d) T = some (isIn d T)
theorem kt_of {T : String} (h : ∀ n ∈ ["NoneType", "bool", "int", "str", "list", "tuple", "dict"], kitB n T = some (isInN n T)) : KitT T := fun d => h (tyName d) (by cases d <;> simp [tyName])
theorem kt_int : KitT "int" := kt_of (by decide +kernel)
theorem kt_bool : KitT "bool" := kt_of (by decide +kernel)
theorem kt_str : KitT "str" := kt_of (by decide +kernel)
theorem kt_list : KitT "list" := kt_of (by decide +kernel)
theorem kt_tuple : KitT "tuple" := kt_of (by decide +kernel)
theorem kt_dict : KitT "dict" := kt_of (by decide +kernel)
theorem tyx_of {K : PySem.W.Frag} {v : V} {d : D} (h : Dq H v d) : TyX K H v (.type (tyName d)) := by
  cases h with
  | non => exact .base .non
  | bl _ => exact .base (.bl _)
  | int _ => exact .base (.int _)
  | str _ => exact .base (.str _)
  | lst e _ => exact .base (.lst e)
  | tup e _ => exact .base (.tup e)
  | dic e _ _ => exact .base (.dK e)
def fIsI (Ts : List String) (Γ : Gm) (x : Val) : Option Val := (datR Γ x).map fun d => .dat (.bool (Ts.any (isIn d)))
theorem e_isi {T : String} {p p1 : Pos} {x : Str} (kt : KitT T) (hv : bootBuiltins x = some (.type T)) (hg : Gl X "isinstance") (hm : X.mg "isinstance" = none) (hg1 : Gl X x) (hm1 : X.mg x = none) (ha : PE X a (tE (gx X) W ca)) (hn : x ≠ "__name__" := by decide) (hdb : (x == ("__debug__" : Str)) = false := by decide)
    (he : starEach [a, .Name x p1] X.env = (false, eval a X.env) :: starEach [.Name x p1] X.env := by rfl) (hpl : (backTo pos (starEach [.Name x p1] X.env)).any (·.1) = false := by rfl) :
    PE X (.Call (.Name "isinstance" p) [a, .Name x p1] [] pos) (tE (gx X) W (c1 (fIsI [T]) ca)) :=
  PE.weak (pe_callB call_isi hg hm PyProof.Rows.boot_isinstance (pa_cons ha (pa_cons (pe_bltn (v := .ty T) hg1 hm1 hv rfl hn hdb) pa_nil) he) (he := he) (hpl := hpl)) fun σ H Q h => c1_ok (r := fun v H Q => rIsi X.K [v, .ty T] H Q) (fun σ B0 H0 Γ0 B H Γ v x z Q s o e q => by
    unfold fIsI at e
    cases hd : datR Γ x with
    | none => rw [hd] at e; cases e
    | some d =>
      rw [hd] at e; cases e
      have e1 : [T].any (isIn d) = isIn d T := by simp
      dsimp only at q
      rw [e1] at q
      exact ⟨v, .ty T, _, _, isIn d T, rfl, .ty T, tyx_of (dat_read s.env o hd), kit_ty (kt d), ke_dat s q (.bl _)⟩) h
theorem kit_any {K : PySem.W.Frag} {d : D} : ∀ {Ts : List String}, (∀ T ∈ Ts, KitT T) → PySem.W.kitAny K (.type (tyName d)) (Ts.map Value.type) = some (Ts.any (isIn d))
  | [], _ => rfl
  | T :: Ts, h => by
    have h1 := h T List.mem_cons_self d
    have h2 := kit_any (K := K) (d := d) fun T' m => h T' (List.mem_cons_of_mem _ m)
    rw [List.map_cons, List.any_cons]
    exact kitAny_cons (kit_ty h1) (fun hb => by rw [hb, Bool.false_or]; exact h2) fun hb => by rw [hb, Bool.true_or]
theorem e_isi2 {T1 T2 : String} {p p1 p2 p3 : Pos} {x1 x2 : Str} {kk} (kt1 : KitT T1) (kt2 : KitT T2) (hv1 : bootBuiltins x1 = some (.type T1)) (hv2 : bootBuiltins x2 = some (.type T2)) (hg : Gl X "isinstance") (hm : X.mg "isinstance" = none) (hg1 : Gl X x1) (hm1 : X.mg x1 = none) (hg2 : Gl X x2) (hm2 : X.mg x2 = none)
    (ha : PE X a (tE (gx X) W ca)) (hn1 : x1 ≠ "__name__" := by decide) (hdb1 : (x1 == ("__debug__" : Str)) = false := by decide) (hn2 : x2 ≠ "__name__" := by decide) (hdb2 : (x2 == ("__debug__" : Str)) = false := by decide)
    (he : starEach [a, .Tuple [.Name x1 p1, .Name x2 p2] kk p3] X.env = (false, eval a X.env) :: starEach [.Tuple [.Name x1 p1, .Name x2 p2] kk p3] X.env := by rfl) (hpl : (backTo pos (starEach [.Tuple [.Name x1 p1, .Name x2 p2] kk p3] X.env)).any (·.1) = false := by rfl) :
    PE X (.Call (.Name "isinstance" p) [a, .Tuple [.Name x1 p1, .Name x2 p2] kk p3] [] pos) (tE (gx X) W (c1 (fIsI [T1, T2]) ca)) :=
  PE.weak (pe_callB call_isiT hg hm PyProof.Rows.boot_isinstance (pa_cons ha (pa_cons (pe_tup (pa_cons (pe_bltn (v := .ty T1) hg1 hm1 hv1 rfl hn1 hdb1) (pa_cons (pe_bltn (v := .ty T2) hg2 hm2 hv2 rfl hn2 hdb2) pa_nil))) pa_nil) he) (he := he) (hpl := hpl)) fun σ H Q h =>
    c1_ok (r := fun v H Q => 2 ≤ sizeLine ∧ ∀ p, H p = none → rIsiT X.K [v, .ref p] (upd H p (.tup [.ty T1, .ty T2])) Q) (fun σ B0 H0 Γ0 B H Γ v x z Q s o e q => by
    unfold fIsI at e
    cases hd : datR Γ x with
    | none => rw [hd] at e; cases e
    | some d =>
      rw [hd] at e; cases e
      refine ⟨by decide, fun p n => ?_⟩
      have s1 := s.trans (stp_alloc (p := p) (o := .tup [.ty T1, .ty T2]) s.env n)
      have kk : PySem.W.kitAny X.K (.type (tyName d)) ([T1, T2].map Value.type) = some ([T1, T2].any (isIn d)) := kit_any fun T hT => by
        rcases List.mem_cons.mp hT with rfl | hT
        · exact kt1
        · rcases List.mem_cons.mp hT with rfl | hT
          · exact kt2
          · cases hT
      exact ⟨v, p, [.ty T1, .ty T2], _, [.type T1, .type T2], _, rfl, upd_same, .cons (.ty T1) (.cons (.ty T2) .nil), tyx_of (dq_mono (fun a o h => by rw [upd_ne (ne_of_none h n)]; exact h) (dat_read s.env o hd)), kk, ke_dat s1 q (.bl _)⟩) h
end E


set_option Elab.async false
set_option linter.all false
set_option maxRecDepth 100000
set_option maxHeartbeats 1000000
namespace E
open PySem L2 PyProof.Rows

variable {g : Gx} {B B1 B2 B' H H1 H2 H' : Hp} {σ σ1 σ2 σ' : L2.St} {Γ Γ1 Γ2 Γ' : Gm} {W : WX} {X : Cx} {a b e : PySem.Expr} {es : List PySem.Expr} {pos : Pos} {ca cb : M Val}

/-! ### what a def of ours is: entries in, a value and the entries out -/
abbrev Fn := List Ent → Option (Res Val)
def spM (g : Gx) (m : Fn) : Sp := fun vs H Q EE => ∃ B es, EOk g B H (vs.map some) es ∧ KE g (fun c d _ H => EE c d H) (vs.map some) B H es (m es) Q
/-- entries of arguments -/
def entOf (Γ : Gm) : AV → Option Ent
  | .dat d => some (.dat d)
  | .loc i => match Γ[i]? with
    | some (.own _ o) => some (.own true o)
    | some (.scr ns) => some (.scr ns)
    | some (.dat d) => some (.dat d)
    | _ => none
def entsOf (Γ : Gm) : List AV → Option (List Ent)
  | [] => some []
  | x :: r => match entOf Γ x, entsOf Γ r with
    | some e, some es => some (e :: es)
    | _, _ => none
def locsOf : List AV → List Nat
  | [] => []
  | .dat _ :: r => locsOf r
  | .loc i :: r => i :: locsOf r
/-- the entry at the place of the lent slot -/
def entBack : List AV → List Ent → Option Ob
  | .loc _ :: _, .own _ o :: _ => some o
  | .dat _ :: r, _ :: es => entBack r es
  | _, _ => none
def backTo' (Γ : Gm) (as : List AV) (es' : List Ent) : Option Gm := match locsOf as with
  | [] => some Γ
  | [i] => match Γ[i]? with
    | some (.own b _) => match entBack as es' with
      | some o => some (Γ.set i (.own b o))
      | none => none
    | _ => some Γ
  | _ => none
def callM (m : Fn) (as : List AV) : M Val := fun Γ => match entsOf Γ as with
  | none => none
  | some es => match m es with
    | none => none
    | some (.ok (.loc _) _) => none
    | some (.ok r es') => (backTo' Γ as es').map fun Γ' => .ok r Γ'
    | some (.exc x es') => (backTo' Γ as es').map fun Γ' => .exc x Γ'
def cCall (m : Fn) (ca : M (List AV)) : M Val := ca.bind (callM m)

theorem ents_len : ∀ {as : List AV} {es : List Ent}, entsOf Γ as = some es → as.length = es.length
  | [], _, h => by cases h; rfl
  | x :: r, es, h => by
    unfold entsOf at h
    split at h
    · rename_i e es' h1 h2
      cases h
      simp [ents_len h2]
    · cases h
theorem ents_at : ∀ {as : List AV} {es : List Ent} {i : Nat} {t : Ent}, entsOf Γ as = some es → es[i]? = some t → ∃ x, as[i]? = some x ∧ entOf Γ x = some t
  | [], _, i, t, h, h2 => by cases h; simp at h2
  | x :: r, es, i, t, h, h2 => by
    unfold entsOf at h
    split at h
    · rename_i e es' h1 h3
      cases h
      cases i with
      | zero => simp at h2; subst h2; exact ⟨x, rfl, h1⟩
      | succ i =>
        obtain ⟨y, q1, q2⟩ := ents_at (i := i) h3 (by simpa using h2)
        exact ⟨y, by simpa using q1, q2⟩
    · cases h
theorem ents_get : ∀ {as : List AV} {es : List Ent} {i : Nat} {x : AV}, entsOf Γ as = some es → as[i]? = some x → ∃ t, es[i]? = some t ∧ entOf Γ x = some t
  | [], _, i, t, h, h2 => by cases h; simp at h2
  | x :: r, es, i, t, h, h2 => by
    unfold entsOf at h
    split at h
    · rename_i e es' h1 h3
      cases h
      cases i with
      | zero => simp at h2; subst h2; exact ⟨e, rfl, h1⟩
      | succ i =>
        obtain ⟨y, q1, q2⟩ := ents_get (i := i) h3 (by simpa using h2)
        exact ⟨y, by simpa using q1, q2⟩
    · cases h
theorem paired_get {α β : Type} {F : α → β → Prop} : ∀ {l : List α} {m : List β} {i : Nat} {y : β}, Paired F l m → m[i]? = some y → ∃ x, l[i]? = some x ∧ F x y
  | _, _, _, _, .nil, e => by simp at e
  | _, _, 0, _, .cons r _, e => by simp at e; subst e; exact ⟨_, rfl, r⟩
  | _, _, i + 1, d, .cons _ t, e => by
    obtain ⟨v, h1, h2⟩ := paired_get (i := i) (y := d) t (by simpa using e)
    exact ⟨v, by simpa using h1, h2⟩
theorem locs_mem : ∀ {as : List AV} {i j : Nat}, as[j]? = some (.loc i) → i ∈ locsOf as
  | [], _, _, h => by simp at h
  | .dat _ :: r, i, 0, h => by simp at h
  | .dat _ :: r, i, j + 1, h => locs_mem (as := r) (i := i) (j := j) (by simpa using h)
  | .loc k :: r, i, 0, h => by simp at h; subst h; exact List.mem_cons_self
  | .loc k :: r, i, j + 1, h => List.mem_cons_of_mem _ (locs_mem (as := r) (i := i) (j := j) (by simpa using h))
theorem locs_one : ∀ {as : List AV} {i : Nat}, locsOf as = [i] → ∃ j : Nat, as[j]? = some (.loc i) ∧ ∀ (j' i' : Nat), as[j']? = some (.loc i') → j' = j
  | [], _, h => by cases h
  | .dat _ :: r, i, h => by
    obtain ⟨j, h1, h2⟩ := locs_one (as := r) (i := i) h
    refine ⟨j + 1, by simpa using h1, fun j' i' h3 => ?_⟩
    cases j' with
    | zero => simp at h3
    | succ j' => rw [h2 j' i' (by simpa using h3)]
  | .loc k :: r, i, h => by
    have h' : k :: locsOf r = [i] := h
    injection h' with e1 e2
    subst e1
    refine ⟨0, rfl, fun j' i' h3 => ?_⟩
    cases j' with
    | zero => rfl
    | succ j' =>
      have := locs_mem (as := r) (i := i') (j := j') (by simpa using h3)
      rw [e2] at this
      cases this
theorem back_at : ∀ {as : List AV} {es' : List Ent} {i j : Nat} {o : Ob}, as[j]? = some (.loc i) → (∀ (j' i' : Nat), as[j']? = some (.loc i') → j' = j) → es'[j]? = some (.own true o) → entBack as es' = some o
  | [], _, _, _, _, h, _, _ => by simp at h
  | .dat d :: r, [], i, j, o, h, _, h2 => by simp at h2
  | .dat d :: r, e :: es', i, 0, o, h, _, h2 => by simp at h
  | .dat d :: r, e :: es', i, j + 1, o, h, u, h2 => back_at (as := r) (es' := es') (i := i) (j := j) (by simpa using h) (fun j' i' h3 => by have := u (j' + 1) i' (by simpa using h3); omega) (by simpa using h2)
  | .loc k :: r, [], i, j, o, h, _, h2 => by simp at h2
  | .loc k :: r, e :: es', i, 0, o, h, _, h2 => by simp at h2; subst h2; rfl
  | .loc k :: r, e :: es', i, j + 1, o, h, u, h2 => by have := u 0 k rfl; omega

section
variable {as : List AV} {vs : List V}
theorem some_at {vs : List V} {i : Nat} {v : V} (h : (vs.map some)[i]? = some (some v)) : vs[i]? = some v := by
  rw [List.getElem?_map] at h
  cases hv : vs[i]? with
  | none => rw [hv] at h; cases h
  | some w => rw [hv] at h; cases h; rfl
theorem some_of {vs : List V} {i : Nat} {v : V} (h : vs[i]? = some v) : (vs.map some)[i]? = some (some v) := by
  rw [List.getElem?_map, h]; rfl
/-- the callee's entries stand -/
theorem call_env (e : EOk g B H σ Γ) (p : Paired (AVOk g B σ) vs as) (h : entsOf Γ as = some es1) (u : (locsOf as).length ≤ 1) : EOk g B H (vs.map some) es1 := by
  have one : ∀ (j j' i i' : Nat), as[j]? = some (.loc i) → as[j']? = some (.loc i') → j = j' := fun j j' i i' h1 h2 => by
    cases hl : locsOf as with
    | nil => have := locs_mem h1; rw [hl] at this; cases this
    | cons k r =>
      have : r = [] := by
        rw [hl] at u
        cases r with
        | nil => rfl
        | cons _ _ => simp at u
      subst this
      obtain ⟨j0, _, q⟩ := locs_one hl
      rw [q j i h1, q j' i' h2]
  refine ⟨e.sub, by rw [List.length_map, p.length, ents_len h], fun i t ht => ?_, fun i j b c o o' q h1 h2 h3 h4 => ?_⟩
  · obtain ⟨x, h1, h2⟩ := ents_at h ht
    obtain ⟨v, h3, h4⟩ := paired_get p h1
    rw [some_of h3]
    cases x with
    | dat d => cases h2; exact ⟨v, rfl, h4⟩
    | loc k =>
      have h4' : σ[k]? = some (some v) := h4
      unfold entOf at h2
      dsimp only at h2
      split at h2
      · rename_i hk
        cases h2
        have q := e.at_ k _ hk
        rw [h4'] at q
        exact q
      · rename_i hk
        cases h2
        have q := e.at_ k _ hk
        rw [h4'] at q
        exact q
      · rename_i hk
        cases h2
        have q := e.at_ k _ hk
        rw [h4'] at q
        exact q
      · cases h2
  · obtain ⟨x, q1, q2⟩ := ents_at h h1
    obtain ⟨y, q3, q4⟩ := ents_at h h2
    cases x with
    | dat d => cases q2
    | loc k =>
      cases y with
      | dat d => cases q4
      | loc l => exact one i j k l q1 q3
theorem own_call (e : EOk g B H σ Γ) (p : Paired (AVOk g B σ) vs as) (h : entsOf Γ as = some es1) {q : Addr} (o : Own (vs.map some) es1 q) : ∃ (j i : Nat) (b : Bool) (ob : Ob), as[j]? = some (.loc i) ∧ Γ[i]? = some (.own b ob) ∧ σ[i]? = some (some (.ref q)) ∧ (vs.map some)[j]? = some (some (.ref q)) ∧ es1[j]? = some (.own true ob) := by
  obtain ⟨j, b, ob, h1, h2⟩ := o
  obtain ⟨x, q1, q2⟩ := ents_at h h1
  obtain ⟨v, h3, h4⟩ := paired_get p q1
  rw [some_of h3] at h2
  cases h2
  cases x with
  | dat d => cases q2
  | loc i =>
    unfold entOf at q2
    dsimp only at q2
    split at q2
    · rename_i b' o' hk
      cases q2
      exact ⟨j, i, b', ob, q1, hk, h4, some_of h3, h1⟩
    · cases q2
    · cases q2
    · cases q2
/-- behind the call -/
theorem call_step {es' : List Ent} (e : EOk g B H σ Γ) (p : Paired (AVOk g B σ) vs as) (h : entsOf Γ as = some es1) (s : Stp g B H (vs.map some) es1 B' H' (vs.map some) es') (hb : backTo' Γ as es' = some Γ') :
    Stp g B H σ Γ B' H' σ Γ' ∧ (∀ q, Own σ Γ' q → Own σ Γ q) := by
  have ownup : ∀ q, Own (vs.map some) es1 q → Own σ Γ q := fun q o => by
    obtain ⟨j, i, b, ob, _, h2, h3, _⟩ := own_call e p h o
    exact ⟨i, b, ob, h2, h3⟩
  -- a slot that is not lent
  have slot : ∀ (i : Nat) (t : Ent), Γ[i]? = some t → (∀ j : Nat, as[j]? ≠ some (.loc i)) → EntOk g B' H' σ[i]? t := fun i t hi hn => by
    have q := e.at_ i t hi
    cases t with
    | un => trivial
    | dat d =>
      obtain ⟨v, e1, e2⟩ := q
      exact ⟨v, e1, dq_mono s.bb e2⟩
    | scr ns =>
      obtain ⟨v, e1, e2⟩ := q
      exact ⟨v, e1, sql_mono s.bb e2⟩
    | own b o =>
      obtain ⟨v, e1, e2, e3⟩ := q
      have no : ¬ Own (vs.map some) es1 v := fun z => by
        obtain ⟨j, i', b', ob, h1, h2, h3, _⟩ := own_call e p h z
        have := e.sep i' i _ _ _ _ _ h2 hi h3 e1
        subst this
        exact hn j h1
      refine ⟨v, e1, ?_, e3.mono s.bb fun u hu => s.keep v u hu no⟩
      cases hb' : B' v with
      | none => rfl
      | some u =>
        rcases s.newB v (by rw [hb']; simp) with z | z | z
        · exact absurd e2 z
        · exact absurd z e3.there
        · exact absurd z no
  have fin : ∀ Γ2 : Gm, Γ2.length = Γ.length → (∀ (i : Nat) (t : Ent), Γ2[i]? = some t → EntOk g B' H' σ[i]? t) → (∀ (i : Nat) (b : Bool) (o : Ob), Γ2[i]? = some (.own b o) → ∃ o', Γ[i]? = some (.own b o')) → (∀ (i : Nat) (b : Bool) (o : Ob), Γ[i]? = some (.own b o) → ∃ o', Γ2[i]? = some (.own b o')) →
      Stp g B H σ Γ B' H' σ Γ2 ∧ (∀ q, Own σ Γ2 q → Own σ Γ q) := fun Γ2 hl h1 h2 h3 => by
    have hown : ∀ q, Own σ Γ2 q → Own σ Γ q := fun q ⟨i, b, o, q1, q2⟩ => by
      obtain ⟨o', q3⟩ := h2 i b o q1
      exact ⟨i, b, o', q3, q2⟩
    refine ⟨⟨⟨s.env.sub, by rw [hl]; exact e.len, h1, fun i j b c o o' q q1 q2 q3 q4 => ?_⟩, s.bb, fun a o ha n => s.keep a o ha fun z => n (ownup a z), s.dom, fun a ha => ?_, fun q o => .inl (hown q o), fun i o hi => ?_⟩, hown⟩
    · obtain ⟨o1, z1⟩ := h2 i b o q1
      obtain ⟨o2, z2⟩ := h2 j c o' q2
      exact e.sep i j b c o1 o2 q z1 z2 q3 q4
    · rcases s.newB a ha with z | z | z
      · exact .inl z
      · exact .inr (.inl z)
      · exact .inr (.inr (ownup a z))
    · obtain ⟨o', z⟩ := h3 i true o hi
      exact ⟨o', z, rfl⟩
  unfold backTo' at hb
  split at hb
  · rename_i hl
    cases hb
    exact fin Γ rfl (fun i t hi => slot i t hi fun j hj => by have := locs_mem hj; rw [hl] at this; cases this) (fun i b o hi => ⟨o, hi⟩) fun i b o hi => ⟨o, hi⟩
  · rename_i i hl
    obtain ⟨j, hj, uj⟩ := locs_one hl
    obtain ⟨t, ht, et⟩ := ents_get h hj
    have other : ∀ k : Nat, k ≠ i → ∀ j' : Nat, as[j']? ≠ some (.loc k) := fun k hk j' hj' => by
      have := uj j' k hj'
      subst this
      rw [hj] at hj'
      cases hj'
      exact hk rfl
    split at hb
    · rename_i b o hi
      have ht' : t = .own true o := by
        unfold entOf at et
        dsimp only at et
        rw [hi] at et
        cases et; rfl
      subst ht'
      obtain ⟨o', q1, _⟩ := s.par j o ht
      rw [back_at hj uj q1] at hb
      cases hb
      have li : i < Γ.length := (List.getElem?_eq_some_iff.mp hi).1
      refine fin _ (by rw [List.length_set]) (fun k t hk => ?_) (fun k c oo hk => ?_) fun k c oo hk => ?_
      · by_cases e1 : i = k
        · subst e1
          rw [List.getElem?_set_self li] at hk; cases hk
          obtain ⟨p1, z1, z2, z3⟩ := s.env.at_ j _ q1
          obtain ⟨v, h3, h4⟩ := paired_get p hj
          rw [some_of h3] at z1
          cases z1
          exact ⟨p1, h4, z2, z3⟩
        · rw [List.getElem?_set_ne e1] at hk
          exact slot k t hk (other k fun z => e1 z.symm)
      · by_cases e1 : i = k
        · subst e1
          rw [List.getElem?_set_self li] at hk; cases hk
          exact ⟨o, hi⟩
        · rw [List.getElem?_set_ne e1] at hk
          exact ⟨oo, hk⟩
      · by_cases e1 : i = k
        · subst e1
          rw [hi] at hk; cases hk
          exact ⟨o', List.getElem?_set_self li⟩
        · exact ⟨oo, by rw [List.getElem?_set_ne e1]; exact hk⟩
    · rename_i hno
      cases hb
      refine fin Γ rfl (fun k t hk => ?_) (fun k b o hk => ⟨o, hk⟩) fun k b o hk => ⟨o, hk⟩
      by_cases e1 : k = i
      · subst e1
        have q := e.at_ k t hk
        cases t with
        | un => trivial
        | dat d =>
          obtain ⟨v, e1, e2⟩ := q
          exact ⟨v, e1, dq_mono s.bb e2⟩
        | scr ns =>
          obtain ⟨v, e1, e2⟩ := q
          exact ⟨v, e1, sql_mono s.bb e2⟩
        | own b o => exact absurd hk (hno b o)
      · exact slot k t hk (other k e1)
  · cases hb
end
theorem callM_ok {m : Fn} {as : List AV} {vs : List V} {B0 H0 : Hp} {Γ0 : Gm} {Q : VK} (s : Stp g B0 H0 σ Γ0 B H σ Γ) (p : Paired (AVOk g B σ) vs as) (h : KE g W σ B0 H0 Γ0 (callM m as Γ) Q) : spM g m vs H Q (WE W σ) := by
  have e := s.env
  unfold callM at h
  split at h
  · exact h.elim
  · rename_i es1 hes
    have fin1 : ∀ {es' Γ'}, backTo' Γ as es' = some Γ' → (locsOf as).length ≤ 1 := fun {es' Γ'} hb => by
      unfold backTo' at hb
      split at hb
      · rename_i hl; rw [hl]; simp
      · rename_i hl; rw [hl]; simp
      · cases hb
    split at h
    · exact h.elim
    · exact h.elim
    · rename_i r es' hnl hm
      cases hb : backTo' Γ as es' with
      | none => rw [hb] at h; exact h.elim
      | some Γ' =>
        rw [hb] at h
        refine ⟨B, es1, call_env e p hes (fin1 hb), ?_⟩
        rw [hm]
        intro B' H' v s2 o
        obtain ⟨s3, how⟩ := call_step e p hes s2 hb
        refine h B' H' v (s.trans s3) ?_
        cases r with
        | dat d => exact o
        | new ob =>
          obtain ⟨q, q1, q2, q3, q4, q5⟩ := o
          refine ⟨q, q1, q2, fresh0 s q3, fun z => ?_, q5⟩
          exact (e.own_some (how q z)).1 q3
        | loc i => exact absurd rfl (hnl i)
    · rename_i x es' hm
      cases hb : backTo' Γ as es' with
      | none => rw [hb] at h; exact h.elim
      | some Γ' =>
        rw [hb] at h
        refine ⟨B, es1, call_env e p hes (fin1 hb), ?_⟩
        rw [hm]
        intro B' H' c d s2 o
        obtain ⟨s3, how⟩ := call_step e p hes s2 hb
        exact h B' H' c d (s.trans s3) o
section
variable {x : Str} {p : Pos} {f : Addr} {fd : FuncData} {ps : List Str} {k : Nat} {m : Fn} {cas : M (List AV)}
theorem e_call (F : FnOk X.prog X.w X.K X.mg X.base (L2.CX X.prog X.w) k f fd ps (spM (gx X) m)) (hr : Room k X.A) (tk : Takes X W) (hg : Gl X x) (hm : X.mg x = some (.ref f)) (hk : PySem.W.keepIn X.K (.ref f) = true) (hb : Binds X.K fd ps [])
    (ha : PA X (e :: es) (tA (gx X) W cas)) (hdb : (x == ("__debug__" : Str)) = false := by decide) (he : starEach (e :: es) X.env = (false, eval e X.env) :: starEach es X.env := by rfl) (hpl : (backTo pos (starEach es X.env)).any (·.1) = false := by rfl) :
    PE X (.Call (.Name x p) (e :: es) [] pos) (tE (gx X) W (cCall m cas)) :=
  PE.weak (pe_callS F hr hg hm hk hb (fun σ => passAt tk σ) ha hdb he hpl) fun σ H Q h => by
    obtain ⟨B, Γ, e, h⟩ := h
    exact ta_bind (KX := fun r => KE (gx X) W σ B H Γ r Q) gl_e (Stp.refl e) h fun B1 H1 vs as Γ1 s1 _ p h1 => callM_ok s1 p h1
/-! .. by keywords alone -/
theorem run_fnkS {pins : List (Addr × Obj)} {σ : L2.St} {H : Hp} {s : Shared} {Q : VK} {us ws : List Value} {vs zs : List V} {ks : List Str} {gl : List Value → List Value → List Value} {gV : List V → List V → List V} {CX : CXT} {sp : Sp} {EE : L2.St → XK}
    (F : FnOk X.prog X.w X.K X.mg X.base CX k f fd ps sp) (hr : Room k X.A) (hb : KBinds X.K fd ps ks gl gV) (hx : PassesAt CX X σ (EE σ)) (I : Inv X pins σ H s) (r : Vals vs us) (rz : Vals zs ws) (h : sp (gV vs zs) H Q (EE σ)) :
    wpAny (model X.prog X.w) X.A (call (.ref f) us (ks.zip ws)) (EP X pins σ Q) X.xe s := by
  have r2 := hb.rel r rz
  have hl : (gl us ws).length = ps.length := by rw [← r2.length]; exact F.len _ _ _ _ h
  refine wpAny_call (codeAny_mono (F.run X.A X.stack s H ⟨us, ks.zip ws⟩ (gl us ws) (gV vs zs) Q (EE σ) hr I.env0 (hb.to s us ws I.kIn hl) r2 h) fun r s' hq => ?_)
  cases r with
  | error e => exact hx pins H s e s' I hq
  | ok fl =>
    cases fl with
    | ret u => exact I.after hq
    | next => exact False.elim hq
    | brk => exact False.elim hq
    | cont => exact False.elim hq
def tCallK0 (sp : Sp) (gV : List V → List V) (EE : L2.St → XK) (tk : TA) : TE := fun σ H Q => tk σ H fun zs H2 => sp (gV zs) H2 Q (EE σ)
theorem pe_callK0S {ks : List Str} {gl : List Value → List Value → List Value} {gV : List V → List V → List V} {CX : CXT} {sp : Sp} {EE : L2.St → XK} {kws : List Keyword} {tk : TA} (F : FnOk X.prog X.w X.K X.mg X.base CX k f fd ps sp) (hr : Room k X.A) (hg : Gl X x) (hm : X.mg x = some (.ref f)) (hk : PySem.W.keepIn X.K (.ref f) = true) (hb : KBinds X.K fd ps ks gl gV) (hx : ∀ σ, PassesAt CX X σ (EE σ))
    (hkw : PK X kws tk) (hall : (backToKw pos (keywordEach kws X.env)).all (·.1.isSome) = true := by rfl) (hks : (backToKw pos (keywordEach kws X.env)).filterMap (·.1) = ks := by rfl) (hdb : (x == ("__debug__" : Str)) = false := by decide)
    (hpl : ((backTo pos (starEach [] X.env)).any (·.1) || (backToKw pos (keywordEach kws X.env)).any (·.1.isNone)) = false := by rfl) : PE X (.Call (.Name x p) [] kws pos) (tCallK0 sp (gV []) EE tk) := by
  refine ⟨fun pins s σ H Q I h => ?_⟩
  refine wpAny_Call_Name_kw (ld_glob I hg hm ?_ hdb)
  refine PySem.W.callWith_KW0 (h₀ := X.base) I.ok.mod.kin hk hall ?_ hpl
  refine thn (hkw.run pos pins s σ H _ I h) fun ws s2 ⟨zs, H2, I2, rz, q2⟩ => ⟨I2.kIn, ?_⟩
  rw [hks]
  exact run_fnkS (us := []) (vs := []) F hr hb (hx σ) I2 .nil rz q2
/-- the keywords' values -/
def tK (g : Gx) (W : WX) (c : M (List AV)) : TA := tA g W c
theorem PK.weak {kws : List Keyword} {t t' : TA} (h : PK X kws t) (k : ∀ σ H Q, t' σ H Q → t σ H Q) : PK X kws t' := ⟨fun pos pins s σ H Q I q => h.run pos pins s σ H Q I (k σ H Q q)⟩
theorem k_nil : PK X [] (tA (gx X) W aNil) := PK.weak pk_nil fun σ H Q h => by
  obtain ⟨B, Γ, e, h⟩ := h
  exact h B H (Stp.refl e) [] .nil
theorem k_F {nm : Option Str} {kpos : Pos} {kws : List Keyword} {cr : M (List AV)} (ha : PE X e (tE (gx X) W ca)) (hr : PK X kws (tA (gx X) W cr)) : PK X (⟨nm, e, kpos⟩ :: kws) (tA (gx X) W (aF ca cr)) :=
  PK.weak (pk_cons ha hr) fun σ H Q h => by
    obtain ⟨B, Γ, e, h⟩ := h
    refine te_bind (KX := fun r => KM (gx X) W σ B H Γ r fun as B' H' _ => ∀ vs, Paired (AVOk (gx X) B' σ) vs as → Q vs H') gl_m (Stp.refl e) h fun B1 H1 v x Γ1 s1 _ o h1 => ?_
    refine m_bind (KX := fun r => KM (gx X) W σ B H Γ r fun as B' H' _ => ∀ vs, Paired (AVOk (gx X) B' σ) vs as → Q vs H') (gl_m (B0 := B) (H0 := H) (Γ0 := Γ) (σ := σ)) h1 (fun _ _ => frz_noexc) fun d Γ2 hf h2 => ?_
    obtain ⟨B2, s2, dq, _⟩ := frz_ok s1 o hf
    refine ta_bind (KX := fun r => KM (gx X) W σ B H Γ r fun as B' H' _ => ∀ vs, Paired (AVOk (gx X) B' σ) vs as → Q vs H') gl_m s2 h2 fun B3 H3 vs as Γ3 s3 s23 p h3 => ?_
    exact h3 B3 H3 s3 _ (.cons (dq_mono s23.bb dq) p)
/-- the parameters' order: perm lists, for each parameter, the place of its keyword -/
def permL {α : Type} (perm : List Nat) (l : List α) : List α := perm.filterMap fun i => l[i]?
def cCallK (m : Fn) (perm : List Nat) (ca : M (List AV)) : M Val := ca.bind fun as => if perm.all (fun i => decide (i < as.length)) then callM m (permL perm as) else fun _ => none
theorem paired_perm {α β : Type} {F : α → β → Prop} {l : List α} {m : List β} (p : Paired F l m) : ∀ (perm : List Nat), perm.all (fun i => decide (i < m.length)) = true → Paired F (permL perm l) (permL perm m)
  | [], _ => .nil
  | i :: r, h => by
    rw [List.all_cons, Bool.and_eq_true] at h
    have hi := of_decide_eq_true h.1
    have ih := paired_perm p r h.2
    have e1 : m[i]? = some m[i] := List.getElem?_eq_getElem hi
    obtain ⟨x, e2, q⟩ := paired_get p e1
    unfold permL
    rw [List.filterMap_cons, List.filterMap_cons, e1, e2]
    exact .cons q ih
theorem e_callK {kws : List Keyword} {ks : List Str} {gl : List Value → List Value → List Value} {gV : List V → List V → List V} {perm : List Nat} (F : FnOk X.prog X.w X.K X.mg X.base (L2.CX X.prog X.w) k f fd ps (spM (gx X) m)) (hr : Room k X.A) (tk : Takes X W) (hg : Gl X x) (hm : X.mg x = some (.ref f)) (hk : PySem.W.keepIn X.K (.ref f) = true)
    (hb : KBinds X.K fd ps ks gl gV) (hp : gV [] = permL perm) (ha : PK X kws (tA (gx X) W cas)) (hall : (backToKw pos (keywordEach kws X.env)).all (·.1.isSome) = true := by rfl) (hks : (backToKw pos (keywordEach kws X.env)).filterMap (·.1) = ks := by rfl) (hdb : (x == ("__debug__" : Str)) = false := by decide)
    (hpl : ((backTo pos (starEach [] X.env)).any (·.1) || (backToKw pos (keywordEach kws X.env)).any (·.1.isNone)) = false := by rfl) : PE X (.Call (.Name x p) [] kws pos) (tE (gx X) W (cCallK m perm cas)) :=
  PE.weak (pe_callK0S F hr hg hm hk hb (fun σ => passAt tk σ) ha hall hks hdb hpl) fun σ H Q h => by
    obtain ⟨B, Γ, e, h⟩ := h
    refine ta_bind (KX := fun r => KE (gx X) W σ B H Γ r Q) gl_e (Stp.refl e) h fun B1 H1 vs as Γ1 s1 _ p h1 => ?_
    split at h1
    · rename_i hall
      rw [hp]
      exact callM_ok s1 (paired_perm p perm hall) h1
    · exact h1.elim
end
end E


set_option Elab.async false
set_option linter.all false
set_option maxRecDepth 100000
set_option maxHeartbeats 1000000
namespace E
open PySem L2 PyProof.Rows

variable {g : Gx} {B B1 B2 B' H H1 H2 H' : Hp} {σ σ1 σ2 σ' : L2.St} {Γ Γ1 Γ2 Γ' : Gm} {W : WX} {X : Cx} {a b e : PySem.Expr} {es : List PySem.Expr} {pos : Pos} {ca cb : M Val}

/-! ### storing a name -/
def notPar (Γ : Gm) (i : Nat) : Bool := match Γ[i]? with
  | some (.own true _) => false
  | _ => true
def storeG (i : Nat) (r : Val) (Γ : Gm) : Option Gm := if notPar Γ i then (match r with
  | .dat d => some (Γ.set i (.dat d))
  | .new o => some (Γ.set i (.own false o))
  | .loc j => match Γ[j]? with
    | some (.dat d) => some (Γ.set i (.dat d))
    | some (.own false (.lst ds)) => some ((Γ.set j (.dat (.list ds))).set i (.dat (.list ds)))
    | some (.own false o) => some ((Γ.set j .un).set i (.own false o))
    | _ => none) else none
theorem notPar_ok {i : Nat} (h : notPar Γ i = true) (o : Ob) : Γ[i]? ≠ some (.own true o) := fun q => by
  unfold notPar at h
  rw [q] at h
  cases h
theorem set_get {α : Type} {l : List α} {i j : Nat} {x y : α} (h : (l.set i x)[j]? = some y) : (i = j ∧ i < l.length ∧ y = x) ∨ (i ≠ j ∧ l[j]? = some y) := by
  by_cases e : i = j
  · subst e
    by_cases hi : i < l.length
    · rw [List.getElem?_set_self hi] at h; cases h; exact .inl ⟨rfl, hi, rfl⟩
    · rw [List.getElem?_eq_none (by rw [List.length_set]; omega)] at h; cases h
  · rw [List.getElem?_set_ne e] at h
    exact .inr ⟨e, h⟩
/-- a slot is set to what stands for its value -/
theorem stp_set {B0 H0 : Hp} {Γ0 : Gm} {σ0 : L2.St} {i : Nat} {v : V} {t : Ent} (s : Stp g B0 H0 σ0 Γ0 B H σ Γ) (np : notPar Γ i = true) (ht : EntOk g B H (some (some v)) t) (hn : ∀ b o, t = .own b o → b = false ∧ ∃ p, v = .ref p ∧ ¬ Own σ Γ p ∧ (H0 p = none ∨ Own σ0 Γ0 p)) :
    Stp g B0 H0 σ0 Γ0 B H (σ.set i (some v)) (Γ.set i t) ∧ ∀ q, Own (σ.set i (some v)) (Γ.set i t) q → Own σ Γ q ∨ v = .ref q := by
  have e := s.env
  have ow : ∀ (j : Nat) (b : Bool) (o : Ob) (q : Addr), (Γ.set i t)[j]? = some (.own b o) → (σ.set i (some v))[j]? = some (some (.ref q)) → (i = j ∧ t = .own b o ∧ v = .ref q) ∨ (i ≠ j ∧ Γ[j]? = some (.own b o) ∧ σ[j]? = some (some (.ref q))) := fun j b o q h1 h2 => by
    rcases set_get h1 with ⟨e1, e2, e3⟩ | ⟨e1, e2⟩
    · refine .inl ⟨e1, e3.symm, ?_⟩
      rcases set_get h2 with ⟨_, _, e4⟩ | ⟨e4, _⟩
      · have := Option.some.inj e4
        exact this.symm
      · exact absurd e1 e4
    · refine .inr ⟨e1, e2, ?_⟩
      rcases set_get h2 with ⟨e4, _⟩ | ⟨_, e4⟩
      · exact absurd e4 e1
      · exact e4
  have how : ∀ q, Own (σ.set i (some v)) (Γ.set i t) q → Own σ Γ q ∨ v = .ref q := fun q ⟨j, b, o, h1, h2⟩ => by
    rcases ow j b o q h1 h2 with ⟨_, _, h3⟩ | ⟨_, h3, h4⟩
    · exact .inr h3
    · exact .inl ⟨j, b, o, h3, h4⟩
  refine ⟨⟨⟨e.sub, by rw [List.length_set, List.length_set]; exact e.len, fun j u hj => ?_, fun j k b c o o' q h1 h2 h3 h4 => ?_⟩, s.bb, s.keep, s.dom, s.newB, fun q h => ?_, fun j o hj => ?_⟩, how⟩
  · rcases set_get hj with ⟨e1, e2, e3⟩ | ⟨e1, e2⟩
    · subst e1 e3
      rw [List.getElem?_set_self (by rw [e.len]; exact e2)]
      exact ht
    · rw [List.getElem?_set_ne e1]
      exact e.at_ j u e2
  · rcases ow j b o q h1 h3 with ⟨a1, a2, a3⟩ | ⟨a1, a2, a3⟩ <;> rcases ow k c o' q h2 h4 with ⟨b1, b2, b3⟩ | ⟨b1, b2, b3⟩
    · exact a1.symm.trans b1
    · obtain ⟨_, p, e1, e2, _⟩ := hn b o a2
      rw [a3] at e1; cases e1
      exact absurd ⟨k, c, o', b2, b3⟩ e2
    · obtain ⟨_, p, e1, e2, _⟩ := hn c o' b2
      rw [b3] at e1; cases e1
      exact absurd ⟨j, b, o, a2, a3⟩ e2
    · exact e.sep j k b c o o' q a2 b2 a3 b3
  · obtain ⟨j, b, o, h1, h2⟩ := h
    rcases ow j b o q h1 h2 with ⟨_, a2, a3⟩ | ⟨_, a2, a3⟩
    · obtain ⟨_, p, e1, _, e3⟩ := hn b o a2
      rw [a3] at e1; cases e1
      exact e3.symm
    · exact s.own q ⟨j, b, o, a2, a3⟩
  · obtain ⟨o', q1, q2⟩ := s.par j o hj
    have hij : i ≠ j := fun z => by subst z; exact notPar_ok np o' q1
    exact ⟨o', by rw [List.getElem?_set_ne hij]; exact q1, by rw [List.getElem?_set_ne hij]; exact q2⟩
/-- an own object is let go -/
theorem stp_drop {B0 H0 : Hp} {Γ0 : Gm} {σ0 : L2.St} {j : Nat} {o : Ob} (s : Stp g B0 H0 σ0 Γ0 B H σ Γ) (hj : Γ[j]? = some (.own false o)) : Stp g B0 H0 σ0 Γ0 B H σ (Γ.set j .un) ∧ ∀ p, σ[j]? = some (some (.ref p)) → ¬ Own σ (Γ.set j .un) p := by
  have e := s.env
  have ow : ∀ (k : Nat) (b : Bool) (o : Ob), (Γ.set j .un)[k]? = some (.own b o) → j ≠ k ∧ Γ[k]? = some (.own b o) := fun k b o h => by
    rcases set_get h with ⟨_, _, e3⟩ | h
    · cases e3
    · exact h
  refine ⟨⟨⟨e.sub, by rw [List.length_set]; exact e.len, fun k u hk => ?_, fun i k b c o o' q h1 h2 h3 h4 => e.sep i k b c o o' q (ow i b o h1).2 (ow k c o' h2).2 h3 h4⟩, s.bb, s.keep, s.dom, s.newB, fun q ⟨k, b, o, h1, h2⟩ => s.own q ⟨k, b, o, (ow k b o h1).2, h2⟩, fun k o hk => ?_⟩, fun p hp ⟨k, b, o', h1, h2⟩ => ?_⟩
  · rcases set_get hk with ⟨_, _, e3⟩ | ⟨_, h⟩
    · subst e3; trivial
    · exact e.at_ k u h
  · obtain ⟨o', q1, q2⟩ := s.par k o hk
    have hjk : j ≠ k := fun z => by subst z; rw [hj] at q1; cases q1
    exact ⟨o', by rw [List.getElem?_set_ne hjk]; exact q1, q2⟩
  · obtain ⟨n, h3⟩ := ow k b o' h1
    exact n (e.sep j k _ _ _ _ p hj h3 hp h2)
theorem store_ok' {B0 H0 : Hp} {Γ0 : Gm} {σ0 : L2.St} {i : Nat} {v : V} {r : Val} (s : Stp g B0 H0 σ0 Γ0 B H σ Γ) (o : ValOk g H0 B H σ Γ v r) (h : storeG i r Γ = some Γ1) :
    ∃ B1, Stp g B0 H0 σ0 Γ0 B1 H (σ.set i (some v)) Γ1 ∧ Sub B B1 ∧ (∀ q, B q = none → ¬ Own σ Γ q → v ≠ .ref q → B1 q = none ∧ ¬ Own (σ.set i (some v)) Γ1 q) := by
  unfold storeG at h
  split at h
  · rename_i np
    split at h
    · rename_i d
      cases h
      obtain ⟨s1, how⟩ := stp_set (i := i) (v := v) (t := .dat d) s np ⟨v, rfl, o⟩ (fun b o h => by cases h)
      exact ⟨B, s1, Sub.refl _, fun q h1 h2 h3 => ⟨h1, fun z => (how q z).elim h2 h3⟩⟩
    · rename_i ob
      cases h
      obtain ⟨p, rfl, q1, q2, q3, q4⟩ := o
      obtain ⟨s1, how⟩ := stp_set (i := i) (v := .ref p) (t := .own false ob) s np ⟨p, rfl, q1, q4⟩ (fun b o h => by cases h; exact ⟨rfl, p, rfl, q3, .inl q2⟩)
      exact ⟨B, s1, Sub.refl _, fun q h1 h2 h3 => ⟨h1, fun z => (how q z).elim h2 h3⟩⟩
    · rename_i j
      have ov : σ[j]? = some (some v) := o
      split at h
      · rename_i d hd
        cases h
        obtain ⟨w, e1, e2⟩ := s.env.at_ j _ hd
        rw [ov] at e1; cases e1
        obtain ⟨s1, how⟩ := stp_set (i := i) (v := v) (t := .dat d) s np ⟨v, rfl, e2⟩ (fun b o h => by cases h)
        exact ⟨B, s1, Sub.refl _, fun q h1 h2 h3 => ⟨h1, fun z => (how q z).elim h2 h3⟩⟩
      · rename_i ds hd
        cases h
        obtain ⟨p, vs, B', e1, s1, dq, eB⟩ := stp_frzLoc s hd
        rw [ov] at e1; cases e1
        have np1 : notPar (Γ.set j (.dat (.list ds))) i = true := by
          unfold notPar
          split
          · rename_i o' hh
            rcases set_get hh with ⟨_, _, z⟩ | ⟨_, z⟩
            · cases z
            · exact absurd z (notPar_ok np o')
          · rfl
        obtain ⟨s2, how⟩ := stp_set (i := i) (v := .ref p) (t := .dat (.list ds)) s1 np1 ⟨_, rfl, dq⟩ (fun b o h => by cases h)
        obtain ⟨p2, z1, z2, _⟩ := s.env.at_ j _ hd
        rw [ov] at z1; cases z1
        subst eB
        refine ⟨_, s2, sub_upd z2, fun q h1 h2 h3 => ⟨upd_none (fun z => h3 (by rw [z])) h1, fun z => ?_⟩⟩
        rcases how q z with ⟨k, b, o, w1, w2⟩ | z
        · rcases set_get w1 with ⟨_, _, z⟩ | ⟨_, z⟩
          · cases z
          · exact h2 ⟨k, b, o, z, w2⟩
        · exact h3 z
      · rename_i ob _ hd
        cases h
        obtain ⟨p, z1, z2, z3⟩ := s.env.at_ j _ hd
        rw [ov] at z1; cases z1
        obtain ⟨s1, n1⟩ := stp_drop s hd
        have np1 : notPar (Γ.set j .un) i = true := by
          unfold notPar
          split
          · rename_i o' hh
            rcases set_get hh with ⟨_, _, z⟩ | ⟨_, z⟩
            · cases z
            · exact absurd z (notPar_ok np o')
          · rfl
        obtain ⟨s2, how⟩ := stp_set (i := i) (v := .ref p) (t := .own false ob) s1 np1 ⟨p, rfl, z2, z3⟩ (fun b o h => by cases h; exact ⟨rfl, p, rfl, n1 p ov, (s.own p ⟨j, _, _, hd, ov⟩).symm⟩)
        refine ⟨B, s2, Sub.refl _, fun q h1 h2 h3 => ⟨h1, fun z => ?_⟩⟩
        rcases how q z with ⟨k, b, o, w1, w2⟩ | z
        · rcases set_get w1 with ⟨_, _, z⟩ | ⟨_, z⟩
          · cases z
          · exact h2 ⟨k, b, o, z, w2⟩
        · exact h3 z
      · cases h
  · cases h

/-! ### statements -/
def sNil : M Flow := M.ret .nx
def sSeq (a b : M Flow) : M Flow := fun Γ => match a Γ with
  | some (.ok .nx Γ1) => b Γ1
  | r => r
theorem z_nil : PSs X [] (tS (gx X) W sNil) := PSs.weak pss_nil fun Ed σ H h => by
  obtain ⟨B, Γ, e, h⟩ := h
  exact h B H σ (Stp.refl e)
theorem sSeq_ok {ma mb : M Flow} {Ed : Ends} (h : tS g W (sSeq ma mb) Ed σ H) : tSeq (tS g W ma) (tS g W mb) Ed σ H := by
  obtain ⟨B, Γ, e, h⟩ := h
  refine ⟨B, Γ, e, ?_⟩
  unfold sSeq at h
  cases hc : ma Γ with
  | none => rw [hc] at h; exact h
  | some r =>
    rw [hc] at h
    cases r with
    | exc x Γ1 => exact h
    | ok f Γ1 =>
      cases f with
      | nx => exact fun B1 H1 σ1 s => ⟨B1, Γ1, s.env, KS.from s h⟩
      | brk => exact h
      | ct => exact h
      | ret r => exact h
section
variable {st : PySem.Stmt} {rest : List PySem.Stmt} {ma mb : M Flow}
theorem z_cons (h1 : PS X st (tS (gx X) W ma)) (h2 : PSs X rest (tS (gx X) W mb)) : PSs X (st :: rest) (tS (gx X) W (sSeq ma mb)) := PSs.weak (pss_cons h1 h2) fun _ _ _ h => sSeq_ok h
theorem z_one (h1 : PS X st (tS (gx X) W ma)) : PSs X [st] (tS (gx X) W ma) := pss_one h1
end
def sPass : M Flow := M.ret .nx
def sBrk : M Flow := M.ret .brk
def sCt : M Flow := M.ret .ct
theorem z_pass : PS X (.Pass pos) (tS (gx X) W sPass) := PS.weak ps_pass fun Ed σ H h => by
  obtain ⟨B, Γ, e, h⟩ := h
  exact h B H σ (Stp.refl e)
theorem z_break : PS X (.Break pos) (tS (gx X) W sBrk) := PS.weak ps_break fun Ed σ H h => by
  obtain ⟨B, Γ, e, h⟩ := h
  exact h B H σ (Stp.refl e)
theorem z_cont : PS X (.Continue pos) (tS (gx X) W sCt) := PS.weak ps_continue fun Ed σ H h => by
  obtain ⟨B, Γ, e, h⟩ := h
  exact h B H σ (Stp.refl e)
def sAsg (i : Nat) (c : M Val) : M Flow := c.bind fun r Γ => (storeG i r Γ).map fun Γ' => .ok .nx Γ'
theorem sAsg_ok {i : Nat} {Ed : Ends} (h : tS g W (sAsg i ca) Ed σ H) : tAsg (tE g W ca) (gName i) Ed σ H := by
  obtain ⟨B, Γ, e, h⟩ := h
  refine te_bind (KX := fun r => KS g W σ B H Γ r Ed) gl_s (Stp.refl e) h fun B1 H1 v r Γ1 s1 _ o h1 => ?_
  cases hs : storeG i r Γ1 with
  | none => rw [hs] at h1; exact h1.elim
  | some Γ2 =>
    rw [hs] at h1
    obtain ⟨B2, s2, _⟩ := store_ok' s1 o hs
    exact h1 B2 H1 _ s2
theorem z_asg (i : Nat) {x : Str} {pos' : Pos} (hN : X.N.Nodup) (hi : X.N[i]? = some x) (hx : Loc X.env.scope x) (he : PE X e (tE (gx X) W ca)) (hs : swapsWith e (some (.Name x pos')) pos.line X.env = pure false := by rfl) (hf : X.fn x = true ∨ X.env.scope.names.lookup x = some .local := by first | exact .inl rfl | exact .inr rfl | assumption) :
    PS X (.Assign [.Name x pos'] e pos) (tS (gx X) W (sAsg i ca)) := PS.weak (ps_set hN hi hx he hs hf) fun _ _ _ h => sAsg_ok h
/-- no slot's own stays lent -/
def unloc (r : Val) : M Val := fun Γ => match r with
  | .loc i => match frz (.loc i) Γ with
    | some (.ok d Γ1) => some (.ok (.dat d) Γ1)
    | _ => none
  | r => some (.ok r Γ)
theorem unloc_noexc {r : Val} {x : Exn} : unloc r Γ ≠ some (.exc x Γ1) := by
  intro h
  unfold unloc at h
  split at h
  · split at h <;> cases h
  · cases h
theorem unloc_ok {B0 H0 : Hp} {Γ0 : Gm} {σ0 : L2.St} {r r1 : Val} {v : V} (s : Stp g B0 H0 σ0 Γ0 B H σ Γ) (o : ValOk g H0 B H σ Γ v r) (h : unloc r Γ = some (.ok r1 Γ1)) :
    ∃ B1, Stp g B0 H0 σ0 Γ0 B1 H σ Γ1 ∧ ValOk g H0 B1 H σ Γ1 v r1 ∧ ∀ k, r1 ≠ .loc k := by
  unfold unloc at h
  split at h
  · rename_i i
    split at h
    · rename_i d Γ2 hf
      cases h
      obtain ⟨B1, s1, dq, _⟩ := frz_ok s o hf
      exact ⟨B1, s1, dq, fun k z => by cases z⟩
    · cases h
  · rename_i hn
    cases h
    exact ⟨B, s, o, fun k z => hn k z⟩
def sPar (i j : Nat) (a b : M Val) : M Flow := a.bind fun x => (unloc x).bind fun x => b.bind fun y => (unloc y).bind fun y Γ => match storeG i x Γ with
  | some Γ1 => (storeG j y Γ1).map fun Γ' => .ok .nx Γ'
  | none => none
theorem sPar_ok {i j : Nat} {Ed : Ends} (h : tS g W (sPar i j ca cb) Ed σ H) : tPar i j (tCons (tE g W ca) (tCons (tE g W cb) tNil)) Ed σ H := by
  obtain ⟨B, Γ, e, h⟩ := h
  refine te_bind (KX := fun r => KS g W σ B H Γ r Ed) gl_s (Stp.refl e) h fun B1 H1 v x0 Γ1 s1 _ o h1 => ?_
  refine m_bind (KX := fun r => KS g W σ B H Γ r Ed) (gl_s (B0 := B) (H0 := H) (Γ0 := Γ) (σ := σ)) h1 (fun _ _ => unloc_noexc) fun x Γ1' hx h1 => ?_
  obtain ⟨B1', s1, o, nx⟩ := unloc_ok s1 o hx
  refine te_bind (KX := fun r => KS g W σ B H Γ r Ed) gl_s s1 h1 fun B2 H2 u y0 Γ2 s2 s12 o2 h2 => ?_
  refine m_bind (KX := fun r => KS g W σ B H Γ r Ed) (gl_s (B0 := B) (H0 := H) (Γ0 := Γ) (σ := σ)) h2 (fun _ _ => unloc_noexc) fun y Γ2' hy h2 => ?_
  obtain ⟨B2', s12, o2, ny⟩ := unloc_ok s12 o2 hy
  have s2 := s1.trans s12
  refine ⟨v, u, rfl, ?_⟩
  cases hs : storeG i x Γ2' with
  | none => rw [hs] at h2; exact h2.elim
  | some Γ3 =>
    rw [hs] at h2
    dsimp only at h2
    obtain ⟨B3, s3, sb, fr⟩ := store_ok' s2 (o.step s12) hs
    cases hs2 : storeG j y Γ3 with
    | none => rw [hs2] at h2; exact h2.elim
    | some Γ4 =>
      rw [hs2] at h2
      have o3 : ValOk g H B3 H2 (σ.set i (some v)) Γ3 u y := by
        cases y with
        | dat d => exact dq_mono sb o2
        | new ob =>
          obtain ⟨p, rfl, q1, q2, q3, q4⟩ := o2
          have hv : v ≠ .ref p := fun z => by
            subst z
            cases x with
            | dat d =>
              have o1 : Dq B1' (.ref p) d := o
              have : H1 p ≠ none := by
                cases o1 with
                | lst q _ => rw [s1.env.sub _ _ q]; simp
                | tup q _ => rw [s1.env.sub _ _ q]; simp
                | dic q _ _ => rw [s1.env.sub _ _ q]; simp
              exact this q2
            | new ox =>
              obtain ⟨p', e1, _, _, _, e5⟩ := o
              cases e1
              exact e5.there q2
            | loc k => exact nx k rfl
          obtain ⟨f1, f2⟩ := fr p q1 q3 hv
          exact ⟨p, rfl, f1, fresh0 s1 q2, f2, q4.mono sb fun _ h => h⟩
        | loc k => exact absurd rfl (ny k)
      obtain ⟨B4, s4, _⟩ := store_ok' s3 o3 hs2
      exact h2 B4 H2 _ s4
theorem z_par (i j : Nat) {x y : Str} {px py pt : Pos} {kt k2 pt2} (hc : X.calm = true) (hN : X.N.Nodup) (hi : X.N[i]? = some x) (hj : X.N[j]? = some y) (hij : i ≠ j)
    (hx : X.env.scope.names.lookup x = some .local) (hy : X.env.scope.names.lookup y = some .local) (ha : PE X a (tE (gx X) W ca)) (hb : PE X b (tE (gx X) W cb))
    (hw : swappedStores [.Tuple [.Name x px, .Name y py] kt pt] (.Tuple [a, b] k2 pt2) X.env = pure (some [x, y]) := by rfl)
    (hs : swapsWithSole [.Tuple [.Name x px, .Name y py] kt pt] (.Tuple [a, b] k2 pt2) pos.line X.env = pure false := by rfl)
    (he : starEach [a, b] X.env = (false, eval a X.env) :: starEach [b] X.env := by rfl) (he2 : starEach [b] X.env = (false, eval b X.env) :: starEach [] X.env := by rfl) :
    PS X (.Assign [.Tuple [.Name x px, .Name y py] kt pt] (.Tuple [a, b] k2 pt2) pos) (tS (gx X) W (sPar i j ca cb)) := PS.weak (ps_par hc hN hi hj hij hx hy (pa_cons ha (pa_cons hb pa_nil he2) he) hw hs) fun _ _ _ h => sPar_ok h
/-- targets -/
def gSet1 (i : Nat) (d : D) (Γ : Gm) : Option Gm := if notPar Γ i then some (Γ.set i (.dat d)) else none
theorem gset1_ok {B0 H0 : Hp} {Γ0 : Gm} {σ0 : L2.St} {i : Nat} {v : V} {d : D} (s : Stp g B0 H0 σ0 Γ0 B H σ Γ) (dq : Dq B v d) (h : gSet1 i d Γ = some Γ1) : Stp g B0 H0 σ0 Γ0 B H (σ.set i (some v)) Γ1 := by
  unfold gSet1 at h
  split at h
  · rename_i np
    cases h
    exact (stp_set (i := i) (v := v) (t := .dat d) s np ⟨v, rfl, dq⟩ (fun b o h => by cases h)).1
  · cases h
/-- several names, from the left -/
def gSets : List Nat → List D → Gm → Option Gm
  | [], [], Γ => some Γ
  | i :: is, d :: ds, Γ => match gSet1 i d Γ with
    | some Γ1 => gSets is ds Γ1
    | none => none
  | _, _, _ => none
def gNames : List Nat → TGs
  | [] => gNil
  | i :: is => gCons (gName i) (gNames is)
/-- two slot lists that agree but at some places -/
def Off (is : List Nat) (σ σ' : L2.St) : Prop := σ'.length = σ.length ∧ ∀ k : Nat, k ∉ is → σ'[k]? = σ[k]?
theorem Off.one (i : Nat) (v : V) (σ : L2.St) : Off [i] σ (σ.set i (some v)) := ⟨List.length_set, fun k hk => List.getElem?_set_ne (fun z => hk (by rw [z]; exact List.mem_singleton.mpr rfl))⟩
theorem gsets_ok {B0 H0 : Hp} {Γ0 : Gm} {σ0 : L2.St} {Q : L2.St → Hp → Prop} : ∀ {is : List Nat} {ds : List D} {vs : List V} {σ : L2.St} {Γ Γ1 : Gm}, Stp g B0 H0 σ0 Γ0 B H σ Γ → DqA B vs ds → gSets is ds Γ = some Γ1 → (∀ σ', Stp g B0 H0 σ0 Γ0 B H σ' Γ1 → Off is σ σ' → Q σ' H) → gNames is vs σ H Q
  | [], [], _, σ, Γ, _, s, .nil, h, k => by cases h; exact ⟨rfl, k _ s ⟨rfl, fun _ _ => rfl⟩⟩
  | i :: is, d :: ds, _, σ, Γ, Γ1, s, .cons dq t, h, k => by
    unfold gSets at h
    split at h
    · rename_i Γ2 h2
      refine ⟨_, _, rfl, gsets_ok (gset1_ok s dq h2) t h fun σ' s' o => k σ' s' ⟨o.1.trans (Off.one i _ σ).1, fun j hj => ?_⟩⟩
      rw [o.2 j fun z => hj (List.mem_cons_of_mem _ z)]
      exact (Off.one i _ σ).2 j fun z => hj (by rw [List.mem_singleton.mp z]; exact List.mem_cons_self)
    · cases h
  | [], _ :: _, _, _, _, _, _, _, h, _ => by cases h
  | _ :: _, [], _, _, _, _, _, _, h, _ => by cases h
/-- x, y = a tuple -/
def tupD (Γ : Gm) (r : Val) : Option (List D) := tupOf Γ r
def sTupAsg (is : List Nat) (c : M Val) : M Flow := c.bind fun r Γ => match tupOf Γ r with
  | some ds => (gSets is ds Γ).map fun Γ' => .ok .nx Γ'
  | none => none
theorem gsets_len : ∀ {is : List Nat} {ds : List D} {Γ Γ1 : Gm}, gSets is ds Γ = some Γ1 → ds.length = is.length
  | [], [], _, _, _ => rfl
  | i :: is, d :: ds, Γ, Γ1, h => by
    unfold gSets at h
    split at h
    · simp [gsets_len h]
    · cases h
  | [], _ :: _, _, _, h => by cases h
  | _ :: _, [], _, _, h => by cases h
theorem sTupAsg_ok {is : List Nat} {Ed : Ends} {K : PySem.W.Frag} (h : tS g W (sTupAsg is ca) Ed σ H) : tAsg (tE g W ca) (gTup K is.length (gNames is)) Ed σ H := by
  obtain ⟨B, Γ, e, h⟩ := h
  refine te_bind (KX := fun r => KS g W σ B H Γ r Ed) gl_s (Stp.refl e) h fun B1 H1 v r Γ1 s1 _ o h1 => ?_
  split at h1
  · rename_i ds hd
    obtain ⟨p, vs, rfl, q1, q2⟩ := tup_read s1.env o hd
    cases hg : gSets is ds Γ1 with
    | none => rw [hg] at h1; exact h1.elim
    | some Γ2 =>
      rw [hg] at h1
      exact ⟨p, vs, rfl, SqT.of (s1.env.sub _ _ q1), by rw [dqa_len q2, gsets_len hg], gsets_ok s1 q2 hg fun σ' s2 _ => h1 B1 H1 σ' s2⟩
  · exact h1.elim
def sRet (c : M Val) : M Flow := c.bind fun r => M.ret (.ret r)
theorem z_ret (he : PE X e (tE (gx X) W ca)) : PS X (.Return (some e) pos) (tS (gx X) W (sRet ca)) := PS.weak (ps_ret he) fun Ed σ H h => by
  obtain ⟨B, Γ, e, h⟩ := h
  exact te_bind (KX := fun r => KS (gx X) W σ B H Γ r Ed) gl_s (Stp.refl e) h fun B1 H1 v r Γ1 s1 _ o h1 => h1 B1 H1 σ s1 v o
def sRetN : M Flow := M.ret (.ret (.dat .none))
theorem z_retN : PS X (.Return none pos) (tS (gx X) W sRetN) := PS.weak ps_retN fun Ed σ H h => by
  obtain ⟨B, Γ, e, h⟩ := h
  exact h B H σ (Stp.refl e) .non .non
def sExpr (c : M Val) : M Flow := c.bind fun _ => M.ret .nx
theorem z_expr (he : PE X e (tE (gx X) W ca)) (hs : swapsWith e none pos.line X.env = pure false := by rfl) : PS X (.Expr e pos) (tS (gx X) W (sExpr ca)) := PS.weak (ps_expr he hs) fun Ed σ H h => by
  obtain ⟨B, Γ, e, h⟩ := h
  exact te_bind (KX := fun r => KS (gx X) W σ B H Γ r Ed) gl_s (Stp.refl e) h fun B1 H1 v r Γ1 s1 _ o h1 => h1 B1 H1 σ s1
def sIf (t : M Bool) (a b : M Flow) : M Flow := t.bind fun k => if k then a else b
theorem z_if {c : PySem.Expr} {sa sb : List PySem.Stmt} {ta : M Bool} {ma mb : M Flow} (hc : PT X c (tT (gx X) W ta)) (ha : PSs X sa (tS (gx X) W ma)) (hb : PSs X sb (tS (gx X) W mb)) : PS X (.If c sa sb pos) (tS (gx X) W (sIf ta ma mb)) :=
  PS.weak (ps_if hc ha hb) fun Ed σ H h => by
    obtain ⟨B, Γ, e, h⟩ := h
    refine tt_bind (KX := fun r => KS (gx X) W σ B H Γ r Ed) gl_s (Stp.refl e) h fun B1 H1 k Γ1 s1 _ h1 => ?_
    cases k with
    | true =>
      show tS (gx X) W ma Ed σ H1
      exact ⟨B1, Γ1, s1.env, KS.from s1 h1⟩
    | false =>
      show tS (gx X) W mb Ed σ H1
      exact ⟨B1, Γ1, s1.env, KS.from s1 h1⟩
/-- x op= e of ints -/
def sAug (i : Nat) (f : Int → Int → Option Int) (c : M Val) : M Flow := fun Γ => match Γ[i]? with
  | some (.dat (.int a)) => (c.bind fun r Γ => match r with
    | .dat (.int b) => match f a b with
      | some z => (gSet1 i (.int z) Γ).map fun Γ' => .ok .nx Γ'
      | none => none
    | _ => none) Γ
  | _ => none
theorem sAug_ok {i : Nat} {f : Int → Int → Option Int} {ti : TIp} {Ed : Ends} (hti : ∀ a b z H Q, f a b = some z → Q (.int z) H → ti (.int a) (.int b) H Q) (h : tS g W (sAug i f ca) Ed σ H) : tAug i (tE g W ca) ti Ed σ H := by
  obtain ⟨B, Γ, e, h⟩ := h
  unfold sAug at h
  split at h
  · rename_i a hi
    obtain ⟨v, e1, e2⟩ := e.at_ i _ hi
    cases e2
    refine ⟨.int a, e1, ?_⟩
    refine te_bind (KX := fun r => KS g W σ B H Γ r Ed) gl_s (Stp.refl e) h fun B1 H1 v r Γ1 s1 _ o h1 => ?_
    split at h1
    · rename_i b
      cases (show Dq B1 v (.int b) from o)
      cases hf : f a b with
      | none => rw [hf] at h1; exact h1.elim
      | some z =>
        rw [hf] at h1
        dsimp only at h1
        cases hg : gSet1 i (.int z) Γ1 with
        | none => rw [hg] at h1; exact h1.elim
        | some Γ2 =>
          rw [hg] at h1
          exact hti a b z H1 _ hf (h1 B1 H1 _ (gset1_ok s1 (.int z) hg))
    · exact h1.elim
  · exact h.elim
section
variable {x : Str} {pos' : Pos}
theorem z_augAdd (i : Nat) (hN : X.N.Nodup) (hi : X.N[i]? = some x) (hx : Loc X.env.scope x) (he : PE X e (tE (gx X) W ca)) (hf : X.fn x = true ∨ X.env.scope.names.lookup x = some .local := by first | exact .inl rfl | exact .inr rfl | assumption) :
    PS X (.AugAssign (.Name x pos') .Add e pos) (tS (gx X) W (sAug i (fun a b => some (a + b)) ca)) := PS.weak (ps_aug hN hi hx he ip_add hf) fun _ _ _ h => sAug_ok (fun a b z H Q hz q => by cases hz; exact ⟨a, b, rfl, rfl, q⟩) h
theorem z_augSub (i : Nat) (hN : X.N.Nodup) (hi : X.N[i]? = some x) (hx : Loc X.env.scope x) (he : PE X e (tE (gx X) W ca)) (hf : X.fn x = true ∨ X.env.scope.names.lookup x = some .local := by first | exact .inl rfl | exact .inr rfl | assumption) :
    PS X (.AugAssign (.Name x pos') .Sub e pos) (tS (gx X) W (sAug i (fun a b => some (a - b)) ca)) := PS.weak (ps_aug hN hi hx he ip_sub hf) fun _ _ _ h => sAug_ok (fun a b z H Q hz q => by cases hz; exact ⟨a, b, rfl, rfl, q⟩) h
end
end E


set_option Elab.async false
set_option linter.all false
set_option maxRecDepth 100000
set_option maxHeartbeats 1000000
namespace E
open PySem L2 PyProof.Rows

variable {g : Gx} {B B1 B2 B' H H1 H2 H' : Hp} {σ σ1 σ2 σ' : L2.St} {Γ Γ1 Γ2 Γ' : Gm} {W : WX} {X : Cx} {a b e : PySem.Expr} {es : List PySem.Expr} {pos : Pos} {ca cb : M Val}

/-! ### an own object is written -/
theorem stp_mut {B0 H0 : Hp} {Γ0 : Gm} {σ0 : L2.St} {i : Nat} {c : Bool} {o o' : Ob} {p : Addr} {u : HO} (s : Stp g B0 H0 σ0 Γ0 B H σ Γ) (hi : Γ[i]? = some (.own c o)) (hp : σ[i]? = some (some (.ref p))) (ho : Holds g B (upd H p u) p o') :
    Stp g B0 H0 σ0 Γ0 B (upd H p u) σ (Γ.set i (.own c o')) := by
  have e := s.env
  have li : i < Γ.length := (List.getElem?_eq_some_iff.mp hi).1
  obtain ⟨p', e1, nb, hh⟩ := e.at_ i _ hi
  rw [hp] at e1; cases e1
  have ow : ∀ (j : Nat) (b : Bool) (x : Ob), (Γ.set i (.own c o'))[j]? = some (.own b x) → ∃ x', Γ[j]? = some (.own b x') := fun j b x h => by
    rcases set_get h with ⟨e1, _, e3⟩ | ⟨_, h⟩
    · cases e3; subst e1; exact ⟨o, hi⟩
    · exact ⟨x, h⟩
  have own0 : Own σ0 Γ0 p ∨ H0 p = none := s.own p ⟨i, c, o, hi, hp⟩
  refine ⟨⟨fun a w h => ?_, by rw [List.length_set]; exact e.len, fun j t hj => ?_, fun j k b d x y q h1 h2 h3 h4 => ?_⟩, s.bb, fun a w h n => ?_, fun a h => ?_, s.newB, fun q ⟨j, b, x, h1, h2⟩ => ?_, fun j x hj => ?_⟩
  · have ha : a ≠ p := fun z => by subst z; rw [nb] at h; cases h
    rw [upd_ne ha]; exact e.sub a w h
  · rcases set_get hj with ⟨e1, _, e3⟩ | ⟨e1, h⟩
    · subst e1 e3
      exact ⟨p, hp, nb, ho⟩
    · have q := e.at_ j t h
      cases t with
      | un => trivial
      | dat d => exact q
      | scr ns => exact q
      | own b x =>
        obtain ⟨q1, z1, z2, z3⟩ := q
        refine ⟨q1, z1, z2, z3.mono (Sub.refl _) fun w hw => ?_⟩
        rw [upd_ne (fun z => e1 (e.sep i j _ _ _ _ p hi h hp (by rw [z1, z])))]
        exact hw
  · obtain ⟨x', k1⟩ := ow j b x h1
    obtain ⟨y', k2⟩ := ow k d y h2
    exact e.sep j k b d x' y' q k1 k2 h3 h4
  · by_cases ha : a = p
    · subst ha
      rcases own0 with z | z
      · exact absurd z n
      · rw [z] at h; cases h
    · rw [upd_ne ha]; exact s.keep a w h n
  · by_cases ha : a = p
    · subst ha; rw [upd_same]; simp
    · rw [upd_ne ha]; exact s.dom a h
  · obtain ⟨x', k1⟩ := ow j b x h1
    exact s.own q ⟨j, b, x', k1, h2⟩
  · obtain ⟨x1, q1, q2⟩ := s.par j x hj
    by_cases e1 : i = j
    · subst e1
      rw [hi] at q1; cases q1
      exact ⟨o', List.getElem?_set_self li, q2⟩
    · exact ⟨x1, by rw [List.getElem?_set_ne e1]; exact q1, q2⟩
/-- a new object of the walk that no slot and no data know is written -/
theorem stp_mutFree {B0 H0 : Hp} {Γ0 : Gm} {σ0 : L2.St} {p : Addr} {u : HO} (s : Stp g B0 H0 σ0 Γ0 B H σ Γ) (n0 : H0 p = none) (nb : B p = none) (no : ¬ Own σ Γ p) : Stp g B0 H0 σ0 Γ0 B (upd H p u) σ Γ := by
  have e := s.env
  refine ⟨⟨fun a w h => ?_, e.len, fun j t h => ?_, e.sep⟩, s.bb, fun a w h n => ?_, fun a h => ?_, s.newB, s.own, s.par⟩
  · have ha : a ≠ p := fun z => by subst z; rw [nb] at h; cases h
    rw [upd_ne ha]; exact e.sub a w h
  · have q := e.at_ j t h
    cases t with
    | un => trivial
    | dat d => exact q
    | scr ns => exact q
    | own b x =>
      obtain ⟨q1, z1, z2, z3⟩ := q
      refine ⟨q1, z1, z2, z3.mono (Sub.refl _) fun w hw => ?_⟩
      rw [upd_ne (fun z => no ⟨j, b, x, h, by rw [z1, z]⟩)]
      exact hw
  · have ha : a ≠ p := fun z => by subst z; rw [n0] at h; cases h
    rw [upd_ne ha]; exact s.keep a w h n
  · have ha : a ≠ p := fun z => by subst z; exact h n0
    rw [upd_ne ha]; exact s.dom a h

/-- the slot is ours -/
def chk (k : Nat) : M Unit := fun Γ => match Γ[k]? with
  | some (.own _ (.lst _)) => some (.ok () Γ)
  | _ => none
theorem chk_noexc {k : Nat} {x : Exn} : chk k Γ ≠ some (.exc x Γ1) := by
  intro h
  unfold chk at h
  split at h <;> cases h
theorem chk_ok {k : Nat} {u : Unit} (e : EOk g B H σ Γ) (h : chk k Γ = some (.ok u Γ1)) : Γ1 = Γ ∧ ∃ p vs, σ[k]? = some (some (.ref p)) ∧ H p = some (.lst vs) := by
  unfold chk at h
  split at h
  · rename_i hk
    cases h
    obtain ⟨p, e1, _, vs, e3, _⟩ := e.at_ k _ hk
    exact ⟨rfl, p, vs, e1, e3⟩
  · cases h
/-- xs[i] = e, xs a slot's own list -/
def sSet (k : Nat) (ci ce : M Val) : M Flow := ce.bind fun r => (frz r).bind fun d => (chk k).bind fun _ => ci.bind fun j Γ => match j, Γ[k]? with
  | .dat (.int j), some (.own c (.lst ds)) => match ixN ds.length j with
    | some n => some (.ok .nx (Γ.set k (.own c (.lst (ds.set n d)))))
    | none => none
  | _, _ => none
theorem own_list {k : Nat} {c : Bool} {ds : List D} (e : EOk g B H σ Γ) (hk : Γ[k]? = some (.own c (.lst ds))) : ∃ p vs, σ[k]? = some (some (.ref p)) ∧ H p = some (.lst vs) ∧ DqA B vs ds := by
  obtain ⟨p, e1, _, vs, e3, e4⟩ := e.at_ k _ hk
  exact ⟨p, vs, e1, e3, e4⟩
theorem sSet_ok {k : Nat} {Ed : Ends} {ci : M Val} (h : tS g W (sSet k ci ca) Ed σ H) : tAsg (tE g W ca) (gSub (tVar k) (tE g W ci) rSetL) Ed σ H := by
  obtain ⟨B, Γ, e, h⟩ := h
  refine te_bind (KX := fun r => KS g W σ B H Γ r Ed) gl_s (Stp.refl e) h fun B1 H1 v r Γ1 s1 _ o h1 => ?_
  refine m_bind (KX := fun r => KS g W σ B H Γ r Ed) (gl_s (B0 := B) (H0 := H) (Γ0 := Γ) (σ := σ)) h1 (fun _ _ => frz_noexc) fun d Γ2 hf h2 => ?_
  obtain ⟨B2, s2, dq, _⟩ := frz_ok s1 o hf
  refine m_bind (KX := fun r => KS g W σ B H Γ r Ed) (gl_s (B0 := B) (H0 := H) (Γ0 := Γ) (σ := σ)) h2 (fun _ _ => chk_noexc) fun u Γ2' hc h2' => ?_
  obtain ⟨rfl, p, _, hp, _⟩ := chk_ok s2.env hc
  refine ⟨_, hp, ?_⟩
  refine te_bind (KX := fun r => KS g W σ B H Γ r Ed) gl_s s2 h2' fun B3 H3 i r3 Γ3 s3 s23 o3 h3 => ?_
  split at h3
  · rename_i j c ds hk
    obtain ⟨p2, vs, q1, q2, q3⟩ := own_list s3.env hk
    rw [hp] at q1; cases q1
    cases (show Dq B3 i (.int j) from o3)
    split at h3
    · rename_i n hn
      refine ⟨p, vs, j, n, rfl, rfl, q2, by rw [dqa_len q3]; exact hn, ?_⟩
      exact h3 B3 _ σ (stp_mut s3 hk hp ⟨_, upd_same, dqa_set (dq_mono s23.bb dq) n q3⟩)
    · exact h3.elim
  · exact h3.elim
theorem z_set {k : Nat} {x : Str} {i : PySem.Expr} {px p2 : Pos} {ci : M Val} (hg : PG X (.Subscript (.Name x px) i p2) (gSub (tVar k) (tE (gx X) W ci) rSetL)) (he : PE X e (tE (gx X) W ca))
    (hs : swapsWithSole [.Subscript (.Name x px) i p2] e pos.line X.env = pure false := by rfl) (hw : swappedStores [.Subscript (.Name x px) i p2] e X.env = pure none := by rfl)
    (h1 : (assignEach [.Subscript (.Name x px) i p2] X.env).map (·.2) = [assign (.Subscript (.Name x px) i p2) X.env] := by rfl) :
    PS X (.Assign [.Subscript (.Name x px) i p2] e pos) (tS (gx X) W (sSet k ci ca)) := PS.weak (ps_asg he hg hs hw h1) fun _ _ _ h => sSet_ok h

/-! ### methods of a slot's own list -/
/-- f: the list, the arguments; the answer, the list behind it -/
def cMth (k : Nat) (f : List D → List D → Option (D × List D)) (ca : M (List AV)) : M Val := (chk k).bind fun _ => ca.bind fun as Γ => match datsOf as, Γ[k]? with
  | some ys, some (.own c (.lst ds)) => match f ds ys with
    | some (z, ds') => some (.ok (.dat z) (Γ.set k (.own c (.lst ds'))))
    | none => none
  | _, _ => none
def MthOk (g : Gx) (r : V → List V → Hp → VK → Prop) (f : List D → List D → Option (D × List D)) : Prop :=
  ∀ (B H : Hp) (p : Addr) (vs ws : List V) (ds ys ds' : List D) (z : D) (Q : VK), Sub B H → H p = some (.lst vs) → DqA B vs ds → DqA B ws ys → f ds ys = some (z, ds') → (∀ v' vs', DqA B vs' ds' → Dq B v' z → Q v' (upd H p (.lst vs'))) → r (.ref p) ws H Q
theorem cMth_ok {k : Nat} {r : V → List V → Hp → VK → Prop} {f : List D → List D → Option (D × List D)} {cas : M (List AV)} (S : MthOk (gx X) r f) {Q : VK} (h : tE (gx X) W (cMth k f cas) σ H Q) : tBM X.K "list" r (tVar k) (tA (gx X) W cas) σ H Q := by
  obtain ⟨B, Γ, e, h⟩ := h
  refine m_bind (KX := fun r => KE (gx X) W σ B H Γ r Q) (gl_e (B0 := B) (H0 := H) (Γ0 := Γ) (σ := σ)) h (fun _ _ => chk_noexc) fun u Γ1 hc h1 => ?_
  obtain ⟨rfl, p, vs0, hp, hv0⟩ := chk_ok e hc
  refine ⟨_, hp, .inl ⟨rfl, vs0, SqL.of hv0⟩, ?_⟩
  refine ta_bind (KX := fun r => KE (gx X) W σ B H Γ1 r Q) gl_e (Stp.refl e) h1 fun B1 H1 ws as Γ2 s1 _ pr h2 => ?_
  split at h2
  · rename_i ys c ds hy hk
    obtain ⟨p2, vs, q1, q2, q3⟩ := own_list s1.env hk
    rw [hp] at q1; cases q1
    split at h2
    · rename_i z ds' hf
      exact S B1 H1 p vs ws ds ys ds' z Q s1.env.sub q2 q3 (dats_ok (vs := ws) pr hy) hf fun v' vs' a d => h2 B1 _ v' (stp_mut s1 hk hp ⟨_, upd_same, a⟩) d
    · exact h2.elim
  · exact h2.elim
section
variable {x name : Str} {k : Nat} {px apos : Pos} {id : String} {r : V → List V → Hp → VK → Prop} {f : List D → List D → Option (D × List D)} {cas : M (List AV)}
theorem e_mth (k : Nat) (S : MthOk (gx X) r f) (slot : Slot "list" name id) (hty : typeOf (.builtin id) = pure (.type "method_descriptor")) (hm : MtR X id r) (hN : X.N[k]? = some x) (hv : Vis X.env.scope x) (ha : PA X (e :: es) (tA (gx X) W cas))
    (hbase : attributeBase (.Name x px) name X.env (eval (.Name x px) X.env) = eval (.Name x px) X.env := by rfl)
    (hfew : ((backTo pos (starEach (e :: es) X.env)).all (fun x => !x.1) && (backToKw pos (keywordEach [] X.env)).all (fun x => x.1.isSome)
      && decide ((e :: es).length + ([] : List Keyword).length + (if ([] : List Keyword).isEmpty then 0 else 1) < 30)) = true := by rfl)
    (hline : (apos.endLine == pos.line) = true := by rfl) (hs : starEach (e :: es) X.env = (false, eval e X.env) :: starEach es X.env := by rfl) (hplain : (backTo pos (starEach es X.env)).any (·.1) = false := by rfl)
    (hd : (x == ("__debug__" : Str)) = false := by decide) (hcd : (x == ("__classdict__" : Str)) = false := by decide) :
    PE X (.Call (.Attribute (.Name x px) name apos) (e :: es) [] pos) (tE (gx X) W (cMth k f cas)) :=
  PE.weak (pe_bm PySem.F.plainAttrs_list slot hty hm (pe_var (i := k) hN hv hd hcd) ha hbase hfew hline hs hplain) fun _ _ _ h => cMth_ok S h
theorem e_mth0 (k : Nat) (S : MthOk (gx X) r f) (slot : Slot "list" name id) (hty : typeOf (.builtin id) = pure (.type "method_descriptor")) (hm : MtR X id r) (hN : X.N[k]? = some x) (hv : Vis X.env.scope x)
    (hbase : attributeBase (.Name x px) name X.env (eval (.Name x px) X.env) = eval (.Name x px) X.env := by rfl) (hline : (apos.endLine == pos.line) = true := by rfl)
    (hd : (x == ("__debug__" : Str)) = false := by decide) (hcd : (x == ("__classdict__" : Str)) = false := by decide) :
    PE X (.Call (.Attribute (.Name x px) name apos) [] [] pos) (tE (gx X) W (cMth k f aNil)) :=
  PE.weak (pe_bm0 PySem.F.plainAttrs_list slot hty hm (pe_var (i := k) hN hv hd hcd) hbase hline) fun σ H Q h => by
    obtain ⟨w, h1, h2, B, Γ, e, h3⟩ := cMth_ok S h
    exact ⟨w, h1, h2, h3 B H (Stp.refl e) [] .nil⟩
end
def mAppend (ds : List D) : List D → Option (D × List D)
  | [y] => if ds.length < 1000000 then some (.none, ds ++ [y]) else none
  | _ => none
theorem sAppend : MthOk g rAppend mAppend := by
  intro B H p vs ws ds ys ds' z Q sb h1 h2 h3 hf q
  unfold mAppend at hf
  split at hf
  · split at hf
    · rename_i hl
      cases hf
      cases h3 with
      | cons q1 q2 =>
        cases q2
        exact ⟨p, vs, _, rfl, rfl, h1, by rw [dqa_len h2]; exact Nat.lt_of_lt_of_le hl (by decide), q _ _ (dqa_app h2 (.cons q1 .nil)) .non⟩
    · cases hf
  · cases hf
def mExtend (ds : List D) : List D → Option (D × List D)
  | [.list ys] => if ds.length + ys.length ≤ 1000000 then some (.none, ds ++ ys) else none
  | _ => none
theorem sExtend : MthOk g rExtend mExtend := by
  intro B H p vs ws ds ys ds' z Q sb h1 h2 h3 hf q
  unfold mExtend at hf
  split at hf
  · split at hf
    · rename_i hl
      cases hf
      cases h3 with
      | cons q1 q2 =>
        cases q2
        cases q1 with
        | lst w1 w2 => exact ⟨p, _, vs, _, rfl, rfl, h1, sb _ _ w1, by rw [dqa_len h2, dqa_len w2]; exact Nat.le_trans hl (by decide), q _ _ (dqa_app h2 w2) .non⟩
    · cases hf
  · cases hf
def mPopAt (ds : List D) : List D → Option (D × List D)
  | [.int i] => if ds.length ≤ 1000000 then (match ixN ds.length i with
    | some k => (ds[k]?).map fun d => (d, ds.eraseIdx k)
    | none => none) else none
  | _ => none
theorem sPopAt : MthOk g rPopAt mPopAt := by
  intro B H p vs ws ds ys ds' z Q sb h1 h2 h3 hf q
  unfold mPopAt at hf
  split at hf
  · rename_i i
    split at hf
    · rename_i hz
      split at hf
      · rename_i k hk
        cases hd : ds[k]? with
        | none => rw [hd] at hf; cases hf
        | some d =>
          rw [hd] at hf
          cases hf
          cases h3 with
          | cons q1 q2 =>
            cases q2
            cases q1
            obtain ⟨v, w1, w2⟩ := dqa_get h2 hd
            obtain ⟨e1, e2, e3, e4⟩ := ixN_seq hk
            have hl := dqa_len h2
            exact ⟨p, vs, i, k, v, rfl, rfl, h1, by omega, by omega, by rw [hl]; exact e1, w1, q _ _ (dqa_erase k h2) w2⟩
      · cases hf
    · cases hf
  · cases hf
def mInsert (ds : List D) : List D → Option (D × List D)
  | [.int i, y] => if ds.length < 1000000 ∧ 0 ≤ i ∧ i < 2 ^ 63 then some (.none, ds.take i.toNat ++ [y] ++ ds.drop i.toNat) else none
  | _ => none
theorem sInsert : MthOk g (fun x vs H Q => ∃ (l : Addr) (xs : List V) (i : Int) (y : V), x = .ref l ∧ vs = [.int i, y] ∧ H l = some (.lst xs) ∧ xs.length < sizeLine ∧ 0 ≤ i ∧ i < 2 ^ 63 ∧ Q .non (upd H l (.lst (xs.take i.toNat ++ [y] ++ xs.drop i.toNat)))) mInsert := by
  intro B H p vs ws ds ys ds' z Q sb h1 h2 h3 hf q
  unfold mInsert at hf
  split at hf
  · rename_i i y
    split at hf
    · rename_i hl
      cases hf
      cases h3 with
      | cons q1 q2 =>
        cases q1
        cases q2 with
        | cons q3 q4 =>
          cases q4
          exact ⟨p, vs, i, _, rfl, rfl, h1, by rw [dqa_len h2]; exact Nat.lt_of_lt_of_le hl.1 (by decide), hl.2.1, hl.2.2, q _ _ (dqa_app (dqa_app (dqa_take _ h2) (.cons q3 .nil)) (dqa_drop _ h2)) .non⟩
    · cases hf
  · cases hf
def mReverse (ds : List D) : List D → Option (D × List D)
  | [] => some (.none, ds.reverse)
  | _ => none
theorem sReverse : MthOk g rReverse mReverse := by
  intro B H p vs ws ds ys ds' z Q sb h1 h2 h3 hf q
  unfold mReverse at hf
  split at hf
  · cases hf
    cases h3
    exact ⟨p, vs, rfl, rfl, h1, q _ _ (dqa_rev h2) .non⟩
  · cases hf
def mClear (_ds : List D) : List D → Option (D × List D)
  | [] => some (.none, [])
  | _ => none
theorem sClear : MthOk g rClear mClear := by
  intro B H p vs ws ds ys ds' z Q sb h1 h2 h3 hf q
  unfold mClear at hf
  split at hf
  · cases hf
    cases h3
    exact ⟨p, vs, rfl, rfl, h1, q _ _ .nil .non⟩
  · cases hf
def firstI (k : Int) : List Int → Option Nat
  | [] => none
  | n :: r => if n = k then some 0 else (firstI k r).map (· + 1)
theorem firstI_ok {k : Int} : ∀ {ns : List Int} {j : Nat}, firstI k ns = some j → ns[j]? = some k ∧ ∀ m : Nat, m < j → ns[m]? ≠ some k
  | [], _, h => by cases h
  | n :: r, j, h => by
    unfold firstI at h
    split at h
    · rename_i e
      cases h
      subst e
      exact ⟨rfl, fun m hm => absurd hm (Nat.not_lt_zero m)⟩
    · rename_i e
      cases hr : firstI k r with
      | none => rw [hr] at h; cases h
      | some j' =>
        rw [hr] at h
        cases h
        obtain ⟨h1, h2⟩ := firstI_ok hr
        refine ⟨by simpa using h1, fun m hm => ?_⟩
        have hm' : m < j' + 1 := hm
        cases m with
        | zero => simpa using e
        | succ m => simpa using h2 m (by omega)
def mRemove (ds : List D) : List D → Option (D × List D)
  | [.int k] => match intsOf ds with
    | some ns => (firstI k ns).map fun j => (.none, (ns.eraseIdx j).map PyData.int)
    | none => none
  | _ => none
theorem sRemove : MthOk g rRemI mRemove := by
  intro B H p vs ws ds ys ds' z Q sb h1 h2 h3 hf q
  unfold mRemove at hf
  split at hf
  · rename_i k
    split at hf
    · rename_i ns hn
      cases hj : firstI k ns with
      | none => rw [hj] at hf; cases hf
      | some j =>
        rw [hj] at hf
        cases hf
        cases h3 with
        | cons q1 q2 =>
          cases q2
          cases q1
          obtain ⟨e1, e2⟩ := firstI_ok hj
          rw [intsOf_eq hn] at h2
          have e3 := dqa_of_ints h2
          rw [e3] at h1
          exact ⟨p, ns, k, j, rfl, rfl, h1, e1, e2, q _ _ (dqa_ints _) .non⟩
    · cases hf
  · cases hf
end E


set_option Elab.async false
set_option linter.all false
set_option maxRecDepth 100000
set_option maxHeartbeats 1000000
namespace E
open PySem L2 PyProof.Rows

variable {g : Gx} {B B1 B2 B' H H1 H2 H' : Hp} {σ σ1 σ2 σ' : L2.St} {Γ Γ1 Γ2 Γ' : Gm} {W : WX} {X : Cx} {a b e : PySem.Expr} {es : List PySem.Expr} {pos : Pos} {ca cb : M Val}

/-! ### targets -/
abbrev Tg := D → Gm → Option Gm
def tgN (i : Nat) : Tg := gSet1 i
def tgT (is : List Nat) : Tg := fun d Γ => match d with
  | .tuple ds => gSets is ds Γ
  | _ => none
def TgOk (g : Gx) (gt : TG) (tg : Tg) (is : List Nat) : Prop := ∀ (B H : Hp) (σ : L2.St) (Γ Γ1 : Gm) (x : V) (d : D) (Q : L2.St → Hp → Prop), EOk g B H σ Γ → Dq B x d → tg d Γ = some Γ1 → (∀ σ2, Stp g B H σ Γ B H σ2 Γ1 → Off is σ σ2 → Q σ2 H) → gt x σ H Q
def TgOk2 (g : Gx) (gt : TG) (tg : Tg) (is : List Nat) : Prop := ∀ (B H : Hp) (σ : L2.St) (Γ Γ1 : Gm) (p : Addr) (xs : List V) (ds : List D) (Q : L2.St → Hp → Prop), EOk g B H σ Γ → SqT g.K H p xs → DqA B xs ds → tg (.tuple ds) Γ = some Γ1 → (∀ σ2, Stp g B H σ Γ B H σ2 Γ1 → Off is σ σ2 → Q σ2 H) → gt (.ref p) σ H Q
theorem tgN_ok {i : Nat} : TgOk g (gName i) (tgN i) [i] := fun B H σ Γ Γ1 x d Q e dq h k => k _ (gset1_ok (Stp.refl e) dq h) (Off.one i x σ)
theorem tgT_ok2 {is : List Nat} : TgOk2 g (gTup g.K is.length (gNames is)) (tgT is) is := fun B H σ Γ Γ1 p xs ds Q e hs a h k =>
  ⟨p, xs, rfl, hs, by rw [dqa_len a, gsets_len h], gsets_ok (Stp.refl e) a h fun σ' s o => k σ' s o⟩
theorem tgT_ok {is : List Nat} : TgOk g (gTup g.K is.length (gNames is)) (tgT is) is := fun B H σ Γ Γ1 x d Q e dq h k => by
  unfold tgT at h
  split at h
  · cases dq with
    | tup q1 q2 => exact tgT_ok2 B H σ Γ Γ1 _ _ _ Q e (SqT.of (e.sub _ _ q1)) q2 h k
  · cases h

/-! ### what is walked -/
structure Wlk (g : Gx) (J : It) (gt : TG) (tg : Tg) (is : List Nat) (items : List D) (inv : Hp → Prop) : Prop where
  mono : ∀ B B', Sub B B' → inv B → inv B'
  stop : ∀ B H, Sub B H → inv B → J.stop items.length H
  go : ∀ i B H, i < items.length → Sub B H → inv B → J.go i H
  yl : ∀ i d B H x H' σ Γ Γ1 Q, items[i]? = some d → EOk g B H σ Γ → inv B → J.yld i H x H' → tg d Γ = some Γ1 → (∀ H2 σ2, Stp g B H σ Γ B H2 σ2 Γ1 → (∀ q u, H q = some u → H2 q = some u) → Off is σ σ2 → Q σ2 H2) → gt x σ H' Q
def Src (g : Gx) (W : WX) (wi : TI) (c : M (List D)) (gt : TG) (tg : Tg) (is : List Nat) : Prop :=
  ∀ {β : Type} {k : List D → M β} {KX : Option (Res β) → Prop} {B0 H0 : Hp} {Γ0 : Gm} {σ0 : L2.St} {B H : Hp} {Γ : Gm} {σ : L2.St} {P : It → Hp → Prop}, Gl0 g W B0 H0 σ0 Γ0 σ KX → Stp g B0 H0 σ0 Γ0 B H σ Γ → KX (c.bind k Γ) →
    (∀ B1 H1 items Γ1 J inv, Stp g B0 H0 σ0 Γ0 B1 H1 σ Γ1 → Sub B B1 → inv B1 → Wlk g J gt tg is items inv → KX (k items Γ1) → P J H1) → wi σ H P
/-- a list -/
def rList (c : M Val) : M (List D) := c.bind fun r => (frz r).bind fun d => match d with
  | .list ds => M.ret ds
  | _ => fun _ => none
theorem bind_assoc {α β γ : Type} (c : M α) (k : α → M β) (l : β → M γ) : (c.bind k).bind l = c.bind fun x => (k x).bind l := by
  funext Γ
  unfold M.bind
  cases c Γ with
  | none => rfl
  | some r => cases r <;> rfl
theorem ret_bind {α β : Type} (x : α) (k : α → M β) : (M.ret x).bind k = k x := rfl
theorem none_bind {α β : Type} (k : α → M β) : M.bind (fun _ => none) k = fun _ => none := rfl
theorem wlk_list {A : Addr} {ds : List D} {gt : TG} {tg : Tg} {is : List Nat} (T : TgOk g gt tg is) : Wlk g (Itl g.K A) gt tg is ds fun B => ∃ vs, B A = some (.lst vs) ∧ DqA B vs ds where
  mono := fun B B' s ⟨vs, h1, h2⟩ => ⟨vs, s _ _ h1, dqa_mono s h2⟩
  stop := fun B H s ⟨vs, h1, h2⟩ => ⟨vs, SqL.of (s _ _ h1), by rw [dqa_len h2]; exact Nat.le_refl _⟩
  go := fun i B H hi s ⟨vs, h1, h2⟩ => ⟨vs, vs[i]'(by rw [dqa_len h2]; exact hi), SqL.of (s _ _ h1), List.getElem?_eq_getElem _⟩
  yl := fun i d B H x H' σ Γ Γ1 Q hi e ⟨vs, h1, h2⟩ y ht k => by
    obtain ⟨rfl, y⟩ := y
    obtain ⟨v, h3, h4⟩ := dqa_get h2 hi
    have := (y vs (SqL.of (e.sub _ _ h1))).symm.trans h3
    cases this
    exact T B H' σ Γ Γ1 _ d Q e h4 ht fun σ2 s o => k H' σ2 s (fun _ _ h => h) o
theorem wlk_tup {A : Addr} {ds : List D} {gt : TG} {tg : Tg} {is : List Nat} (T : TgOk g gt tg is) : Wlk g (Itt g.K A) gt tg is ds fun B => ∃ vs, B A = some (.tup vs) ∧ DqA B vs ds where
  mono := fun B B' s ⟨vs, h1, h2⟩ => ⟨vs, s _ _ h1, dqa_mono s h2⟩
  stop := fun B H s ⟨vs, h1, h2⟩ => ⟨vs, SqT.of (s _ _ h1), by rw [dqa_len h2]; exact Nat.le_refl _⟩
  go := fun i B H hi s ⟨vs, h1, h2⟩ => ⟨vs, vs[i]'(by rw [dqa_len h2]; exact hi), SqT.of (s _ _ h1), List.getElem?_eq_getElem _⟩
  yl := fun i d B H x H' σ Γ Γ1 Q hi e ⟨vs, h1, h2⟩ y ht k => by
    obtain ⟨rfl, y⟩ := y
    obtain ⟨v, h3, h4⟩ := dqa_get h2 hi
    have := (y vs (SqT.of (e.sub _ _ h1))).symm.trans h3
    cases this
    exact T B H' σ Γ Γ1 _ d Q e h4 ht fun σ2 s o => k H' σ2 s (fun _ _ h => h) o
theorem rList_bind {β : Type} {k : List D → M β} {KX : Option (Res β) → Prop} {B0 H0 : Hp} {Γ0 : Gm} {σ0 : L2.St} {P : V → Hp → Prop} (G : Gl0 g W B0 H0 σ0 Γ0 σ KX) (s0 : Stp g B0 H0 σ0 Γ0 B H σ Γ) (h : KX ((rList ca).bind k Γ))
    (hk : ∀ B1 H1 A vs ds Γ1, Stp g B0 H0 σ0 Γ0 B1 H1 σ Γ1 → Sub B B1 → B1 A = some (.lst vs) → DqA B1 vs ds → KX (k ds Γ1) → P (.ref A) H1) : tE g W ca σ H P := by
  unfold rList at h
  rw [bind_assoc] at h
  refine te_bind G s0 h fun B1 H1 v r Γ1 s1 s01 o h1 => ?_
  rw [bind_assoc] at h1
  have o0 := o.base s0.dom
  refine m_bind G h1 (fun _ _ => frz_noexc) fun d Γ2 hf h2 => ?_
  obtain ⟨B2, s2, dq, sb⟩ := frz_ok s1 o0 hf
  split at h2
  · rename_i ds
    cases dq with
    | lst q1 q2 => exact hk B2 H1 _ _ ds Γ2 s2 (s01.bb.trans sb) q1 q2 h2
  · exact (G.none h2).elim
theorem src_list {gt : TG} {tg : Tg} {is : List Nat} (T : TgOk g gt tg is) : Src g W (iList g.K (tE g W ca)) (rList ca) gt tg is := by
  intro β k KX B0 H0 Γ0 σ0 B H Γ σ P G s0 h hk
  exact rList_bind G s0 h fun B1 H1 A vs ds Γ1 s1 sb q1 q2 h1 => ⟨A, rfl, ⟨_, SqL.of (s1.env.sub _ _ q1)⟩, hk B1 H1 ds Γ1 _ _ s1 sb ⟨_, q1, q2⟩ (wlk_list T) h1⟩
/-- a tuple -/
def rTup (c : M Val) : M (List D) := c.bind fun r Γ => match tupOf Γ r with
  | some ds => some (.ok ds Γ)
  | none => none
theorem src_tup {gt : TG} {tg : Tg} {is : List Nat} (T : TgOk g gt tg is) : Src g W (iTup g.K (tE g W ca)) (rTup ca) gt tg is := by
  intro β k KX B0 H0 Γ0 σ0 B H Γ σ P G s0 h hk
  unfold rTup at h
  rw [bind_assoc] at h
  refine te_bind G s0 h fun B1 H1 v r Γ1 s1 s01 o h1 => ?_
  refine m_bind G h1 (fun _ _ hh => by split at hh <;> cases hh) fun ds Γ2 hf h2 => ?_
  split at hf
  · rename_i ht
    cases hf
    obtain ⟨A, vs, rfl, q1, q2⟩ := tup_read s1.env o ht
    exact ⟨A, rfl, ⟨_, SqT.of (s1.env.sub _ _ q1)⟩, hk B1 H1 ds Γ1 _ _ s1 s01.bb ⟨_, q1, q2⟩ (wlk_tup T) h2⟩
  · cases hf
/-- ranges -/
def rangeD (lo c : Int) (n : Nat) : List D := (List.range n).map fun i => .int (lo + (i : Nat) * c)
theorem rangeD_get {lo c : Int} {n i : Nat} {d : D} (h : (rangeD lo c n)[i]? = some d) : i < n ∧ d = .int (lo + (i : Nat) * c) := by
  unfold rangeD at h
  rw [List.getElem?_map] at h
  by_cases hi : i < n
  · rw [List.getElem?_range hi] at h; cases h; exact ⟨hi, rfl⟩
  · rw [List.getElem?_eq_none (by simpa using hi)] at h; cases h
theorem rangeD_len {lo c : Int} {n : Nat} : (rangeD lo c n).length = n := by simp [rangeD]
theorem wlk_rng {lo : Int} {n : Nat} {gt : TG} {tg : Tg} {is : List Nat} (T : TgOk g gt tg is) : Wlk g (Itr lo n) gt tg is (rangeD lo 1 n) fun _ => True where
  mono := fun _ _ _ _ => trivial
  stop := fun B H s _ => by rw [rangeD_len]; exact Nat.le_refl _
  go := fun i B H hi s _ => by rw [rangeD_len] at hi; exact hi
  yl := fun i d B H x H' σ Γ Γ1 Q hi e _ y ht k => by
    obtain ⟨rfl, y⟩ := y
    obtain ⟨_, h2⟩ := rangeD_get hi
    rw [Int.mul_one] at h2
    subst h2
    rw [y]
    exact T B H' σ Γ Γ1 _ _ Q e (.int _) ht fun σ2 s o => k H' σ2 s (fun _ _ h => h) o
theorem wlk_rngC {lo c : Int} {n : Nat} {gt : TG} {tg : Tg} {is : List Nat} (T : TgOk g gt tg is) : Wlk g (Itc lo c n) gt tg is (rangeD lo c n) fun _ => True where
  mono := fun _ _ _ _ => trivial
  stop := fun B H s _ => by rw [rangeD_len]; exact Nat.le_refl _
  go := fun i B H hi s _ => by rw [rangeD_len] at hi; exact hi
  yl := fun i d B H x H' σ Γ Γ1 Q hi e _ y ht k => by
    obtain ⟨rfl, y⟩ := y
    obtain ⟨_, h2⟩ := rangeD_get hi
    subst h2
    rw [y]
    exact T B H' σ Γ Γ1 _ _ Q e (.int _) ht fun σ2 s o => k H' σ2 s (fun _ _ h => h) o
def asI (c : M Val) : M Int := c.bind fun r Γ => match r with
  | .dat (.int i) => some (.ok i Γ)
  | _ => none
theorem asI_bind {β : Type} {k : Int → M β} {KX : Option (Res β) → Prop} {B0 H0 : Hp} {Γ0 : Gm} {σ0 : L2.St} {P : V → Hp → Prop} (G : Gl0 g W B0 H0 σ0 Γ0 σ KX) (s0 : Stp g B0 H0 σ0 Γ0 B H σ Γ) (h : KX ((asI ca).bind k Γ))
    (hk : ∀ B1 H1 i Γ1, Stp g B0 H0 σ0 Γ0 B1 H1 σ Γ1 → Sub B B1 → KX (k i Γ1) → P (.int i) H1) : tE g W ca σ H P := by
  unfold asI at h
  rw [bind_assoc] at h
  refine te_bind G s0 h fun B1 H1 v r Γ1 s1 s01 o h1 => ?_
  refine m_bind G h1 (fun _ _ hh => by split at hh <;> cases hh) fun i Γ2 hf h2 => ?_
  split at hf
  · cases hf
    cases (show Dq B1 v (.int _) from o)
    exact hk B1 H1 _ Γ1 s1 s01.bb h2
  · cases hf
def smallI (i : Int) : Bool := decide (-(2 ^ 62) ≤ i ∧ i < 2 ^ 62)
def rRng1 (c : M Val) : M (List D) := (asI c).bind fun j => if smallI j then M.ret (rangeD 0 1 j.toNat) else fun _ => none
def rRng2 (a b : M Val) : M (List D) := (asI a).bind fun i => (asI b).bind fun j => if smallI i && smallI j then M.ret (rangeD i 1 (j - i).toNat) else fun _ => none
theorem src_rng1 {gt : TG} {tg : Tg} {is : List Nat} (T : TgOk g gt tg is) : Src g W (iRng1 (tCons (tE g W ca) tNil)) (rRng1 ca) gt tg is := by
  intro β k KX B0 H0 Γ0 σ0 B H Γ σ P G s0 h hk
  unfold rRng1 at h
  rw [bind_assoc] at h
  refine asI_bind G s0 h fun B1 H1 j Γ1 s1 s01 h1 => ?_
  split at h1
  · rename_i hj
    have hj' := of_decide_eq_true hj
    exact ⟨j, rfl, hj'.1, hj'.2, hk B1 H1 _ Γ1 _ _ s1 s01 trivial (wlk_rng T) h1⟩
  · exact (G.none h1).elim
theorem src_rng2 {gt : TG} {tg : Tg} {is : List Nat} (T : TgOk g gt tg is) : Src g W (iRng2 (tCons (tE g W ca) (tCons (tE g W cb) tNil))) (rRng2 ca cb) gt tg is := by
  intro β k KX B0 H0 Γ0 σ0 B H Γ σ P G s0 h hk
  unfold rRng2 at h
  rw [bind_assoc] at h
  refine asI_bind G s0 h fun B1 H1 i Γ1 s1 s01 h1 => ?_
  rw [bind_assoc] at h1
  refine asI_bind G s1 h1 fun B2 H2 j Γ2 s2 s12 h2 => ?_
  split at h2
  · rename_i hij
    rw [Bool.and_eq_true] at hij
    have hi := of_decide_eq_true hij.1
    have hj := of_decide_eq_true hij.2
    exact ⟨i, j, rfl, ⟨hi.1, hi.2, hj.1, hj.2⟩, hk B2 H2 _ Γ2 _ _ s2 (s01.trans s12) trivial (wlk_rng T) h2⟩
  · exact (G.none h2).elim
def rRng3 (a b c : M Val) : M (List D) := (asI a).bind fun i => (asI b).bind fun j => (asI c).bind fun s => if smallI i && smallI j && s != 0 && decide (s.natAbs < 1073741824) && Builtin.Range.small i j s && decide (0 ≤ Builtin.Range.rangeSize i j s) then M.ret (rangeD i s (Builtin.Range.rangeSize i j s).toNat) else fun _ => none
theorem src_rng3 {gt : TG} {tg : Tg} {cc : M Val} {is : List Nat} (T : TgOk g gt tg is) : Src g W (iRng3 (tCons (tE g W ca) (tCons (tE g W cb) (tCons (tE g W cc) tNil)))) (rRng3 ca cb cc) gt tg is := by
  intro β k KX B0 H0 Γ0 σ0 B H Γ σ P G s0 h hk
  unfold rRng3 at h
  rw [bind_assoc] at h
  refine asI_bind G s0 h fun B1 H1 i Γ1 s1 s01 h1 => ?_
  rw [bind_assoc] at h1
  refine asI_bind G s1 h1 fun B2 H2 j Γ2 s2 s12 h2 => ?_
  rw [bind_assoc] at h2
  refine asI_bind G s2 h2 fun B3 H3 s Γ3 s3 s23 h3 => ?_
  split at h3
  · rename_i hij
    simp only [Bool.and_eq_true] at hij
    obtain ⟨⟨⟨⟨⟨a1, a2⟩, a3⟩, a4⟩, a5⟩, a6⟩ := hij
    have hn : (Builtin.Range.rangeSize i j s) = ((Builtin.Range.rangeSize i j s).toNat : Int) := (Int.toNat_of_nonneg (of_decide_eq_true a6)).symm
    exact ⟨i, j, s, _, rfl, ⟨by simpa using a3, of_decide_eq_true a4, a5, hn⟩, hk B3 H3 _ Γ3 _ _ s3 ((s01.trans s12).trans s23) trivial (wlk_rngC T) h3⟩
  · exact (G.none h3).elim
/-- enumerate -/
def enumD : Nat → List D → List D
  | _, [] => []
  | n, d :: ds => .tuple [.int (n : Nat), d] :: enumD (n + 1) ds
theorem enumD_len : ∀ {n : Nat} {ds : List D}, (enumD n ds).length = ds.length
  | _, [] => rfl
  | n, d :: ds => by simp [enumD, enumD_len]
theorem enumD_get : ∀ {n i : Nat} {ds : List D} {t : D}, (enumD n ds)[i]? = some t → ∃ d, ds[i]? = some d ∧ t = .tuple [.int ((n + i : Nat) : Int), d]
  | _, _, [], _, h => by simp [enumD] at h
  | n, 0, d :: ds, t, h => by
    simp [enumD] at h
    subst h
    exact ⟨d, rfl, rfl⟩
  | n, i + 1, d :: ds, t, h => by
    obtain ⟨d', h1, h2⟩ := enumD_get (n := n + 1) (i := i) (ds := ds) (t := t) (by simpa [enumD] using h)
    exact ⟨d', by simpa using h1, by rw [h2, show n + 1 + i = n + (i + 1) by omega]⟩
theorem wlk_enum {A : Addr} {ds : List D} {gt : TG} {tg : Tg} {is : List Nat} (T : TgOk2 g gt tg is) : Wlk g (Ite g.K A) gt tg is (enumD 0 ds) fun B => ∃ vs, B A = some (.lst vs) ∧ DqA B vs ds where
  mono := fun B B' s ⟨vs, h1, h2⟩ => ⟨vs, s _ _ h1, dqa_mono s h2⟩
  stop := fun B H s ⟨vs, h1, h2⟩ => ⟨vs, SqL.of (s _ _ h1), by rw [dqa_len h2, enumD_len]; exact Nat.le_refl _⟩
  go := fun i B H hi s ⟨vs, h1, h2⟩ => ⟨vs, vs[i]'(by rw [dqa_len h2]; rw [enumD_len] at hi; exact hi), SqL.of (s _ _ h1), List.getElem?_eq_getElem _⟩
  yl := fun i d B H x H' σ Γ Γ1 Q hi e ⟨vs, h1, h2⟩ y ht k => by
    obtain ⟨p, w, rfl, n, rfl, y⟩ := y
    obtain ⟨d', h3, rfl⟩ := enumD_get hi
    obtain ⟨v, h4, h5⟩ := dqa_get h2 h3
    have := (y vs (SqL.of (e.sub _ _ h1))).symm.trans h4
    cases this
    have s1 := stp_alloc (p := p) (o := .tup [.int (i : Nat), w]) e n
    rw [Nat.zero_add] at ht
    exact T B _ σ Γ Γ1 p _ _ Q s1.env (SqT.of upd_same) (.cons (.int _) (.cons h5 .nil)) ht fun σ2 s o => k _ σ2 (s1.trans s) (fun q u hq => by rw [upd_ne (ne_of_none hq n)]; exact hq) o
theorem src_enum {gt : TG} {tg : Tg} {is : List Nat} (T : TgOk2 g gt tg is) : Src g W (iEnum g.K (tCons (tE g W ca) tNil)) ((rList ca).bind fun ds => M.ret (enumD 0 ds)) gt tg is := by
  intro β k KX B0 H0 Γ0 σ0 B H Γ σ P G s0 h hk
  rw [bind_assoc] at h
  exact rList_bind G s0 h fun B1 H1 A vs ds Γ1 s1 sb q1 q2 h1 => ⟨A, _, rfl, SqL.of (s1.env.sub _ _ q1), hk B1 H1 (enumD 0 ds) Γ1 _ _ s1 sb ⟨_, q1, q2⟩ (wlk_enum T) h1⟩
/-- zip -/
def zipD : List D → List D → List D
  | x :: xs, y :: ys => .tuple [x, y] :: zipD xs ys
  | _, _ => []
theorem zipD_len : ∀ {xs ys : List D}, (zipD xs ys).length = min xs.length ys.length
  | [], _ => by simp [zipD]
  | _ :: _, [] => by simp [zipD]
  | x :: xs, y :: ys => by simp [zipD, zipD_len]
theorem zipD_get : ∀ {i : Nat} {xs ys : List D} {t : D}, (zipD xs ys)[i]? = some t → ∃ x y, xs[i]? = some x ∧ ys[i]? = some y ∧ t = .tuple [x, y]
  | _, [], _, _, h => by simp [zipD] at h
  | _, _ :: _, [], _, h => by simp [zipD] at h
  | 0, x :: xs, y :: ys, t, h => by
    simp [zipD] at h
    subst h
    exact ⟨x, y, rfl, rfl, rfl⟩
  | i + 1, x :: xs, y :: ys, t, h => by
    obtain ⟨x', y', h1, h2, h3⟩ := zipD_get (i := i) (xs := xs) (ys := ys) (t := t) (by simpa [zipD] using h)
    exact ⟨x', y', by simpa using h1, by simpa using h2, h3⟩
theorem wlk_zip {A A2 : Addr} {ds es : List D} {gt : TG} {tg : Tg} {is : List Nat} (T : TgOk2 g gt tg is) : Wlk g (Itz g.K A A2) gt tg is (zipD ds es) fun B => (∃ vs, B A = some (.lst vs) ∧ DqA B vs ds) ∧ ∃ vs, B A2 = some (.lst vs) ∧ DqA B vs es where
  mono := fun B B' s ⟨⟨vs, h1, h2⟩, ⟨ws, h3, h4⟩⟩ => ⟨⟨vs, s _ _ h1, dqa_mono s h2⟩, ⟨ws, s _ _ h3, dqa_mono s h4⟩⟩
  stop := fun B H s ⟨⟨vs, h1, h2⟩, ⟨ws, h3, h4⟩⟩ => ⟨vs, ws, SqL.of (s _ _ h1), SqL.of (s _ _ h3), by rw [zipD_len, dqa_len h2, dqa_len h4]; omega⟩
  go := fun i B H hi s ⟨⟨vs, h1, h2⟩, ⟨ws, h3, h4⟩⟩ => by
    rw [zipD_len] at hi
    exact ⟨vs, ws, vs[i]'(by rw [dqa_len h2]; omega), ws[i]'(by rw [dqa_len h4]; omega), SqL.of (s _ _ h1), SqL.of (s _ _ h3), List.getElem?_eq_getElem _, List.getElem?_eq_getElem _⟩
  yl := fun i d B H x H' σ Γ Γ1 Q hi e ⟨⟨vs, h1, h2⟩, ⟨ws, h3, h4⟩⟩ y ht k => by
    obtain ⟨p, w1, w2, rfl, n, rfl, y1, y2⟩ := y
    obtain ⟨d1, d2, h5, h6, rfl⟩ := zipD_get hi
    obtain ⟨v1, h7, h8⟩ := dqa_get h2 h5
    obtain ⟨v2, h9, h10⟩ := dqa_get h4 h6
    have := (y1 vs (SqL.of (e.sub _ _ h1))).symm.trans h7
    cases this
    have := (y2 ws (SqL.of (e.sub _ _ h3))).symm.trans h9
    cases this
    have s1 := stp_alloc (p := p) (o := .tup [w1, w2]) e n
    exact T B _ σ Γ Γ1 p _ _ Q s1.env (SqT.of upd_same) (.cons h8 (.cons h10 .nil)) ht fun σ2 s o => k _ σ2 (s1.trans s) (fun q u hq => by rw [upd_ne (ne_of_none hq n)]; exact hq) o
theorem src_zip {gt : TG} {tg : Tg} {is : List Nat} (T : TgOk2 g gt tg is) : Src g W (iZip g.K (tCons (tE g W ca) (tCons (tE g W cb) tNil))) ((rList ca).bind fun ds => (rList cb).bind fun es => M.ret (zipD ds es)) gt tg is := by
  intro β k KX B0 H0 Γ0 σ0 B H Γ σ P G s0 h hk
  rw [bind_assoc] at h
  refine rList_bind G s0 h fun B1 H1 A vs ds Γ1 s1 sb q1 q2 h1 => ?_
  rw [bind_assoc] at h1
  exact rList_bind G s1 h1 fun B2 H2 A2 ws es Γ2 s2 sb2 q3 q4 h2 =>
    ⟨_, _, _, _, rfl, SqL.of (s2.env.sub _ _ (sb2 _ _ q1)), SqL.of (s2.env.sub _ _ q3), hk B2 H2 (zipD ds es) Γ2 _ _ s2 (sb.trans sb2) ⟨⟨_, sb2 _ _ q1, dqa_mono sb2 q2⟩, ⟨_, q3, q4⟩⟩ (wlk_zip T) h2⟩

/-! ### for -/
def loopL (tg : Tg) (body : M Flow) : List D → M Flow
  | [] => M.ret .nx
  | d :: ds => fun Γ => match tg d Γ with
    | none => none
    | some Γ1 => match body Γ1 with
      | some (.ok .nx Γ2) => loopL tg body ds Γ2
      | some (.ok .ct Γ2) => loopL tg body ds Γ2
      | some (.ok .brk Γ2) => some (.ok .nx Γ2)
      | some (.ok (.ret r) Γ2) => some (.ok (.ret r) Γ2)
      | some (.exc x Γ2) => some (.exc x Γ2)
      | none => none
def sFor (tg : Tg) (src : M (List D)) (body : M Flow) : M Flow := src.bind fun ds => loopL tg body ds
theorem for_core {J : It} {gt : TG} {tg : Tg} {is : List Nat} {items : List D} {inv : Hp → Prop} {body : M Flow} {Ed : Ends} {B0 H0 : Hp} {Γ0 : Gm} {σ0 : L2.St} (Wk : Wlk g J gt tg is items inv) (s0 : Stp g B0 H0 σ0 Γ0 B H σ Γ) (hi : inv B) (h : KS g W σ0 B0 H0 Γ0 (loopL tg body items Γ) Ed) :
    ∃ Wi : Nat → Nat → L2.St → Hp → Prop, (∃ m, Wi 0 m σ H) ∧ ∀ i m σ H, Wi i m σ H →
      (J.stop i H ∧ Ed.nx σ H) ∨ (J.go i H ∧ ∃ N : L2.St → Hp → Prop, (∀ σ' H', N σ' H' → ∃ m', m' < m ∧ Wi (i + 1) m' σ' H') ∧ ∀ x H', J.yld i H x H' → gt x σ H' fun σ2 H2 => tS g W body { Ed with nx := N, ct := N, bk := Ed.nx } σ2 H2) := by
  refine ⟨fun i m σ' H' => m = items.length - i ∧ i ≤ items.length ∧ ∃ B' Γ', Stp g B0 H0 σ0 Γ0 B' H' σ' Γ' ∧ inv B' ∧ KS g W σ0 B0 H0 Γ0 (loopL tg body (items.drop i) Γ') Ed, ⟨_, rfl, Nat.zero_le _, B, Γ, s0, hi, h⟩, ?_⟩
  rintro i m σ' H' ⟨rfl, hle, B', Γ', s, hv, hh⟩
  by_cases hlt : i < items.length
  · refine .inr ⟨Wk.go i B' H' hlt s.env.sub hv, fun σ2 H2 => i + 1 ≤ items.length ∧ ∃ B' Γ', Stp g B0 H0 σ0 Γ0 B' H2 σ2 Γ' ∧ inv B' ∧ KS g W σ0 B0 H0 Γ0 (loopL tg body (items.drop (i + 1)) Γ') Ed, fun σ2 H2 hN => ⟨_, by omega, rfl, hN⟩, fun x H2 hy => ?_⟩
    rw [List.drop_eq_getElem_cons hlt] at hh
    unfold loopL at hh
    cases ht : tg items[i] Γ' with
    | none => rw [ht] at hh; exact hh.elim
    | some Γ2 =>
      rw [ht] at hh
      dsimp only at hh
      refine Wk.yl i items[i] B' H' x H2 σ' Γ' Γ2 _ (List.getElem?_eq_getElem hlt) s.env hv hy ht fun H3 σ3 s3 _ _ => ?_
      refine ⟨B', Γ2, s3.env, ?_⟩
      have sA := s.trans s3
      cases hb : body Γ2 with
      | none => rw [hb] at hh; exact hh.elim
      | some r =>
        rw [hb] at hh
        cases r with
        | exc x Γ4 => exact fun B5 H5 σ5 c d s5 o => hh B5 H5 σ5 c d (sA.trans s5) o
        | ok f Γ4 =>
          intro B5 H5 σ5 s5
          have sB := sA.trans s5
          cases f with
          | nx => exact ⟨hlt, B5, Γ4, sB, Wk.mono _ _ s5.bb hv, hh⟩
          | ct => exact ⟨hlt, B5, Γ4, sB, Wk.mono _ _ s5.bb hv, hh⟩
          | brk => exact hh B5 H5 σ5 sB
          | ret r => exact fun v o => hh B5 H5 σ5 sB v (o.base sA.dom)
  · have e : i = items.length := by omega
    subst e
    rw [List.drop_length] at hh
    exact .inl ⟨Wk.stop B' H' s.env.sub hv, hh B' H' σ' s⟩
theorem z_for {tgE iter : PySem.Expr} {body : List PySem.Stmt} {wi : TI} {gt : TG} {tg : Tg} {src : M (List D)} {mb : M Flow} (hp : PassesOwn (model X.prog X.w) X.A X.env X.xe) (hc : X.calm = true) (hi : PI X tgE iter wi) (hg : PG X tgE gt) {is : List Nat} (S : Src (gx X) W wi src gt tg is) (hb : PSs X body (tS (gx X) W mb))
    (hs : ∀ x, foldedSetIterable iter X.env x = pure x := by intro _; rfl) : PS X (.For tgE iter body [] pos) (tS (gx X) W (sFor tg src mb)) := PS.weak (ps_for hp hc hi hg hb hs) fun Ed σ H h => by
  obtain ⟨B, Γ, e, h⟩ := h
  exact S (KX := fun r => KS (gx X) W σ B H Γ r Ed) gl_s (Stp.refl e) h fun B1 H1 items Γ1 J inv s1 _ hv Wk h1 => for_core Wk s1 hv h1

/-! ### while -/
def loopW (t : M Bool) (body : M Flow) : Nat → M Flow
  | 0 => fun _ => none
  | n + 1 => t.bind fun k => if k then (fun Γ => match body Γ with
      | some (.ok .nx Γ2) => loopW t body n Γ2
      | some (.ok .ct Γ2) => loopW t body n Γ2
      | some (.ok .brk Γ2) => some (.ok .nx Γ2)
      | some (.ok (.ret r) Γ2) => some (.ok (.ret r) Γ2)
      | some (.exc x Γ2) => some (.exc x Γ2)
      | none => none) else M.ret .nx
theorem z_while (fuel : Nat) {c : PySem.Expr} {body : List PySem.Stmt} {ct : M Bool} {mb : M Flow} (hp : PassesOwn (model X.prog X.w) X.A X.env X.xe) (hc : PT X c (tT (gx X) W ct)) (hb : PSs X body (tS (gx X) W mb)) : PS X (.While c body [] pos) (tS (gx X) W (loopW ct mb fuel)) :=
  PS.weak (ps_while hp hc hb) fun Ed σ H h => by
    obtain ⟨B, Γ, e, h⟩ := h
    refine ⟨fun m σ' H' => ∃ B' Γ', Stp (gx X) B H σ Γ B' H' σ' Γ' ∧ KS (gx X) W σ B H Γ (loopW ct mb m Γ') Ed, ⟨fuel, B, Γ, Stp.refl e, h⟩, ?_⟩
    rintro m σ' H' ⟨B', Γ', s, hh⟩
    cases m with
    | zero => exact hh.elim
    | succ m =>
      refine tt_bind (KX := fun r => KS (gx X) W σ B H Γ r Ed) gl_s s hh fun B1 H1 k Γ1 s1 _ h1 => ?_
      cases k with
      | false => exact h1 B1 H1 σ' s1
      | true =>
        refine ⟨fun σ2 H2 => ∃ B' Γ', Stp (gx X) B H σ Γ B' H2 σ2 Γ' ∧ KS (gx X) W σ B H Γ (loopW ct mb m Γ') Ed, fun σ2 H2 hN => ⟨m, Nat.lt_succ_self m, hN⟩, B1, Γ1, s1.env, ?_⟩
        have h1 : KS (gx X) W σ B H Γ (match mb Γ1 with
          | some (.ok .nx Γ2) => loopW ct mb m Γ2
          | some (.ok .ct Γ2) => loopW ct mb m Γ2
          | some (.ok .brk Γ2) => some (.ok .nx Γ2)
          | some (.ok (.ret r) Γ2) => some (.ok (.ret r) Γ2)
          | some (.exc x Γ2) => some (.exc x Γ2)
          | none => none) Ed := h1
        cases hbb : mb Γ1 with
        | none => rw [hbb] at h1; exact h1.elim
        | some r =>
          rw [hbb] at h1
          cases r with
          | exc x Γ4 => exact fun B5 H5 σ5 c d s5 o => h1 B5 H5 σ5 c d (s1.trans s5) o
          | ok f Γ4 =>
            intro B5 H5 σ5 s5
            have sB := s1.trans s5
            cases f with
            | nx => exact ⟨B5, Γ4, sB, h1⟩
            | ct => exact ⟨B5, Γ4, sB, h1⟩
            | brk => exact h1 B5 H5 σ5 sB
            | ret r => exact fun v o => h1 B5 H5 σ5 sB v (o.base s1.dom)
end E


set_option Elab.async false
set_option linter.all false
set_option maxRecDepth 100000
set_option maxHeartbeats 1000000
namespace E
open PySem L2 PyProof.Rows

variable {g : Gx} {B B1 B2 B' H H1 H2 H' : Hp} {σ σ1 σ2 σ' : L2.St} {Γ Γ1 Γ2 Γ' : Gm} {W : WX} {X : Cx} {a b e : PySem.Expr} {es : List PySem.Expr} {pos : Pos} {ca cb : M Val}

/-! ### a comprehension's own names -/
def notOwn (Γ : Gm) (i : Nat) : Bool := match Γ[i]? with
  | some (.own _ _) => false
  | _ => true
def wipeG : List Nat → Gm → Option Gm
  | [], Γ => some Γ
  | v :: vs, Γ => if notOwn Γ v then wipeG vs (Γ.set v .un) else none
def restore : List Nat → Gm → Gm → Gm
  | [], _, Γ2 => Γ2
  | v :: vs, Γ, Γ2 => restore vs Γ (Γ2.set v (Γ.getD v .un))
theorem wipe_off {k : Nat} : ∀ {vs : List Nat} {σ : L2.St}, k ∉ vs → (wipe σ vs)[k]? = σ[k]?
  | [], _, _ => rfl
  | v :: vs, σ, h => by
    unfold wipe
    rw [List.getElem?_set_ne (fun z => h (by rw [z]; exact List.mem_cons_self)), wipe_off fun z => h (List.mem_cons_of_mem _ z)]
theorem wipe_in {k : Nat} : ∀ {vs : List Nat} {σ : L2.St}, k ∈ vs → (wipe σ vs)[k]? = none ∨ (wipe σ vs)[k]? = some none
  | v :: vs, σ, h => by
    unfold wipe
    by_cases e : v = k
    · subst e
      by_cases hv : v < (wipe σ vs).length
      · rw [List.getElem?_set_self hv]; exact .inr rfl
      · rw [List.getElem?_eq_none (by simpa using hv)]; exact .inl rfl
    · rw [List.getElem?_set_ne e]
      rcases List.mem_cons.mp h with z | z
      · exact absurd z.symm e
      · exact wipe_in z
theorem wipe_same {vs : List Nat} {σ σ' : L2.St} (o : Off vs σ σ') : wipe σ' vs = wipe σ vs := by
  apply List.ext_getElem?
  intro k
  by_cases hk : k ∈ vs
  · have l : (wipe σ' vs).length = (wipe σ vs).length := by rw [wipe_length, wipe_length, o.1]
    rcases wipe_in (σ := σ') hk with h1 | h1 <;> rcases wipe_in (σ := σ) hk with h2 | h2
    · rw [h1, h2]
    · have := (List.getElem?_eq_some_iff.mp h2).1
      rw [← l] at this
      rw [List.getElem?_eq_getElem this] at h1; cases h1
    · have := (List.getElem?_eq_some_iff.mp h1).1
      rw [l] at this
      rw [List.getElem?_eq_getElem this] at h2; cases h2
    · rw [h1, h2]
  · rw [wipe_off hk, wipe_off hk, o.2 k hk]
theorem wipe_wipe {vs : List Nat} {σ : L2.St} : Off vs σ (wipe σ vs) := ⟨wipe_length σ vs, fun _ h => wipe_off h⟩
theorem Off.mono {is vs : List Nat} (o : Off is σ σ') (h : ∀ i ∈ is, i ∈ vs) : Off vs σ σ' := ⟨o.1, fun k hk => o.2 k fun z => hk (h k z)⟩
theorem Off.trans {vs : List Nat} (o : Off vs σ σ1) (p : Off vs σ1 σ2) : Off vs σ σ2 := ⟨p.1.trans o.1, fun k hk => (p.2 k hk).trans (o.2 k hk)⟩
theorem wipeG_facts : ∀ {vs : List Nat} {Γ Γ1 : Gm}, wipeG vs Γ = some Γ1 → Γ1.length = Γ.length ∧ (∀ k : Nat, k ∉ vs → Γ1[k]? = Γ[k]?) ∧ (∀ k : Nat, k ∈ vs → (∀ b o, Γ[k]? ≠ some (.own b o)) ∧ ∀ t, Γ1[k]? = some t → t = .un)
  | [], Γ, _, h => by cases h; exact ⟨rfl, fun _ _ => rfl, fun _ h => by cases h⟩
  | v :: vs, Γ, Γ1, h => by
    unfold wipeG at h
    split at h
    · rename_i hn
      obtain ⟨l, h1, h2⟩ := wipeG_facts h
      have hv : ∀ b o, Γ[v]? ≠ some (.own b o) := fun b o z => by
        unfold notOwn at hn
        rw [z] at hn
        cases hn
      refine ⟨by rw [l, List.length_set], fun k hk => ?_, fun k hk => ?_⟩
      · rw [h1 k fun z => hk (List.mem_cons_of_mem _ z), List.getElem?_set_ne fun z => hk (by rw [z]; exact List.mem_cons_self)]
      · by_cases e : k ∈ vs
        · obtain ⟨q1, q2⟩ := h2 k e
          refine ⟨fun b o z => ?_, q2⟩
          by_cases ev : v = k
          · subst ev; exact hv b o z
          · exact q1 b o (by rw [List.getElem?_set_ne ev]; exact z)
        · have ev : k = v := (List.mem_cons.mp hk).resolve_right e
          subst ev
          refine ⟨hv, fun t ht => ?_⟩
          rw [h1 k e] at ht
          rcases set_get ht with ⟨_, _, z⟩ | ⟨z, _⟩
          · exact z
          · exact absurd rfl z
    · cases h
theorem restore_facts : ∀ {vs : List Nat} {Γ Γ2 : Gm}, (restore vs Γ Γ2).length = Γ2.length ∧ (∀ k : Nat, k ∉ vs → (restore vs Γ Γ2)[k]? = Γ2[k]?) ∧ (∀ k : Nat, k ∈ vs → ∀ t, (restore vs Γ Γ2)[k]? = some t → t = Γ.getD k .un)
  | [], Γ, Γ2 => ⟨rfl, fun _ _ => rfl, fun _ h => by cases h⟩
  | v :: vs, Γ, Γ2 => by
    obtain ⟨l, h1, h2⟩ := restore_facts (vs := vs) (Γ := Γ) (Γ2 := Γ2.set v (Γ.getD v .un))
    refine ⟨by unfold restore; rw [l, List.length_set], fun k hk => ?_, fun k hk t ht => ?_⟩
    · unfold restore
      rw [h1 k fun z => hk (List.mem_cons_of_mem _ z), List.getElem?_set_ne fun z => hk (by rw [z]; exact List.mem_cons_self)]
    · unfold restore at ht
      by_cases e : k ∈ vs
      · exact h2 k e t ht
      · have ev : k = v := (List.mem_cons.mp hk).resolve_right e
        subst ev
        rw [h1 k e] at ht
        rcases set_get ht with ⟨_, _, z⟩ | ⟨z, _⟩
        · exact z
        · exact absurd rfl z
theorem wipe_env {vs : List Nat} (e : EOk g B H σ Γ) (h : wipeG vs Γ = some Γ1) (o : Off vs σ σ1) (hw : wipe σ1 vs = σ1) : EOk g B H σ1 Γ1 ∧ ∀ q, Own σ1 Γ1 q → Own σ Γ q := by
  obtain ⟨l, h1, h2⟩ := wipeG_facts h
  have ow : ∀ (k : Nat) (b : Bool) (x : Ob), Γ1[k]? = some (.own b x) → k ∉ vs ∧ Γ[k]? = some (.own b x) := fun k b x hk => by
    by_cases hv : k ∈ vs
    · have := (h2 k hv).2 _ hk
      cases this
    · exact ⟨hv, by rw [← h1 k hv]; exact hk⟩
  refine ⟨⟨e.sub, by rw [l, o.1]; exact e.len, fun k t hk => ?_, fun i j b c x y q q1 q2 q3 q4 => ?_⟩, fun q ⟨k, b, x, q1, q2⟩ => ?_⟩
  · by_cases hv : k ∈ vs
    · rw [(h2 k hv).2 t hk]; trivial
    · rw [h1 k hv] at hk
      rw [o.2 k hv]
      exact e.at_ k t hk
  · obtain ⟨n1, z1⟩ := ow i b x q1
    obtain ⟨n2, z2⟩ := ow j c y q2
    rw [o.2 i n1] at q3
    rw [o.2 j n2] at q4
    exact e.sep i j b c x y q z1 z2 q3 q4
  · obtain ⟨n1, z1⟩ := ow k b x q1
    rw [o.2 k n1] at q2
    exact ⟨k, b, x, z1, q2⟩
theorem wipe_step {B0 H0 : Hp} {Γ0 : Gm} {σ0 : L2.St} {vs : List Nat} (s : Stp g B0 H0 σ0 Γ0 B H σ Γ) (h : wipeG vs Γ = some Γ1) (o : Off vs σ σ1) (hw : wipe σ1 vs = σ1) : Stp g B0 H0 σ0 Γ0 B H σ1 Γ1 := by
  obtain ⟨e1, how⟩ := wipe_env s.env h o hw
  obtain ⟨l, h1, h2⟩ := wipeG_facts h
  refine ⟨e1, s.bb, s.keep, s.dom, s.newB, fun q z => s.own q (how q z), fun i x hx => ?_⟩
  obtain ⟨x', q1, q2⟩ := s.par i x hx
  have hv : i ∉ vs := fun z => (h2 i z).1 _ _ q1
  exact ⟨x', by rw [h1 i hv]; exact q1, by rw [o.2 i hv]; exact q2⟩
theorem unwipe_step {vs : List Nat} {Γw : Gm} {σw : L2.St} (e : EOk g B H σ Γ) (h : wipeG vs Γ = some Γw) (o : Off vs σ σw) (s : Stp g B H σw Γw B' H' σw Γ') :
    Stp g B H σ Γ B' H' σ (restore vs Γ Γ') ∧ ∀ q, Own σ (restore vs Γ Γ') q → Own σw Γ' q := by
  obtain ⟨l, h1, h2⟩ := wipeG_facts h
  obtain ⟨r0, r1, r2⟩ := restore_facts (vs := vs) (Γ := Γ) (Γ2 := Γ')
  have gd : ∀ (k : Nat) (t : Ent), k ∈ vs → (restore vs Γ Γ')[k]? = some t → t = .un ∨ Γ[k]? = some t := fun k t hv hk => by
    have := r2 k hv t hk
    subst this
    rw [List.getD_eq_getElem?_getD]
    cases hg : Γ[k]? with
    | none => exact .inl rfl
    | some u => exact .inr rfl
  have ow : ∀ (k : Nat) (b : Bool) (x : Ob), (restore vs Γ Γ')[k]? = some (.own b x) → k ∉ vs ∧ Γ'[k]? = some (.own b x) := fun k b x hk => by
    by_cases hv : k ∈ vs
    · rcases gd k _ hv hk with z | z
      · cases z
      · exact absurd z ((h2 k hv).1 b x)
    · exact ⟨hv, by rw [← r1 k hv]; exact hk⟩
  have how : ∀ q, Own σ (restore vs Γ Γ') q → Own σw Γ' q := fun q ⟨k, b, x, q1, q2⟩ => by
    obtain ⟨n, z⟩ := ow k b x q1
    exact ⟨k, b, x, z, by rw [o.2 k n]; exact q2⟩
  have ownw : ∀ q, Own σw Γw q → Own σ Γ q := fun q ⟨k, b, x, q1, q2⟩ => by
    by_cases hv : k ∈ vs
    · have := (h2 k hv).2 _ q1; cases this
    · exact ⟨k, b, x, by rw [← h1 k hv]; exact q1, by rw [← o.2 k hv]; exact q2⟩
  refine ⟨⟨⟨s.env.sub, ?_, fun k t hk => ?_, fun i j b c x y q q1 q2 q3 q4 => ?_⟩, s.bb, fun a u ha n => s.keep a u ha fun z => n (ownw a z), s.dom, fun a ha => ?_, fun q z => ?_, fun i x hx => ?_⟩, how⟩
  · rw [r0, ← s.env.len, o.1]
  · by_cases hv : k ∈ vs
    · rcases gd k t hv hk with z | z
      · subst z; trivial
      · have q := e.at_ k t z
        cases t with
        | un => trivial
        | dat d => obtain ⟨v, z1, z2⟩ := q; exact ⟨v, z1, dq_mono s.bb z2⟩
        | scr ns => obtain ⟨v, z1, z2⟩ := q; exact ⟨v, z1, sql_mono s.bb z2⟩
        | own b x => exact absurd z ((h2 k hv).1 b x)
    · rw [r1 k hv] at hk
      have q := s.env.at_ k t hk
      rw [o.2 k hv] at q
      exact q
  · obtain ⟨n1, z1⟩ := ow i b x q1
    obtain ⟨n2, z2⟩ := ow j c y q2
    exact s.env.sep i j b c x y q z1 z2 (by rw [o.2 i n1]; exact q3) (by rw [o.2 j n2]; exact q4)
  · rcases s.newB a ha with z | z | z
    · exact .inl z
    · exact .inr (.inl z)
    · exact .inr (.inr (ownw a z))
  · rcases s.own q (how q z) with w | w
    · exact .inl (ownw q w)
    · exact .inr w
  · have hv : i ∉ vs := fun z => (h2 i z).1 _ _ hx
    obtain ⟨x', q1, q2⟩ := s.par i x (by rw [h1 i hv]; exact hx)
    exact ⟨x', by rw [r1 i hv]; exact q1, rfl⟩

/-! ### [e for .. in .. if ..] -/
abbrev W0 : WX := fun _ _ _ _ => False
def lcLoop (tg : Tg) (vs : List Nat) (ct : M Bool) (ce : M Val) : List D → List D → M (List D)
  | [], acc => M.ret acc
  | d :: ds, acc => fun Γ => match tg d Γ with
    | none => none
    | some Γ1 => (ct.bind fun k => if k then ce.bind fun r => (frz r).bind fun y Γ4 => (if acc.length < 1000000 then (match wipeG vs Γ4 with
        | some Γ5 => lcLoop tg vs ct ce ds (acc ++ [y]) Γ5
        | none => none) else none)
      else fun Γ4 => match wipeG vs Γ4 with
        | some Γ5 => lcLoop tg vs ct ce ds acc Γ5
        | none => none) Γ1
def cLC (tg : Tg) (vs : List Nat) (src : M (List D)) (ct : M Bool) (ce : M Val) : M Val := src.bind fun items Γ => match wipeG vs Γ with
  | none => none
  | some Γw => match lcLoop tg vs ct ce items [] Γw with
    | some (.ok ys Γ2) => some (.ok (.new (.lst ys)) (restore vs Γ Γ2))
    | _ => none
theorem lc_ok {wi : TI} {gt : TG} {tg : Tg} {is vs : List Nat} {src : M (List D)} {ct : M Bool} {ce : M Val} (S : Src g W wi src gt tg is) (hsub : ∀ i ∈ is, i ∈ vs) {Q : VK} (h : tE g W (cLC tg vs src ct ce) σ H Q) :
    tLc wi gt (tT g W0 ct) (tE g W0 ce) vs σ H Q := by
  obtain ⟨B, Γ, e, h⟩ := h
  refine S (KX := fun r => KE g W σ B H Γ r Q) gl_e (Stp.refl e) h fun B1 H1 items Γ1 J inv s1 _ hv Wk h1 => ?_
  cases hw : wipeG vs Γ1 with
  | none => rw [hw] at h1; exact h1.elim
  | some Γw =>
    rw [hw] at h1
    dsimp only at h1
    intro Dl nD
    have oW : Off vs σ (wipe σ vs) := wipe_wipe
    have hww : wipe (wipe σ vs) vs = wipe σ vs := wipe_same oW
    have eW : EOk g B1 H1 (wipe σ vs) Γw := (wipe_env s1.env hw oW hww).1
    have nB : B1 Dl = none := fresh_b s1.env nD
    -- what is to be shown of the loop's outcome
    let KL : Option (Res (List D)) → Prop := fun r => ∃ ys Γ2, r = some (.ok ys Γ2) ∧ KE g W σ B H Γ (some (.ok (.new (.lst ys)) (restore vs Γ1 Γ2))) Q
    have hL : KL (lcLoop tg vs ct ce items [] Γw) := by
      cases hl : lcLoop tg vs ct ce items [] Γw with
      | none => rw [hl] at h1; exact h1.elim
      | some r =>
        rw [hl] at h1
        cases r with
        | ok ys Γ2 => exact ⟨ys, Γ2, rfl, h1⟩
        | exc x Γ2 => exact h1.elim
    have GL : ∀ {B0 H0 : Hp} {σ0 : L2.St} {Γ0 : Gm} {σ3 : L2.St}, Gl0 g W0 B0 H0 σ0 Γ0 σ3 KL :=
      ⟨fun q => (match q with | ⟨_, _, z, _⟩ => nomatch z), fun _ _ q => (match q with | ⟨_, _, z, _⟩ => nomatch z)⟩
    refine ⟨fun i m H' => m = items.length - i ∧ i ≤ items.length ∧ ∃ B' Γ' acc vacc, Stp g B1 H1 (wipe σ vs) Γw B' H' (wipe σ vs) Γ' ∧ inv B' ∧ H' Dl = some (.lst vacc) ∧ DqA B' vacc acc ∧ B' Dl = none ∧ ¬ Own (wipe σ vs) Γ' Dl ∧ KL (lcLoop tg vs ct ce (items.drop i) acc Γ'),
      ⟨_, rfl, Nat.zero_le _, B1, Γw, [], [], stp_alloc eW nD, hv, upd_same, .nil, nB, fresh_own eW nD, hL⟩, ?_⟩
    rintro i m H' ⟨rfl, hle, B', Γ', acc, vacc, s, hv', hD, hA, nB', nO', hh⟩
    by_cases hlt : i < items.length
    · refine .inr ⟨Wk.go i B' H' hlt s.env.sub hv', fun H2 => i + 1 ≤ items.length ∧ ∃ B' Γ' acc vacc, Stp g B1 H1 (wipe σ vs) Γw B' H2 (wipe σ vs) Γ' ∧ inv B' ∧ H2 Dl = some (.lst vacc) ∧ DqA B' vacc acc ∧ B' Dl = none ∧ ¬ Own (wipe σ vs) Γ' Dl ∧ KL (lcLoop tg vs ct ce (items.drop (i + 1)) acc Γ'),
        fun H2 hN => ⟨_, by omega, rfl, hN⟩, fun x H2 hy => ?_⟩
      rw [List.drop_eq_getElem_cons hlt] at hh
      unfold lcLoop at hh
      cases ht : tg items[i] Γ' with
      | none =>
        rw [ht] at hh
        obtain ⟨_, _, z, _⟩ := hh
        cases z
      | some Γ2 =>
        rw [ht] at hh
        dsimp only at hh
        refine Wk.yl i items[i] B' H' x H2 (wipe σ vs) Γ' Γ2 _ (List.getElem?_eq_getElem hlt) s.env hv' hy ht fun H3 σ3 s3 hkeep off => ?_
        have off' : Off vs (wipe σ vs) σ3 := off.mono hsub
        have w3 : wipe σ3 vs = wipe σ vs := (wipe_same off').trans hww
        refine ⟨w3, ?_⟩
        have hD3 : H3 Dl = some (.lst vacc) := hkeep _ _ hD
        have nO3 : ¬ Own σ3 Γ2 Dl := fun z => by
          rcases s3.own Dl z with z | z
          · exact nO' z
          · rw [hD] at z; cases z
        -- from the turn's start
        have dlKeep : ∀ {B5 H5 Γ5}, Stp g B' H3 σ3 Γ2 B5 H5 σ3 Γ5 → H5 Dl = some (.lst vacc) ∧ B5 Dl = none ∧ ¬ Own σ3 Γ5 Dl := fun {B5 H5 Γ5} t => by
          refine ⟨t.keep _ _ hD3 nO3, ?_, fun z => ?_⟩
          · cases hb : B5 Dl with
            | none => rfl
            | some u =>
              rcases t.newB Dl (by rw [hb]; simp) with z | z | z
              · exact absurd nB' z
              · rw [hD3] at z; cases z
              · exact absurd z nO3
          · rcases t.own Dl z with z | z
            · exact nO3 z
            · rw [hD3] at z; cases z
        have next : ∀ {B5 H5 Γ5 Γ6 acc'} (vacc' : List V), Stp g B' H3 σ3 Γ2 B5 H5 σ3 Γ5 → wipeG vs Γ5 = some Γ6 → DqA B5 vacc' acc' → KL (lcLoop tg vs ct ce (items.drop (i + 1)) acc' Γ6) →
            i + 1 ≤ items.length ∧ ∃ B' Γ' acc vacc, Stp g B1 H1 (wipe σ vs) Γw B' (upd H5 Dl (.lst vacc')) (wipe σ vs) Γ' ∧ inv B' ∧ (upd H5 Dl (.lst vacc')) Dl = some (.lst vacc) ∧ DqA B' vacc acc ∧ B' Dl = none ∧ ¬ Own (wipe σ vs) Γ' Dl ∧ KL (lcLoop tg vs ct ce (items.drop (i + 1)) acc Γ') := fun {B5 H5 Γ5 Γ6 acc'} vacc' t hwp ha hk => by
          obtain ⟨k1, k2, k3⟩ := dlKeep t
          have offb : Off vs σ3 (wipe σ vs) := by rw [← w3]; exact wipe_wipe
          have u1 := wipe_step ((s.trans s3).trans t) hwp offb hww
          have nO6 : ¬ Own (wipe σ vs) Γ6 Dl := fun z => k3 ((wipe_env t.env hwp offb hww).2 Dl z)
          exact ⟨hlt, B5, Γ6, acc', vacc', stp_mutFree u1 nD k2 nO6, Wk.mono _ _ t.bb (Wk.mono _ _ s3.bb hv'), upd_same, ha, k2, nO6, hk⟩
        refine tt_bind (KX := KL) (GL (B0 := B') (H0 := H3) (σ0 := σ3) (Γ0 := Γ2)) (Stp.refl s3.env) hh fun B4 H4 k Γ4 s4 _ h4 => ?_
        cases k with
        | false =>
          show i + 1 ≤ items.length ∧ _
          rw [if_neg Bool.false_ne_true] at h4
          cases hwp : wipeG vs Γ4 with
          | none => rw [hwp] at h4; obtain ⟨_, _, z, _⟩ := h4; cases z
          | some Γ6 =>
            rw [hwp] at h4
            obtain ⟨k1, _, _⟩ := dlKeep s4
            have := next vacc s4 hwp (dqa_mono (s3.bb.trans s4.bb) hA) h4
            have eH : upd H4 Dl (.lst vacc) = H4 := by
              funext q
              by_cases hq : q = Dl
              · subst hq; rw [upd_same, k1]
              · rw [upd_ne hq]
            rw [eH] at this
            exact this
        | true =>
          show tE g W0 ce σ3 H4 _
          rw [if_pos rfl] at h4
          refine te_bind (KX := KL) (GL (B0 := B') (H0 := H3) (σ0 := σ3) (Γ0 := Γ2)) s4 h4 fun B5 H5 y r Γ5 s5 _ o h5 => ?_
          refine m_bind (KX := KL) (GL (B0 := B') (H0 := H3) (σ0 := σ3) (Γ0 := Γ2) (σ3 := σ3)) h5 (fun _ _ => frz_noexc) fun d Γ6 hf h6 => ?_
          obtain ⟨B6, s6, dq, _⟩ := frz_ok s5 (o.base s4.dom) hf
          split at h6
          · rename_i hlen
            cases hwp : wipeG vs Γ6 with
            | none => rw [hwp] at h6; obtain ⟨_, _, z, _⟩ := h6; cases z
            | some Γ7 =>
              rw [hwp] at h6
              obtain ⟨k1, _, _⟩ := dlKeep s6
              have hA6 := dqa_mono (s3.bb.trans s6.bb) hA
              exact ⟨vacc, k1, by rw [dqa_len hA]; exact Nat.lt_of_lt_of_le hlen (by decide), next (vacc ++ [y]) s6 hwp (dqa_app hA6 (.cons dq .nil)) h6⟩
          · obtain ⟨_, _, z, _⟩ := h6; cases z
    · have e2 : i = items.length := by omega
      subst e2
      rw [List.drop_length] at hh
      obtain ⟨ys, Γ2, z, hk⟩ := hh
      cases z
      obtain ⟨u1, how⟩ := unwipe_step s1.env hw oW s
      exact .inl ⟨Wk.stop B' H' s.env.sub hv', hk B' H' (.ref Dl) (s1.trans u1) ⟨Dl, rfl, nB', fresh0 s1 nD, fun z => nO' (how Dl z), vacc, hD, hA⟩⟩
theorem u_nil : PTs X [] (tT (gx X) W (M.ret true)) := ⟨fun pins s σ H Q I h => pts_nil.run pins s σ H Q I (by
  obtain ⟨B, Γ, e, h⟩ := h
  exact h B H (Stp.refl e))⟩
theorem u_one {c : PySem.Expr} {ct : M Bool} (h : PT X c (tT (gx X) W ct)) : PTs X [c] (tT (gx X) W ct) := pts_one h
section
variable {elt tgE iter : PySem.Expr} {ifs : List PySem.Expr} {scope : Scope} {own : List (Str × Nat)} {wi : TI} {gt : TG} {tg : Tg} {is : List Nat} {src : M (List D)} {ct : M Bool} {ce : M Val}
theorem e_lc (hc : X.calm = true) (hN : X.N.Nodup) (hi : PI X tgE iter wi) (ok : BlkOk X.N X.env.scope scope own) (S : Src (gx X) W wi src gt tg is) (hsub : ∀ i ∈ is, i ∈ own.map (·.2))
    (hg : ∀ (s : Shared) (H : Hp) (C : Addr) (cl : List (Str × Addr)) (fp : List Addr), PG (X.blk s H scope (compEnvC scope cl C X.env) fp) tgE gt) (ht : ∀ (s : Shared) (H : Hp) (C : Addr) (cl : List (Str × Addr)) (fp : List Addr), PTs (X.blk s H scope (compEnvC scope cl C X.env) fp) ifs (tT (gx X) W0 ct))
    (he : ∀ (s : Shared) (H : Hp) (C : Addr) (cl : List (Str × Addr)) (fp : List Addr), PE (X.blk s H scope (compEnvC scope cl C X.env) fp) elt (tE (gx X) W0 ce)) (hs : ∀ x, foldedSetIterable iter X.env x = pure x := by intro _; rfl) :
    PE X (.ListComp elt [⟨tgE, iter, ifs, 0⟩] scope pos) (tE (gx X) W (cLC tg (own.map (·.2)) src ct ce)) := PE.weak (pe_lc hc hN hi ok hg ht he hs) fun _ _ _ h => lc_ok S hsub h
theorem z_asgLc {i : Nat} {y : Str} {py spos : Pos} (hc : X.calm = true) (hN : X.N.Nodup) (hy : X.N[i]? = some y) (hyl : X.env.scope.names.lookup y = some .local)
    (hsw : swapsWith (.ListComp elt [⟨tgE, iter, ifs, 0⟩] scope pos) (some (.Name y py)) spos.line X.env = pure true) (hi : PI X tgE iter wi) (ok : BlkOk X.N X.env.scope scope own) (S : Src (gx X) W wi src gt tg is) (hsub : ∀ i ∈ is, i ∈ own.map (·.2))
    (hg : ∀ (s : Shared) (H : Hp) (C : Addr) (cl : List (Str × Addr)) (fp : List Addr), PG (X.blk s H scope (compEnvC scope cl C X.env) fp) tgE gt) (ht : ∀ (s : Shared) (H : Hp) (C : Addr) (cl : List (Str × Addr)) (fp : List Addr), PTs (X.blk s H scope (compEnvC scope cl C X.env) fp) ifs (tT (gx X) W0 ct))
    (he : ∀ (s : Shared) (H : Hp) (C : Addr) (cl : List (Str × Addr)) (fp : List Addr), PE (X.blk s H scope (compEnvC scope cl C X.env) fp) elt (tE (gx X) W0 ce)) (hs : ∀ x, foldedSetIterable iter X.env x = pure x := by intro _; rfl) :
    PS X (.Assign [.Name y py] (.ListComp elt [⟨tgE, iter, ifs, 0⟩] scope pos) spos) (tS (gx X) W (sAsg i (cLC tg (own.map (·.2)) src ct ce))) :=
  PS.weak (ps_setLc hc hN hy hyl hsw hi ok hg ht he hs) fun Ed σ H h => lc_ok S hsub (Q := fun x H1 => gName i x σ H1 Ed.nx) (by
    obtain ⟨B, Γ, e, h⟩ := h
    exact te_bind (KX := fun r => KS (gx X) W σ B H Γ r Ed) gl_s (Stp.refl e) h fun B1 H1 v r Γ1 s1 _ o h1 => by
      cases hs : storeG i r Γ1 with
      | none => rw [hs] at h1; exact h1.elim
      | some Γ2 =>
        rw [hs] at h1
        obtain ⟨B2, s2, _⟩ := store_ok' s1 o hs
        exact h1 B2 H1 _ s2)
end
end E


set_option Elab.async false
set_option linter.all false
set_option maxRecDepth 100000
set_option maxHeartbeats 1000000
namespace E
open PySem L2 PyProof.Rows

variable {g : Gx} {B B1 B2 B' H H1 H2 H' : Hp} {σ σ1 σ2 σ' : L2.St} {Γ Γ1 Γ2 Γ' : Gm} {W : WX} {X : Cx} {a b e : PySem.Expr} {pos : Pos} {ca cb : M Val}

/-! ### a def's body as a function of entries -/
def outE : Ent → Option Ent → Ent
  | .own b _, some (.own _ o') => .own b o'
  | .dat d, _ => .dat d
  | .scr ns, _ => .scr ns
  | _, _ => .un
def outs : List Ent → Gm → List Ent
  | [], _ => []
  | e :: es, Γ => outE e Γ.head? :: outs es Γ.tail
def retV : Flow → Gm → Option Val
  | .nx, _ => some (.dat .none)
  | .ret (.dat d), _ => some (.dat d)
  | .ret (.new o), _ => some (.new o)
  | .ret (.loc i), Γ => match Γ[i]? with
    | some (.own false o) => some (.new o)
    | some (.dat d) => some (.dat d)
    | _ => none
  | _, _ => none
def goodE : Ent → Bool
  | .own b _ => b
  | _ => true
def mkM (np n : Nat) (body : M Flow) : Fn := fun es => if es.length = np ∧ es.all goodE then (match body (es ++ List.replicate (n - np) .un) with
    | none => none
    | some (.ok f Γ') => (retV f Γ').map fun r => .ok r (outs es Γ')
    | some (.exc x Γ') => some (.exc x (outs es Γ'))) else none
theorem outs_get : ∀ {es : List Ent} {Γ : Gm} {i : Nat} {t : Ent}, (outs es Γ)[i]? = some t → ∃ u, es[i]? = some u ∧ t = outE u Γ[i]?
  | [], _, _, _, h => by simp [outs] at h
  | e :: es, Γ, 0, t, h => by
    simp [outs] at h
    refine ⟨e, rfl, ?_⟩
    rw [← h]
    cases Γ <;> rfl
  | e :: es, Γ, i + 1, t, h => by
    obtain ⟨u, h1, h2⟩ := outs_get (es := es) (Γ := Γ.tail) (i := i) (t := t) (by simpa [outs] using h)
    refine ⟨u, by simpa using h1, ?_⟩
    rw [h2]
    cases Γ with
    | nil => simp
    | cons _ _ => simp
theorem outs_set : ∀ {es : List Ent} {Γ : Gm} {i : Nat} {u : Ent}, es[i]? = some u → (outs es Γ)[i]? = some (outE u Γ[i]?)
  | [], _, _, _, h => by simp at h
  | e :: es, Γ, 0, u, h => by
    simp at h
    subst h
    cases Γ <;> rfl
  | e :: es, Γ, i + 1, u, h => by
    have := outs_set (es := es) (Γ := Γ.tail) (i := i) (u := u) (by simpa using h)
    cases Γ with
    | nil => simpa [outs] using this
    | cons _ _ => simpa [outs] using this
theorem outs_len : ∀ {es : List Ent} {Γ : Gm}, (outs es Γ).length = es.length
  | [], _ => rfl
  | e :: es, Γ => by simp [outs, outs_len]
theorem exit_step {es : List Ent} {vs : List V} {k : Nat} (e : EOk g B H (vs.map some) es) (ge : es.all goodE = true) (s : Stp g B H (vs.map some ++ List.replicate k none) (es ++ List.replicate k .un) B' H' σ' Γ') :
    Stp g B H (vs.map some) es B' H' (vs.map some) (outs es Γ') ∧ ∀ q, Own (vs.map some) (outs es Γ') q → Own (vs.map some) es q := by
  have len : vs.length = es.length := by simpa using e.len
  have up : ∀ {i : Nat} {t : Ent}, es[i]? = some t → (es ++ List.replicate k .un)[i]? = some t := fun {i t} h => by
    rw [List.getElem?_append_left (List.getElem?_eq_some_iff.mp h).1]; exact h
  have upv : ∀ {i : Nat} {v : Option V}, (vs.map some)[i]? = some v → (vs.map some ++ List.replicate k none)[i]? = some v := fun {i v} h => by
    rw [List.getElem?_append_left (List.getElem?_eq_some_iff.mp h).1]; exact h
  have dn : ∀ {i : Nat} {b : Bool} {o : Ob}, (es ++ List.replicate k .un)[i]? = some (.own b o) → es[i]? = some (.own b o) := fun {i b o} h => by
    by_cases hi : i < es.length
    · rw [List.getElem?_append_left hi] at h; exact h
    · rw [List.getElem?_append_right (by omega)] at h
      have := List.mem_of_getElem? h
      rw [List.mem_replicate] at this
      cases this.2
  have owd : ∀ q, Own (vs.map some ++ List.replicate k none) (es ++ List.replicate k .un) q → Own (vs.map some) es q := fun q ⟨i, b, o, h1, h2⟩ => by
    have h3 := dn h1
    refine ⟨i, b, o, h3, ?_⟩
    rw [List.getElem?_append_left (by rw [List.length_map, len]; exact (List.getElem?_eq_some_iff.mp h3).1)] at h2
    exact h2
  have tr : ∀ {i : Nat} {b : Bool} {o : Ob}, es[i]? = some (.own b o) → b = true := fun {i b o} h => by
    have := List.all_eq_true.mp ge _ (List.mem_of_getElem? h)
    exact this
  have ow : ∀ {i : Nat} {b : Bool} {o : Ob}, (outs es Γ')[i]? = some (.own b o) → ∃ o0, es[i]? = some (.own true o0) ∧ b = true ∧ Γ'[i]? = some (.own true o) ∧ σ'[i]? = (vs.map some ++ List.replicate k none)[i]? := fun {i b o} h => by
    obtain ⟨u, h1, h2⟩ := outs_get h
    cases u with
    | own c o0 =>
      have hc := tr h1
      subst hc
      obtain ⟨o', q1, q2⟩ := s.par i o0 (up h1)
      rw [q1] at h2
      have h3 : Ent.own b o = .own true o' := h2
      injection h3 with h4 h5
      subst h4 h5
      exact ⟨o0, h1, rfl, q1, q2⟩
    | un => cases h2
    | dat _ => cases h2
    | scr _ => cases h2
  have how : ∀ q, Own (vs.map some) (outs es Γ') q → Own (vs.map some) es q := fun q ⟨i, b, o, h1, h2⟩ => by
    obtain ⟨o0, h3, _⟩ := ow h1
    exact ⟨i, true, o0, h3, h2⟩
  refine ⟨⟨⟨s.env.sub, by rw [outs_len]; exact e.len, fun i t ht => ?_, fun i j b c o o' q h1 h2 h3 h4 => ?_⟩, s.bb, fun x u hx n => s.keep x u hx fun z => n (owd x z), s.dom, fun x hx => ?_, fun q z => .inl (how q z), fun i o hi => ?_⟩, how⟩
  · obtain ⟨u, h1, h2⟩ := outs_get ht
    have q := e.at_ i u h1
    cases u with
    | un => subst h2; trivial
    | dat d =>
      subst h2
      obtain ⟨v, z1, z2⟩ := q
      exact ⟨v, z1, dq_mono s.bb z2⟩
    | scr ns =>
      subst h2
      obtain ⟨v, z1, z2⟩ := q
      exact ⟨v, z1, sql_mono s.bb z2⟩
    | own c o0 =>
      have hc := tr h1
      subst hc
      obtain ⟨o', q1, q2⟩ := s.par i o0 (up h1)
      rw [q1] at h2
      have h3 : t = .own true o' := h2
      subst h3
      obtain ⟨p, z1, z2, z3⟩ := s.env.at_ i _ q1
      rw [q2] at z1
      obtain ⟨v, w1, w2, w3⟩ := q
      rw [upv w1] at z1
      cases z1
      exact ⟨p, w1, z2, z3⟩
  · obtain ⟨o1, z1, _⟩ := ow h1
    obtain ⟨o2, z2, _⟩ := ow h2
    exact e.sep i j _ _ _ _ q z1 z2 h3 h4
  · rcases s.newB x hx with z | z | z
    · exact .inl z
    · exact .inr (.inl z)
    · exact .inr (.inr (owd x z))
  · obtain ⟨o', q1, q2⟩ := s.par i o (up hi)
    exact ⟨o', by rw [outs_set hi, q1]; rfl, rfl⟩
theorem start_env {es : List Ent} {vs : List V} {k : Nat} (e : EOk g B H (vs.map some) es) : EOk g B H (vs.map some ++ List.replicate k none) (es ++ List.replicate k .un) := by
  have len : vs.length = es.length := by simpa using e.len
  have dn : ∀ {i : Nat} {t : Ent}, (es ++ List.replicate k .un)[i]? = some t → es[i]? = some t ∨ t = .un := fun {i t} h => by
    by_cases hi : i < es.length
    · rw [List.getElem?_append_left hi] at h; exact .inl h
    · rw [List.getElem?_append_right (by omega)] at h
      have := List.mem_of_getElem? h
      rw [List.mem_replicate] at this
      exact .inr this.2
  have vd : ∀ {i : Nat} {t : Ent}, es[i]? = some t → (vs.map some ++ List.replicate k none)[i]? = (vs.map some)[i]? := fun {i t} h => List.getElem?_append_left (by rw [List.length_map, len]; exact (List.getElem?_eq_some_iff.mp h).1)
  refine ⟨e.sub, by simp [len], fun i t h => ?_, fun i j b c o o' q h1 h2 h3 h4 => ?_⟩
  · rcases dn h with z | z
    · rw [vd z]; exact e.at_ i t z
    · subst z; trivial
  · rcases dn h1 with z1 | z1
    · rcases dn h2 with z2 | z2
      · rw [vd z1] at h3
        rw [vd z2] at h4
        exact e.sep i j b c o o' q z1 z2 h3 h4
      · cases z2
    · cases z1
section
variable {P : Program} {w : World} {K : PySem.W.Frag} {mg : Str → Option Value} {base : Heap}
/-- the def's promise from its body -/
theorem okDef {x qual : Str} {st : PySem.Stmt} {f : Addr} {fd : FuncData} {N ps : List Str} {k : Nat} {body : M Flow} (F : Fun K x qual st f fd) (S : FnScope N ps (defScope st))
    (h : ∀ (cdv : Value) (A : Around) (outer : List PySem.Env) (s : Shared) (H : Hp) (EE : XK), Room k (A.deeper (envOfC qual (defScope st) s.heap.objs.size f cdv)) →
      PSs (cxOf (L2.CX P w) P w K mg base N qual (defScope st) f cdv A outer s H EE) (defBody st) (tS ⟨K, mg, w⟩ (fun c d _ H => EE c d H) body)) :
    FnOk P w K mg base (L2.CX P w) (k + 1) f fd ps (spM ⟨K, mg, w⟩ (mkM ps.length N.length body)) := by
  refine F.okX S (fun vs H Q EE h => ?_) (fun cdv A outer s H vs Q EE hr hsp => ?_)
  · obtain ⟨B, es, e, h⟩ := h
    unfold mkM at h
    split at h
    · rename_i hl
      have := e.len
      rw [List.length_map] at this
      omega
    · exact h.elim
  · refine ⟨_, h cdv A outer s H EE hr, ?_⟩
    obtain ⟨B, es, e, hh⟩ := hsp
    unfold mkM at hh
    split at hh
    · rename_i hl
      obtain ⟨hl, ge⟩ := hl
      have lv : vs.length = ps.length := by
        have := e.len
        rw [List.length_map] at this
        omega
      have es0 : L2.start N vs = vs.map some ++ List.replicate (N.length - ps.length) none := by unfold L2.start; rw [lv]
      refine ⟨B, es ++ List.replicate (N.length - ps.length) .un, by rw [es0]; exact start_env e, ?_⟩
      rw [es0]
      cases hb : body (es ++ List.replicate (N.length - ps.length) .un) with
      | none => rw [hb] at hh; exact hh.elim
      | some r =>
        rw [hb] at hh
        cases r with
        | exc y Γ' =>
          intro B' H' σ' c d s' o
          exact hh B' H' c d (exit_step e ge s').1 o
        | ok fl Γ' =>
          intro B' H' σ' s'
          obtain ⟨u, how⟩ := exit_step e ge s'
          dsimp only at hh
          have fin : ∀ r v, retV fl Γ' = some r → ValOk ⟨K, mg, w⟩ H B' H' (vs.map some) (outs es Γ') v r → Q v H' := fun r v hr o => by
            rw [hr] at hh
            exact hh B' H' v u o
          cases fl with
          | nx => exact fin (.dat .none) .non rfl .non
          | brk => exact hh.elim
          | ct => exact hh.elim
          | ret r =>
            intro v o
            cases r with
            | dat d => exact fin _ v rfl o
            | new ob =>
              obtain ⟨p, q1, q2, q3, q4, q5⟩ := o
              exact fin _ v rfl ⟨p, q1, q2, q3, fun z => (e.own_some (how p z)).1 q3, q5⟩
            | loc i =>
              have ov : σ'[i]? = some (some v) := o
              cases hi : Γ'[i]? with
              | none =>
                have hn : retV (.ret (.loc i)) Γ' = none := by unfold retV; dsimp only; rw [hi]
                rw [hn] at hh; exact hh.elim
              | some t =>
                have ht := s'.env.at_ i t hi
                cases t with
                | dat d =>
                  obtain ⟨v', z1, z2⟩ := ht
                  rw [ov] at z1; cases z1
                  exact fin (.dat d) v (by unfold retV; dsimp only; rw [hi]) z2
                | own b ob =>
                  cases b with
                  | false =>
                    obtain ⟨p, z1, z2, z3⟩ := ht
                    rw [ov] at z1; cases z1
                    have np : H p = none := by
                      rcases s'.own p ⟨i, false, ob, hi, ov⟩ with ⟨j, b, o2, w1, w2⟩ | z
                      · exfalso
                        have hb : b = true := by
                          by_cases hj : j < es.length
                          · rw [List.getElem?_append_left hj] at w1
                            exact List.all_eq_true.mp ge _ (List.mem_of_getElem? w1)
                          · rw [List.getElem?_append_right (by omega)] at w1
                            have := List.mem_of_getElem? w1
                            rw [List.mem_replicate] at this
                            cases this.2
                        subst hb
                        obtain ⟨o3, y1, y2⟩ := s'.par j o2 w1
                        rw [w2] at y2
                        have ij := s'.env.sep i j _ _ _ _ p hi y1 ov y2
                        subst ij
                        rw [hi] at y1
                        cases y1
                      · exact z
                    exact fin (.new ob) (.ref p) (by unfold retV; dsimp only; rw [hi]) ⟨p, rfl, z2, np, fun z => (e.own_some (how p z)).1 np, z3⟩
                  | true =>
                    have hn : retV (.ret (.loc i)) Γ' = none := by unfold retV; dsimp only; rw [hi]
                    rw [hn] at hh; exact hh.elim
                | un =>
                  have hn : retV (.ret (.loc i)) Γ' = none := by unfold retV; dsimp only; rw [hi]
                  rw [hn] at hh; exact hh.elim
                | scr _ =>
                  have hn : retV (.ret (.loc i)) Γ' = none := by unfold retV; dsimp only; rw [hi]
                  rw [hn] at hh; exact hh.elim
    · exact hh.elim
/-- a def that is not (yet) known to do anything -/
theorem okNone {f : Addr} {fd : FuncData} {ps : List Str} {k : Nat} : FnOk P w K mg base (L2.CX P w) k f fd ps (spM ⟨K, mg, w⟩ fun _ => none) :=
  ⟨fun vs H Q EE h => by obtain ⟨B, es, e, h⟩ := h; exact h.elim, fun A outer s H args us vs Q EE hr he hb hv h => by obtain ⟨B, es, e, h⟩ := h; exact h.elim⟩
end
/-! ### raise -/
def sRaise (cls : Str) : M Flow := fun Γ => some (.exc ⟨cls, none⟩ Γ)
theorem z_raise {cls : Str} {C : Addr} (hc : X.calm = true) (tk : Takes X W) (gC : X.mg cls = some (.ref C)) (pm : PMk X e (fun _ H Q => Q (.ref C) none H)) : PS X (.Raise (some e) none pos) (tS (gx X) W (sRaise cls)) :=
  PS.weak (ps_raise hc tk pm) fun Ed σ H h => by
    obtain ⟨B, Γ, e, h⟩ := h
    exact h B H σ (.ref C) none (Stp.refl e) ⟨C, gC, rfl, rfl⟩
/-- in a body: what leaves it is taken -/
theorem takesB {P : Program} {w : World} {K : PySem.W.Frag} {mg : Str → Option Value} {base : Heap} {N : List Str} {qual : Str} {scope : Scope} {f : Addr} {cd : Value} {A : Around} {outer : List PySem.Env} {s : Shared} {H : Hp} {EE : XK} :
    Takes (cxOf (L2.CX P w) P w K mg base N qual scope f cd A outer s H EE) (fun c d _ H => EE c d H) := takes_of rfl rfl rfl rfl
theorem passesB {P : Program} {w : World} {K : PySem.W.Frag} {mg : Str → Option Value} {base : Heap} {N : List Str} {qual : Str} {scope : Scope} {f : Addr} {cd : Value} {A : Around} {outer : List PySem.Env} {s : Shared} {H : Hp} {EE : XK} :
    PassesOwn (model P w) (cxOf (L2.CX P w) P w K mg base N qual scope f cd A outer s H EE).A (cxOf (L2.CX P w) P w K mg base N qual scope f cd A outer s H EE).env (cxOf (L2.CX P w) P w K mg base N qual scope f cd A outer s H EE).xe := passes_of rfl
end E


set_option Elab.async false
set_option linter.all false
set_option maxRecDepth 100000
set_option maxHeartbeats 1000000
namespace E
open PySem L2 PyProof.Rows

variable {g : Gx} {B B1 B2 B' H H1 H2 H' : Hp} {σ σ1 σ2 σ' : L2.St} {Γ Γ1 Γ2 Γ' : Gm} {W : WX} {X : Cx} {a b e : PySem.Expr} {es : List PySem.Expr} {pos : Pos} {ca cb : M Val}

/-! ### a fresh object is handed to a def -/
theorem append_at {α : Type} {l : List α} {x : α} : (l ++ [x])[l.length]? = some x := by
  rw [List.getElem?_append_right (Nat.le_refl _), Nat.sub_self]; rfl
theorem append_lt {α : Type} {l : List α} {x : α} {i : Nat} (h : i < l.length) : (l ++ [x])[i]? = l[i]? := List.getElem?_append_left h
theorem append_get {α : Type} {l : List α} {x y : α} {i : Nat} (h : (l ++ [x])[i]? = some y) : (i < l.length ∧ l[i]? = some y) ∨ (i = l.length ∧ y = x) := by
  by_cases hi : i < l.length
  · rw [append_lt hi] at h; exact .inl ⟨hi, h⟩
  · by_cases he : i = l.length
    · subst he
      rw [append_at] at h
      cases h
      exact .inr ⟨rfl, rfl⟩
    · rw [List.getElem?_eq_none (by rw [List.length_append, List.length_singleton]; omega)] at h
      cases h
theorem phantom {p : Addr} {o : Ob} (e : EOk g B H σ Γ) (nb : B p = none) (no : ¬ Own σ Γ p) (ho : Holds g B H p o) : EOk g B H (σ ++ [some (.ref p)]) (Γ ++ [.own false o]) := by
  have hl := e.len
  refine ⟨e.sub, by simp [hl], fun i t h => ?_, fun i j b c x y q h1 h2 h3 h4 => ?_⟩
  · rcases append_get h with ⟨hi, h⟩ | ⟨hi, h⟩
    · rw [append_lt (by omega)]; exact e.at_ i t h
    · subst h
      rw [hi, ← hl, append_at]
      exact ⟨p, rfl, nb, ho⟩
  · have key : ∀ (i : Nat) (b : Bool) (x : Ob), (Γ ++ [.own false o])[i]? = some (.own b x) → (σ ++ [some (.ref p)])[i]? = some (some (.ref q)) → (i < Γ.length ∧ Γ[i]? = some (.own b x) ∧ σ[i]? = some (some (.ref q))) ∨ (i = Γ.length ∧ q = p) := fun i b x h1 h3 => by
      rcases append_get h1 with ⟨hi, h1⟩ | ⟨hi, _⟩
      · rw [append_lt (by omega)] at h3
        exact .inl ⟨hi, h1, h3⟩
      · rw [hi, ← hl, append_at] at h3
        cases h3
        exact .inr ⟨hi, rfl⟩
    rcases key i b x h1 h3 with ⟨a1, a2, a3⟩ | ⟨a1, a2⟩
    · rcases key j c y h2 h4 with ⟨b1, b2, b3⟩ | ⟨b1, b2⟩
      · exact e.sep i j b c x y q a2 b2 a3 b3
      · subst b2
        exact absurd ⟨i, b, x, a2, a3⟩ no
    · rcases key j c y h2 h4 with ⟨b1, b2, b3⟩ | ⟨b1, b2⟩
      · subst a2
        exact absurd ⟨j, c, y, b2, b3⟩ no
      · omega
theorem phantom_off {B0 H0 : Hp} {Γ0 : Gm} {σ0 : L2.St} {p : Addr} {o o' : Ob} (s : Stp g B0 H0 σ0 Γ0 B H σ Γ) (n0 : H0 p = none) (no : ¬ Own σ Γ p)
    (t : Stp g B H (σ ++ [some (.ref p)]) (Γ ++ [.own false o]) B' H' (σ ++ [some (.ref p)]) (Γ ++ [.own false o'])) : Stp g B0 H0 σ0 Γ0 B' H' σ Γ ∧ B' p = none ∧ Holds g B' H' p o' := by
  have e := s.env
  have hl := e.len
  have ow : ∀ (q : Addr), Own (σ ++ [some (.ref p)]) (Γ ++ [.own false o]) q → Own σ Γ q ∨ q = p := fun q ⟨i, b, x, h1, h2⟩ => by
    rcases append_get h1 with ⟨hi, h1⟩ | ⟨hi, _⟩
    · rw [append_lt (by omega)] at h2
      exact .inl ⟨i, b, x, h1, h2⟩
    · rw [hi, ← hl, append_at] at h2
      cases h2
      exact .inr rfl
  have up : ∀ (i : Nat) (t : Ent), Γ[i]? = some t → (Γ ++ [.own false o'])[i]? = some t ∧ (σ ++ [some (.ref p)])[i]? = σ[i]? := fun i t h => by
    have hi := (List.getElem?_eq_some_iff.mp h).1
    exact ⟨by rw [append_lt hi]; exact h, append_lt (by omega)⟩
  obtain ⟨q, q1, q2, q3⟩ := t.env.at_ Γ.length _ append_at
  rw [← hl, append_at] at q1
  cases q1
  refine ⟨⟨⟨t.env.sub, hl, fun i t' h => ?_, fun i j b c x y q h1 h2 h3 h4 => ?_⟩, s.bb.trans t.bb, fun a u h n => ?_, fun a h => t.dom a (s.dom a h), fun a h => ?_, s.own, s.par⟩, q2, q3⟩
  · obtain ⟨h1, h2⟩ := up i t' h
    have := t.env.at_ i t' h1
    rw [h2] at this
    exact this
  · obtain ⟨a1, a2⟩ := up i _ h1
    obtain ⟨b1, b2⟩ := up j _ h2
    exact t.env.sep i j b c x y q a1 b1 (by rw [a2]; exact h3) (by rw [b2]; exact h4)
  · refine t.keep a u (s.keep a u h n) fun z => ?_
    rcases ow a z with z | z
    · rcases s.own a z with y | y
      · exact n y
      · rw [y] at h; cases h
    · subst z; rw [n0] at h; cases h
  · rcases t.newB a h with z | z | z
    · exact s.newB a z
    · by_cases hh : H0 a = none
      · exact .inr (.inl hh)
      · exact absurd z (s.dom a hh)
    · rcases ow a z with z | z
      · rcases s.own a z with y | y
        · exact .inr (.inr y)
        · exact .inr (.inl y)
      · subst z; exact .inr (.inl n0)
/-- the call with a fresh object ahead of data; o': the object behind it -/
def callN (m : Fn) (o : Ob) (as : List AV) (k : Val → Ob → M Val) : M Val := fun Γ => if (locsOf as).length == 0 then (match entsOf Γ as with
  | none => none
  | some es => match m (.own true o :: es) with
    | some (.ok (.dat d) (.own true o' :: _)) => k (.dat d) o' Γ
    | some (.exc x (.own true _ :: _)) => some (.exc x Γ)
    | _ => none) else none
theorem ents_ext {t : Ent} : ∀ {as : List AV} {es : List Ent}, locsOf as = [] → entsOf Γ as = some es → entsOf (Γ ++ [t]) as = some es
  | [], _, _, h => h
  | .dat d :: r, es, hl, h => by
    unfold entsOf at h ⊢
    split at h
    · rename_i e es' h1 h2
      cases h
      have h1' : entOf (Γ ++ [t]) (.dat d) = some e := h1
      rw [h1', ents_ext (as := r) hl h2]
    · cases h
  | .loc i :: r, es, hl, h => by cases hl
theorem datas_ok {as : List AV} {vs : List V} (hl : locsOf as = []) (p : Paired (AVOk g B σ) vs as) : ∀ σ', Paired (AVOk g B σ') vs as := fun σ' => by
  induction p with
  | nil => exact .nil
  | @cons v x vs as h t ih =>
    cases x with
    | dat d => exact .cons h (ih hl)
    | loc i => cases hl
theorem callN_ok {m : Fn} {o : Ob} {as : List AV} {vs : List V} {B0 H0 : Hp} {Γ0 : Gm} {Q : VK} {p : Addr} {k : Val → Ob → M Val} {R : V → Hp → Prop} (s : Stp g B0 H0 σ Γ0 B H σ Γ) (n0 : H0 p = none) (nb : B p = none) (no : ¬ Own σ Γ p) (ho : Holds g B H p o) (pr : Paired (AVOk g B σ) vs as)
    (h : KE g W σ B0 H0 Γ0 (callN m o as k Γ) Q)
    (hk : ∀ B1 H1 v d o', Stp g B0 H0 σ Γ0 B1 H1 σ Γ → B1 p = none → Holds g B1 H1 p o' → Dq B1 v d → KE g W σ B0 H0 Γ0 (k (.dat d) o' Γ) Q → R v H1) : spM g m (.ref p :: vs) H R (WE W σ) := by
  unfold callN at h
  split at h
  · rename_i hl
    have hl : locsOf as = [] := List.length_eq_zero_iff.mp (beq_iff_eq.mp hl)
    split at h
    · exact h.elim
    · rename_i es hes
      have e := s.env
      have e2 := phantom e nb no ho
      have hes2 : entsOf (Γ ++ [Ent.own false o]) (.loc Γ.length :: as) = some (.own true o :: es) := by
        have h1 : entOf (Γ ++ [Ent.own false o]) (.loc Γ.length) = some (.own true o) := by
          unfold entOf
          dsimp only
          rw [append_at]
        have h2 := ents_ext (t := Ent.own false o) hl hes
        show (match entOf (Γ ++ [Ent.own false o]) (.loc Γ.length), entsOf (Γ ++ [Ent.own false o]) as with
          | some e, some es => some (e :: es)
          | _, _ => none) = _
        rw [h1, h2]
      have p2 : Paired (AVOk g B (σ ++ [some (.ref p)])) (.ref p :: vs) (.loc Γ.length :: as) := .cons (show (σ ++ [some (V.ref p)])[Γ.length]? = some (some (.ref p)) by rw [← e.len]; exact append_at) (datas_ok hl pr _)
      have lo : locsOf (.loc Γ.length :: as) = [Γ.length] := by
        show Γ.length :: locsOf as = _
        rw [hl]
      have env := call_env e2 p2 hes2 (by rw [lo]; simp)
      have back : ∀ (o' : Ob) (es' : List Ent), backTo' (Γ ++ [Ent.own false o]) (.loc Γ.length :: as) (.own true o' :: es') = some (Γ ++ [Ent.own false o']) := fun o' es' => by
        unfold backTo'
        rw [lo]
        dsimp only
        rw [append_at]
        show some ((Γ ++ [Ent.own false o]).set Γ.length (.own false o')) = _
        rw [List.set_append_right _ _ (Nat.le_refl _), Nat.sub_self]
        rfl
      refine ⟨B, _, env, ?_⟩
      split at h
      · rename_i d o' es' hm
        rw [hm]
        intro B' H' v s2 ov
        obtain ⟨s3, _⟩ := call_step e2 p2 hes2 s2 (back o' es')
        obtain ⟨s4, nb', ho'⟩ := phantom_off s n0 no s3
        exact hk B' H' v d o' s4 nb' ho' ov h
      · rename_i x o' es' hm
        rw [hm]
        intro B' H' c dd s2 ov
        obtain ⟨s3, _⟩ := call_step e2 p2 hes2 s2 (back o' es')
        obtain ⟨s4, _, _⟩ := phantom_off s n0 no s3
        exact h B' H' c dd s4 ov
      · exact h.elim
  · exact h.elim
/-- f(e) where e is a new object -/
def cCallN (m : Fn) (c : M Val) : M Val := c.bind fun r => match r with
  | .new o => callN m o [] fun z _ => M.ret z
  | _ => fun _ => none
section
variable {x : Str} {p : Pos} {f : Addr} {fd : FuncData} {ps : List Str} {k : Nat} {m : Fn} {cas : M (List AV)}
theorem e_callN (F : FnOk X.prog X.w X.K X.mg X.base (L2.CX X.prog X.w) k f fd ps (spM (gx X) m)) (hr : Room k X.A) (tk : Takes X W) (hg : Gl X x) (hm : X.mg x = some (.ref f)) (hk : PySem.W.keepIn X.K (.ref f) = true) (hb : Binds X.K fd ps [])
    (ha : PE X e (tE (gx X) W ca)) (hdb : (x == ("__debug__" : Str)) = false := by decide) (he : starEach [e] X.env = (false, eval e X.env) :: starEach [] X.env := by rfl) (hpl : (backTo pos (starEach [] X.env)).any (·.1) = false := by rfl) :
    PE X (.Call (.Name x p) [e] [] pos) (tE (gx X) W (cCallN m ca)) :=
  PE.weak (pe_callS F hr hg hm hk hb (fun σ => passAt tk σ) (pa_cons ha pa_nil he) hdb he hpl) fun σ H Q h => by
    obtain ⟨B, Γ, e, h⟩ := h
    refine te_bind (KX := fun r => KE (gx X) W σ B H Γ r Q) gl_e (Stp.refl e) h fun B1 H1 v r Γ1 s1 _ o h1 => ?_
    split at h1
    · rename_i ob
      obtain ⟨q, rfl, nb, n0, no, ho⟩ := o
      exact callN_ok s1 n0 nb no ho .nil h1 fun B2 H2 v d o' s2 _ _ dq h2 => h2 B2 H2 v s2 dq
    · exact h1.elim
end
/-! ### instances -/
/-- what the class is -/
structure Kc (K : PySem.W.Frag) (mg : Str → Option Value) (c : Nat) (C : Addr) : Prop where
  at_ : mg (clN c) = some (.ref C)
  cl : Cls K C
  no : ∀ f ∈ clF c, NoAttr K C f
theorem clF_nodup (c : Nat) : (clF c).Nodup := by
  unfold clF
  split <;> decide +kernel
theorem clF_small (c : Nat) : (clF c).length < 1000 := by
  unfold clF
  split <;> decide
theorem look_zip {f : Str} {v : V} : ∀ {ns : List Str} {vs : List V} {k : Nat}, ns.Nodup → ns[k]? = some f → vs[k]? = some v → (ns.zip vs).lookup f = some v
  | [], _, k, _, h, _ => by simp at h
  | _ :: _, [], k, _, _, h => by simp at h
  | n :: ns, w :: vs, 0, _, h, h2 => by
    simp at h h2; subst h h2
    show List.lookup n ((n, w) :: ns.zip vs) = some w
    simp [List.lookup]
  | n :: ns, w :: vs, k + 1, nd, h, h2 => by
    rw [List.nodup_cons] at nd
    have h' : ns[k]? = some f := by simpa using h
    have ne : (f == n) = false := by
      rw [beq_eq_false_iff_ne]
      intro z
      subst z
      exact nd.1 (List.mem_of_getElem? h')
    show List.lookup f ((n, w) :: ns.zip vs) = some v
    simp only [List.lookup, ne]
    exact look_zip nd.2 h' (by simpa using h2)
theorem look_none {f : Str} : ∀ {ns : List Str} {vs : List V}, f ∉ ns → (ns.zip vs).lookup f = none
  | [], _, _ => rfl
  | _ :: _, [], _ => rfl
  | n :: ns, w :: vs, h => by
    have ne : (f == n) = false := by
      rw [beq_eq_false_iff_ne]
      exact fun z => h (by subst z; exact List.mem_cons_self)
    show List.lookup f ((n, w) :: ns.zip vs) = none
    simp only [List.lookup, ne]
    exact look_none fun z => h (List.mem_cons_of_mem _ z)
theorem put_zip {f : Str} {v : V} : ∀ {ns : List Str} {vs : List V} {k : Nat}, ns.Nodup → ns[k]? = some f → k < vs.length → putF f v (ns.zip vs) = ns.zip (vs.set k v)
  | [], _, k, _, h, _ => by simp at h
  | _ :: _, [], k, _, _, h => by simp at h
  | n :: ns, w :: vs, 0, _, h, h2 => by
    simp at h; subst h
    exact if_pos rfl
  | n :: ns, w :: vs, k + 1, nd, h, h2 => by
    rw [List.nodup_cons] at nd
    have h' : ns[k]? = some f := by simpa using h
    have ne : ¬ n = f := by
      intro z
      subst z
      exact nd.1 (List.mem_of_getElem? h')
    show putF f v ((n, w) :: ns.zip vs) = (n, w) :: ns.zip (vs.set k v)
    rw [← put_zip nd.2 h' (by simpa using h2)]
    exact if_neg ne
theorem put_zip2 {f : Str} {v : V} : ∀ {ns : List Str} {vs : List V} {k : Nat}, ns.Nodup → ns[k]? = some f → k = vs.length → putF f v (ns.zip vs) = ns.zip (vs ++ [v])
  | [], _, k, _, h, _ => by simp at h
  | n :: ns, [], 0, nd, h, h2 => by
    simp at h; subst h
    cases ns <;> rfl
  | n :: ns, [], k + 1, nd, h, h2 => by simp at h2
  | n :: ns, w :: vs, 0, _, h, h2 => by simp at h2
  | n :: ns, w :: vs, k + 1, nd, h, h2 => by
    rw [List.nodup_cons] at nd
    have h' : ns[k]? = some f := by simpa using h
    have ne : ¬ n = f := by
      intro z
      subst z
      exact nd.1 (List.mem_of_getElem? h')
    show putF f v ((n, w) :: ns.zip vs) = (n, w) :: ns.zip (vs ++ [v])
    rw [← put_zip2 nd.2 h' (by simpa using h2)]
    exact if_neg ne
/-- x.f, x a slot with an instance of c, f the k-th attribute -/
def cFld (i c k : Nat) : M Val := fun Γ => match Γ[i]? with
  | some (.own _ (.ins c' ds)) => if c' == c then (match ds[k]? with
    | some d => some (.ok (.dat d) Γ)
    | none => none) else none
  | _ => none
theorem e_fld (i c k : Nat) {C : Addr} {x f : Str} {px : Pos} (T : Kc X.K X.mg c C) (hf : (clF c)[k]? = some f) (hN : X.N[i]? = some x) (hv : Vis X.env.scope x)
    (hb : attributeBase (.Name x px) f X.env (eval (.Name x px) X.env) = eval (.Name x px) X.env := by rfl) (hd : (x == ("__debug__" : Str)) = false := by decide) (hcd : (x == ("__classdict__" : Str)) = false := by decide) :
    PE X (.Attribute (.Name x px) f pos) (tE (gx X) W (cFld i c k)) := PE.weak (pe_fld (pe_var (i := i) hN hv hd hcd) hb) fun σ H Q h => by
  obtain ⟨B, Γ, e, h⟩ := h
  unfold cFld at h
  split at h
  · rename_i bb c' ds hi
    split at h
    · rename_i hc
      have hc := beq_iff_eq.mp hc
      subst hc
      split at h
      · rename_i d hd
        obtain ⟨p, e1, e2, C', dx, vs, e3, e4, e5, e6⟩ := e.at_ i _ hi
        rw [show (gx X).mg (clN c') = some (.ref C) from T.at_] at e3
        cases e3
        obtain ⟨v, q1, q2⟩ := dqa_get e6 hd
        exact ⟨.ref p, e1, p, C, dx, _, v, rfl, e5, T.cl, T.no f (List.mem_of_getElem? hf), look_zip (clF_nodup _) hf q1, h B H v (Stp.refl e) q2⟩
      · exact h.elim
    · exact h.elim
  · exact h.elim
/-- x.f = e -/
def sFld (i c k : Nat) (ce : M Val) : M Flow := ce.bind fun r => (frz r).bind fun d Γ => match Γ[i]? with
  | some (.own b (.ins c' ds)) => if c' == c then (if k < ds.length then some (.ok .nx (Γ.set i (.own b (.ins c (ds.set k d))))) else if k = ds.length then some (.ok .nx (Γ.set i (.own b (.ins c (ds ++ [d]))))) else none) else none
  | _ => none
theorem z_fld (i c k : Nat) {C : Addr} {x f : Str} {px pa : Pos} (T : Kc X.K X.mg c C) (hf : (clF c)[k]? = some f) (hN : X.N[i]? = some x) (hv : Vis X.env.scope x) (he : PE X e (tE (gx X) W ca))
    (hs : swapsWith e (some (.Attribute (.Name x px) f pa)) pos.line X.env = pure false := by rfl) (hd : (x == ("__debug__" : Str)) = false := by decide) (hcd : (x == ("__classdict__" : Str)) = false := by decide) :
    PS X (.Assign [.Attribute (.Name x px) f pa] e pos) (tS (gx X) W (sFld i c k ca)) := PS.weak (ps_fld (pe_var (i := i) hN hv hd hcd) he hs) fun Ed σ H h => by
  obtain ⟨B, Γ, e, h⟩ := h
  refine te_bind (KX := fun r => KS (gx X) W σ B H Γ r Ed) gl_s (Stp.refl e) h fun B1 H1 v r Γ1 s1 _ o h1 => ?_
  refine m_bind (KX := fun r => KS (gx X) W σ B H Γ r Ed) (gl_s (B0 := B) (H0 := H) (Γ0 := Γ) (σ := σ)) h1 (fun _ _ => frz_noexc) fun d Γ2 hf2 h2 => ?_
  obtain ⟨B2, s2, dq, _⟩ := frz_ok s1 o hf2
  split at h2
  · rename_i b c' ds hi
    split at h2
    · rename_i hc
      have hc := beq_iff_eq.mp hc
      subst hc
      obtain ⟨p, e1, e2, C', dx, vs, e3, e4, e5, e6⟩ := s2.env.at_ i _ hi
      rw [show (gx X).mg (clN c') = some (.ref C) from T.at_] at e3
      cases e3
      have hk : k < (clF c').length := (List.getElem?_eq_some_iff.mp hf).1
      refine ⟨.ref p, e1, p, C, dx, _, rfl, e5, T.cl, T.no f (List.mem_of_getElem? hf), ?_, ?_⟩
      · rw [List.length_zip]
        have := clF_small c'
        omega
      · split at h2
        · rename_i hl
          rw [put_zip (clF_nodup _) hf (by rw [dqa_len e6]; exact hl)]
          exact h2 B2 _ σ (stp_mut s2 hi e1 ⟨C, dx, _, T.at_, by rw [List.length_set]; exact e4, upd_same, dqa_set dq k e6⟩)
        · split at h2
          · rename_i hl
            rw [put_zip2 (clF_nodup _) hf (by rw [dqa_len e6]; exact hl)]
            exact h2 B2 _ σ (stp_mut s2 hi e1 ⟨C, dx, _, T.at_, by rw [List.length_append, List.length_singleton]; omega, upd_same, dqa_app e6 (.cons dq .nil)⟩)
          · exact h2.elim
    · exact h2.elim
  · exact h2.elim
/-- the slot is an instance -/
def chkI (i c : Nat) : M Unit := fun Γ => match Γ[i]? with
  | some (.own _ (.ins c' _)) => if c' == c then some (.ok () Γ) else none
  | _ => none
theorem chkI_noexc {i c : Nat} {x : Exn} : chkI i c Γ ≠ some (.exc x Γ1) := by
  intro h
  unfold chkI at h
  split at h
  · split at h <;> cases h
  · cases h
/-- x.m(..), x a slot with an instance -/
def cMeth (i c : Nat) (m : Fn) (cas : M (List AV)) : M Val := (chkI i c).bind fun _ => cas.bind fun as => callM m (.loc i :: as)
section
variable {x nm : Str} {f C : Addr} {fd : FuncData} {ps : List Str} {k : Nat} {m : Fn} {cas : M (List AV)} {px apos p : Pos}
/-- .. with what it raises wished for at the slots -/
def tMth (C : Addr) (n : Str) (sp : Sp) (Ex : L2.St → XK) (ta : TE) (t : TA) : TE := fun σ H Q => ta σ H fun x H1 => ∃ a dx fs, x = .ref a ∧ H1 a = some (.ins C dx fs) ∧ fs.lookup n = none ∧ t σ H1 fun vs H2 => sp (x :: vs) H2 Q (Ex σ)
theorem pe_mthX {sp : Sp} {Ex : L2.St → XK} {o : PySem.Expr} {ta : TE} {t : TA} {pl : Sem Bool} {CX : CXT} (he : PE X o ta) (c : Cls X.K C) (hm : Meth X.K C nm f) (F : FnOk X.prog X.w X.K X.mg X.base CX k f fd ps sp) (hr : Room k X.A) (hb : Binds X.K fd ps []) (hx : ∀ σ, PassesAt CX X σ (Ex σ)) (ha : PA X (e :: es) t)
    (hst : starEach (e :: es) X.env = (false, eval e X.env) :: starEach es X.env := by rfl) (hpl : (backTo pos (starEach es X.env)).any (·.1) = false := by rfl)
    (ht : eval (.Call (.Attribute o nm apos) (e :: es) [] pos) X.env = (do
      let ov ← eval o X.env
      standAt apos.atName
      let (fn, pre) ← holding [ov] (getMethod ov nm pl)
      callWith pos fn pre (backTo pos (starEach (e :: es) X.env)) (backToKw pos (keywordEach [] X.env))) := by rfl) :
    PE X (.Call (.Attribute o nm apos) (e :: es) [] pos) (tMth C nm sp Ex ta t) := by
  constructor
  intro pins s σ H Q I h
  refine PySem.W.methodCall_KW (pl := pl) (thn (he.run pins s σ H _ I h) fun u s1 hh => ?_) ht
  obtain ⟨x, H1, I1, rx, a, dx, fs, ex, ea, l, q⟩ := hh
  subst ex
  have hu : u = Value.ref a := rx
  subst hu
  refine getmeth_ok I1 ea c hm l ?_
  refine PySem.W.callWith_K (first := [.ref a]) (h₀ := X.base) I.ok.mod.kin hm.kp (thn (ha.run pos pins s1 σ H1 _ I1 q) fun us s2 hh => ?_) hst hpl
  obtain ⟨vs, H2, I2, r, q2⟩ := hh
  exact ⟨I2.kIn, run_fnS (us := .ref a :: us) (vs := .ref a :: vs) F hr hb (hx σ) I2 (.cons rfl r) q2⟩
theorem pe_mthX0 {sp : Sp} {Ex : L2.St → XK} {o : PySem.Expr} {ta : TE} {pl : Sem Bool} {CX : CXT} (he : PE X o ta) (c : Cls X.K C) (hm : Meth X.K C nm f) (F : FnOk X.prog X.w X.K X.mg X.base CX k f fd ps sp) (hr : Room k X.A) (hb : Binds X.K fd ps []) (hx : ∀ σ, PassesAt CX X σ (Ex σ))
    (ht : eval (.Call (.Attribute o nm apos) [] [] pos) X.env = (do
      let ov ← eval o X.env
      standAt apos.atName
      let (fn, pre) ← holding [ov] (getMethod ov nm pl)
      callWith pos fn pre (backTo pos (starEach [] X.env)) (backToKw pos (keywordEach [] X.env))) := by rfl) :
    PE X (.Call (.Attribute o nm apos) [] [] pos) (tMth C nm sp Ex ta tNil) := by
  constructor
  intro pins s σ H Q I h
  refine PySem.W.methodCall_KW (pl := pl) (thn (he.run pins s σ H _ I h) fun u s1 hh => ?_) ht
  obtain ⟨x, H1, I1, rx, a, dx, fs, ex, ea, l, q⟩ := hh
  subst ex
  have hu : u = Value.ref a := rx
  subst hu
  refine getmeth_ok I1 ea c hm l ?_
  exact PySem.W.callWith_K0 (first := [.ref a]) I1.kIn hm.kp (run_fnS (us := [.ref a]) (vs := [.ref a]) F hr hb (hx σ) I1 (.cons rfl .nil) q)
theorem meth_ok {c i : Nat} (T : Kc X.K X.mg c C) (hn : nm ∉ clF c) {Q : VK} (h : tE (gx X) W (cMeth i c m cas) σ H Q) : tMth C nm (spM (gx X) m) (WE W) (tVar i) (tA (gx X) W cas) σ H Q := by
  obtain ⟨B, Γ, e, h⟩ := h
  refine m_bind (KX := fun r => KE (gx X) W σ B H Γ r Q) (gl_e (B0 := B) (H0 := H) (Γ0 := Γ) (σ := σ)) h (fun _ _ => chkI_noexc) fun u Γ1 hc h1 => ?_
  unfold chkI at hc
  split at hc
  · rename_i b c' ds hi
    split at hc
    · rename_i hcc
      have hcc := beq_iff_eq.mp hcc
      subst hcc
      cases hc
      obtain ⟨p, e1, e2, C', dx, vs, e3, e4, e5, e6⟩ := e.at_ i _ hi
      rw [show (gx X).mg (clN c') = some (.ref C) from T.at_] at e3
      cases e3
      refine ⟨.ref p, e1, p, dx, _, rfl, e5, look_none hn, ?_⟩
      exact ta_bind (KX := fun r => KE (gx X) W σ B H Γ r Q) gl_e (Stp.refl e) h1 fun B1 H1 vs as Γ1 s1 _ pr h2 => callM_ok s1 (Paired.cons (F := AVOk (gx X) B1 σ) (b := AV.loc i) e1 pr) h2
    · cases hc
  · cases hc
theorem e_meth (i c : Nat) {pl : Sem Bool} (T : Kc X.K X.mg c C) (hn : nm ∉ clF c) (hm : Meth X.K C nm f) (F : FnOk X.prog X.w X.K X.mg X.base (L2.CX X.prog X.w) k f fd ps (spM (gx X) m)) (hr : Room k X.A) (tk : Takes X W) (hb : Binds X.K fd ps []) (hN : X.N[i]? = some x) (hv : Vis X.env.scope x) (ha : PA X (e :: es) (tA (gx X) W cas))
    (hst : starEach (e :: es) X.env = (false, eval e X.env) :: starEach es X.env := by rfl) (hpl : (backTo pos (starEach es X.env)).any (·.1) = false := by rfl)
    (ht : eval (.Call (.Attribute (.Name x px) nm apos) (e :: es) [] pos) X.env = (do
      let ov ← eval (.Name x px) X.env
      standAt apos.atName
      let (fn, pre) ← holding [ov] (getMethod ov nm pl)
      callWith pos fn pre (backTo pos (starEach (e :: es) X.env)) (backToKw pos (keywordEach [] X.env))) := by rfl)
    (hd : (x == ("__debug__" : Str)) = false := by decide) (hcd : (x == ("__classdict__" : Str)) = false := by decide) :
    PE X (.Call (.Attribute (.Name x px) nm apos) (e :: es) [] pos) (tE (gx X) W (cMeth i c m cas)) :=
  PE.weak (pe_mthX (pl := pl) (pe_var (i := i) hN hv hd hcd) T.cl hm F hr hb (fun σ => passAt tk σ) ha hst hpl ht) fun σ H Q h => meth_ok T hn h
theorem e_meth0 (i c : Nat) {pl : Sem Bool} (T : Kc X.K X.mg c C) (hn : nm ∉ clF c) (hm : Meth X.K C nm f) (F : FnOk X.prog X.w X.K X.mg X.base (L2.CX X.prog X.w) k f fd ps (spM (gx X) m)) (hr : Room k X.A) (tk : Takes X W) (hb : Binds X.K fd ps []) (hN : X.N[i]? = some x) (hv : Vis X.env.scope x)
    (ht : eval (.Call (.Attribute (.Name x px) nm apos) [] [] pos) X.env = (do
      let ov ← eval (.Name x px) X.env
      standAt apos.atName
      let (fn, pre) ← holding [ov] (getMethod ov nm pl)
      callWith pos fn pre (backTo pos (starEach [] X.env)) (backToKw pos (keywordEach [] X.env))) := by rfl)
    (hd : (x == ("__debug__" : Str)) = false := by decide) (hcd : (x == ("__classdict__" : Str)) = false := by decide) :
    PE X (.Call (.Attribute (.Name x px) nm apos) [] [] pos) (tE (gx X) W (cMeth i c m aNil)) :=
  PE.weak (pe_mthX0 (pl := pl) (pe_var (i := i) hN hv hd hcd) T.cl hm F hr hb (fun σ => passAt tk σ) ht) fun σ H Q h => by
    obtain ⟨w, h1, a, dx, fs, h2, h3, h4, B, Γ, e, h5⟩ := meth_ok T hn h
    exact ⟨w, h1, a, dx, fs, h2, h3, h4, h5 B H (Stp.refl e) [] .nil⟩
/-- C(..) -/
def mkRet (z : Val) (o' : Ob) : M Val := match z with
  | .dat .none => M.ret (.new o')
  | _ => fun _ => none
def cMake (c : Nat) (m : Fn) (cas : M (List AV)) : M Val := cas.bind fun as => callN m (.ins c []) as mkRet
theorem run_makeS {pins : List (Addr × Obj)} {s : Shared} {Q : VK} {us : List Value} {vs : List V} {sp : Sp} {Ex : L2.St → XK} {CX : CXT} (M : Mk X.K C f) (F : FnOk X.prog X.w X.K X.mg X.base CX k f fd ps sp) (hr : Room (k + 1) X.A) (hb : Binds X.K fd ps [])
    (hx : PassesAt CX X σ (Ex σ)) (I : Inv X pins σ H s) (r : Vals vs us) (h : ∀ x dx, H x = none → H dx = none → dx ≠ x → sp (.ref x :: vs) (upd (upd H dx (.own x)) x (.ins C dx [])) (fun v H2 => v = .non ∧ Q (.ref x) H2) (Ex σ)) :
    wpAny (model X.prog X.w) X.A (call (.ref C) us) (EP X pins σ Q) X.xe s := by
  let dx := s.heap.objs.size
  have asked := h (dx + 1) dx (I.hok.fresh (Nat.le_succ _)) (I.hok.fresh (Nat.le_refl _)) (Nat.ne_of_lt (Nat.lt_succ_self _))
  have J := Inv.made (C := C) I
  have rr : Vals (V.ref (dx + 1) :: vs) (Value.ref (dx + 1) :: us) := .cons rfl r
  have len : (Value.ref (dx + 1) :: us).length = ps.length := by
    rw [← rr.length]
    exact F.len _ _ _ _ asked
  have bnd := hb { s with heap := _ } (Value.ref (dx + 1) :: us) J.kIn (by rw [List.append_nil]; exact len)
  rw [List.append_nil] at bnd
  have body := F.run _ X.stack _ _ ⟨Value.ref (dx + 1) :: us, []⟩ (Value.ref (dx + 1) :: us) _ _ (Ex σ) (hr.make C us []) (J.env0.make C us []) bnd rr asked
  refine wpAny_call (make_map (f := f) I.kIn M.makes M.init (beq_iff_eq.mp M.fn) (codeAny_mono body fun r t out => ?_))
  match r, out with
  | .error x, out => exact hx pins _ _ x t J out
  | .ok (.ret u), out =>
    obtain ⟨v, H', J2, rv, ev, q⟩ := J.after out
    subst ev
    exact ⟨rv, ⟨V.ref (dx + 1), H', J2, rfl, q⟩⟩
  | .ok .next, out => exact out.elim
  | .ok .brk, out => exact out.elim
  | .ok .cont, out => exact out.elim
theorem make_ok {c : Nat} (T : Kc X.K X.mg c C) {B0 H0 : Hp} {Γ0 : Gm} {Q : VK} {as : List AV} {vs : List V} (s : Stp (gx X) B0 H0 σ Γ0 B H σ Γ) (pr : Paired (AVOk (gx X) B σ) vs as)
    (h : KE (gx X) W σ B0 H0 Γ0 (callN m (.ins c []) as mkRet Γ) Q) : ∀ x dx, H x = none → H dx = none → dx ≠ x → spM (gx X) m (.ref x :: vs) (upd (upd H dx (.own x)) x (.ins C dx [])) (fun v H2 => v = .non ∧ Q (.ref x) H2) (WE W σ) := fun x dx nx nd ne => by
  have s1 := s.trans (stp_alloc (p := dx) (o := .own x) s.env nd)
  have nx1 : upd H dx (.own x) x = none := by rw [upd_ne ne.symm]; exact nx
  have s2 := s1.trans (stp_alloc (p := x) (o := .ins C dx []) s1.env nx1)
  have n0 : H0 x = none := fresh0 s nx
  have nb : B x = none := fresh_b s.env nx
  have no : ¬ Own σ Γ x := fresh_own s.env nx
  refine callN_ok (o := .ins c []) s2 n0 nb no ⟨C, dx, [], T.at_, Nat.zero_le _, by rw [upd_same, List.zip_nil_right], .nil⟩ pr h fun B2 H2 v d o' s3 nb3 ho3 dq h2 => ?_
  cases d with
  | none =>
    cases dq
    exact ⟨rfl, h2 B2 H2 _ s3 ⟨x, rfl, nb3, n0, no, ho3⟩⟩
  | _ => exact h2.elim
theorem e_make (c : Nat) {p : Pos} (T : Kc X.K X.mg c C) (hm : X.mg x = some (.ref C)) (M : Mk X.K C f) (F : FnOk X.prog X.w X.K X.mg X.base (L2.CX X.prog X.w) k f fd ps (spM (gx X) m)) (hr : Room (k + 1) X.A) (tk : Takes X W) (hg : Gl X x) (hb : Binds X.K fd ps [])
    (ha : PA X (e :: es) (tA (gx X) W cas)) (hdb : (x == ("__debug__" : Str)) = false := by decide) (he : starEach (e :: es) X.env = (false, eval e X.env) :: starEach es X.env := by rfl) (hpl : (backTo pos (starEach es X.env)).any (·.1) = false := by rfl) :
    PE X (.Call (.Name x p) (e :: es) [] pos) (tE (gx X) W (cMake c m cas)) := by
  constructor
  intro pins s σ H Q I h
  obtain ⟨B, Γ, en, h⟩ := h
  refine wpAny_Call_Name_kw (ld_glob I hg hm ?_ hdb)
  refine PySem.W.callWith_K (h₀ := X.base) I.ok.mod.kin M.kp (thn (ha.run pos pins s σ H _ I (ta_bind (KX := fun r => KE (gx X) W σ B H Γ r Q) (P := fun vs H1 => ∀ x dx, H1 x = none → H1 dx = none → dx ≠ x → spM (gx X) m (.ref x :: vs) (upd (upd H1 dx (.own x)) x (.ins C dx [])) (fun v H2 => v = .non ∧ Q (.ref x) H2) (WE W σ)) gl_e (Stp.refl en) h fun B1 H1 vs as Γ1 s1 _ pr h1 => make_ok T s1 pr h1)) fun us s1 hh => ?_) he hpl
  obtain ⟨vs, H1, I1, r, q⟩ := hh
  exact ⟨I1.kIn, run_makeS M F hr hb (passAt tk σ) I1 r q⟩
end
end E


set_option Elab.async false
set_option linter.all false
set_option maxRecDepth 100000
set_option maxHeartbeats 1000000
namespace E
open PySem L2 PyProof.Rows

variable {g : Gx} {B B1 B2 B' H H1 H2 H' : Hp} {σ σ1 σ2 σ' : L2.St} {Γ Γ1 Γ2 Γ' : Gm} {W : WX} {X : Cx} {a b e : PySem.Expr} {es : List PySem.Expr} {pos : Pos} {ca cb : M Val}

/-! ### dicts in slots -/
def keyOf : D → Option Key
  | .int i => some (.inl i)
  | .str x => some (.inr x)
  | _ => none
def keysOf : List D → Option (List Key)
  | [] => some []
  | d :: r => match keyOf d, keysOf r with
    | some k, some ks => some (k :: ks)
    | _, _ => none
theorem key_ok {d : D} {k : Key} {v : V} (h : keyOf d = some k) (q : Dq B v d) : v = kV k := by
  unfold keyOf at h
  split at h
  · cases h; cases q; rfl
  · cases h; cases q; rfl
  · cases h
theorem keys_ok : ∀ {ds : List D} {ks : List Key} {vs : List V}, keysOf ds = some ks → DqA B vs ds → vs = ks.map kV
  | [], _, _, h, .nil => by cases h; rfl
  | d :: r, ks, _, h, .cons q t => by
    unfold keysOf at h
    split at h
    · rename_i k ks' h1 h2
      cases h
      rw [key_ok h1 q, keys_ok h2 t]
      rfl
    · cases h
section
variable {κ : Type} [DecidableEq κ]
def valG : List (κ × D) → κ → Option D
  | [], _ => none
  | (j, d) :: r, k => if j = k then some d else valG r k
def putG (kvs : List (κ × D)) (k : κ) (d : D) : List (κ × D) :=
  if (kvs.any fun kv => decide (kv.1 = k)) = true then kvs.map (fun kv => if kv.1 = k then (kv.1, d) else kv) else kvs ++ [(k, d)]
theorem kv_nil : KvR (κ := κ) B [] [] := ⟨rfl, .nil⟩
theorem kv_cons {k j : κ} {v : V} {d : D} {ws : List (κ × V)} {kvs : List (κ × D)} (h : KvR B ((k, v) :: ws) ((j, d) :: kvs)) : k = j ∧ Dq B v d ∧ KvR B ws kvs := by
  obtain ⟨h1, h2⟩ := h
  rw [List.map_cons, List.map_cons] at h1 h2
  injection h1 with e1 e2
  cases h2 with
  | cons q t => exact ⟨e1, q, e2, t⟩
theorem kv_mk {k : κ} {v : V} {d : D} {ws : List (κ × V)} {kvs : List (κ × D)} (q : Dq B v d) (h : KvR B ws kvs) : KvR B ((k, v) :: ws) ((k, d) :: kvs) := ⟨by rw [List.map_cons, List.map_cons, h.1], .cons q h.2⟩
theorem kv_val : ∀ {ws : List (κ × V)} {kvs : List (κ × D)} {k : κ}, KvR B ws kvs → (∀ d, valG kvs k = some d → ∃ v, valV ws k = some v ∧ Dq B v d) ∧ (valG kvs k = none → valV ws k = none)
  | [], [], _, _ => ⟨fun d h => (nomatch h), fun _ => rfl⟩
  | [], _ :: _, _, h => by have := h.1; simp at this
  | _ :: _, [], _, h => by have := h.1; simp at this
  | (k, v) :: ws, (j, d) :: kvs, i, h => by
    obtain ⟨rfl, q, t⟩ := kv_cons h
    obtain ⟨i1, i2⟩ := kv_val (k := i) t
    unfold valG
    by_cases e : k = i
    · rw [if_pos e, valV_pos (p := (k, v)) e]
      exact ⟨fun d' z => by cases z; exact ⟨v, rfl, q⟩, fun z => nomatch z⟩
    · rw [if_neg e, valV_neg (p := (k, v)) e]
      exact ⟨i1, i2⟩
theorem kv_any : ∀ {ws : List (κ × V)} {kvs : List (κ × D)} {k : κ}, KvR B ws kvs → (ws.any fun kv => decide (kv.1 = k)) = (kvs.any fun kv => decide (kv.1 = k))
  | [], [], _, _ => rfl
  | [], _ :: _, _, h => by have := h.1; simp at this
  | _ :: _, [], _, h => by have := h.1; simp at this
  | (k, v) :: ws, (j, d) :: kvs, i, h => by
    obtain ⟨rfl, q, t⟩ := kv_cons h
    rw [List.any_cons, List.any_cons, kv_any t]
theorem kv_map {k : κ} {v : V} {d : D} (q : Dq B v d) : ∀ {ws : List (κ × V)} {kvs : List (κ × D)}, KvR B ws kvs → KvR B (ws.map fun kv => if kv.1 = k then (kv.1, v) else kv) (kvs.map fun kv => if kv.1 = k then (kv.1, d) else kv)
  | [], [], _ => kv_nil
  | [], _ :: _, h => by have := h.1; simp at this
  | _ :: _, [], h => by have := h.1; simp at this
  | (i, w) :: ws, (j, e) :: kvs, h => by
    obtain ⟨rfl, q', t⟩ := kv_cons h
    rw [List.map_cons, List.map_cons]
    dsimp only
    by_cases z : i = k
    · rw [if_pos z, if_pos z]; exact kv_mk q (kv_map q t)
    · rw [if_neg z, if_neg z]; exact kv_mk q' (kv_map q t)
theorem kv_put {k : κ} {v : V} {d : D} {ws : List (κ × V)} {kvs : List (κ × D)} (q : Dq B v d) (h : KvR B ws kvs) : KvR B (putK ws k v) (putG kvs k d) := by
  unfold putK putG
  rw [kv_any h]
  by_cases z : (kvs.any fun kv => decide (kv.1 = k)) = true
  · rw [if_pos z, if_pos z]; exact kv_map q h
  · rw [if_neg z, if_neg z]
    refine ⟨by rw [List.map_append, List.map_append, h.1]; rfl, ?_⟩
    rw [List.map_append, List.map_append]
    exact dqa_app h.2 (.cons q .nil)
theorem kv_len {ws : List (κ × V)} {kvs : List (κ × D)} (h : KvR B ws kvs) : ws.length = kvs.length := by
  have := congrArg List.length h.1
  rwa [List.length_map, List.length_map] at this
end
def cDNewK : M Val := M.ret (.new (.dk []))
def cDNewT : M Val := M.ret (.new (.dt []))
theorem e_dnewK : PE X (.Dict [] [] pos) (tE (gx X) W cDNewK) := PE.weak pe_dnewK fun σ H Q h p n => by
  obtain ⟨B, Γ, e, h⟩ := h
  exact h B _ _ (stp_alloc e n) ⟨p, rfl, fresh_b e n, n, fresh_own e n, [], upd_same, kv_nil⟩
theorem e_dnewT : PE X (.Dict [] [] pos) (tE (gx X) W cDNewT) := PE.weak pe_dnewT fun σ H Q h p n => by
  obtain ⟨B, Γ, e, h⟩ := h
  exact h B _ _ (stp_alloc e n) ⟨p, rfl, fresh_b e n, n, fresh_own e n, [], upd_same, kv_nil⟩
/-- a slot's dict under a key: none: not shown; some none: not there -/
def dLook (Γ : Gm) (i : Nat) (y : Val) : Option (Option D) := match Γ[i]?, y with
  | some (.own _ (.dk kvs)), .dat d => match keyOf d with
    | some k => some (valG kvs k)
    | none => none
  | some (.own _ (.dt kvs)), .dat (.tuple ds) => match keysOf ds with
    | some ks => some (valG kvs ks)
    | none => none
  | _, _ => none
theorem dlook_ok {H0 : Hp} {i : Nat} {y : Val} {v : V} {o : Option D} (e : EOk g B H σ Γ) (q : ValOk g H0 B H σ Γ v y) (h : dLook Γ i y = some o) : ∃ p, σ[i]? = some (some (.ref p)) ∧ ∃ ov, DGet H p v ov ∧ (∀ d, o = some d → ∃ w, ov = some w ∧ Dq B w d) ∧ (o = none → ov = none) := by
  unfold dLook at h
  split at h
  · rename_i b kvs d hi
    split at h
    · rename_i k hk
      cases h
      obtain ⟨p, e1, e2, ws, e3, e4⟩ := e.at_ i _ hi
      have := key_ok hk q
      subst this
      exact ⟨p, e1, _, DGet.k e3, fun d z => (kv_val e4).1 d z, fun z => (kv_val e4).2 z⟩
    · cases h
  · rename_i b kvs ds hi
    split at h
    · rename_i ks hk
      cases h
      obtain ⟨p, e1, e2, ws, e3, e4⟩ := e.at_ i _ hi
      have q' : Dq B v (.tuple ds) := q
      cases q' with
      | tup h1 h2 =>
        have := keys_ok hk h2
        subst this
        exact ⟨p, e1, _, DGet.t e3 (e.sub _ _ h1), fun d z => (kv_val e4).1 d z, fun z => (kv_val e4).2 z⟩
    · cases h
  · cases h
/-- the slot is a dict -/
def chkD (i : Nat) : M Unit := fun Γ => match Γ[i]? with
  | some (.own _ (.dk _)) => some (.ok () Γ)
  | some (.own _ (.dt _)) => some (.ok () Γ)
  | _ => none
theorem chkD_noexc {i : Nat} {x : Exn} : chkD i Γ ≠ some (.exc x Γ1) := by
  intro h
  unfold chkD at h
  split at h <;> cases h
theorem chkD_ok {k : Nat} {u : Unit} (e : EOk g B H σ Γ) (h : chkD k Γ = some (.ok u Γ1)) : Γ1 = Γ ∧ ∃ p, σ[k]? = some (some (.ref p)) ∧ IsD H p := by
  unfold chkD at h
  split at h
  · rename_i hk
    cases h
    obtain ⟨p, e1, _, ws, e3, _⟩ := e.at_ k _ hk
    exact ⟨rfl, p, e1, .inl ⟨ws, .inl e3⟩⟩
  · rename_i hk
    cases h
    obtain ⟨p, e1, _, ws, e3, _⟩ := e.at_ k _ hk
    exact ⟨rfl, p, e1, .inr ⟨ws, .inl e3⟩⟩
  · cases h
def cDIx (i : Nat) (ck : M Val) : M Val := (chkD i).bind fun _ => ck.bind fun y Γ => match dLook Γ i y with
  | some (some d) => some (.ok (.dat d) Γ)
  | _ => none
theorem e_dix (i : Nat) {x : Str} {px : Pos} (hu : X.A.units + 1 < cLine) (hN : X.N[i]? = some x) (hv : Vis X.env.scope x) (hb : PE X b (tE (gx X) W cb)) (hs : NoSl b := by intro _ _; rfl) (hd : (x == ("__debug__" : Str)) = false := by decide) (hcd : (x == ("__classdict__" : Str)) = false := by decide) :
    PE X (.Subscript (.Name x px) b pos) (tE (gx X) W (cDIx i cb)) := PE.weak (pe_dget hu (pe_var (i := i) hN hv hd hcd) hb hs) fun σ H Q h => by
  obtain ⟨B, Γ, e, h⟩ := h
  refine m_bind (KX := fun r => KE (gx X) W σ B H Γ r Q) (gl_e (B0 := B) (H0 := H) (Γ0 := Γ) (σ := σ)) h (fun _ _ => chkD_noexc) fun u Γ1 hc h1 => ?_
  obtain ⟨rfl, p, hp, _⟩ := chkD_ok e hc
  refine ⟨_, hp, ?_⟩
  refine te_bind (KX := fun r => KE (gx X) W σ B H Γ1 r Q) gl_e (Stp.refl e) h1 fun B1 H1 v y Γ2 s1 _ o h2 => ?_
  split at h2
  · rename_i d hl
    obtain ⟨p2, q1, ov, q2, q3, q4⟩ := dlook_ok s1.env o hl
    rw [hp] at q1; cases q1
    obtain ⟨w, rfl, q5⟩ := q3 d rfl
    exact ⟨p, w, rfl, q2, h2 B1 H1 w s1 q5⟩
  · exact h2.elim
/-- d.get(k, x) -/
def cDGet (i : Nat) (ck cd : M Val) : M Val := (chkD i).bind fun _ => ck.bind fun y => cd.bind fun z => (frz z).bind fun z Γ => match dLook Γ i y with
  | some (some d) => some (.ok (.dat d) Γ)
  | some none => some (.ok (.dat z) Γ)
  | none => none
theorem e_dget2 (i : Nat) {x : Str} {px apos : Pos} (hu : X.A.units + 1 < cLine) (hN : X.N[i]? = some x) (hv : Vis X.env.scope x) (ha : PE X a (tE (gx X) W ca)) (hb : PE X b (tE (gx X) W cb)) (m : M2 X (.Name x px) "get" apos a b pos := by exact ⟨rfl, rfl, rfl, rfl⟩)
    (hd : (x == ("__debug__" : Str)) = false := by decide) (hcd : (x == ("__classdict__" : Str)) = false := by decide) :
    PE X (.Call (.Attribute (.Name x px) "get" apos) [a, b] [] pos) (tE (gx X) W (cDGet i ca cb)) := PE.weak (pe_dget2 hu (pe_var (i := i) hN hv hd hcd) ha hb m) fun σ H Q h => by
  obtain ⟨B, Γ, e, h⟩ := h
  refine m_bind (KX := fun r => KE (gx X) W σ B H Γ r Q) (gl_e (B0 := B) (H0 := H) (Γ0 := Γ) (σ := σ)) h (fun _ _ => chkD_noexc) fun u Γ1 hc h1 => ?_
  obtain ⟨rfl, p, hp, isd⟩ := chkD_ok e hc
  refine ⟨_, hp, p, rfl, isd, ?_⟩
  refine te_bind (KX := fun r => KE (gx X) W σ B H Γ1 r Q) gl_e (Stp.refl e) h1 fun B1 H1 v y Γ2 s1 _ o h2 => ?_
  refine te_bind (KX := fun r => KE (gx X) W σ B H Γ1 r Q) gl_e s1 h2 fun B2 H2 u z Γ3 s2 s12 o2 h3 => ?_
  have o1 := (o.base (H00 := H) fun _ h => h).step s12
  refine m_bind (KX := fun r => KE (gx X) W σ B H Γ1 r Q) (gl_e (B0 := B) (H0 := H) (Γ0 := Γ1) (σ := σ)) h3 (fun _ _ => frz_noexc) fun d Γ4 hf h4 => ?_
  obtain ⟨B4, s4, dq, sb⟩ := frz_ok s2 (o2.base s1.dom) hf
  split at h4
  · rename_i d' hl
    have oy : ∃ yd, y = .dat yd := by
      unfold dLook at hl
      split at hl
      · exact ⟨_, rfl⟩
      · exact ⟨_, rfl⟩
      · cases hl
    obtain ⟨yd, rfl⟩ := oy
    obtain ⟨p2, q1, ov, q2, q3, q4⟩ := dlook_ok (H0 := H) (v := v) (y := .dat yd) s4.env (dq_mono sb o1) hl
    rw [hp] at q1; cases q1
    obtain ⟨w, rfl, q5⟩ := q3 _ rfl
    exact ⟨_, q2, h4 B4 H2 w s4 q5⟩
  · rename_i hl
    have oy : ∃ yd, y = .dat yd := by
      unfold dLook at hl
      split at hl
      · exact ⟨_, rfl⟩
      · exact ⟨_, rfl⟩
      · cases hl
    obtain ⟨yd, rfl⟩ := oy
    obtain ⟨p2, q1, ov, q2, q3, q4⟩ := dlook_ok (H0 := H) (v := v) (y := .dat yd) s4.env (dq_mono sb o1) hl
    rw [hp] at q1; cases q1
    have := q4 rfl
    subst this
    exact ⟨_, q2, h4 B4 H2 u s4 dq⟩
  · exact h4.elim
/-- k in d -/
def dIn (Γ : Gm) (i : Nat) (y : Val) : Option Bool := (dLook Γ i y).map Option.isSome
/-- d[k] = e -/
def dPut (Γ : Gm) (i : Nat) (y : Val) (d : D) : Option Gm := match Γ[i]?, y with
  | some (.own c (.dk kvs)), .dat z => match keyOf z with
    | some k => if kvs.length < 1000000 then some (Γ.set i (.own c (.dk (putG kvs k d)))) else none
    | none => none
  | some (.own c (.dt kvs)), .dat (.tuple ds) => match keysOf ds with
    | some ks => if kvs.length < 1000000 then some (Γ.set i (.own c (.dt (putG kvs ks d)))) else none
    | none => none
  | _, _ => none
theorem dput_ok {B0 H0 : Hp} {Γ0 : Gm} {σ0 : L2.St} {H00 : Hp} {i : Nat} {y : Val} {v w : V} {d : D} (s : Stp g B0 H0 σ0 Γ0 B H σ Γ) (q : ValOk g H00 B H σ Γ v y) (r : Dq B w d) (h : dPut Γ i y d = some Γ') :
    ∃ p H', σ[i]? = some (some (.ref p)) ∧ DPut H p v w H' ∧ Stp g B0 H0 σ0 Γ0 B H' σ Γ' := by
  unfold dPut at h
  split at h
  · rename_i c kvs z hi
    split at h
    · rename_i k hk
      split at h
      · rename_i hl
        cases h
        obtain ⟨p, e1, e2, ws, e3, e4⟩ := s.env.at_ i _ hi
        have := key_ok hk q
        subst this
        refine ⟨p, _, e1, DPut.k e3 (by rw [kv_len e4]; exact Nat.lt_of_lt_of_le hl (by decide)), stp_mut s hi e1 ⟨_, upd_same, kv_put r e4⟩⟩
      · cases h
    · cases h
  · rename_i c kvs ds hi
    split at h
    · rename_i ks hk
      split at h
      · rename_i hl
        cases h
        obtain ⟨p, e1, e2, ws, e3, e4⟩ := s.env.at_ i _ hi
        have q' : Dq B v (.tuple ds) := q
        cases q' with
        | tup h1 h2 =>
          have := keys_ok hk h2
          subst this
          exact ⟨p, _, e1, .inr ⟨ws, ks, _, e3, rfl, s.env.sub _ _ h1, by rw [kv_len e4]; exact Nat.lt_of_lt_of_le hl (by decide), rfl⟩, stp_mut s hi e1 ⟨_, upd_same, kv_put r e4⟩⟩
      · cases h
    · cases h
  · cases h
def sDSet (i : Nat) (ck ce : M Val) : M Flow := ce.bind fun r => (frz r).bind fun d => (chkD i).bind fun _ => ck.bind fun y Γ => (dPut Γ i y d).map fun Γ' => .ok .nx Γ'
theorem sDSet_ok {i : Nat} {Ed : Ends} {ck : M Val} (h : tS g W (sDSet i ck ca) Ed σ H) : tAsg (tE g W ca) (gSub (tVar i) (tE g W ck) rSetD) Ed σ H := by
  obtain ⟨B, Γ, e, h⟩ := h
  refine te_bind (KX := fun r => KS g W σ B H Γ r Ed) gl_s (Stp.refl e) h fun B1 H1 v r Γ1 s1 _ o h1 => ?_
  refine m_bind (KX := fun r => KS g W σ B H Γ r Ed) (gl_s (B0 := B) (H0 := H) (Γ0 := Γ) (σ := σ)) h1 (fun _ _ => frz_noexc) fun d Γ2 hf h2 => ?_
  obtain ⟨B2, s2, dq, _⟩ := frz_ok s1 o hf
  refine m_bind (KX := fun r => KS g W σ B H Γ r Ed) (gl_s (B0 := B) (H0 := H) (Γ0 := Γ) (σ := σ)) h2 (fun _ _ => chkD_noexc) fun u Γ2' hc h2' => ?_
  obtain ⟨rfl, p, hp, _⟩ := chkD_ok s2.env hc
  refine ⟨_, hp, ?_⟩
  refine te_bind (KX := fun r => KS g W σ B H Γ r Ed) gl_s s2 h2' fun B3 H3 y r3 Γ3 s3 s23 o3 h3 => ?_
  cases hd : dPut Γ3 i r3 d with
  | none => rw [hd] at h3; exact h3.elim
  | some Γ4 =>
    rw [hd] at h3
    obtain ⟨p2, H4, q1, q2, q3⟩ := dput_ok s3 o3 (dq_mono s23.bb dq) hd
    rw [hp] at q1; cases q1
    show rSetD _ _ _ _ _
    unfold rSetD
    exact ⟨p, H4, rfl, q2, h3 B3 H4 σ q3⟩
theorem z_dset {i : Nat} {x : Str} {k : PySem.Expr} {px p2 : Pos} {ck : M Val} (hg : PG X (.Subscript (.Name x px) k p2) (gSub (tVar i) (tE (gx X) W ck) rSetD)) (he : PE X e (tE (gx X) W ca))
    (hs : swapsWithSole [.Subscript (.Name x px) k p2] e pos.line X.env = pure false := by rfl) (hw : swappedStores [.Subscript (.Name x px) k p2] e X.env = pure none := by rfl)
    (h1 : (assignEach [.Subscript (.Name x px) k p2] X.env).map (·.2) = [assign (.Subscript (.Name x px) k p2) X.env] := by rfl) :
    PS X (.Assign [.Subscript (.Name x px) k p2] e pos) (tS (gx X) W (sDSet i ck ca)) := PS.weak (ps_asg he hg hs hw h1) fun _ _ _ h => sDSet_ok h
/-- dict(xs), xs a list of pairs with int or text keys -/
def pairsOf : List D → Option (List (Key × D))
  | [] => some []
  | .tuple [a, d] :: r => match keyOf a, pairsOf r with
    | some k, some l => some ((k, d) :: l)
    | _, _ => none
  | _ :: _ => none
def mergeG (kvs : List (Key × D)) : List (Key × D) → List (Key × D)
  | [] => kvs
  | (k, d) :: r => mergeG (putG kvs k d) r
theorem pairs_ok : ∀ {ds : List D} {l : List (Key × D)} {vs : List V}, pairsOf ds = some l → DqA B vs ds → ∃ (ps : List Addr) (ws : List (Key × V)), vs = ps.map V.ref ∧ Paired (fun p kv => B p = some (.tup [kV kv.1, kv.2])) ps ws ∧ KvR B ws l
  | [], _, _, h, .nil => by cases h; exact ⟨[], [], rfl, .nil, kv_nil⟩
  | .tuple [a, d] :: r, _, _, h, .cons q t => by
    unfold pairsOf at h
    split at h
    · rename_i k l h1 h2
      cases h
      obtain ⟨ps, ws, e1, e2, e3⟩ := pairs_ok h2 t
      cases q with
      | tup q1 q2 =>
        rename_i p xs
        cases q2 with
        | cons q3 q4 =>
          cases q4 with
          | cons q5 q6 =>
            cases q6
            have := key_ok h1 q3
            subst this
            exact ⟨p :: ps, (k, _) :: ws, by rw [e1]; rfl, .cons q1 e2, kv_mk q5 e3⟩
    · cases h
theorem merge_ok : ∀ {ws acc : List (Key × V)} {l ac : List (Key × D)}, KvR B ws l → KvR B acc ac → KvR B (mergeK acc ws) (mergeG ac l)
  | [], _, [], _, _, h => h
  | [], _, _ :: _, _, h, _ => by have := h.1; simp at this
  | _ :: _, _, [], _, h, _ => by have := h.1; simp at this
  | (k, v) :: ws, acc, (j, d) :: l, ac, h, h2 => by
    obtain ⟨rfl, q, t⟩ := kv_cons h
    exact merge_ok (acc := putK acc k v) (ac := putG ac k d) t (kv_put q h2)
def fDict (Γ : Gm) (x : Val) : Option Val := match lookR Γ x with
  | some ds => (pairsOf ds).map fun l => .new (.dk (mergeG [] l))
  | none => none
theorem sDict : Snd1 (gx X) W (fun v H Q => ∃ (a : Addr) (ps : List Addr) (kvs : List (Key × V)), [v] = [.ref a] ∧ SqL X.K H a (ps.map V.ref) ∧ Paired (fun p kv => SqT X.K H p [kV kv.1, kv.2]) ps kvs ∧ ∀ p, H p = none → Q (.ref p) (upd H p (.dK (mergeK [] kvs)))) fDict := by
  intro σ B0 H0 Γ0 B H Γ v x z Q s o e q
  unfold fDict at e
  split at e
  · rename_i ds hx
    cases hl : pairsOf ds with
    | none => rw [hl] at e; cases e
    | some l =>
      rw [hl] at e
      cases e
      obtain ⟨p, vs, rfl, h1, h2⟩ := lk_read s.env o hx
      obtain ⟨ps, ws, e1, e2, e3⟩ := pairs_ok hl h2
      subst e1
      refine ⟨p, ps, ws, rfl, h1, ?_, fun a n => ?_⟩
      · have sub := s.env.sub
        clear h1 h2 hx o q e3 hl
        induction e2 with
        | nil => exact .nil
        | cons h t ih => exact .cons (SqT.of (sub _ _ h)) ih
      · exact q B _ _ (s.trans (stp_alloc s.env n)) ⟨a, rfl, fresh_b s.env n, fresh0 s n, fresh_own s.env n, _, upd_same, merge_ok e3 kv_nil⟩
  · cases e
theorem e_dict {p : Pos} (hc : X.calm = true) (hg : Gl X "dict") (hm : X.mg "dict" = none) (ha : PE X a (tE (gx X) W ca)) (he : starEach [a] X.env = (false, eval a X.env) :: starEach [] X.env := by rfl) : PE X (.Call (.Name "dict" p) [a] [] pos) (tE (gx X) W (c1 fDict ca)) := e_t1 (call_dictP hc) sDict (by decide +kernel) hg hm ha (he := he)
end E


set_option Elab.async false
set_option linter.all false
set_option maxRecDepth 100000
set_option maxHeartbeats 1000000
namespace E
open PySem L2 PyProof.Rows

variable {g : Gx} {B B1 B2 B' H H1 H2 H' : Hp} {σ σ1 σ2 σ' : L2.St} {Γ Γ1 Γ2 Γ' : Gm} {W : WX} {X : Cx} {a b e : PySem.Expr} {es : List PySem.Expr} {pos : Pos} {ca cb : M Val}

/-! ### arguments that are only looked at: nothing is frozen -/
inductive Sz where
  | dat (d : D)
  | loc (i : Nat)
inductive Sy where
  | one (s : Sz)
  | lst (ss : List Sz)
  | tup (ss : List Sz)
def SzOk (B : Hp) (σ : L2.St) (v : V) : Sz → Prop
  | .dat d => Dq B v d
  | .loc i => σ[i]? = some (some v)
def SyOk (B H : Hp) (σ : L2.St) (Γ : Gm) (v : V) : Sy → Prop
  | .one s => SzOk B σ v s
  | .lst ss => ∃ p vs, v = .ref p ∧ H p = some (.lst vs) ∧ ¬ Own σ Γ p ∧ Paired (SzOk B σ) vs ss
  | .tup ss => ∃ p vs, v = .ref p ∧ H p = some (.tup vs) ∧ ¬ Own σ Γ p ∧ Paired (SzOk B σ) vs ss
theorem SzOk.mono {v : V} {s : Sz} (h : SzOk B σ v s) (e : Sub B B') : SzOk B' σ v s := by
  cases s with
  | dat d => exact dq_mono e h
  | loc i => exact h
theorem szs_mono {vs : List V} {ss : List Sz} (e : Sub B B') (h : Paired (SzOk B σ) vs ss) : Paired (SzOk B' σ) vs ss := by
  induction h with
  | nil => exact .nil
  | cons q t ih => exact .cons (q.mono e) ih
theorem SyOk.step {v : V} {s : Sy} (h : SyOk B1 H1 σ Γ1 v s) (t : Stp g B1 H1 σ Γ1 B2 H2 σ Γ2) : SyOk B2 H2 σ Γ2 v s := by
  have no : ∀ p u, H1 p = some u → ¬ Own σ Γ1 p → ¬ Own σ Γ2 p := fun p u hu n q => by
    rcases t.own p q with z | z
    · exact n z
    · rw [z] at hu; cases hu
  cases s with
  | one s => exact SzOk.mono (s := s) h t.bb
  | lst ss =>
    obtain ⟨p, vs, e1, e2, e3, e4⟩ := h
    exact ⟨p, vs, e1, t.keep p _ e2 e3, no p _ e2 e3, szs_mono t.bb e4⟩
  | tup ss =>
    obtain ⟨p, vs, e1, e2, e3, e4⟩ := h
    exact ⟨p, vs, e1, t.keep p _ e2 e3, no p _ e2 e3, szs_mono t.bb e4⟩
theorem sys_step {vs : List V} {ss : List Sy} (t : Stp g B1 H1 σ Γ1 B2 H2 σ Γ2) (h : Paired (SyOk B1 H1 σ Γ1) vs ss) : Paired (SyOk B2 H2 σ Γ2) vs ss := by
  induction h with
  | nil => exact .nil
  | cons q r ih => exact .cons (q.step t) ih
def tY (g : Gx) (W : WX) (c : M Sy) : TE := fun σ H Q => ∃ B Γ, EOk g B H σ Γ ∧ KM g W σ B H Γ (c Γ) fun s B' H' Γ' => ∀ v, SyOk B' H' σ Γ' v s → Q v H'
def tB (g : Gx) (W : WX) (c : M (List Sy)) : TA := fun σ H Q => ∃ B Γ, EOk g B H σ Γ ∧ KM g W σ B H Γ (c Γ) fun ss B' H' Γ' => ∀ vs, Paired (SyOk B' H' σ Γ') vs ss → Q vs H'
theorem ty_bind {β : Type} {B0 H0 : Hp} {Γ0 : Gm} {σ0 : L2.St} {cy : M Sy} {k : Sy → M β} {KX : Option (Res β) → Prop} {P : VK} (G : Gl0 g W B0 H0 σ0 Γ0 σ KX) (s0 : Stp g B0 H0 σ0 Γ0 B H σ Γ) (h : KX (cy.bind k Γ))
    (hk : ∀ B1 H1 v r Γ1, Stp g B0 H0 σ0 Γ0 B1 H1 σ Γ1 → Stp g B H σ Γ B1 H1 σ Γ1 → SyOk B1 H1 σ Γ1 v r → KX (k r Γ1) → P v H1) : tY g W cy σ H P := by
  refine ⟨B, Γ, s0.env, ?_⟩
  unfold M.bind at h
  cases hc : cy Γ with
  | none => rw [hc] at h; exact G.none h
  | some r =>
    rw [hc] at h
    cases r with
    | ok r Γ1 => exact fun B1 H1 s v o => hk B1 H1 v r Γ1 (s0.trans s) s o h
    | exc x Γ1 => exact fun B' H' c d s o => G.exc _ _ h B' H' c d (s0.trans s) o
theorem tb_bind {β : Type} {B0 H0 : Hp} {Γ0 : Gm} {σ0 : L2.St} {cy : M (List Sy)} {k : List Sy → M β} {KX : Option (Res β) → Prop} {P : List V → Hp → Prop} (G : Gl0 g W B0 H0 σ0 Γ0 σ KX) (s0 : Stp g B0 H0 σ0 Γ0 B H σ Γ) (h : KX (cy.bind k Γ))
    (hk : ∀ B1 H1 vs r Γ1, Stp g B0 H0 σ0 Γ0 B1 H1 σ Γ1 → Stp g B H σ Γ B1 H1 σ Γ1 → Paired (SyOk B1 H1 σ Γ1) vs r → KX (k r Γ1) → P vs H1) : tB g W cy σ H P := by
  refine ⟨B, Γ, s0.env, ?_⟩
  unfold M.bind at h
  cases hc : cy Γ with
  | none => rw [hc] at h; exact G.none h
  | some r =>
    rw [hc] at h
    cases r with
    | ok r Γ1 => exact fun B1 H1 s v o => hk B1 H1 v r Γ1 (s0.trans s) s o h
    | exc x Γ1 => exact fun B' H' c d s o => G.exc _ _ h B' H' c d (s0.trans s) o
def yF (c : M Val) : M Sy := c.bind fun r => (frz r).bind fun d => M.ret (.one (.dat d))
theorem y_F (ha : PE X e (tE (gx X) W ca)) : PE X e (tY (gx X) W (yF ca)) := PE.weak ha fun σ H Q h => by
  obtain ⟨B, Γ, e, h⟩ := h
  refine te_bind (KX := fun r => KM (gx X) W σ B H Γ r fun s B' H' Γ' => ∀ v, SyOk B' H' σ Γ' v s → Q v H') gl_m (Stp.refl e) h fun B1 H1 v r Γ1 s1 _ o h1 => ?_
  refine m_bind (KX := fun r => KM (gx X) W σ B H Γ r fun s B' H' Γ' => ∀ v, SyOk B' H' σ Γ' v s → Q v H') (gl_m (B0 := B) (H0 := H) (Γ0 := Γ) (σ := σ)) h1 (fun _ _ => frz_noexc) fun d Γ2 hf h2 => ?_
  obtain ⟨B2, s2, dq, _⟩ := frz_ok s1 o hf
  exact h2 B2 H1 s2 v dq
def yL (i : Nat) : M Sy := fun Γ => match Γ[i]? with
  | some (.own _ _) => some (.ok (.one (.loc i)) Γ)
  | some (.scr _) => some (.ok (.one (.loc i)) Γ)
  | some (.dat d) => some (.ok (.one (.dat d)) Γ)
  | _ => none
theorem y_L (i : Nat) {x : Str} (hN : X.N[i]? = some x := by rfl) (hv : Vis X.env.scope x := by first | exact Or.inl rfl | exact Or.inr (Or.inl rfl) | exact Or.inr (Or.inr rfl)) (hd : (x == ("__debug__" : Str)) = false := by decide)
    (hcd : (x == ("__classdict__" : Str)) = false := by decide) : PE X (.Name x pos) (tY (gx X) W (yL i)) := PE.weak (pe_var hN hv hd hcd) fun σ H Q h => by
  obtain ⟨B, Γ, e, h⟩ := h
  unfold yL at h
  split at h
  · rename_i bb o hi
    obtain ⟨p, e1, _⟩ := e.at_ i _ hi
    exact ⟨_, e1, h B H (Stp.refl e) _ e1⟩
  · rename_i ns hi
    obtain ⟨p, e1, _⟩ := e.at_ i _ hi
    exact ⟨_, e1, h B H (Stp.refl e) _ e1⟩
  · rename_i d hi
    obtain ⟨v, e1, e2⟩ := e.at_ i _ hi
    exact ⟨_, e1, h B H (Stp.refl e) _ e2⟩
  · exact h.elim
def bNil : M (List Sy) := M.ret []
def bC (c : M Sy) (r : M (List Sy)) : M (List Sy) := c.bind fun x => r.bind fun l => M.ret (x :: l)
theorem b_nil : PA X [] (tB (gx X) W bNil) := PA.weak pa_nil fun σ H Q h => by
  obtain ⟨B, Γ, e, h⟩ := h
  exact h B H (Stp.refl e) [] .nil
theorem b_C {cy : M Sy} {cr : M (List Sy)} (ha : PE X e (tY (gx X) W cy)) (hr : PA X es (tB (gx X) W cr)) (hs : starEach (e :: es) X.env = (false, eval e X.env) :: starEach es X.env := by rfl) : PA X (e :: es) (tB (gx X) W (bC cy cr)) :=
  PA.weak (pa_cons ha hr hs) fun σ H Q h => by
    obtain ⟨B, Γ, e, h⟩ := h
    refine ty_bind (KX := fun r => KM (gx X) W σ B H Γ r fun ss B' H' Γ' => ∀ vs, Paired (SyOk B' H' σ Γ') vs ss → Q vs H') gl_m (Stp.refl e) h fun B1 H1 v x Γ1 s1 _ o h1 => ?_
    refine tb_bind (KX := fun r => KM (gx X) W σ B H Γ r fun ss B' H' Γ' => ∀ vs, Paired (SyOk B' H' σ Γ') vs ss → Q vs H') gl_m s1 h1 fun B2 H2 vs r Γ2 s2 s12 p h2 => ?_
    exact h2 B2 H2 s2 _ (.cons (o.step s12) p)
def onesOf : List Sy → Option (List Sz)
  | [] => some []
  | .one s :: r => (onesOf r).map (s :: ·)
  | _ :: _ => none
theorem ones_ok : ∀ {ss : List Sy} {zs : List Sz} {vs : List V}, onesOf ss = some zs → Paired (SyOk B H σ Γ) vs ss → Paired (SzOk B σ) vs zs
  | [], _, _, h, .nil => by cases h; exact .nil
  | .one s :: r, _, _, h, .cons q t => by
    unfold onesOf at h
    cases hr : onesOf r with
    | none => rw [hr] at h; cases h
    | some l =>
      rw [hr] at h
      cases h
      exact .cons q (ones_ok hr t)
  | .lst _ :: _, _, _, h, _ => by cases h
  | .tup _ :: _, _, _, h, _ => by cases h
def yLst (c : M (List Sy)) : M Sy := c.bind fun ss Γ => match onesOf ss with
  | some zs => if zs.length ≤ 1000000 then some (.ok (.lst zs) Γ) else none
  | none => none
def yTup (c : M (List Sy)) : M Sy := c.bind fun ss Γ => match onesOf ss with
  | some zs => if zs.length ≤ 1000000 then some (.ok (.tup zs) Γ) else none
  | none => none
theorem y_lst {cl : M (List Sy)} (h : PA X es (tB (gx X) W cl)) : PE X (.List es pos) (tY (gx X) W (yLst cl)) := PE.weak (pe_lst h) fun σ H Q h => by
  obtain ⟨B, Γ, e, h⟩ := h
  refine tb_bind (KX := fun r => KM (gx X) W σ B H Γ r fun s B' H' Γ' => ∀ v, SyOk B' H' σ Γ' v s → Q v H') gl_m (Stp.refl e) h fun B1 H1 vs ss Γ1 s1 _ p h1 => ?_
  split at h1
  · rename_i zs hz
    split at h1
    · rename_i hl
      have q := ones_ok hz p
      exact ⟨by rw [q.length]; exact Nat.le_trans hl (by decide), fun r n => h1 B1 _ (s1.trans (stp_alloc s1.env n)) _ ⟨r, vs, rfl, upd_same, fresh_own s1.env n, q⟩⟩
    · exact h1.elim
  · exact h1.elim
theorem y_tup {cl : M (List Sy)} {x1} (h : PA X es (tB (gx X) W cl)) : PE X (.Tuple es x1 pos) (tY (gx X) W (yTup cl)) := PE.weak (pe_tup h) fun σ H Q h => by
  obtain ⟨B, Γ, e, h⟩ := h
  refine tb_bind (KX := fun r => KM (gx X) W σ B H Γ r fun s B' H' Γ' => ∀ v, SyOk B' H' σ Γ' v s → Q v H') gl_m (Stp.refl e) h fun B1 H1 vs ss Γ1 s1 _ p h1 => ?_
  split at h1
  · rename_i zs hz
    split at h1
    · rename_i hl
      have q := ones_ok hz p
      exact ⟨by rw [q.length]; exact Nat.le_trans hl (by decide), fun r n => h1 B1 _ (s1.trans (stp_alloc s1.env n)) _ ⟨r, vs, rfl, upd_same, fresh_own s1.env n, q⟩⟩
    · exact h1.elim
  · exact h1.elim
/-- what they stand for now -/
def szD (Γ : Gm) : Sz → Option D
  | .dat d => some d
  | .loc i => match Γ[i]? with
    | some (.own _ (.lst ds)) => some (.list ds)
    | some (.dat d) => some d
    | _ => none
def szsD (Γ : Gm) : List Sz → Option (List D)
  | [] => some []
  | s :: r => match szD Γ s, szsD Γ r with
    | some d, some ds => some (d :: ds)
    | _, _ => none
def syD (Γ : Gm) : Sy → Option D
  | .one s => szD Γ s
  | .lst ss => (szsD Γ ss).map .list
  | .tup ss => (szsD Γ ss).map .tuple
def sysD (Γ : Gm) : List Sy → Option (List D)
  | [] => some []
  | s :: r => match syD Γ s, sysD Γ r with
    | some d, some ds => some (d :: ds)
    | _, _ => none
theorem sz_ok {v : V} {s : Sz} {d : D} (e : EOk g B H σ Γ) (q : SzOk B σ v s) (h : szD Γ s = some d) : Dq H v d := by
  cases s with
  | dat d' => cases h; exact dq_mono e.sub q
  | loc i =>
    have q : σ[i]? = some (some v) := q
    unfold szD at h
    dsimp only at h
    split at h
    · rename_i hi
      cases h
      obtain ⟨p, q1, q2, vs, q3, q4⟩ := e.at_ i _ hi
      rw [q] at q1; cases q1
      exact .lst q3 (dqa_mono e.sub q4)
    · rename_i hi
      cases h
      obtain ⟨v', e1, e2⟩ := e.at_ i _ hi
      rw [q] at e1; cases e1
      exact dq_mono e.sub e2
    · cases h
theorem szs_ok (e : EOk g B H σ Γ) : ∀ {ss : List Sz} {vs : List V} {ds : List D}, Paired (SzOk B σ) vs ss → szsD Γ ss = some ds → DqA H vs ds
  | [], _, _, .nil, h => by cases h; exact .nil
  | s :: r, _, _, .cons q t, h => by
    unfold szsD at h
    split at h
    · rename_i d ds h1 h2
      cases h
      exact .cons (sz_ok e q h1) (szs_ok e t h2)
    · cases h
theorem sy_ok {v : V} {s : Sy} {d : D} (e : EOk g B H σ Γ) (q : SyOk B H σ Γ v s) (h : syD Γ s = some d) : Dq H v d := by
  cases s with
  | one s => exact sz_ok e q h
  | lst ss =>
    obtain ⟨p, vs, rfl, q1, _, q2⟩ := q
    unfold syD at h; dsimp only at h
    cases hs : szsD Γ ss with
    | none => rw [hs] at h; cases h
    | some ds => rw [hs] at h; cases h; exact .lst q1 (szs_ok e q2 hs)
  | tup ss =>
    obtain ⟨p, vs, rfl, q1, _, q2⟩ := q
    unfold syD at h; dsimp only at h
    cases hs : szsD Γ ss with
    | none => rw [hs] at h; cases h
    | some ds => rw [hs] at h; cases h; exact .tup q1 (szs_ok e q2 hs)
theorem sys_ok (e : EOk g B H σ Γ) : ∀ {ss : List Sy} {vs : List V} {ds : List D}, Paired (SyOk B H σ Γ) vs ss → sysD Γ ss = some ds → DqA H vs ds
  | [], _, _, .nil, h => by cases h; exact .nil
  | s :: r, _, _, .cons q t, h => by
    unfold sysD at h
    split at h
    · rename_i d ds h1 h2
      cases h
      exact .cons (sy_ok e q h1) (sys_ok e t h2)
    · cases h
/-- data without places -/
def scalar : D → Bool
  | .none => true
  | .bool _ => true
  | .int _ => true
  | .str _ => true
  | _ => false
theorem scalar_dq {v : V} {d : D} (h : scalar d = true) (q : Dq B v d) : Dq B' v d := by
  cases q with
  | non => exact .non
  | bl b => exact .bl b
  | int i => exact .int i
  | str x => exact .str x
  | lst _ _ => cases h
  | tup _ _ => cases h
  | dic _ _ _ => cases h
def callB (m : Fn) (ss : List Sy) : M Val := fun Γ => match sysD Γ ss with
  | none => none
  | some ds => match m (ds.map .dat) with
    | some (.ok (.dat d) _) => if scalar d then some (.ok (.dat d) Γ) else none
    | _ => none
def cCallB (m : Fn) (cs : M (List Sy)) : M Val := cs.bind (callB m)
theorem dats_env (sb : Sub B H) : ∀ {ds : List D} {vs : List V}, DqA H vs ds → EOk g H H (vs.map some) (ds.map Ent.dat) := fun {ds vs} a => by
  refine ⟨Sub.refl _, by rw [List.length_map, List.length_map]; exact dqa_len a, fun i t h => ?_, fun i j b c o o' q h1 => ?_⟩
  · rw [List.getElem?_map] at h
    cases hd : ds[i]? with
    | none => rw [hd] at h; cases h
    | some d =>
      rw [hd] at h; cases h
      obtain ⟨v, q1, q2⟩ := dqa_get a hd
      exact ⟨v, some_of q1, q2⟩
  · rw [List.getElem?_map] at h1
    cases hd : ds[i]? with
    | none => rw [hd] at h1; cases h1
    | some d => rw [hd] at h1; cases h1
theorem callB_ok {m : Fn} {ss : List Sy} {vs : List V} {B0 H0 : Hp} {Γ0 : Gm} {Q : VK} (s : Stp g B0 H0 σ Γ0 B H σ Γ) (p : Paired (SyOk B H σ Γ) vs ss) (h : KE g W σ B0 H0 Γ0 (callB m ss Γ) Q) : spM g m vs H Q (WE W σ) := by
  have e := s.env
  unfold callB at h
  split at h
  · exact h.elim
  · rename_i ds hd
    have a := sys_ok e p hd
    split at h
    · rename_i d es' hm
      split at h
      · rename_i hs
        refine ⟨H, ds.map .dat, dats_env e.sub a, ?_⟩
        rw [hm]
        intro B' H' v s2 o
        have noown : ∀ q, ¬ Own (vs.map some) (ds.map Ent.dat) q := fun q ⟨i, b, ob, h1, _⟩ => by
          rw [List.getElem?_map] at h1
          cases hd : ds[i]? with
          | none => rw [hd] at h1; cases h1
          | some d => rw [hd] at h1; cases h1
        have kp : ∀ a u, H a = some u → H' a = some u := fun a u hu => s2.keep a u hu (noown a)
        have st : Stp g B0 H0 σ Γ0 B H' σ Γ := by
          refine ⟨⟨fun a u hu => kp a u (e.sub a u hu), e.len, fun i t ht => ?_, e.sep⟩, s.bb, fun a u hu n => kp a u (s.keep a u hu n), fun a ha => s2.dom a (s.dom a ha), s.newB, s.own, s.par⟩
          have q := e.at_ i t ht
          cases t with
          | un => trivial
          | dat d => exact q
          | scr ns => exact q
          | own b ob =>
            obtain ⟨p', e1, e2, e3⟩ := q
            exact ⟨p', e1, e2, e3.mono (Sub.refl _) fun u hu => kp _ u hu⟩
        exact h B H' v st (scalar_dq hs o)
      · exact h.elim
    · exact h.elim
section
variable {x : Str} {p : Pos} {f : Addr} {fd : FuncData} {ps : List Str} {k : Nat} {m : Fn} {cs : M (List Sy)}
theorem e_callB (F : FnOk X.prog X.w X.K X.mg X.base (L2.CX X.prog X.w) k f fd ps (spM (gx X) m)) (hr : Room k X.A) (tk : Takes X W) (hg : Gl X x) (hm : X.mg x = some (.ref f)) (hk : PySem.W.keepIn X.K (.ref f) = true) (hb : Binds X.K fd ps [])
    (ha : PA X (e :: es) (tB (gx X) W cs)) (hdb : (x == ("__debug__" : Str)) = false := by decide) (he : starEach (e :: es) X.env = (false, eval e X.env) :: starEach es X.env := by rfl) (hpl : (backTo pos (starEach es X.env)).any (·.1) = false := by rfl) :
    PE X (.Call (.Name x p) (e :: es) [] pos) (tE (gx X) W (cCallB m cs)) :=
  PE.weak (pe_callS F hr hg hm hk hb (fun σ => passAt tk σ) ha hdb he hpl) fun σ H Q h => by
    obtain ⟨B, Γ, e, h⟩ := h
    exact tb_bind (KX := fun r => KE (gx X) W σ B H Γ r Q) gl_e (Stp.refl e) h fun B1 H1 vs ss Γ1 s1 _ pr h1 => callB_ok s1 pr h1
end
end E


set_option Elab.async false
set_option linter.all false
set_option maxRecDepth 100000
set_option maxHeartbeats 1000000
set_option autoImplicit false
namespace E
open PySem L2 PyProof.Rows

variable {g : Gx} {B B1 B2 B' H H1 H2 H' : Hp} {σ σ1 σ2 σ' : L2.St} {Γ Γ1 Γ2 Γ' : Gm} {W : WX} {X : Cx} {a b e : PySem.Expr} {es : List PySem.Expr} {pos : Pos} {ca cb : M Val}

/-! ### what is left out -/
def mNo {α : Type} : M α := fun _ => none
theorem e_no : PE X e (tE (gx X) W mNo) := ⟨fun _ _ _ _ _ _ ⟨_, _, _, h⟩ => h.elim⟩
theorem t_no : PT X e (tT (gx X) W mNo) := ⟨fun _ _ _ _ _ _ ⟨_, _, _, h⟩ => h.elim⟩
theorem z_no {st : PySem.Stmt} : PS X st (tS (gx X) W mNo) := ⟨fun _ _ _ _ _ _ ⟨_, _, _, h⟩ => h.elim⟩
theorem z_nos {st : List PySem.Stmt} : PSs X st (tS (gx X) W mNo) := ⟨fun _ _ _ _ _ _ ⟨_, _, _, h⟩ => h.elim⟩

/-! ### defs by name -/
section
variable {P : Program} {w : World} {K : PySem.W.Frag} {mg : Str → Option Value} {base : Heap} {k : Nat} {x nm qual : Str} {st : PySem.Stmt} {ps N ks : List Str} {m : Fn} {C : Addr} {perm : List Nat} {body : M Flow}
/-- def x stands in the text as st -/
def Df (K : PySem.W.Frag) (mg : Str → Option Value) (x : Str) (st : PySem.Stmt) (ps : List Str) : Prop := ∃ f fd, mg x = some (.ref f) ∧ Fun K x x st f fd ∧ Binds K fd ps []
def DfM (K : PySem.W.Frag) (C : Addr) (nm qual : Str) (st : PySem.Stmt) (ps : List Str) : Prop := ∃ f fd, Meth K C nm f ∧ Fun K nm qual st f fd ∧ Binds K fd ps []
def DfI (K : PySem.W.Frag) (C : Addr) (qual : Str) (st : PySem.Stmt) (ps : List Str) : Prop := ∃ f fd, Mk K C f ∧ Fun K "__init__" qual st f fd ∧ Binds K fd ps []
/-- .. and does what m says -/
def Ok (P : Program) (w : World) (K : PySem.W.Frag) (mg : Str → Option Value) (base : Heap) (k : Nat) (x : Str) (st : PySem.Stmt) (ps : List Str) (m : Fn) : Prop :=
  ∃ f fd, mg x = some (.ref f) ∧ Fun K x x st f fd ∧ Binds K fd ps [] ∧ FnOk P w K mg base (L2.CX P w) k f fd ps (spM ⟨K, mg, w⟩ m)
def OkM (P : Program) (w : World) (K : PySem.W.Frag) (mg : Str → Option Value) (base : Heap) (k : Nat) (C : Addr) (nm : Str) (ps : List Str) (m : Fn) : Prop :=
  ∃ f fd, Meth K C nm f ∧ Binds K fd ps [] ∧ FnOk P w K mg base (L2.CX P w) k f fd ps (spM ⟨K, mg, w⟩ m)
def OkI (P : Program) (w : World) (K : PySem.W.Frag) (mg : Str → Option Value) (base : Heap) (k : Nat) (C : Addr) (ps : List Str) (m : Fn) : Prop :=
  ∃ f fd, Mk K C f ∧ Binds K fd ps [] ∧ FnOk P w K mg base (L2.CX P w) k f fd ps (spM ⟨K, mg, w⟩ m)
theorem df_ok (D : Df K mg x st ps) (S : FnScope N ps (defScope st))
    (h : ∀ (f : Addr) (cdv : Value) (A : Around) (outer : List PySem.Env) (s : Shared) (H : Hp) (EE : XK), Room k (A.deeper (envOfC x (defScope st) s.heap.objs.size f cdv)) →
      PSs (cxOf (L2.CX P w) P w K mg base N x (defScope st) f cdv A outer s H EE) (defBody st) (tS ⟨K, mg, w⟩ (fun c d _ H => EE c d H) body)) : Ok P w K mg base (k + 1) x st ps (mkM ps.length N.length body) := by
  obtain ⟨f, fd, h1, F, h2⟩ := D
  exact ⟨f, fd, h1, F, h2, okDef F S (h f)⟩
theorem dfM_ok (D : DfM K C nm qual st ps) (S : FnScope N ps (defScope st))
    (h : ∀ (f : Addr) (cdv : Value) (A : Around) (outer : List PySem.Env) (s : Shared) (H : Hp) (EE : XK), Room k (A.deeper (envOfC qual (defScope st) s.heap.objs.size f cdv)) →
      PSs (cxOf (L2.CX P w) P w K mg base N qual (defScope st) f cdv A outer s H EE) (defBody st) (tS ⟨K, mg, w⟩ (fun c d _ H => EE c d H) body)) : OkM P w K mg base (k + 1) C nm ps (mkM ps.length N.length body) := by
  obtain ⟨f, fd, h1, F, h2⟩ := D
  exact ⟨f, fd, h1, h2, okDef F S (h f)⟩
theorem dfI_ok (D : DfI K C qual st ps) (S : FnScope N ps (defScope st))
    (h : ∀ (f : Addr) (cdv : Value) (A : Around) (outer : List PySem.Env) (s : Shared) (H : Hp) (EE : XK), Room k (A.deeper (envOfC qual (defScope st) s.heap.objs.size f cdv)) →
      PSs (cxOf (L2.CX P w) P w K mg base N qual (defScope st) f cdv A outer s H EE) (defBody st) (tS ⟨K, mg, w⟩ (fun c d _ H => EE c d H) body)) : OkI P w K mg base (k + 1) C ps (mkM ps.length N.length body) := by
  obtain ⟨f, fd, h1, F, h2⟩ := D
  exact ⟨f, fd, h1, h2, okDef F S (h f)⟩
theorem df_none (D : Df K mg x st ps) : Ok P w K mg base k x st ps (fun _ => none) := by
  obtain ⟨f, fd, h1, F, h2⟩ := D
  exact ⟨f, fd, h1, F, h2, okNone⟩
/-! keywords -/
def glP {α : Type} (perm : List Nat) (us ws : List α) : List α := match us with
  | [] => permL perm ws
  | _ => []
def OkK (P : Program) (w : World) (K : PySem.W.Frag) (mg : Str → Option Value) (base : Heap) (k : Nat) (x : Str) (ps ks : List Str) (perm : List Nat) (m : Fn) : Prop :=
  ∃ f fd, mg x = some (.ref f) ∧ PySem.W.keepIn K (.ref f) = true ∧ KBinds K fd ps ks (glP perm) (glP perm) ∧ FnOk P w K mg base (L2.CX P w) k f fd ps (spM ⟨K, mg, w⟩ m)
theorem vals_at : ∀ {vs : List V} {us : List Value} (i : Nat), Vals vs us → (vs[i]? = none ∧ us[i]? = none) ∨ ∃ v u, vs[i]? = some v ∧ us[i]? = some u ∧ RelV v u
  | _, _, i, .nil => .inl ⟨by simp, by simp⟩
  | _, _, 0, .cons r t => .inr ⟨_, _, rfl, rfl, r⟩
  | _, _, i + 1, .cons r t => by simpa using vals_at i t
theorem vals_perm {vs : List V} {us : List Value} (h : Vals vs us) : ∀ perm : List Nat, Vals (permL perm vs) (permL perm us)
  | [] => .nil
  | i :: r => by
    have ih := vals_perm h r
    unfold permL at ih ⊢
    rw [List.filterMap_cons, List.filterMap_cons]
    rcases vals_at i h with ⟨h1, h2⟩ | ⟨v, u, h1, h2, h3⟩
    · rw [h1, h2]; exact ih
    · rw [h1, h2]; exact .cons h3 ih
theorem Ok.kw (O : Ok P w K mg base k x st ps m) (hp : ps ≠ [])
    (h : ∀ (kV doc pm : Value) (an : Option Addr) (cdv ct : Value) (ws : List Value), (permL perm ws).length = ps.length → bindArgs (PySem.W.fnOf x x (defArgs st) (defBody st) (defScope st) .none kV doc pm an cdv ct) ⟨[], ks.zip ws⟩ = pure (ps.zip (permL perm ws))) :
    OkK P w K mg base k x ps ks perm m := by
  obtain ⟨f, fd, h1, F, h2, h3⟩ := O
  refine ⟨f, fd, h1, F.kp, ⟨fun s us ws _ hl => ?_, fun {vs us zs ws} r1 r2 => ?_⟩, h3⟩
  · obtain ⟨oc, od, kV, doc, pm, an, cdv, ct, osl, rfl, lk, hcd⟩ := F.ex
    cases us with
    | nil => exact .of_eq (h kV doc pm an cdv ct ws hl)
    | cons u us =>
      have : (0 : Nat) = ps.length := hl
      exact absurd (List.length_eq_zero_iff.mp this.symm) hp
  · cases r1 with
    | nil => exact vals_perm r2 perm
    | cons _ _ => exact .nil
end
section
variable {k : Nat} {x nm : Str} {st : PySem.Stmt} {p apos px : Pos} {ps ks : List Str} {m : Fn} {cas : M (List AV)} {cs : M (List Sy)} {C : Addr} {kws : List Keyword} {perm : List Nat} {j : Nat}
theorem f_call (O : Ok X.prog X.w X.K X.mg X.base k x st ps m) (hr : Room j X.A) (hj : k ≤ j) (tk : Takes X W) (hg : Gl X x) (ha : PA X (e :: es) (tA (gx X) W cas)) (hdb : (x == ("__debug__" : Str)) = false := by decide)
    (he : starEach (e :: es) X.env = (false, eval e X.env) :: starEach es X.env := by rfl) (hpl : (backTo pos (starEach es X.env)).any (·.1) = false := by rfl) : PE X (.Call (.Name x p) (e :: es) [] pos) (tE (gx X) W (cCall m cas)) := by
  obtain ⟨f, fd, h1, F, h2, h3⟩ := O
  exact e_call h3 (hr.mono hj) tk hg h1 F.kp h2 ha hdb he hpl
theorem f_callB (O : Ok X.prog X.w X.K X.mg X.base k x st ps m) (hr : Room j X.A) (hj : k ≤ j) (tk : Takes X W) (hg : Gl X x) (ha : PA X (e :: es) (tB (gx X) W cs)) (hdb : (x == ("__debug__" : Str)) = false := by decide)
    (he : starEach (e :: es) X.env = (false, eval e X.env) :: starEach es X.env := by rfl) (hpl : (backTo pos (starEach es X.env)).any (·.1) = false := by rfl) : PE X (.Call (.Name x p) (e :: es) [] pos) (tE (gx X) W (cCallB m cs)) := by
  obtain ⟨f, fd, h1, F, h2, h3⟩ := O
  exact e_callB h3 (hr.mono hj) tk hg h1 F.kp h2 ha hdb he hpl
theorem f_callN (O : Ok X.prog X.w X.K X.mg X.base k x st ps m) (hr : Room j X.A) (hj : k ≤ j) (tk : Takes X W) (hg : Gl X x) (ha : PE X e (tE (gx X) W ca)) (hdb : (x == ("__debug__" : Str)) = false := by decide)
    (he : starEach [e] X.env = (false, eval e X.env) :: starEach [] X.env := by rfl) (hpl : (backTo pos (starEach [] X.env)).any (·.1) = false := by rfl) : PE X (.Call (.Name x p) [e] [] pos) (tE (gx X) W (cCallN m ca)) := by
  obtain ⟨f, fd, h1, F, h2, h3⟩ := O
  exact e_callN h3 (hr.mono hj) tk hg h1 F.kp h2 ha hdb he hpl
theorem f_callK (O : OkK X.prog X.w X.K X.mg X.base k x ps ks perm m) (hr : Room j X.A) (hj : k ≤ j) (tk : Takes X W) (hg : Gl X x) (ha : PK X kws (tA (gx X) W cas)) (hall : (backToKw pos (keywordEach kws X.env)).all (·.1.isSome) = true := by rfl)
    (hks : (backToKw pos (keywordEach kws X.env)).filterMap (·.1) = ks := by rfl) (hdb : (x == ("__debug__" : Str)) = false := by decide)
    (hpl : ((backTo pos (starEach [] X.env)).any (·.1) || (backToKw pos (keywordEach kws X.env)).any (·.1.isNone)) = false := by rfl) : PE X (.Call (.Name x p) [] kws pos) (tE (gx X) W (cCallK m perm cas)) := by
  obtain ⟨f, fd, h1, h2, h3, h4⟩ := O
  exact e_callK h4 (hr.mono hj) tk hg h1 h2 h3 rfl ha hall hks hdb hpl
theorem f_meth (i c : Nat) {pl : Sem Bool} (T : Kc X.K X.mg c C) (O : OkM X.prog X.w X.K X.mg X.base k C nm ps m) (hn : nm ∉ clF c) (hr : Room j X.A) (hj : k ≤ j) (tk : Takes X W) (hN : X.N[i]? = some x) (hv : Vis X.env.scope x) (ha : PA X (e :: es) (tA (gx X) W cas))
    (hst : starEach (e :: es) X.env = (false, eval e X.env) :: starEach es X.env := by rfl) (hpl : (backTo pos (starEach es X.env)).any (·.1) = false := by rfl)
    (ht : eval (.Call (.Attribute (.Name x px) nm apos) (e :: es) [] pos) X.env = (do
      let ov ← eval (.Name x px) X.env
      standAt apos.atName
      let (fn, pre) ← holding [ov] (getMethod ov nm pl)
      callWith pos fn pre (backTo pos (starEach (e :: es) X.env)) (backToKw pos (keywordEach [] X.env))) := by rfl)
    (hd : (x == ("__debug__" : Str)) = false := by decide) (hcd : (x == ("__classdict__" : Str)) = false := by decide) :
    PE X (.Call (.Attribute (.Name x px) nm apos) (e :: es) [] pos) (tE (gx X) W (cMeth i c m cas)) := by
  obtain ⟨f, fd, h1, h2, h3⟩ := O
  exact e_meth i c T hn h1 h3 (hr.mono hj) tk h2 hN hv ha hst hpl ht hd hcd
theorem f_meth0 (i c : Nat) {pl : Sem Bool} (T : Kc X.K X.mg c C) (O : OkM X.prog X.w X.K X.mg X.base k C nm ps m) (hn : nm ∉ clF c) (hr : Room j X.A) (hj : k ≤ j) (tk : Takes X W) (hN : X.N[i]? = some x) (hv : Vis X.env.scope x)
    (ht : eval (.Call (.Attribute (.Name x px) nm apos) [] [] pos) X.env = (do
      let ov ← eval (.Name x px) X.env
      standAt apos.atName
      let (fn, pre) ← holding [ov] (getMethod ov nm pl)
      callWith pos fn pre (backTo pos (starEach [] X.env)) (backToKw pos (keywordEach [] X.env))) := by rfl)
    (hd : (x == ("__debug__" : Str)) = false := by decide) (hcd : (x == ("__classdict__" : Str)) = false := by decide) :
    PE X (.Call (.Attribute (.Name x px) nm apos) [] [] pos) (tE (gx X) W (cMeth i c m aNil)) := by
  obtain ⟨f, fd, h1, h2, h3⟩ := O
  exact e_meth0 i c T hn h1 h3 (hr.mono hj) tk h2 hN hv ht hd hcd
theorem f_make (c : Nat) (T : Kc X.K X.mg c C) (O : OkI X.prog X.w X.K X.mg X.base k C ps m) (hr : Room j X.A) (hj : k + 1 ≤ j) (tk : Takes X W) (hx : x = clN c) (hg : Gl X x) (ha : PA X (e :: es) (tA (gx X) W cas)) (hdb : (x == ("__debug__" : Str)) = false := by decide)
    (he : starEach (e :: es) X.env = (false, eval e X.env) :: starEach es X.env := by rfl) (hpl : (backTo pos (starEach es X.env)).any (·.1) = false := by rfl) : PE X (.Call (.Name x p) (e :: es) [] pos) (tE (gx X) W (cMake c m cas)) := by
  obtain ⟨f, fd, h1, h2, h3⟩ := O
  exact e_make c T (by rw [hx]; exact T.at_) h1 h3 (hr.mono hj) tk hg h2 ha hdb he hpl
end
/-! ### the law's own promise -/
def spLaw (K : PySem.W.Frag) : Sp := fun vs H Q _ => ∃ (a : Addr) (ns : List Int), vs = [.ref a] ∧ SqL K H a (ns.map V.int) ∧ ns.length ≤ 63 ∧ ∀ H', Q (.bl true) H'
theorem law_weak {P : Program} {w : World} {K : PySem.W.Frag} {mg : Str → Option Value} {base : Heap} {k : Nat} {f : Addr} {fd : FuncData} {m : Fn} (F : FnOk P w K mg base (L2.CX P w) k f fd ["script"] (spM ⟨K, mg, w⟩ m))
    (h : ∀ ns : List Int, ns.length ≤ 63 → ∃ es, m [.scr ns] = some (.ok (.dat (.bool true)) es)) : FnOk P w K mg base (L2.CX P w) k f fd ["script"] (spLaw K) := by
  have key : ∀ vs H Q EE, spLaw K vs H Q EE → spM ⟨K, mg, w⟩ m vs H Q EE := fun vs H Q EE hh => by
    obtain ⟨a, ns, rfl, h1, h2, h3⟩ := hh
    obtain ⟨es, he⟩ := h ns h2
    refine ⟨H, [.scr ns], ⟨Sub.refl _, rfl, fun i t ht => ?_, fun i j b c o o' q h1 => ?_⟩, ?_⟩
    · cases i with
      | zero => cases ht; exact ⟨a, rfl, h1⟩
      | succ i => simp at ht
    · cases i with
      | zero => cases h1
      | succ i => simp at h1
    · rw [he]
      intro B' H' v _ o
      cases (show Dq B' v (.bool true) from o)
      exact h3 H'
  exact ⟨fun vs H Q EE hh => F.len vs H Q EE (key vs H Q EE hh), fun A outer s H args us vs Q EE hr he hb hv hh => F.run A outer s H args us vs Q EE hr he hb hv (key vs H Q EE hh)⟩
def spLawB (K : PySem.W.Frag) : Sp := fun vs H Q _ => ∃ (a : Addr) (ns : List Int), vs = [.ref a] ∧ SqL K H a (ns.map V.int) ∧ ns.length ≤ 63 ∧ (∀ z ∈ ns, Builtin.Int.intBits z ≤ 1048576) ∧ ∀ H', Q (.bl true) H'
theorem law_weakB {P : Program} {w : World} {K : PySem.W.Frag} {mg : Str → Option Value} {base : Heap} {k : Nat} {f : Addr} {fd : FuncData} {m : Fn} (F : FnOk P w K mg base (L2.CX P w) k f fd ["script"] (spM ⟨K, mg, w⟩ m))
    (h : ∀ ns : List Int, ns.length ≤ 63 → (∀ z ∈ ns, Builtin.Int.intBits z ≤ 1048576) → ∃ es, m [.scr ns] = some (.ok (.dat (.bool true)) es)) : FnOk P w K mg base (L2.CX P w) k f fd ["script"] (spLawB K) := by
  have key : ∀ vs H Q EE, spLawB K vs H Q EE → spM ⟨K, mg, w⟩ m vs H Q EE := fun vs H Q EE hh => by
    obtain ⟨a, ns, rfl, h1, h2, hbits, h3⟩ := hh
    obtain ⟨es, he⟩ := h ns h2 hbits
    refine ⟨H, [.scr ns], ⟨Sub.refl _, rfl, fun i t ht => ?_, fun i j b c o o' q h1 => ?_⟩, ?_⟩
    · cases i with
      | zero => cases ht; exact ⟨a, rfl, h1⟩
      | succ i => simp at ht
    · cases i with
      | zero => cases h1
      | succ i => simp at h1
    · rw [he]
      intro B' H' v _ o
      cases (show Dq B' v (.bool true) from o)
      exact h3 H'
  exact ⟨fun vs H Q EE hh => F.len vs H Q EE (key vs H Q EE hh), fun A outer s H args us vs Q EE hr he hb hv hh => F.run A outer s H args us vs Q EE hr he hb hv (key vs H Q EE hh)⟩
end E


set_option Elab.async false
set_option linter.all false
set_option maxRecDepth 100000
set_option maxHeartbeats 1000000
set_option autoImplicit false
namespace E
open PySem L2 PyProof.Rows

variable {g : Gx} {B B1 B2 B' H H1 H2 H' : Hp} {σ σ1 σ2 σ' : L2.St} {Γ Γ1 Γ2 Γ' : Gm} {W : WX} {X : Cx} {a b e : PySem.Expr} {es : List PySem.Expr} {pos : Pos} {ca cb : M Val}

theorem e_gI {x : Str} {i : Int} (hm : ∃ t, X.mg x = some (.int i t)) (hg : Gl X x) (hd : (x == ("__debug__" : Str)) = false := by decide) : PE X (.Name x pos) (tE (gx X) W (cC (.int i))) := by
  obtain ⟨t, hm⟩ := hm
  exact e_globI hg hm hd
theorem e_gS {x y : Str} (hm : ∃ t, X.mg x = some (.str y t)) (hg : Gl X x) (hd : (x == ("__debug__" : Str)) = false := by decide) : PE X (.Name x pos) (tE (gx X) W (cC (.str y))) := by
  obtain ⟨t, hm⟩ := hm
  exact e_globS hg hm hd
/-- a block's names, checked -/
def blkB (N : List Str) (sc scope : Scope) (own : List (Str × Nat)) : Bool :=
  decide (scope.kind = .function) && (scope.names.all (fun y => decide (scope.names.lookup y.1 = some y.2)) && (own.all (fun p => decide (N[p.2]? = some p.1)) &&
    (scope.names.all (fun y => !decide (y.2 = .free) || (decide (sc.names.lookup y.1 = some .cell) || decide (sc.names.lookup y.1 = some .free))) &&
    scope.names.all (fun y => !(decide (y.2 = .local) || decide (y.2 = .cell)) || ((own.map (·.1)).any (fun x => decide (x = y.1)) || !N.any (fun x => decide (x = y.1)))))))
theorem blk_of {N : List Str} {sc scope : Scope} {own : List (Str × Nat)} (h : blkB N sc scope own = true) : BlkOk N sc scope own := by
  unfold blkB at h
  rw [Bool.and_eq_true, Bool.and_eq_true, Bool.and_eq_true, Bool.and_eq_true] at h
  obtain ⟨h1, h2, h3, h4, h5⟩ := h
  refine ⟨of_decide_eq_true h1, fun y hy => of_decide_eq_true (List.all_eq_true.mp h2 y hy), fun p hp => of_decide_eq_true (List.all_eq_true.mp h3 p hp), fun y hy hf => ?_, fun y hy hf => ?_⟩
  · have q := List.all_eq_true.mp h4 y hy
    rw [decide_eq_true hf, Bool.not_true, Bool.false_or, Bool.or_eq_true] at q
    rcases q with q | q
    · exact .inl (of_decide_eq_true q)
    · exact .inr (of_decide_eq_true q)
  · have q := List.all_eq_true.mp h5 y hy
    have k : (decide (y.2 = .local) || decide (y.2 = .cell)) = true := by
      rw [Bool.or_eq_true]
      rcases hf with z | z
      · exact .inl (decide_eq_true z)
      · exact .inr (decide_eq_true z)
    rw [k, Bool.not_true, Bool.false_or, Bool.or_eq_true] at q
    rcases q with q | q
    · obtain ⟨x, h1, h2⟩ := List.any_eq_true.mp q
      have := of_decide_eq_true h2
      subst this
      exact .inl h1
    · refine .inr fun hm => ?_
      have : N.any (fun x => decide (x = y.1)) = true := List.any_eq_true.mpr ⟨y.1, hm, decide_eq_true rfl⟩
      rw [this] at q
      cases q
/-- a, b = e for a call's tuple -/
theorem z_tup {is : List Nat} {elts : List PySem.Expr} {kk : Nat} {pt : Pos} (hg : PG X (.Tuple elts kk pt) (gTup X.K is.length (gNames is))) (he : PE X e (tE (gx X) W ca))
    (hs : swapsWithSole [.Tuple elts kk pt] e pos.line X.env = pure false := by rfl) (hw : swappedStores [.Tuple elts kk pt] e X.env = pure none := by rfl)
    (h1 : (assignEach [.Tuple elts kk pt] X.env).map (·.2) = [assign (.Tuple elts kk pt) X.env] := by rfl) :
    PS X (.Assign [.Tuple elts kk pt] e pos) (tS (gx X) W (sTupAsg is ca)) := PS.weak (ps_asg he hg hs hw h1) fun _ _ _ h => sTupAsg_ok h
end E
namespace E
open PySem L2 PyProof.Rows
section
variable {P : Program} {w : World} {K : PySem.W.Frag} {mg : Str → Option Value} {h : Heap} {x nm qual : Str} {st : PySem.Stmt} {ps N : List Str} {f C fa : Addr} {oc kV dc pm cd ct : Value} {od an : Option Addr} {sl : Array (Option Value)} {k : Nat} {body : M Flow}
theorem df_mk (X : K.In h) (G : h.Ns mainGlobals mg) (b : ∀ (kV doc pm : Value) (an : Option Addr) (cdv ct : Value) (us : List Value), us.length = ps.length → bindArgs (PySem.W.fnOf x x (defArgs st) (defBody st) (defScope st) .none kV doc pm an cdv ct) ⟨us, []⟩ = pure (ps.zip us))
    (a : PySem.W.nsIn K mainGlobals x = some (some (.ref f))) (l : K.lookup f = some ⟨oc, od, .func (PySem.W.fnOf x x (defArgs st) (defBody st) (defScope st) .none kV dc pm an cd ct), sl⟩) (c : PySem.W.codeIn K cd x = true) (kp : PySem.W.keepIn K (.ref f) = true) : Df K mg x st ps :=
  ⟨f, _, PySem.W.mg_of X G a, fun_mk l c kp, (fun_mk (st := st) l c kp).binds b⟩
theorem dfM_mk (b : ∀ (kV doc pm : Value) (an : Option Addr) (cdv ct : Value) (us : List Value), us.length = ps.length → bindArgs (PySem.W.fnOf nm qual (defArgs st) (defBody st) (defScope st) .none kV doc pm an cdv ct) ⟨us, []⟩ = pure (ps.zip us))
    (a : PySem.W.findIn K (.ref C) nm = some (some (.ref f))) (i : PySem.W.isFn K (.ref f) = true) (l : K.lookup f = some ⟨oc, od, .func (PySem.W.fnOf nm qual (defArgs st) (defBody st) (defScope st) .none kV dc pm an cd ct), sl⟩) (c : PySem.W.codeIn K cd qual = true) (kp : PySem.W.keepIn K (.ref f) = true) : DfM K C nm qual st ps :=
  ⟨f, _, ⟨a, i, kp⟩, fun_mk l c kp, (fun_mk (st := st) l c kp).binds b⟩
theorem dfI_mk (b : ∀ (kV doc pm : Value) (an : Option Addr) (cdv ct : Value) (us : List Value), us.length = ps.length → bindArgs (PySem.W.fnOf "__init__" qual (defArgs st) (defBody st) (defScope st) .none kV doc pm an cdv ct) ⟨us, []⟩ = pure (ps.zip us))
    (mk : PySem.W.makesIn K C = true) (a : PySem.W.findIn K (.ref C) "__init__" = some (some (.ref f))) (i : PySem.W.isFn K (.ref f) = true) (kc : PySem.W.keepIn K (.ref C) = true) (l : K.lookup f = some ⟨oc, od, .func (PySem.W.fnOf "__init__" qual (defArgs st) (defBody st) (defScope st) .none kV dc pm an cd ct), sl⟩) (c : PySem.W.codeIn K cd qual = true) (kp : PySem.W.keepIn K (.ref f) = true) : DfI K C qual st ps :=
  ⟨f, _, ⟨mk, a, i, kc⟩, fun_mk l c kp, (fun_mk (st := st) l c kp).binds b⟩
theorem kc_mk {c : Nat} (X : K.In h) (G : h.Ns mainGlobals mg) (a : PySem.W.nsIn K mainGlobals (clN c) = some (some (.ref C))) (pg : PySem.W.plainGet K C Str.empty = true) (hd : PySem.W.hasDictIn K C = true) (po : PySem.W.plainOver K C = true) (sa : PySem.W.findIn K (.ref C) "__setattr__" = some (some (.builtin "object.__setattr__")))
    (no : ∀ f ∈ clF c, PySem.W.findIn K (.ref C) f = some none) : Kc K mg c C := ⟨PySem.W.mg_of X G a, ⟨pg, hd, po, sa⟩, no⟩
theorem in4 {p : Str → Prop} {a b c d : Str} (h1 : p a) (h2 : p b) (h3 : p c) (h4 : p d) : ∀ f ∈ [a, b, c, d], p f := by
  intro f hf
  simp only [List.mem_cons, List.not_mem_nil, or_false] at hf
  rcases hf with rfl | rfl | rfl | rfl <;> assumption
theorem gI_mk {i : Int} {t : Tok} (X : K.In h) (G : h.Ns mainGlobals mg) (a : PySem.W.nsIn K mainGlobals x = some (some (.int i t))) : ∃ t, mg x = some (.int i t) := ⟨t, PySem.W.mg_of X G a⟩
theorem gS_mk {y : Str} {t : Tok} (X : K.In h) (G : h.Ns mainGlobals mg) (a : PySem.W.nsIn K mainGlobals x = some (some (.str y t))) : ∃ t, mg x = some (.str y t) := ⟨t, PySem.W.mg_of X G a⟩
/-- the law's def at the end -/
theorem law_end (D : Df K mg x st ["script"]) (hfa : mg x = some (.ref fa)) (S : FnScope N ["script"] (defScope st)) (hb : ∀ (kV doc pm : Value) (an : Option Addr) (cdv ct v : Value), bindArgs (PySem.W.fnOf x x (defArgs st) (defBody st) (defScope st) .none kV doc pm an cdv ct) ⟨[v], []⟩ = pure [(("script" : Str), v)])
    (hh : ∀ (base : Heap) (f : Addr) (cdv : Value) (A : Around) (outer : List PySem.Env) (s : Shared) (H : Hp) (EE : XK), Room k (A.deeper (envOfC x (defScope st) s.heap.objs.size f cdv)) →
      PSs (cxOf (L2.CX P w) P w K mg base N x (defScope st) f cdv A outer s H EE) (defBody st) (tS ⟨K, mg, w⟩ (fun c d _ H => EE c d H) body))
    (hm : ∀ ns : List Int, ns.length ≤ 63 → ∃ es, mkM 1 N.length body [.scr ns] = some (.ok (.dat (.bool true)) es)) :
    ∃ fd : FuncData, (∀ (s : Shared) (v : Value), BindsTo s fd ⟨[v], []⟩ [("script", v)]) ∧ ∀ base : Heap, K.In base → base.Ns mainGlobals mg → FnOk P w K mg base (L2.CX P w) (k + 1) fa fd ["script"] (spLaw K) := by
  obtain ⟨f, fd, h1, F, h2⟩ := D
  have e := hfa.symm.trans h1
  cases e
  refine ⟨fd, fun s v => ?_, fun base _ _ => law_weak (okDef F S (hh base fa)) hm⟩
  obtain ⟨oc, od, kV, doc, pm, an, cdv, ct, osl, rfl, lk, hcd⟩ := F.ex
  exact .of_eq (hb kV doc pm an cdv ct v)
end
end E


set_option Elab.async false
set_option linter.all false
set_option maxRecDepth 100000
set_option maxHeartbeats 4000000
set_option autoImplicit false
namespace E
open PySem
def c_is_integer : M Flow :=
  (sSeq (sIf (cOrT (cNotT (asB (c1 (fIsI ["int"]) (cV 0)))) (cOrT (asB (c1 (fIsI ["bool"]) (cV 0))) (asB (c2 fLt (cV 0) (cV 1))))) (sRet (cC (.bool false))) sNil)
  (sRet (cOr (c1 (fIsN false) (cV 2)) (c2 fLe (cV 0) (cV 2)))))
def m_is_integer : Fn := mkM 3 3 c_is_integer
def c_need_ring : M Flow :=
  (sIf (cNotT (asB (cCall m_is_integer (aF (cV 0) (aF (cC (.int 2)) (aF (cC (.int 60)) aNil)))))) mNo sNil)
def m_need_ring : Fn := mkM 1 1 c_need_ring
def c_is_server : M Flow :=
  (sRet (cCall m_is_integer (aF (cV 1) (aF (cC (.int 0)) (aF (c2 fSub (cV 0) (cC (.int 1))) aNil)))))
def m_is_server : Fn := mkM 2 2 c_is_server
def c_is_ascending : M Flow :=
  (sSeq (sIf (cOrT (cNotT (asB (c1 (fIsI ["list"]) (cV 1)))) (cNotT (asB (c1 fAll (cLC (tgN 2) [2] (rList (cV 1)) (M.ret true) (cCall m_is_server (aF (cV 0) (aF (cV 2) aNil)))))))) (sRet (cC (.bool false))) sNil)
  (sRet (c1 fAll (cLC (tgT [3, 4]) [3, 4] ((rList (cV 1)).bind fun ds => (rList (cSl (cV 1) (oSome (cC (.int 1))) oNone)).bind fun es => M.ret (zipD ds es)) (M.ret true) (c2 fLt (cV 3) (cV 4))))))
def m_is_ascending : Fn := mkM 2 5 c_is_ascending
def c_are_drops : M Flow :=
  (sRet (cAnd (cCall m_is_ascending (aF (cV 0) (aF (cV 1) aNil))) (c3 fLe fLt (cC (.int 1)) (c1 fLen (cV 1)) (cV 0))))
def m_are_drops : Fn := mkM 2 2 c_are_drops
def c_need_drops : M Flow :=
  (sIf (cNotT (asB (cCall m_are_drops (aF (cV 0) (aF (cV 1) aNil))))) mNo sNil)
def m_need_drops : Fn := mkM 2 2 c_need_drops
def c_factorials : M Flow :=
  (sSeq (sAsg 1 (cLst (aF (cC (.int 1)) aNil)))
  (sSeq (sFor (tgN 2) (rRng2 (cC (.int 1)) (c2 fAdd (cV 0) (cC (.int 1)))) (sExpr (cMth 1 mAppend (aF (c2 fMul (c2 fIx (cV 1) (c1 fNeg (cC (.int 1)))) (cV 2)) aNil))))
  (sRet (cV 1))))
def m_factorials : Fn := mkM 1 3 c_factorials
def c_falls_of : M Flow :=
  (sSeq (sAsg 2 (c2 fMul (cLst (aF (cC (.bool false)) aNil)) (cV 0)))
  (sSeq (sFor (tgN 3) (rList (cV 1)) (sSet 2 (cV 3) (cC (.bool true))))
  (sRet (cV 2))))
def m_falls_of : Fn := mkM 2 4 c_falls_of
def c_row_table : M Flow :=
  (sSeq (sAsg 1 (c1 fLen (cV 0)))
  (sSeq (sAsg 2 (cLst aNil))
  (sSeq (sFor (tgN 3) (rRng1 (cV 1)) (sSeq (sAsg 4 (cLst (aF (cC (.int 1)) aNil)))
  (sSeq (sAsg 5 (cLst (aF (cC (.int 1)) (aF (cC (.int 1)) aNil))))
  (sSeq (sFor (tgN 6) (rRng2 (cC (.int 2)) (cV 1)) (sSeq (sAsg 7 (cLst (aF (cC (.int 0)) aNil)))
  (sSeq (sFor (tgN 8) (rList (cV 4)) (sExpr (cMth 7 mAppend (aF (c2 fAdd (c2 fIx (cV 7) (c1 fNeg (cC (.int 1)))) (cV 8)) aNil))))
  (sSeq (sAsg 9 (c2 fIx (cV 0) (c2 fMod (c2 fSub (c2 fAdd (cV 3) (cV 6)) (cC (.int 1))) (cV 1))))
  (sSeq (sAsg 4 (cLC (tgN 10) [10] (rList (cV 7)) (M.ret true) (cIf (asB (cV 9)) (c2 fSub (c2 fIx (cV 7) (c1 fNeg (cC (.int 1)))) (cV 10)) (cV 10))))
  (sExpr (cMth 5 mAppend (aF (c1 fSum (cV 4)) aNil))))))))
  (sExpr (cMth 2 mAppend (aF (cV 5) aNil)))))))
  (sRet (cV 2)))))
def m_row_table : Fn := mkM 1 11 c_row_table
def c_Progress_init : M Flow :=
  (sSeq (sFld 0 0 0 (cV 1))
  (sSeq (sFld 0 0 1 (cCall m_row_table (aF (cV 1) aNil)))
  (sSeq (sFld 0 0 2 (cCall m_factorials (aF (c1 fLen (cV 1)) aNil)))
  (sFld 0 0 3 (cC .none)))))
def m_Progress_init : Fn := mkM 2 2 c_Progress_init
def c_Progress_is_next : M Flow :=
  (sSeq (sAsg 4 (c2 fMod (c2 fAdd (cV 1) (cC (.int 1))) (c1 fLen (cFld 0 0 0))))
  (sRet (cAnd (cOr (c2 fEq (cV 2) (cC (.int 0))) (c2 fIx (cFld 0 0 0) (cV 1))) (cOr (c2 fEq (cV 2) (c2 fSub (cV 3) (cC (.int 1)))) (cNot (c2 fIx (cFld 0 0 0) (cV 4)))))))
def m_Progress_is_next : Fn := mkM 4 5 c_Progress_is_next
def c_Progress_next_choices : M Flow :=
  (sSeq (sAsg 1 (c1 fLen (cFld 0 0 0)))
  (sSeq (sIf (asB (c1 (fIsN false) (cFld 0 0 3))) (sSeq (sAsg 2 (cLC (tgN 3) [3] (rRng1 (cV 1)) (cAndT (asB (c2 fIx (cFld 0 0 0) (cV 3))) (cNotT (asB (c2 fIx (cFld 0 0 0) (c2 fMod (c2 fAdd (cV 3) (cC (.int 1))) (cV 1)))))) (cV 3)))
  (sRet (cLC (tgN 3) [3] (rList (cV 2)) (M.ret true) (cTup (aF (cV 3) (aF (cLst (aF (cTup (aF (c2 fMod (c2 fAdd (cV 3) (cC (.int 1))) (cV 1)) (aF (c2 fSub (cV 1) (cC (.int 1))) aNil))) aNil)) aNil)))))) sNil)
  (sSeq (sAsg 4 (cLst aNil))
  (sSeq (sFor (tgT [5, 6]) (rList (cFld 0 0 3)) (sSeq (sAsg 7 (cLC (tgN 8) [8] (rList (cFld 0 0 3)) (asB (c2 fNe (c2 fIx (cV 8) (cC (.int 0))) (cV 5))) (cV 8)))
  (sFor (tgN 9) (rRng1 (cV 6)) (sSeq (sAsg 3 (c2 fMod (c2 fAdd (cV 5) (cV 9)) (cV 1)))
  (sIf (asB (cMeth 0 0 m_Progress_is_next (aF (cV 3) (aF (cV 9) (aF (cV 6) aNil))))) (sSeq (sAsg 10 (cLst (aF (cTup (aF (cV 5) (aF (cV 9) aNil))) (aF (cTup (aF (c2 fMod (c2 fAdd (cV 3) (cC (.int 1))) (cV 1)) (aF (c2 fSub (c2 fSub (cV 6) (cC (.int 1))) (cV 9)) aNil))) aNil))))
  (sExpr (cMth 4 mAppend (aF (cTup (aF (cV 3) (aF (c2 fAdd (cV 7) (cLC (tgN 8) [8] (rList (cV 10)) (asB (c2 fGt (c2 fIx (cV 8) (cC (.int 1))) (cC (.int 0)))) (cV 8))) aNil))) aNil)))) sNil)))))
  (sRet (c1 fSorted (cV 4)))))))
def m_Progress_next_choices : Fn := mkM 1 11 c_Progress_next_choices
def c_Progress_ways_on : M Flow :=
  (sSeq (sAsg 2 (c2 fIx (cFld 0 0 2) (c1 fSum (cLC (tgT [3, 4]) [3, 4] (rList (cV 1)) (M.ret true) (cV 4)))))
  (sSeq (sFor (tgT [3, 4]) (rList (cV 1)) (sAsg 2 (c2 fMul (c2 fDiv (cV 2) (c2 fIx (cFld 0 0 2) (cV 4))) (c2 fIx (c2 fIx (cFld 0 0 1) (cV 3)) (cV 4)))))
  (sRet (cV 2))))
def m_Progress_ways_on : Fn := mkM 2 5 c_Progress_ways_on
def c_count_all : M Flow :=
  (sRet (c1 fSum (cLC (tgT [1, 2]) [1, 2] (rList (cMeth 0 0 m_Progress_next_choices aNil)) (M.ret true) (cMeth 0 0 m_Progress_ways_on (aF (cV 2) aNil)))))
def m_count_all : Fn := mkM 1 3 c_count_all
def c_order_count : M Flow :=
  (sSeq (sExpr (cCall m_need_ring (aF (cV 0) aNil)))
  (sSeq (sExpr (cCall m_need_drops (aF (cV 0) (aF (cV 1) aNil))))
  (sRet (cCallN m_count_all (cMake 0 m_Progress_init (aF (cCall m_falls_of (aF (cV 0) (aF (cV 1) aNil))) aNil))))))
def m_order_count : Fn := mkM 2 2 c_order_count
def c_counts_by_drops : M Flow :=
  (sSeq (sExpr (cCall m_need_ring (aF (cV 0) aNil)))
  (sSeq (sAsg 1 (cLst (aF (cC (.int 1)) aNil)))
  (sSeq (sFor (tgN 2) (rRng2 (cC (.int 2)) (cV 0)) (sSeq (sAsg 3 (c2 fAdd (cV 1) (cLst (aF (cC (.int 0)) aNil))))
  (sSeq (sAsg 4 (c2 fAdd (cLst (aF (cC (.int 0)) aNil)) (cV 1)))
  (sAsg 1 (cLC (tgN 5) [5] (rRng1 (cV 2)) (M.ret true) (c2 fAdd (c2 fMul (c2 fAdd (cV 5) (cC (.int 1))) (c2 fIx (cV 3) (cV 5))) (c2 fMul (c2 fSub (cV 2) (cV 5)) (c2 fIx (cV 4) (cV 5)))))))))
  (sRet (cLC (tgN 6) [6] (rList (cV 1)) (M.ret true) (c2 fMul (cV 0) (cV 6)))))))
def m_counts_by_drops : Fn := mkM 1 7 c_counts_by_drops
def c__law_urn : M Flow :=
  (sSeq (sTupAsg [1, 2] (cTup (aF (cC (.int 0)) (aF (cC (.int 27457)) aNil))))
  (sSeq (sFor (tgN 3) (rList (cSl (cV 0) oNone (oSome (cC (.int 61))))) (sSeq (sIf (asB (c2 fGe (c1 fAbs (cV 3)) (c2 fPow (cC (.int 10)) (cC (.int 18))))) (sAsg 1 (c2 fAdd (c2 fMul (cV 1) (c2 fPow (c2 fPow (cC (.int 10)) (cC (.int 60))) (cC (.int 5)))) (c2 fMod (c1 fAbs (cV 3)) (c2 fPow (c2 fPow (cC (.int 10)) (cC (.int 60))) (cC (.int 5)))))) sNil)
  (sAsg 2 (c2 fMod (c2 fAdd (c2 fAdd (c2 fMul (cV 2) (cC (.int 69621))) (c2 fMod (cV 3) (cC (.int 2147483579)))) (cC (.int 1))) (cC (.int 2305843009213693951))))))
  (sRet (cLst (aF (cV 1) (aF (cV 2) (aF (cC (.int 0)) aNil)))))))
def m__law_urn : Fn := mkM 1 4 c__law_urn
def c__law_draw : M Flow :=
  (sSeq (sIf (asB (c2 fGt (c2 fIx (cV 0) (cC (.int 0))) (cC (.int 0)))) (sSeq (sAsg 2 (c2 fMod (c2 fIx (cV 0) (cC (.int 0))) (cV 1)))
  (sSeq (sSet 0 (cC (.int 0)) (c2 fDiv (c2 fIx (cV 0) (cC (.int 0))) (cV 1)))
  (sRet (cV 2)))) sNil)
  (sSeq (sSet 0 (cC (.int 2)) (c2 fAdd (c2 fIx (cV 0) (cC (.int 2))) (cC (.int 1))))
  (sSeq (sAsg 3 (c2 fMod (c2 fAdd (c2 fIx (cV 0) (cC (.int 1))) (c2 fMul (cC (.int 3266489917)) (c2 fIx (cV 0) (cC (.int 2))))) (cC (.int 2305843009213693951))))
  (sSeq (sAsg 3 (c2 fMod (c2 fMul (cV 3) (cV 3)) (cC (.int 2305843009213693951))))
  (sSeq (sAsg 3 (c2 fMod (c2 fAdd (c2 fMul (cV 3) (cC (.int 48271))) (c2 fMul (c2 fIx (cV 0) (cC (.int 2))) (c2 fIx (cV 0) (cC (.int 2))))) (cC (.int 2305843009213693951))))
  (sRet (c2 fMod (c2 fDiv (c2 fMod (c2 fMul (cV 3) (cV 3)) (cC (.int 2305843009213693951))) (cC (.int 786433))) (cV 1))))))))
def m__law_draw : Fn := mkM 2 4 c__law_draw
def c__law_falls : M Flow :=
  (sSeq (sAsg 1 (c1 fDict (cLC (tgT [2, 3]) [2, 3] ((rList (cV 0)).bind fun ds => M.ret (enumD 0 ds)) (M.ret true) (cTup (aF (cV 3) (aF (cV 2) aNil))))))
  (sRet (cLC (tgN 3) [3] (rRng1 (c1 fLen (cV 0))) (asB (c2 fLt (cDIx 1 (cV 3)) (cDIx 1 (c2 fMod (c2 fSub (cV 3) (cC (.int 1))) (c1 fLen (cV 0)))))) (cV 3))))
def m__law_falls : Fn := mkM 1 4 c__law_falls
def c__law_all : M Flow :=
  (sSeq (sAsg 1 (cLst (aF (cLst aNil) aNil)))
  (sSeq (sFor (tgN 2) (rRng1 (cV 0)) (sSeq (sAsg 3 (cLst aNil))
  (sSeq (sFor (tgN 4) (rList (cV 1)) (sExpr (cMth 3 mExtend (aF (cLC (tgN 5) [5] (rRng1 (cV 0)) (asB (c2 (fInD true) (cV 5) (cV 4))) (c2 fAdd (cV 4) (cLst (aF (cV 5) aNil)))) aNil))))
  (sAsg 1 (cV 3)))))
  (sRet (cV 1))))
def m__law_all : Fn := mkM 1 6 c__law_all
def c__law_alike (mm : Fn) : M Flow :=
  (sSeq (sIf (asB (c1 (fIsI ["list", "tuple"]) (cV 1))) (sSeq (sIf (cOrT (cNotT (asB (c1 (fIsI ["list", "tuple"]) (cV 0)))) (asB (c2 fNe (c1 (fIsI ["list"]) (cV 0)) (c1 (fIsI ["list"]) (cV 1))))) (sRet (cC (.bool false))) sNil)
  (sRet (cAnd (c2 fEq (c1 fLen (cV 0)) (c1 fLen (cV 1))) (c1 fAll (cLC (tgN 2) [2] (rRng1 (c1 fLen (cV 1))) (M.ret true) (cCallB mm (bC (yF (c2 fIx (cV 0) (cV 2))) (bC (yF (c2 fIx (cV 1) (cV 2))) bNil)))))))) sNil)
  (sRet (cAnd (c2 fEq (c1 (fIsI ["bool"]) (cV 0)) (c1 (fIsI ["bool"]) (cV 1))) (c2 fEq (cV 0) (cV 1)))))
def m__law_alike : Nat → Fn
  | 0 => fun _ => none
  | n + 1 => mkM 2 3 (c__law_alike (m__law_alike n))
def c__law_subsets : M Flow :=
  (sSeq (sAsg 1 (cLst (aF (cLst aNil) aNil)))
  (sSeq (sFor (tgN 2) (rRng1 (cV 0)) (sAsg 1 (c2 fAdd (cV 1) (cLC (tgN 3) [3] (rList (cV 1)) (M.ret true) (c2 fAdd (cV 3) (cLst (aF (cV 2) aNil)))))))
  (sRet (cLC (tgN 3) [3] (rList (cV 1)) (asB (c3 fLt fLt (cC (.int 0)) (c1 fLen (cV 3)) (cV 0))) (cV 3)))))
def m__law_subsets : Fn := mkM 1 4 c__law_subsets
def c__law_right : M Flow :=
  (sSeq (sPar 1 2 cDNewT (c2 fMul (cLst (aF (cC (.int 0)) aNil)) (c2 fSub (cV 0) (cC (.int 1)))))
  (sSeq (sFor (tgN 3) (rList (cCall m__law_all (aF (cV 0) aNil))) (sSeq (sAsg 4 (c1 fTuple (cCall m__law_falls (aF (cV 3) aNil))))
  (sSeq (sDSet 1 (cV 4) (c2 fAdd (cDGet 1 (cV 4) (cC (.int 0))) (cC (.int 1))))
  (sSet 2 (c2 fSub (c1 fLen (cV 4)) (cC (.int 1))) (c2 fAdd (c2 fIx (cV 2) (c2 fSub (c1 fLen (cV 4)) (cC (.int 1)))) (cC (.int 1)))))))
  (sSeq (sFor (tgN 5) (rList (cCall m__law_subsets (aF (cV 0) aNil))) (sSeq (sPar 6 7 (cDGet 1 (c1 fTuple (cV 5)) (cC (.int 0))) (c1 fList (cV 5)))
  (sSeq (sAsg 8 (cLst (aF (cCall m_order_count (aF (cV 0) (aF (cV 5) aNil))) (aF (cCallK m_order_count [1, 0] (aF (cV 5) (aF (cV 0) aNil))) aNil))))
  (sIf (cOrT (cNotT (asB (cCallB (m__law_alike 6) (bC (yL 8) (bC (yLst (bC (yL 6) (bC (yL 6) bNil))) bNil))))) (asB (c2 fNe (cV 5) (cV 7)))) (sRet (cC (.bool false))) sNil))))
  (sSeq (sAsg 9 (cCall m_counts_by_drops (aF (cV 0) aNil)))
  (sSeq (sIf (cNotT (asB (cCallB (m__law_alike 6) (bC (yLst (bC (yL 9) (bC (yF (cCallK m_counts_by_drops [0] (aF (cV 0) aNil))) bNil))) (bC (yLst (bC (yL 2) (bC (yL 2) bNil))) bNil))))) (sRet (cC (.bool false))) sNil)
  (sSeq (sExpr (cMth 9 mReverse aNil))
  (sSeq (sExpr (cMth 9 mAppend (aF (cC .none) aNil)))
  (sRet (cCallB (m__law_alike 6) (bC (yF (cCall m_counts_by_drops (aF (cV 0) aNil))) (bC (yL 2) bNil)))))))))))
def m__law_right : Fn := mkM 1 10 c__law_right
def c_law : M Flow :=
  (sSeq (sAsg 1 (cCall m__law_urn (aL (cV 0) aNil)))
  (sSeq (sAsg 2 (cLst (aF (c2 fAdd (cC (.int 2)) (cCall m__law_draw (aL (cV 1) (aF (cC (.int 4)) aNil)))) (aF (c2 fIx (cLst (aF (cC (.int 6)) (aF (cC (.int 3)) aNil))) (cCall m__law_draw (aL (cV 1) (aF (cC (.int 2)) aNil)))) aNil))))
  (sRet (c2 fEq (cLC (tgN 3) [3] (rList (cV 2)) (cNotT (asB (cCall m__law_right (aF (cV 3) aNil)))) (cV 3)) (cLst aNil)))))
def m_law : Fn := mkM 1 4 c_law
end E


set_option Elab.async false
set_option linter.all false
set_option maxRecDepth 100000
set_option maxHeartbeats 4000000
set_option autoImplicit false
namespace E
open PySem L2 PyProof.Rows
def top (i : Nat) : Stmt := PySem.Challenge.pw_ringrestart_k37_orders_counted_by_listin.main.body.getD i (.Pass ⟨0, 0, 0, 0⟩)
abbrev s_is_integer : Stmt := top 7
theorem sc_is_integer : FnScope ["thing", "least", "most"] ["thing", "least", "most"] (defScope s_is_integer) := ⟨rfl, rfl, rfl, by decide +kernel, rfl, by decide +kernel, by decide +kernel⟩
abbrev s_need_ring : Stmt := top 8
theorem sc_need_ring : FnScope ["n"] ["n"] (defScope s_need_ring) := ⟨rfl, rfl, rfl, by decide +kernel, rfl, by decide +kernel, by decide +kernel⟩
abbrev s_is_server : Stmt := top 9
theorem sc_is_server : FnScope ["n", "thing"] ["n", "thing"] (defScope s_is_server) := ⟨rfl, rfl, rfl, by decide +kernel, rfl, by decide +kernel, by decide +kernel⟩
abbrev s_is_ascending : Stmt := top 10
theorem sc_is_ascending : FnScope ["n", "thing", "server", "one", "other"] ["n", "thing"] (defScope s_is_ascending) := ⟨rfl, rfl, rfl, by decide +kernel, rfl, by decide +kernel, by decide +kernel⟩
abbrev s_are_drops : Stmt := top 11
theorem sc_are_drops : FnScope ["n", "thing"] ["n", "thing"] (defScope s_are_drops) := ⟨rfl, rfl, rfl, by decide +kernel, rfl, by decide +kernel, by decide +kernel⟩
abbrev s_need_drops : Stmt := top 12
theorem sc_need_drops : FnScope ["n", "drops"] ["n", "drops"] (defScope s_need_drops) := ⟨rfl, rfl, rfl, by decide +kernel, rfl, by decide +kernel, by decide +kernel⟩
abbrev s_factorials : Stmt := top 14
theorem sc_factorials : FnScope ["most", "found", "factor"] ["most"] (defScope s_factorials) := ⟨rfl, rfl, rfl, by decide +kernel, rfl, by decide +kernel, by decide +kernel⟩
abbrev s_falls_of : Stmt := top 15
theorem sc_falls_of : FnScope ["n", "drops", "found", "server"] ["n", "drops"] (defScope s_falls_of) := ⟨rfl, rfl, rfl, by decide +kernel, rfl, by decide +kernel, by decide +kernel⟩
abbrev s_row_table : Stmt := top 16
theorem sc_row_table : FnScope ["falls", "n", "table", "first", "ranks", "counts", "size", "sums", "count", "has_fall", "below"] ["falls"] (defScope s_row_table) := ⟨rfl, rfl, rfl, by decide +kernel, rfl, by decide +kernel, by decide +kernel⟩
abbrev s_Progress_init : Stmt := inClass (top 17) 0
theorem sc_Progress_init : FnScope ["self", "falls"] ["self", "falls"] (defScope s_Progress_init) := ⟨rfl, rfl, rfl, by decide +kernel, rfl, by decide +kernel, by decide +kernel⟩
abbrev s_Progress_is_next : Stmt := inClass (top 17) 1
theorem sc_Progress_is_next : FnScope ["self", "server", "place", "size", "behind"] ["self", "server", "place", "size"] (defScope s_Progress_is_next) := ⟨rfl, rfl, rfl, by decide +kernel, rfl, by decide +kernel, by decide +kernel⟩
abbrev s_Progress_next_choices : Stmt := inClass (top 17) 2
theorem sc_Progress_next_choices : FnScope ["self", "n", "starts", "server", "found", "first", "size", "others", "row", "place", "parts"] ["self"] (defScope s_Progress_next_choices) := ⟨rfl, rfl, rfl, by decide +kernel, rfl, by decide +kernel, by decide +kernel⟩
abbrev s_Progress_ways_on : Stmt := inClass (top 17) 3
theorem sc_Progress_ways_on : FnScope ["self", "rows", "found", "first", "size"] ["self", "rows"] (defScope s_Progress_ways_on) := ⟨rfl, rfl, rfl, by decide +kernel, rfl, by decide +kernel, by decide +kernel⟩
abbrev s_count_all : Stmt := top 18
theorem sc_count_all : FnScope ["progress", "server", "rows"] ["progress"] (defScope s_count_all) := ⟨rfl, rfl, rfl, by decide +kernel, rfl, by decide +kernel, by decide +kernel⟩
abbrev s_order_count : Stmt := top 19
theorem sc_order_count : FnScope ["n", "drops"] ["n", "drops"] (defScope s_order_count) := ⟨rfl, rfl, rfl, by decide +kernel, rfl, by decide +kernel, by decide +kernel⟩
abbrev s_counts_by_drops : Stmt := top 20
theorem sc_counts_by_drops : FnScope ["n", "found", "size", "longer", "shorter", "k", "count"] ["n"] (defScope s_counts_by_drops) := ⟨rfl, rfl, rfl, by decide +kernel, rfl, by decide +kernel, by decide +kernel⟩
abbrev s__law_urn : Stmt := top 22
theorem sc__law_urn : FnScope ["script", "digits", "state", "cell"] ["script"] (defScope s__law_urn) := ⟨rfl, rfl, rfl, by decide +kernel, rfl, by decide +kernel, by decide +kernel⟩
abbrev s__law_draw : Stmt := top 23
theorem sc__law_draw : FnScope ["urn", "wide", "digit", "mixed"] ["urn", "wide"] (defScope s__law_draw) := ⟨rfl, rfl, rfl, by decide +kernel, rfl, by decide +kernel, by decide +kernel⟩
abbrev s__law_falls : Stmt := top 25
theorem sc__law_falls : FnScope ["row", "place", "k", "server"] ["row"] (defScope s__law_falls) := ⟨rfl, rfl, rfl, by decide +kernel, rfl, by decide +kernel, by decide +kernel⟩
abbrev s__law_all : Stmt := top 26
theorem sc__law_all : FnScope ["size", "found", "turn", "longer", "row", "server"] ["size"] (defScope s__law_all) := ⟨rfl, rfl, rfl, by decide +kernel, rfl, by decide +kernel, by decide +kernel⟩
abbrev s__law_alike : Stmt := top 27
theorem sc__law_alike : FnScope ["found", "due", "k"] ["found", "due"] (defScope s__law_alike) := ⟨rfl, rfl, rfl, by decide +kernel, rfl, by decide +kernel, by decide +kernel⟩
abbrev s__law_subsets : Stmt := top 28
theorem sc__law_subsets : FnScope ["size", "found", "server", "row"] ["size"] (defScope s__law_subsets) := ⟨rfl, rfl, rfl, by decide +kernel, rfl, by decide +kernel, by decide +kernel⟩
abbrev s__law_right : Stmt := top 29
theorem sc__law_right : FnScope ["size", "counts", "sums", "row", "key", "some", "due", "kept", "told", "found"] ["size"] (defScope s__law_right) := ⟨rfl, rfl, rfl, by decide +kernel, rfl, by decide +kernel, by decide +kernel⟩
abbrev s_law : Stmt := top 30
theorem sc_law : FnScope ["script", "urn", "sizes", "size"] ["script"] (defScope s_law) := ⟨rfl, rfl, rfl, by decide +kernel, rfl, by decide +kernel, by decide +kernel⟩
/-- what the text has made -/
structure Tx (K : PySem.W.Frag) (mg : Str → Option Value) (CP : Addr) : Prop where
  kc_0 : Kc K mg 0 CP
  d_is_integer : Df K mg "is_integer" s_is_integer ["thing", "least", "most"]
  d_need_ring : Df K mg "need_ring" s_need_ring ["n"]
  d_is_server : Df K mg "is_server" s_is_server ["n", "thing"]
  d_is_ascending : Df K mg "is_ascending" s_is_ascending ["n", "thing"]
  d_are_drops : Df K mg "are_drops" s_are_drops ["n", "thing"]
  d_need_drops : Df K mg "need_drops" s_need_drops ["n", "drops"]
  d_factorials : Df K mg "factorials" s_factorials ["most"]
  d_falls_of : Df K mg "falls_of" s_falls_of ["n", "drops"]
  d_row_table : Df K mg "row_table" s_row_table ["falls"]
  d_Progress_init : DfI K CP "Progress.__init__" s_Progress_init ["self", "falls"]
  d_Progress_is_next : DfM K CP "is_next" "Progress.is_next" s_Progress_is_next ["self", "server", "place", "size"]
  d_Progress_next_choices : DfM K CP "next_choices" "Progress.next_choices" s_Progress_next_choices ["self"]
  d_Progress_ways_on : DfM K CP "ways_on" "Progress.ways_on" s_Progress_ways_on ["self", "rows"]
  d_count_all : Df K mg "count_all" s_count_all ["progress"]
  d_order_count : Df K mg "order_count" s_order_count ["n", "drops"]
  d_counts_by_drops : Df K mg "counts_by_drops" s_counts_by_drops ["n"]
  d__law_urn : Df K mg "_law_urn" s__law_urn ["script"]
  d__law_draw : Df K mg "_law_draw" s__law_draw ["urn", "wide"]
  d__law_falls : Df K mg "_law_falls" s__law_falls ["row"]
  d__law_all : Df K mg "_law_all" s__law_all ["size"]
  d__law_alike : Df K mg "_law_alike" s__law_alike ["found", "due"]
  d__law_subsets : Df K mg "_law_subsets" s__law_subsets ["size"]
  d__law_right : Df K mg "_law_right" s__law_right ["size"]
  d_law : Df K mg "law" s_law ["script"]
  g_LEAST_SERVERS : ∃ t, mg "LEAST_SERVERS" = some (.int 2 t)
  g_MOST_SERVERS : ∃ t, mg "MOST_SERVERS" = some (.int 60 t)
  z_abs : mg "abs" = none
  z_all : mg "all" = none
  z_bool : mg "bool" = none
  z_dict : mg "dict" = none
  z_enumerate : mg "enumerate" = none
  z_int : mg "int" = none
  z_isinstance : mg "isinstance" = none
  z_len : mg "len" = none
  z_list : mg "list" = none
  z_range : mg "range" = none
  z_sorted : mg "sorted" = none
  z_sum : mg "sum" = none
  z_tuple : mg "tuple" = none
  z_zip : mg "zip" = none
section
variable {P : Program} {w : World} {K : PySem.W.Frag} {mg : Str → Option Value} {base : Heap} {CP : Addr}
theorem ok_is_integer (T : Tx K mg CP) : Ok P w K mg base 1 "is_integer" s_is_integer ["thing", "least", "most"] m_is_integer :=
  df_ok (k := 0) T.d_is_integer sc_is_integer fun f cdv A outer s H EE hr => (z_cons (z_if (w_or (t_not (t_val (e_isi kt_int (by decide +kernel) (by rfl) T.z_isinstance (by rfl) T.z_int (e_v 0)))) (w_or (t_val (e_isi kt_bool (by decide +kernel) (by rfl) T.z_isinstance (by rfl) T.z_bool (e_v 0))) (w_one' (t_lt (e_v 0) (e_v 1))))).pt (z_one (z_ret e_bl)) z_nil)
  (z_one (z_ret (e_or (e_isN (e_v 2)) (e_one (e_le (e_v 0) (e_v 2)))))))
theorem ok_need_ring (T : Tx K mg CP) : Ok P w K mg base 2 "need_ring" s_need_ring ["n"] m_need_ring :=
  df_ok (k := 1) T.d_need_ring sc_need_ring fun f cdv A outer s H EE hr => (z_one (z_if (t_not (t_val (f_call (ok_is_integer T) hr (by decide) takesB (by rfl) (a_F (e_v 0) (a_F (e_gI T.g_LEAST_SERVERS (by rfl)) (a_F (e_gI T.g_MOST_SERVERS (by rfl)) a_nil)))))) (z_one z_no) z_nil))
theorem ok_is_server (T : Tx K mg CP) : Ok P w K mg base 2 "is_server" s_is_server ["n", "thing"] m_is_server :=
  df_ok (k := 1) T.d_is_server sc_is_server fun f cdv A outer s H EE hr => (z_one (z_ret (f_call (ok_is_integer T) hr (by decide) takesB (by rfl) (a_F (e_v 1) (a_F e_int (a_F (e_sub (e_v 0) e_int) a_nil))))))
theorem ok_is_ascending (T : Tx K mg CP) : Ok P w K mg base 3 "is_ascending" s_is_ascending ["n", "thing"] m_is_ascending :=
  df_ok (k := 2) T.d_is_ascending sc_is_ascending fun f cdv A outer s H EE hr => (z_cons (z_if (w_or (t_not (t_val (e_isi kt_list (by decide +kernel) (by rfl) T.z_isinstance (by rfl) T.z_list (e_v 1)))) (w_one' (t_not (t_val (e_all rfl (by rfl) T.z_all (e_lc rfl sc_is_ascending.nd (pi_list (e_v 1)) (blk_of (own := [("server", 2)]) (by rfl)) (src_list tgN_ok) (by decide) (fun _ _ _ _ _ => (pg_name (i := 2) sc_is_ascending.nd rfl (by first | exact Or.inl rfl | exact Or.inr rfl))) (fun _ _ _ _ _ => u_nil) (fun _ _ _ _ _ => (f_call (ok_is_server T) hr (by decide) takes0 (by rfl) (a_F (e_v 0) (a_F (e_v 2) a_nil)))))))))).pt (z_one (z_ret e_bl)) z_nil)
  (z_one (z_ret (e_all rfl (by rfl) T.z_all (e_lc rfl sc_is_ascending.nd (pi_zip (by rfl) T.z_zip (pa_cons (e_v 1) (pa_cons (e_sl (e_v 1) (o_some e_int) o_none) pa_nil))) (blk_of (own := [("one", 3), ("other", 4)]) (by rfl)) (src_zip (tgT_ok2 (is := [3, 4]))) (by decide) (fun _ _ _ _ _ => (pg_tup rfl (pgs_cons (pg_name (i := 3) sc_is_ascending.nd rfl (by first | exact Or.inl rfl | exact Or.inr rfl)) (pgs_cons (pg_name (i := 4) sc_is_ascending.nd rfl (by first | exact Or.inl rfl | exact Or.inr rfl)) pgs_nil)))) (fun _ _ _ _ _ => u_nil) (fun _ _ _ _ _ => (e_lt (e_v 3) (e_v 4))))))))
theorem ok_are_drops (T : Tx K mg CP) : Ok P w K mg base 4 "are_drops" s_are_drops ["n", "thing"] m_are_drops :=
  df_ok (k := 3) T.d_are_drops sc_are_drops fun f cdv A outer s H EE hr => (z_one (z_ret (e_and (f_call (ok_is_ascending T) hr (by decide) takesB (by rfl) (a_F (e_v 0) (a_F (e_v 1) a_nil))) (e_one (e_chain op_le op_lt sndB_I sLt e_int (e_len (by rfl) T.z_len (e_v 1)) (e_v 0))))))
theorem ok_need_drops (T : Tx K mg CP) : Ok P w K mg base 5 "need_drops" s_need_drops ["n", "drops"] m_need_drops :=
  df_ok (k := 4) T.d_need_drops sc_need_drops fun f cdv A outer s H EE hr => (z_one (z_if (t_not (t_val (f_call (ok_are_drops T) hr (by decide) takesB (by rfl) (a_F (e_v 0) (a_F (e_v 1) a_nil))))) (z_one z_no) z_nil))
theorem ok_factorials (T : Tx K mg CP) : Ok P w K mg base 1 "factorials" s_factorials ["most"] m_factorials :=
  df_ok (k := 0) T.d_factorials sc_factorials fun f cdv A outer s H EE hr => (z_cons (z_asg 1 sc_factorials.nd rfl (by first | exact Or.inl rfl | exact Or.inr rfl) (e_lst (a_F e_int a_nil)))
  (z_cons (z_for (is := [2]) passesB rfl (pi_range2 (by rfl) T.z_range (pa_cons e_int (pa_cons (e_add (e_v 0) e_int) pa_nil))) (pg_name (i := 2) sc_factorials.nd rfl (by first | exact Or.inl rfl | exact Or.inr rfl)) (src_rng2 tgN_ok) (z_one (z_expr (e_mth 1 sAppend PySem.F.slot_list_append PySem.F.type_list_append mt_append rfl (by first | exact Or.inl rfl | exact Or.inr (Or.inl rfl) | exact Or.inr (Or.inr rfl)) (a_F (e_mul (e_ix (e_v 1) (e_neg e_int)) (e_v 2)) a_nil)))))
  (z_one (z_ret (e_v 1)))))
theorem ok_falls_of (T : Tx K mg CP) : Ok P w K mg base 1 "falls_of" s_falls_of ["n", "drops"] m_falls_of :=
  df_ok (k := 0) T.d_falls_of sc_falls_of fun f cdv A outer s H EE hr => (z_cons (z_asg 2 sc_falls_of.nd rfl (by first | exact Or.inl rfl | exact Or.inr rfl) (e_mul (e_lst (a_F e_bl a_nil)) (e_v 0)))
  (z_cons (z_for (is := [3]) passesB rfl (pi_list (e_v 1)) (pg_name (i := 3) sc_falls_of.nd rfl (by first | exact Or.inl rfl | exact Or.inr rfl)) (src_list tgN_ok) (z_one (z_set (k := 2) (pg_sub (pe_var (i := 2) rfl (by first | exact Or.inl rfl | exact Or.inr (Or.inl rfl) | exact Or.inr (Or.inr rfl))) (e_v 3) set_list) e_bl)))
  (z_one (z_ret (e_v 2)))))
theorem ok_row_table (T : Tx K mg CP) : Ok P w K mg base 1 "row_table" s_row_table ["falls"] m_row_table :=
  df_ok (k := 0) T.d_row_table sc_row_table fun f cdv A outer s H EE hr => (z_cons (z_asg 1 sc_row_table.nd rfl (by first | exact Or.inl rfl | exact Or.inr rfl) (e_len (by rfl) T.z_len (e_v 0)))
  (z_cons (z_asg 2 sc_row_table.nd rfl (by first | exact Or.inl rfl | exact Or.inr rfl) (e_lst a_nil))
  (z_cons (z_for (is := [3]) passesB rfl (pi_range1 (by rfl) T.z_range (pa_cons (e_v 1) pa_nil)) (pg_name (i := 3) sc_row_table.nd rfl (by first | exact Or.inl rfl | exact Or.inr rfl)) (src_rng1 tgN_ok) (z_cons (z_asg 4 sc_row_table.nd rfl (by first | exact Or.inl rfl | exact Or.inr rfl) (e_lst (a_F e_int a_nil)))
  (z_cons (z_asg 5 sc_row_table.nd rfl (by first | exact Or.inl rfl | exact Or.inr rfl) (e_lst (a_F e_int (a_F e_int a_nil))))
  (z_cons (z_for (is := [6]) passesB rfl (pi_range2 (by rfl) T.z_range (pa_cons e_int (pa_cons (e_v 1) pa_nil))) (pg_name (i := 6) sc_row_table.nd rfl (by first | exact Or.inl rfl | exact Or.inr rfl)) (src_rng2 tgN_ok) (z_cons (z_asg 7 sc_row_table.nd rfl (by first | exact Or.inl rfl | exact Or.inr rfl) (e_lst (a_F e_int a_nil)))
  (z_cons (z_for (is := [8]) passesB rfl (pi_list (e_v 4)) (pg_name (i := 8) sc_row_table.nd rfl (by first | exact Or.inl rfl | exact Or.inr rfl)) (src_list tgN_ok) (z_one (z_expr (e_mth 7 sAppend PySem.F.slot_list_append PySem.F.type_list_append mt_append rfl (by first | exact Or.inl rfl | exact Or.inr (Or.inl rfl) | exact Or.inr (Or.inr rfl)) (a_F (e_add (e_ix (e_v 7) (e_neg e_int)) (e_v 8)) a_nil)))))
  (z_cons (z_asg 9 sc_row_table.nd rfl (by first | exact Or.inl rfl | exact Or.inr rfl) (e_ix (e_v 0) (e_mod (e_sub (e_add (e_v 3) (e_v 6)) e_int) (e_v 1))))
  (z_cons (z_asgLc (i := 4) rfl sc_row_table.nd rfl rfl (by rfl) (pi_list (e_v 7)) (blk_of (own := [("below", 10)]) (by rfl)) (src_list tgN_ok) (by decide) (fun _ _ _ _ _ => (pg_name (i := 10) sc_row_table.nd rfl (by first | exact Or.inl rfl | exact Or.inr rfl))) (fun _ _ _ _ _ => u_nil) (fun _ _ _ _ _ => (e_if (t_val (e_v 9)) (e_sub (e_ix (e_v 7) (e_neg e_int)) (e_v 10)) (e_v 10))))
  (z_one (z_expr (e_mth 5 sAppend PySem.F.slot_list_append PySem.F.type_list_append mt_append rfl (by first | exact Or.inl rfl | exact Or.inr (Or.inl rfl) | exact Or.inr (Or.inr rfl)) (a_F (e_sum rfl (by rfl) T.z_sum (e_v 4)) a_nil)))))))))
  (z_one (z_expr (e_mth 2 sAppend PySem.F.slot_list_append PySem.F.type_list_append mt_append rfl (by first | exact Or.inl rfl | exact Or.inr (Or.inl rfl) | exact Or.inr (Or.inr rfl)) (a_F (e_v 5) a_nil))))))))
  (z_one (z_ret (e_v 2))))))
theorem ok_Progress_init (T : Tx K mg CP) : OkI P w K mg base 2 CP ["self", "falls"] m_Progress_init :=
  dfI_ok (k := 1) T.d_Progress_init sc_Progress_init fun f cdv A outer s H EE hr => (z_cons (z_fld 0 0 0 T.kc_0 rfl rfl (by first | exact Or.inl rfl | exact Or.inr (Or.inl rfl) | exact Or.inr (Or.inr rfl)) (e_v 1))
  (z_cons (z_fld 0 0 1 T.kc_0 rfl rfl (by first | exact Or.inl rfl | exact Or.inr (Or.inl rfl) | exact Or.inr (Or.inr rfl)) (f_call (ok_row_table T) hr (by decide) takesB (by rfl) (a_F (e_v 1) a_nil)))
  (z_cons (z_fld 0 0 2 T.kc_0 rfl rfl (by first | exact Or.inl rfl | exact Or.inr (Or.inl rfl) | exact Or.inr (Or.inr rfl)) (f_call (ok_factorials T) hr (by decide) takesB (by rfl) (a_F (e_len (by rfl) T.z_len (e_v 1)) a_nil)))
  (z_one (z_fld 0 0 3 T.kc_0 rfl rfl (by first | exact Or.inl rfl | exact Or.inr (Or.inl rfl) | exact Or.inr (Or.inr rfl)) e_non)))))
theorem ok_Progress_is_next (T : Tx K mg CP) : OkM P w K mg base 1 CP "is_next" ["self", "server", "place", "size"] m_Progress_is_next :=
  dfM_ok (k := 0) T.d_Progress_is_next sc_Progress_is_next fun f cdv A outer s H EE hr => (z_cons (z_asg 4 sc_Progress_is_next.nd rfl (by first | exact Or.inl rfl | exact Or.inr rfl) (e_mod (e_add (e_v 1) e_int) (e_len (by rfl) T.z_len (e_fld 0 0 0 T.kc_0 rfl rfl (by first | exact Or.inl rfl | exact Or.inr (Or.inl rfl) | exact Or.inr (Or.inr rfl))))))
  (z_one (z_ret (e_and (e_or (e_eq hr.units (e_v 2) e_int) (e_one (e_ix (e_fld 0 0 0 T.kc_0 rfl rfl (by first | exact Or.inl rfl | exact Or.inr (Or.inl rfl) | exact Or.inr (Or.inr rfl))) (e_v 1)))) (e_one (e_or (e_eq hr.units (e_v 2) (e_sub (e_v 3) e_int)) (e_one (e_not (e_ix (e_fld 0 0 0 T.kc_0 rfl rfl (by first | exact Or.inl rfl | exact Or.inr (Or.inl rfl) | exact Or.inr (Or.inr rfl))) (e_v 4))))))))))
theorem ok_Progress_next_choices (T : Tx K mg CP) : OkM P w K mg base 2 CP "next_choices" ["self"] m_Progress_next_choices :=
  dfM_ok (k := 1) T.d_Progress_next_choices sc_Progress_next_choices fun f cdv A outer s H EE hr => (z_cons (z_asg 1 sc_Progress_next_choices.nd rfl (by first | exact Or.inl rfl | exact Or.inr rfl) (e_len (by rfl) T.z_len (e_fld 0 0 0 T.kc_0 rfl rfl (by first | exact Or.inl rfl | exact Or.inr (Or.inl rfl) | exact Or.inr (Or.inr rfl)))))
  (z_cons (z_if (t_isN (e_fld 0 0 3 T.kc_0 rfl rfl (by first | exact Or.inl rfl | exact Or.inr (Or.inl rfl) | exact Or.inr (Or.inr rfl)))) (z_cons (z_asgLc (i := 2) rfl sc_Progress_next_choices.nd rfl rfl (by rfl) (pi_range1 (by rfl) T.z_range (pa_cons (e_v 1) pa_nil)) (blk_of (own := [("server", 3)]) (by rfl)) (src_rng1 tgN_ok) (by decide) (fun _ _ _ _ _ => (pg_name (i := 3) sc_Progress_next_choices.nd rfl (by first | exact Or.inl rfl | exact Or.inr rfl))) (fun _ _ _ _ _ => (u_one (w_and (t_val (e_ix (e_fld 0 0 0 T.kc_0 rfl rfl (by first | exact Or.inl rfl | exact Or.inr (Or.inl rfl) | exact Or.inr (Or.inr rfl))) (e_v 3))) (w_one (t_not (t_val (e_ix (e_fld 0 0 0 T.kc_0 rfl rfl (by first | exact Or.inl rfl | exact Or.inr (Or.inl rfl) | exact Or.inr (Or.inr rfl))) (e_mod (e_add (e_v 3) e_int) (e_v 1))))))).pt)) (fun _ _ _ _ _ => (e_v 3)))
  (z_one (z_ret (e_lc rfl sc_Progress_next_choices.nd (pi_list (e_v 2)) (blk_of (own := [("server", 3)]) (by rfl)) (src_list tgN_ok) (by decide) (fun _ _ _ _ _ => (pg_name (i := 3) sc_Progress_next_choices.nd rfl (by first | exact Or.inl rfl | exact Or.inr rfl))) (fun _ _ _ _ _ => u_nil) (fun _ _ _ _ _ => (e_tup (a_F (e_v 3) (a_F (e_lst (a_F (e_tup (a_F (e_mod (e_add (e_v 3) e_int) (e_v 1)) (a_F (e_sub (e_v 1) e_int) a_nil))) a_nil)) a_nil)))))))) z_nil)
  (z_cons (z_asg 4 sc_Progress_next_choices.nd rfl (by first | exact Or.inl rfl | exact Or.inr rfl) (e_lst a_nil))
  (z_cons (z_for (is := [5, 6]) passesB rfl (pi_list (e_fld 0 0 3 T.kc_0 rfl rfl (by first | exact Or.inl rfl | exact Or.inr (Or.inl rfl) | exact Or.inr (Or.inr rfl)))) (pg_tup rfl (pgs_cons (pg_name (i := 5) sc_Progress_next_choices.nd rfl (by first | exact Or.inl rfl | exact Or.inr rfl)) (pgs_cons (pg_name (i := 6) sc_Progress_next_choices.nd rfl (by first | exact Or.inl rfl | exact Or.inr rfl)) pgs_nil))) (src_list (tgT_ok (is := [5, 6]))) (z_cons (z_asgLc (i := 7) rfl sc_Progress_next_choices.nd rfl rfl (by rfl) (pi_list (e_fld 0 0 3 T.kc_0 rfl rfl (by first | exact Or.inl rfl | exact Or.inr (Or.inl rfl) | exact Or.inr (Or.inr rfl)))) (blk_of (own := [("row", 8)]) (by rfl)) (src_list tgN_ok) (by decide) (fun _ _ _ _ _ => (pg_name (i := 8) sc_Progress_next_choices.nd rfl (by first | exact Or.inl rfl | exact Or.inr rfl))) (fun _ _ _ _ _ => (u_one (t_ne hr.units (e_ix (e_v 8) e_int) (e_v 5)))) (fun _ _ _ _ _ => (e_v 8)))
  (z_one (z_for (is := [9]) passesB rfl (pi_range1 (by rfl) T.z_range (pa_cons (e_v 6) pa_nil)) (pg_name (i := 9) sc_Progress_next_choices.nd rfl (by first | exact Or.inl rfl | exact Or.inr rfl)) (src_rng1 tgN_ok) (z_cons (z_asg 3 sc_Progress_next_choices.nd rfl (by first | exact Or.inl rfl | exact Or.inr rfl) (e_mod (e_add (e_v 5) (e_v 9)) (e_v 1)))
  (z_one (z_if (t_val (f_meth 0 0 T.kc_0 (ok_Progress_is_next T) (by decide +kernel) hr (by decide) takesB rfl (by first | exact Or.inl rfl | exact Or.inr (Or.inl rfl) | exact Or.inr (Or.inr rfl)) (a_F (e_v 3) (a_F (e_v 9) (a_F (e_v 6) a_nil))))) (z_cons (z_asg 10 sc_Progress_next_choices.nd rfl (by first | exact Or.inl rfl | exact Or.inr rfl) (e_lst (a_F (e_tup (a_F (e_v 5) (a_F (e_v 9) a_nil))) (a_F (e_tup (a_F (e_mod (e_add (e_v 3) e_int) (e_v 1)) (a_F (e_sub (e_sub (e_v 6) e_int) (e_v 9)) a_nil))) a_nil))))
  (z_one (z_expr (e_mth 4 sAppend PySem.F.slot_list_append PySem.F.type_list_append mt_append rfl (by first | exact Or.inl rfl | exact Or.inr (Or.inl rfl) | exact Or.inr (Or.inr rfl)) (a_F (e_tup (a_F (e_v 3) (a_F (e_add (e_v 7) (e_lc rfl sc_Progress_next_choices.nd (pi_list (e_v 10)) (blk_of (own := [("row", 8)]) (by rfl)) (src_list tgN_ok) (by decide) (fun _ _ _ _ _ => (pg_name (i := 8) sc_Progress_next_choices.nd rfl (by first | exact Or.inl rfl | exact Or.inr rfl))) (fun _ _ _ _ _ => (u_one (t_gt (e_ix (e_v 8) e_int) e_int))) (fun _ _ _ _ _ => (e_v 8)))) a_nil))) a_nil))))) z_nil)))))))
  (z_one (z_ret (e_sorted (by rfl) T.z_sorted (e_v 4))))))))
theorem ok_Progress_ways_on (T : Tx K mg CP) : OkM P w K mg base 1 CP "ways_on" ["self", "rows"] m_Progress_ways_on :=
  dfM_ok (k := 0) T.d_Progress_ways_on sc_Progress_ways_on fun f cdv A outer s H EE hr => (z_cons (z_asg 2 sc_Progress_ways_on.nd rfl (by first | exact Or.inl rfl | exact Or.inr rfl) (e_ix (e_fld 0 0 2 T.kc_0 rfl rfl (by first | exact Or.inl rfl | exact Or.inr (Or.inl rfl) | exact Or.inr (Or.inr rfl))) (e_sum rfl (by rfl) T.z_sum (e_lc rfl sc_Progress_ways_on.nd (pi_list (e_v 1)) (blk_of (own := [("first", 3), ("size", 4)]) (by rfl)) (src_list (tgT_ok (is := [3, 4]))) (by decide) (fun _ _ _ _ _ => (pg_tup rfl (pgs_cons (pg_name (i := 3) sc_Progress_ways_on.nd rfl (by first | exact Or.inl rfl | exact Or.inr rfl)) (pgs_cons (pg_name (i := 4) sc_Progress_ways_on.nd rfl (by first | exact Or.inl rfl | exact Or.inr rfl)) pgs_nil)))) (fun _ _ _ _ _ => u_nil) (fun _ _ _ _ _ => (e_v 4))))))
  (z_cons (z_for (is := [3, 4]) passesB rfl (pi_list (e_v 1)) (pg_tup rfl (pgs_cons (pg_name (i := 3) sc_Progress_ways_on.nd rfl (by first | exact Or.inl rfl | exact Or.inr rfl)) (pgs_cons (pg_name (i := 4) sc_Progress_ways_on.nd rfl (by first | exact Or.inl rfl | exact Or.inr rfl)) pgs_nil))) (src_list (tgT_ok (is := [3, 4]))) (z_one (z_asg 2 sc_Progress_ways_on.nd rfl (by first | exact Or.inl rfl | exact Or.inr rfl) (e_mul (e_div (e_v 2) (e_ix (e_fld 0 0 2 T.kc_0 rfl rfl (by first | exact Or.inl rfl | exact Or.inr (Or.inl rfl) | exact Or.inr (Or.inr rfl))) (e_v 4))) (e_ix (e_ix (e_fld 0 0 1 T.kc_0 rfl rfl (by first | exact Or.inl rfl | exact Or.inr (Or.inl rfl) | exact Or.inr (Or.inr rfl))) (e_v 3)) (e_v 4))))))
  (z_one (z_ret (e_v 2)))))
theorem ok_count_all (T : Tx K mg CP) : Ok P w K mg base 3 "count_all" s_count_all ["progress"] m_count_all :=
  df_ok (k := 2) T.d_count_all sc_count_all fun f cdv A outer s H EE hr => (z_one (z_ret (e_sum rfl (by rfl) T.z_sum (e_lc rfl sc_count_all.nd (pi_list (f_meth0 0 0 T.kc_0 (ok_Progress_next_choices T) (by decide +kernel) hr (by decide) takesB rfl (by first | exact Or.inl rfl | exact Or.inr (Or.inl rfl) | exact Or.inr (Or.inr rfl)))) (blk_of (own := [("server", 1), ("rows", 2)]) (by rfl)) (src_list (tgT_ok (is := [1, 2]))) (by decide) (fun _ _ _ _ _ => (pg_tup rfl (pgs_cons (pg_name (i := 1) sc_count_all.nd rfl (by first | exact Or.inl rfl | exact Or.inr rfl)) (pgs_cons (pg_name (i := 2) sc_count_all.nd rfl (by first | exact Or.inl rfl | exact Or.inr rfl)) pgs_nil)))) (fun _ _ _ _ _ => u_nil) (fun _ _ _ _ _ => (f_meth 0 0 T.kc_0 (ok_Progress_ways_on T) (by decide +kernel) hr (by decide) takes0 rfl (by first | exact Or.inl rfl | exact Or.inr (Or.inl rfl) | exact Or.inr (Or.inr rfl)) (a_F (e_v 2) a_nil)))))))
theorem ok_order_count (T : Tx K mg CP) : Ok P w K mg base 6 "order_count" s_order_count ["n", "drops"] m_order_count :=
  df_ok (k := 5) T.d_order_count sc_order_count fun f cdv A outer s H EE hr => (z_cons (z_expr (f_call (ok_need_ring T) hr (by decide) takesB (by rfl) (a_F (e_v 0) a_nil)))
  (z_cons (z_expr (f_call (ok_need_drops T) hr (by decide) takesB (by rfl) (a_F (e_v 0) (a_F (e_v 1) a_nil))))
  (z_one (z_ret (f_callN (ok_count_all T) hr (by decide) takesB (by rfl) (f_make 0 T.kc_0 (ok_Progress_init T) hr (by decide) takesB rfl (by rfl) (a_F (f_call (ok_falls_of T) hr (by decide) takesB (by rfl) (a_F (e_v 0) (a_F (e_v 1) a_nil))) a_nil)))))))
theorem okk_order_count_drops_n (T : Tx K mg CP) : OkK P w K mg base 6 "order_count" ["n", "drops"] ["drops", "n"] [1, 0] m_order_count :=
  (ok_order_count T).kw (by decide) fun _ _ _ _ _ _ ws hl => match ws, hl with | _ :: _ :: _, _ => rfl | [], hl => absurd hl (by simp [permL]) | [_], hl => absurd hl (by simp [permL])
theorem ok_counts_by_drops (T : Tx K mg CP) : Ok P w K mg base 3 "counts_by_drops" s_counts_by_drops ["n"] m_counts_by_drops :=
  df_ok (k := 2) T.d_counts_by_drops sc_counts_by_drops fun f cdv A outer s H EE hr => (z_cons (z_expr (f_call (ok_need_ring T) hr (by decide) takesB (by rfl) (a_F (e_v 0) a_nil)))
  (z_cons (z_asg 1 sc_counts_by_drops.nd rfl (by first | exact Or.inl rfl | exact Or.inr rfl) (e_lst (a_F e_int a_nil)))
  (z_cons (z_for (is := [2]) passesB rfl (pi_range2 (by rfl) T.z_range (pa_cons e_int (pa_cons (e_v 0) pa_nil))) (pg_name (i := 2) sc_counts_by_drops.nd rfl (by first | exact Or.inl rfl | exact Or.inr rfl)) (src_rng2 tgN_ok) (z_cons (z_asg 3 sc_counts_by_drops.nd rfl (by first | exact Or.inl rfl | exact Or.inr rfl) (e_add (e_v 1) (e_lst (a_F e_int a_nil))))
  (z_cons (z_asg 4 sc_counts_by_drops.nd rfl (by first | exact Or.inl rfl | exact Or.inr rfl) (e_add (e_lst (a_F e_int a_nil)) (e_v 1)))
  (z_one (z_asgLc (i := 1) rfl sc_counts_by_drops.nd rfl rfl (by rfl) (pi_range1 (by rfl) T.z_range (pa_cons (e_v 2) pa_nil)) (blk_of (own := [("k", 5)]) (by rfl)) (src_rng1 tgN_ok) (by decide) (fun _ _ _ _ _ => (pg_name (i := 5) sc_counts_by_drops.nd rfl (by first | exact Or.inl rfl | exact Or.inr rfl))) (fun _ _ _ _ _ => u_nil) (fun _ _ _ _ _ => (e_add (e_mul (e_add (e_v 5) e_int) (e_ix (e_v 3) (e_v 5))) (e_mul (e_sub (e_v 2) (e_v 5)) (e_ix (e_v 4) (e_v 5))))))))))
  (z_one (z_ret (e_lc rfl sc_counts_by_drops.nd (pi_list (e_v 1)) (blk_of (own := [("count", 6)]) (by rfl)) (src_list tgN_ok) (by decide) (fun _ _ _ _ _ => (pg_name (i := 6) sc_counts_by_drops.nd rfl (by first | exact Or.inl rfl | exact Or.inr rfl))) (fun _ _ _ _ _ => u_nil) (fun _ _ _ _ _ => (e_mul (e_v 0) (e_v 6)))))))))
theorem okk_counts_by_drops_n (T : Tx K mg CP) : OkK P w K mg base 3 "counts_by_drops" ["n"] ["n"] [0] m_counts_by_drops :=
  (ok_counts_by_drops T).kw (by decide) fun _ _ _ _ _ _ ws hl => match ws, hl with | _ :: _, _ => rfl | [], hl => absurd hl (by simp [permL])
theorem ok__law_urn (T : Tx K mg CP) : Ok P w K mg base 1 "_law_urn" s__law_urn ["script"] m__law_urn :=
  df_ok (k := 0) T.d__law_urn sc__law_urn fun f cdv A outer s H EE hr => (z_cons (z_tup (is := [1, 2]) (pg_tup rfl (pgs_cons (pg_name (i := 1) sc__law_urn.nd rfl (by first | exact Or.inl rfl | exact Or.inr rfl)) (pgs_cons (pg_name (i := 2) sc__law_urn.nd rfl (by first | exact Or.inl rfl | exact Or.inr rfl)) pgs_nil))) (e_tup (a_F e_int (a_F e_int a_nil))))
  (z_cons (z_for (is := [3]) passesB rfl (pi_list (e_sl (e_v 0) o_none (o_some e_int))) (pg_name (i := 3) sc__law_urn.nd rfl (by first | exact Or.inl rfl | exact Or.inr rfl)) (src_list tgN_ok) (z_cons (z_if (t_ge (e_abs (by rfl) T.z_abs (e_v 3)) (e_pow e_int e_int)) (z_one (z_asg 1 sc__law_urn.nd rfl (by first | exact Or.inl rfl | exact Or.inr rfl) (e_add (e_mul (e_v 1) (e_pow (e_pow e_int e_int) e_int)) (e_mod (e_abs (by rfl) T.z_abs (e_v 3)) (e_pow (e_pow e_int e_int) e_int))))) z_nil)
  (z_one (z_asg 2 sc__law_urn.nd rfl (by first | exact Or.inl rfl | exact Or.inr rfl) (e_mod (e_add (e_add (e_mul (e_v 2) e_int) (e_mod (e_v 3) e_int)) e_int) e_int)))))
  (z_one (z_ret (e_lst (a_F (e_v 1) (a_F (e_v 2) (a_F e_int a_nil))))))))
theorem ok__law_draw (T : Tx K mg CP) : Ok P w K mg base 1 "_law_draw" s__law_draw ["urn", "wide"] m__law_draw :=
  df_ok (k := 0) T.d__law_draw sc__law_draw fun f cdv A outer s H EE hr => (z_cons (z_if (t_gt (e_ix (e_v 0) e_int) e_int) (z_cons (z_asg 2 sc__law_draw.nd rfl (by first | exact Or.inl rfl | exact Or.inr rfl) (e_mod (e_ix (e_v 0) e_int) (e_v 1)))
  (z_cons (z_set (k := 0) (pg_sub (pe_var (i := 0) rfl (by first | exact Or.inl rfl | exact Or.inr (Or.inl rfl) | exact Or.inr (Or.inr rfl))) e_int set_list) (e_div (e_ix (e_v 0) e_int) (e_v 1)))
  (z_one (z_ret (e_v 2))))) z_nil)
  (z_cons (z_set (k := 0) (pg_sub (pe_var (i := 0) rfl (by first | exact Or.inl rfl | exact Or.inr (Or.inl rfl) | exact Or.inr (Or.inr rfl))) e_int set_list) (e_add (e_ix (e_v 0) e_int) e_int))
  (z_cons (z_asg 3 sc__law_draw.nd rfl (by first | exact Or.inl rfl | exact Or.inr rfl) (e_mod (e_add (e_ix (e_v 0) e_int) (e_mul e_int (e_ix (e_v 0) e_int))) e_int))
  (z_cons (z_asg 3 sc__law_draw.nd rfl (by first | exact Or.inl rfl | exact Or.inr rfl) (e_mod (e_mul (e_v 3) (e_v 3)) e_int))
  (z_cons (z_asg 3 sc__law_draw.nd rfl (by first | exact Or.inl rfl | exact Or.inr rfl) (e_mod (e_add (e_mul (e_v 3) e_int) (e_mul (e_ix (e_v 0) e_int) (e_ix (e_v 0) e_int))) e_int))
  (z_one (z_ret (e_mod (e_div (e_mod (e_mul (e_v 3) (e_v 3)) e_int) e_int) (e_v 1)))))))))
theorem ok__law_falls (T : Tx K mg CP) : Ok P w K mg base 1 "_law_falls" s__law_falls ["row"] m__law_falls :=
  df_ok (k := 0) T.d__law_falls sc__law_falls fun f cdv A outer s H EE hr => (z_cons (z_asg 1 sc__law_falls.nd rfl (by first | exact Or.inl rfl | exact Or.inr rfl) (e_dict rfl (by rfl) T.z_dict (e_lc rfl sc__law_falls.nd (pi_enum (by rfl) T.z_enumerate (pa_cons (e_v 0) pa_nil)) (blk_of (own := [("k", 2), ("server", 3)]) (by rfl)) (src_enum (tgT_ok2 (is := [2, 3]))) (by decide) (fun _ _ _ _ _ => (pg_tup rfl (pgs_cons (pg_name (i := 2) sc__law_falls.nd rfl (by first | exact Or.inl rfl | exact Or.inr rfl)) (pgs_cons (pg_name (i := 3) sc__law_falls.nd rfl (by first | exact Or.inl rfl | exact Or.inr rfl)) pgs_nil)))) (fun _ _ _ _ _ => u_nil) (fun _ _ _ _ _ => (e_tup (a_F (e_v 3) (a_F (e_v 2) a_nil)))))))
  (z_one (z_ret (e_lc rfl sc__law_falls.nd (pi_range1 (by rfl) T.z_range (pa_cons (e_len (by rfl) T.z_len (e_v 0)) pa_nil)) (blk_of (own := [("server", 3)]) (by rfl)) (src_rng1 tgN_ok) (by decide) (fun _ _ _ _ _ => (pg_name (i := 3) sc__law_falls.nd rfl (by first | exact Or.inl rfl | exact Or.inr rfl))) (fun _ _ _ _ _ => (u_one (t_lt (e_dix 1 (L2.hu_of hr) rfl (by first | exact Or.inl rfl | exact Or.inr (Or.inl rfl) | exact Or.inr (Or.inr rfl)) (e_v 3)) (e_dix 1 (L2.hu_of hr) rfl (by first | exact Or.inl rfl | exact Or.inr (Or.inl rfl) | exact Or.inr (Or.inr rfl)) (e_mod (e_sub (e_v 3) e_int) (e_len (by rfl) T.z_len (e_v 0))))))) (fun _ _ _ _ _ => (e_v 3))))))
theorem ok__law_all (T : Tx K mg CP) : Ok P w K mg base 1 "_law_all" s__law_all ["size"] m__law_all :=
  df_ok (k := 0) T.d__law_all sc__law_all fun f cdv A outer s H EE hr => (z_cons (z_asg 1 sc__law_all.nd rfl (by first | exact Or.inl rfl | exact Or.inr rfl) (e_lst (a_F (e_lst a_nil) a_nil)))
  (z_cons (z_for (is := [2]) passesB rfl (pi_range1 (by rfl) T.z_range (pa_cons (e_v 0) pa_nil)) (pg_name (i := 2) sc__law_all.nd rfl (by first | exact Or.inl rfl | exact Or.inr rfl)) (src_rng1 tgN_ok) (z_cons (z_asg 3 sc__law_all.nd rfl (by first | exact Or.inl rfl | exact Or.inr rfl) (e_lst a_nil))
  (z_cons (z_for (is := [4]) passesB rfl (pi_list (e_v 1)) (pg_name (i := 4) sc__law_all.nd rfl (by first | exact Or.inl rfl | exact Or.inr rfl)) (src_list tgN_ok) (z_one (z_expr (e_mth 3 sExtend PySem.F.slot_list_extend PySem.F.type_list_extend mt_extend rfl (by first | exact Or.inl rfl | exact Or.inr (Or.inl rfl) | exact Or.inr (Or.inr rfl)) (a_F (e_lc rfl sc__law_all.nd (pi_range1 (by rfl) T.z_range (pa_cons (e_v 0) pa_nil)) (blk_of (own := [("server", 5)]) (by rfl)) (src_rng1 tgN_ok) (by decide) (fun _ _ _ _ _ => (pg_name (i := 5) sc__law_all.nd rfl (by first | exact Or.inl rfl | exact Or.inr rfl))) (fun _ _ _ _ _ => (u_one (t_notin hr (e_v 5) (e_v 4)))) (fun _ _ _ _ _ => (e_add (e_v 4) (e_lst (a_F (e_v 5) a_nil))))) a_nil)))))
  (z_one (z_asg 1 sc__law_all.nd rfl (by first | exact Or.inl rfl | exact Or.inr rfl) (e_v 3))))))
  (z_one (z_ret (e_v 1)))))
theorem ok__law_alike (T : Tx K mg CP) : ∀ n : Nat, Ok P w K mg base (n + 1) "_law_alike" s__law_alike ["found", "due"] (m__law_alike n)
  | 0 => df_none T.d__law_alike
  | n + 1 => by
    have ih := ok__law_alike T n
    exact df_ok (k := n + 1) T.d__law_alike sc__law_alike fun f cdv A outer s H EE hr => (z_cons (z_if (t_val (e_isi2 kt_list kt_tuple (by decide +kernel) (by decide +kernel) (by rfl) T.z_isinstance (by rfl) T.z_list (by rfl) T.z_tuple (e_v 1))) (z_cons (z_if (w_or (t_not (t_val (e_isi2 kt_list kt_tuple (by decide +kernel) (by decide +kernel) (by rfl) T.z_isinstance (by rfl) T.z_list (by rfl) T.z_tuple (e_v 0)))) (w_one' (t_ne hr.units (e_isi kt_list (by decide +kernel) (by rfl) T.z_isinstance (by rfl) T.z_list (e_v 0)) (e_isi kt_list (by decide +kernel) (by rfl) T.z_isinstance (by rfl) T.z_list (e_v 1))))).pt (z_one (z_ret e_bl)) z_nil)
  (z_one (z_ret (e_and (e_eq hr.units (e_len (by rfl) T.z_len (e_v 0)) (e_len (by rfl) T.z_len (e_v 1))) (e_one (e_all rfl (by rfl) T.z_all (e_lc rfl sc__law_alike.nd (pi_range1 (by rfl) T.z_range (pa_cons (e_len (by rfl) T.z_len (e_v 1)) pa_nil)) (blk_of (own := [("k", 2)]) (by rfl)) (src_rng1 tgN_ok) (by decide) (fun _ _ _ _ _ => (pg_name (i := 2) sc__law_alike.nd rfl (by first | exact Or.inl rfl | exact Or.inr rfl))) (fun _ _ _ _ _ => u_nil) (fun _ _ _ _ _ => (f_callB ih hr (by omega) takes0 (by rfl) (b_C (y_F (e_ix (e_v 0) (e_v 2))) (b_C (y_F (e_ix (e_v 1) (e_v 2))) b_nil))))))))))) z_nil)
  (z_one (z_ret (e_and (e_eq hr.units (e_isi kt_bool (by decide +kernel) (by rfl) T.z_isinstance (by rfl) T.z_bool (e_v 0)) (e_isi kt_bool (by decide +kernel) (by rfl) T.z_isinstance (by rfl) T.z_bool (e_v 1))) (e_one (e_eq hr.units (e_v 0) (e_v 1)))))))
theorem ok__law_subsets (T : Tx K mg CP) : Ok P w K mg base 1 "_law_subsets" s__law_subsets ["size"] m__law_subsets :=
  df_ok (k := 0) T.d__law_subsets sc__law_subsets fun f cdv A outer s H EE hr => (z_cons (z_asg 1 sc__law_subsets.nd rfl (by first | exact Or.inl rfl | exact Or.inr rfl) (e_lst (a_F (e_lst a_nil) a_nil)))
  (z_cons (z_for (is := [2]) passesB rfl (pi_range1 (by rfl) T.z_range (pa_cons (e_v 0) pa_nil)) (pg_name (i := 2) sc__law_subsets.nd rfl (by first | exact Or.inl rfl | exact Or.inr rfl)) (src_rng1 tgN_ok) (z_one (z_asg 1 sc__law_subsets.nd rfl (by first | exact Or.inl rfl | exact Or.inr rfl) (e_add (e_v 1) (e_lc rfl sc__law_subsets.nd (pi_list (e_v 1)) (blk_of (own := [("row", 3)]) (by rfl)) (src_list tgN_ok) (by decide) (fun _ _ _ _ _ => (pg_name (i := 3) sc__law_subsets.nd rfl (by first | exact Or.inl rfl | exact Or.inr rfl))) (fun _ _ _ _ _ => u_nil) (fun _ _ _ _ _ => (e_add (e_v 3) (e_lst (a_F (e_v 2) a_nil)))))))))
  (z_one (z_ret (e_lc rfl sc__law_subsets.nd (pi_list (e_v 1)) (blk_of (own := [("row", 3)]) (by rfl)) (src_list tgN_ok) (by decide) (fun _ _ _ _ _ => (pg_name (i := 3) sc__law_subsets.nd rfl (by first | exact Or.inl rfl | exact Or.inr rfl))) (fun _ _ _ _ _ => (u_one (t_chain op_lt op_lt sndB_I sLt e_int (e_len (by rfl) T.z_len (e_v 3)) (e_v 0)))) (fun _ _ _ _ _ => (e_v 3)))))))
theorem ok__law_right (T : Tx K mg CP) : Ok P w K mg base 8 "_law_right" s__law_right ["size"] m__law_right :=
  df_ok (k := 7) T.d__law_right sc__law_right fun f cdv A outer s H EE hr => (z_cons (z_par 1 2 rfl sc__law_right.nd rfl rfl (by decide) rfl rfl e_dnewT (e_mul (e_lst (a_F e_int a_nil)) (e_sub (e_v 0) e_int)))
  (z_cons (z_for (is := [3]) passesB rfl (pi_list (f_call (ok__law_all T) hr (by decide) takesB (by rfl) (a_F (e_v 0) a_nil))) (pg_name (i := 3) sc__law_right.nd rfl (by first | exact Or.inl rfl | exact Or.inr rfl)) (src_list tgN_ok) (z_cons (z_asg 4 sc__law_right.nd rfl (by first | exact Or.inl rfl | exact Or.inr rfl) (e_tuple (by rfl) T.z_tuple (f_call (ok__law_falls T) hr (by decide) takesB (by rfl) (a_F (e_v 3) a_nil))))
  (z_cons (z_dset (i := 1) (pg_sub (pe_var (i := 1) rfl (by first | exact Or.inl rfl | exact Or.inr (Or.inl rfl) | exact Or.inr (Or.inr rfl))) (e_v 4) (set_dict (L2.hu_of hr))) (e_add (e_dget2 1 (L2.hu_of hr) rfl (by first | exact Or.inl rfl | exact Or.inr (Or.inl rfl) | exact Or.inr (Or.inr rfl)) (e_v 4) e_int) e_int))
  (z_one (z_set (k := 2) (pg_sub (pe_var (i := 2) rfl (by first | exact Or.inl rfl | exact Or.inr (Or.inl rfl) | exact Or.inr (Or.inr rfl))) (e_sub (e_len (by rfl) T.z_len (e_v 4)) e_int) set_list) (e_add (e_ix (e_v 2) (e_sub (e_len (by rfl) T.z_len (e_v 4)) e_int)) e_int))))))
  (z_cons (z_for (is := [5]) passesB rfl (pi_list (f_call (ok__law_subsets T) hr (by decide) takesB (by rfl) (a_F (e_v 0) a_nil))) (pg_name (i := 5) sc__law_right.nd rfl (by first | exact Or.inl rfl | exact Or.inr rfl)) (src_list tgN_ok) (z_cons (z_par 6 7 rfl sc__law_right.nd rfl rfl (by decide) rfl rfl (e_dget2 1 (L2.hu_of hr) rfl (by first | exact Or.inl rfl | exact Or.inr (Or.inl rfl) | exact Or.inr (Or.inr rfl)) (e_tuple (by rfl) T.z_tuple (e_v 5)) e_int) (e_list (by rfl) T.z_list (e_v 5)))
  (z_cons (z_asg 8 sc__law_right.nd rfl (by first | exact Or.inl rfl | exact Or.inr rfl) (e_lst (a_F (f_call (ok_order_count T) hr (by decide) takesB (by rfl) (a_F (e_v 0) (a_F (e_v 5) a_nil))) (a_F (f_callK (okk_order_count_drops_n T) hr (by decide) takesB (by rfl) (k_F (e_v 5) (k_F (e_v 0) k_nil))) a_nil))))
  (z_one (z_if (w_or (t_not (t_val (f_callB (ok__law_alike T 6) hr (by decide) takesB (by rfl) (b_C (y_L 8) (b_C (y_lst (b_C (y_L 6) (b_C (y_L 6) b_nil))) b_nil))))) (w_one' (t_ne hr.units (e_v 5) (e_v 7)))).pt (z_one (z_ret e_bl)) z_nil)))))
  (z_cons (z_asg 9 sc__law_right.nd rfl (by first | exact Or.inl rfl | exact Or.inr rfl) (f_call (ok_counts_by_drops T) hr (by decide) takesB (by rfl) (a_F (e_v 0) a_nil)))
  (z_cons (z_if (t_not (t_val (f_callB (ok__law_alike T 6) hr (by decide) takesB (by rfl) (b_C (y_lst (b_C (y_L 9) (b_C (y_F (f_callK (okk_counts_by_drops_n T) hr (by decide) takesB (by rfl) (k_F (e_v 0) k_nil))) b_nil))) (b_C (y_lst (b_C (y_L 2) (b_C (y_L 2) b_nil))) b_nil))))) (z_one (z_ret e_bl)) z_nil)
  (z_cons (z_expr (e_mth0 9 sReverse PySem.F.slot_list_reverse PySem.F.type_list_reverse mt_reverse rfl (by first | exact Or.inl rfl | exact Or.inr (Or.inl rfl) | exact Or.inr (Or.inr rfl))))
  (z_cons (z_expr (e_mth 9 sAppend PySem.F.slot_list_append PySem.F.type_list_append mt_append rfl (by first | exact Or.inl rfl | exact Or.inr (Or.inl rfl) | exact Or.inr (Or.inr rfl)) (a_F e_non a_nil)))
  (z_one (z_ret (f_callB (ok__law_alike T 6) hr (by decide) takesB (by rfl) (b_C (y_F (f_call (ok_counts_by_drops T) hr (by decide) takesB (by rfl) (a_F (e_v 0) a_nil))) (b_C (y_L 2) b_nil))))))))))))
theorem ok_law (T : Tx K mg CP) {fa : Addr} (hfa : mg "law" = some (.ref fa)) (hm : ∀ ns : List Int, ns.length ≤ 63 → ∃ es, m_law [.scr ns] = some (.ok (.dat (.bool true)) es)) :
    ∃ fd : FuncData, (∀ (s : Shared) (v : Value), BindsTo s fd ⟨[v], []⟩ [("script", v)]) ∧ ∀ base : Heap, K.In base → base.Ns mainGlobals mg → FnOk P w K mg base (L2.CX P w) 9 fa fd ["script"] (spLaw K) :=
  law_end (k := 8) T.d_law hfa sc_law (fun _ _ _ _ _ _ _ => rfl) (fun base f cdv A outer s H EE hr => (z_cons (z_asg 1 sc_law.nd rfl (by first | exact Or.inl rfl | exact Or.inr rfl) (f_call (ok__law_urn T) hr (by decide) takesB (by rfl) (a_L (e_v 0) a_nil)))
  (z_cons (z_asg 2 sc_law.nd rfl (by first | exact Or.inl rfl | exact Or.inr rfl) (e_lst (a_F (e_add e_int (f_call (ok__law_draw T) hr (by decide) takesB (by rfl) (a_L (e_v 1) (a_F e_int a_nil)))) (a_F (e_ix (e_lst (a_F e_int (a_F e_int a_nil))) (f_call (ok__law_draw T) hr (by decide) takesB (by rfl) (a_L (e_v 1) (a_F e_int a_nil)))) a_nil))))
  (z_one (z_ret (e_eq hr.units (e_lc rfl sc_law.nd (pi_list (e_v 2)) (blk_of (own := [("size", 3)]) (by rfl)) (src_list tgN_ok) (by decide) (fun _ _ _ _ _ => (pg_name (i := 3) sc_law.nd rfl (by first | exact Or.inl rfl | exact Or.inr rfl))) (fun _ _ _ _ _ => (u_one (t_not (t_val (f_call (ok__law_right T) hr (by decide) takes0 (by rfl) (a_F (e_v 3) a_nil)))))) (fun _ _ _ _ _ => (e_v 3))) (e_lst a_nil))))))) hm
end
end E


set_option Elab.async false
set_option linter.all false
set_option maxRecDepth 100000
set_option maxHeartbeats 4000000
set_option autoImplicit false
namespace E
open PySem
theorem mul_ok {i j : Int} (h : i.natAbs.log2 + j.natAbs.log2 < 1000000) : kMul i j = some (.int (i * j)) := by
  unfold kMul
  first | rw [if_pos h] | (simp; omega) | skip
theorem log2_lt {i : Int} {k : Nat} (h0 : 0 ≤ i) (h : i < 2 ^ k) (hk : 0 < k) : i.natAbs.log2 < k := by
  by_cases z : i.natAbs = 0
  · rw [z]; simpa using hk
  · rw [Nat.log2_lt z]
    have : (i.natAbs : Int) < ((2 ^ k : Nat) : Int) := by
      rw [Int.natAbs_of_nonneg h0]
      simpa using h
    exact_mod_cast this
end E
namespace E
open PySem
theorem kMod_ok {i j : Int} (h : 0 < j) : kMod i j = some (.int (i % j)) := if_pos h
theorem kDiv_ok {i j : Int} (h : 0 < j) (h2 : j.natAbs.log2 < 9000) : kDiv i j = some (.int (i / j)) := if_pos ⟨h, h2⟩
theorem kMul_ok {i j : Int} (h : i.natAbs.log2 + j.natAbs.log2 < 1000000) : kMul i j = some (.int (i * j)) := if_pos h
theorem mod_log {i : Int} : (i % 2305843009213693951).natAbs.log2 < 61 := log2_lt (Int.emod_nonneg _ (by decide)) (Int.lt_trans (Int.emod_lt_of_pos _ (by decide)) (by decide)) (by decide)
def drawV (b c : Int) : Int :=
  let m1 := (b + 3266489917 * (c + 1)) % 2305843009213693951
  let m2 := m1 * m1 % 2305843009213693951
  let m3 := (m2 * 48271 + (c + 1) * (c + 1)) % 2305843009213693951
  m3 * m3 % 2305843009213693951 / 786433
theorem c31 : (3266489917 : Int).natAbs.log2 = 31 := by decide +kernel
theorem c15 : (48271 : Int).natAbs.log2 = 15 := by decide +kernel
theorem draw_ok {a b c w : Int} (ha : 0 ≤ a) (hc : 0 ≤ c) (hc2 : c < 2 ^ 40) (hw : 0 < w) (hw2 : w < 2 ^ 60) :
    ∃ r a' c' es, m__law_draw [.own true (.lst [.int a, .int b, .int c]), .dat (.int w)] = some (.ok (.dat (.int r)) (.own true (.lst [.int a', .int b, .int c']) :: es)) ∧ 0 ≤ r ∧ r < w ∧ 0 ≤ a' ∧ c ≤ c' ∧ c' ≤ c + 1 := by
  have lw : w.natAbs.log2 < 60 := log2_lt (Int.le_of_lt hw) hw2 (by decide)
  have l1 : (c + 1).natAbs.log2 < 41 := log2_lt (by omega) (by omega) (by decide)
  have k1 : kMul 3266489917 (c + 1) = some (.int (3266489917 * (c + 1))) := kMul_ok (by rw [c31]; omega)
  have k2 : kMul (c + 1) (c + 1) = some (.int ((c + 1) * (c + 1))) := kMul_ok (by omega)
  have k3 : ∀ i, kMul (i % 2305843009213693951) (i % 2305843009213693951) = some (.int ((i % 2305843009213693951) * (i % 2305843009213693951))) := fun i => by
    have := @mod_log i
    exact kMul_ok (by omega)
  have k4 : ∀ i, kMul (i % 2305843009213693951) 48271 = some (.int ((i % 2305843009213693951) * 48271)) := fun i => by
    have := @mod_log i
    exact kMul_ok (by rw [c15]; omega)
  have k5 : ∀ i, kMod i w = some (.int (i % w)) := fun i => kMod_ok hw
  have k6 : ∀ i, kMod i 2305843009213693951 = some (.int (i % 2305843009213693951)) := fun i => kMod_ok (by decide)
  have k7 : kDiv a w = some (.int (a / w)) := kDiv_ok hw (by omega)
  have k8 : ∀ i, kDiv i 786433 = some (.int (i / 786433)) := fun i => kDiv_ok (by decide) (by decide +kernel)
  by_cases h : 0 < a
  · refine ⟨a % w, a / w, c, [.dat (.int w)], ?_, Int.emod_nonneg _ (Int.ne_of_gt hw), Int.emod_lt_of_pos _ hw, Int.ediv_nonneg ha (Int.le_of_lt hw), Int.le_refl _, by omega⟩
    simp [m__law_draw, mkM, c__law_draw, sSeq, sIf, asB, M.bind, M.ret, c2, cV, cC, fGt, fIx, fI2, lookR, lookL, L2.atI, L2.ixN, sAsg, fMod, fDiv, k5, k7, storeG, notPar, sSet, frz, chk, sRet, retV, outs, outE, goodE, h]
  · refine ⟨drawV b c % w, a, c + 1, [.dat (.int w)], ?_, Int.emod_nonneg _ (Int.ne_of_gt hw), Int.emod_lt_of_pos _ hw, ha, by omega, Int.le_refl _⟩
    simp [m__law_draw, mkM, c__law_draw, sSeq, sIf, asB, M.bind, M.ret, c2, cV, cC, fGt, fIx, fI2, lookR, lookL, L2.atI, L2.ixN, sAsg, fMod, fDiv, fAdd, fMul, k1, k2, k3, k4, k5, k6, k8, storeG, notPar, sSet, frz, chk, sRet, retV, outs, outE, goodE, h, sNil, drawV]
end E


set_option Elab.async false
set_option linter.all false
set_option maxRecDepth 100000
set_option autoImplicit false
namespace E
open PySem
/-! states compared by evaluation -/
mutual
def sameD : D → D → Bool
  | .none, .none => true
  | .bool a, .bool b => a == b
  | .int a, .int b => decide (a = b)
  | .str a, .str b => decide (a = b)
  | .list a, .list b => sameDs a b
  | .tuple a, .tuple b => sameDs a b
  | _, _ => false
def sameDs : List D → List D → Bool
  | [], [] => true
  | a :: r, b :: s => sameD a b && sameDs r s
  | _, _ => false
end
mutual
theorem sameD_eq : ∀ {a b : D}, sameD a b = true → a = b
  | .none, .none, _ => rfl
  | .bool a, .bool b, h => by rw [show a = b from beq_iff_eq.mp h]
  | .int a, .int b, h => by rw [show a = b from of_decide_eq_true h]
  | .str a, .str b, h => by rw [show a = b from of_decide_eq_true h]
  | .list a, .list b, h => by rw [sameDs_eq (a := a) (b := b) h]
  | .tuple a, .tuple b, h => by rw [sameDs_eq (a := a) (b := b) h]
theorem sameDs_eq : ∀ {a b : List D}, sameDs a b = true → a = b
  | [], [], _ => rfl
  | a :: r, b :: s, h => by
    have h' : (sameD a b && sameDs r s) = true := h
    rw [Bool.and_eq_true] at h'
    rw [sameD_eq h'.1, sameDs_eq h'.2]
end
def sameKv {κ : Type} [DecidableEq κ] : List (κ × D) → List (κ × D) → Bool
  | [], [] => true
  | (k, a) :: r, (j, b) :: s => decide (k = j) && (sameD a b && sameKv r s)
  | _, _ => false
theorem sameKv_eq {κ : Type} [DecidableEq κ] : ∀ {a b : List (κ × D)}, sameKv a b = true → a = b
  | [], [], _ => rfl
  | (k, a) :: r, (j, b) :: s, h => by
    have h' : (decide (k = j) && (sameD a b && sameKv r s)) = true := h
    rw [Bool.and_eq_true, Bool.and_eq_true] at h'
    rw [of_decide_eq_true h'.1, sameD_eq h'.2.1, sameKv_eq h'.2.2]
def sameOb : Ob → Ob → Bool
  | .lst a, .lst b => sameDs a b
  | .dk a, .dk b => sameKv a b
  | .dt a, .dt b => sameKv a b
  | .ins c a, .ins d b => c == d && sameDs a b
  | _, _ => false
theorem sameOb_eq {a b : Ob} (h : sameOb a b = true) : a = b := by
  cases a <;> cases b <;> first | (cases h; done) | skip
  · exact congrArg _ (sameDs_eq h)
  · exact congrArg _ (sameKv_eq h)
  · exact congrArg _ (sameKv_eq h)
  · have h' := (Bool.and_eq_true _ _).mp h
    rw [beq_iff_eq.mp h'.1, sameDs_eq h'.2]
def sameEnt : Ent → Ent → Bool
  | .un, .un => true
  | .dat a, .dat b => sameD a b
  | .own b x, .own c y => b == c && sameOb x y
  | _, _ => false
theorem sameEnt_eq {a b : Ent} (h : sameEnt a b = true) : a = b := by
  cases a <;> cases b <;> first | (cases h; done) | skip
  · rfl
  · exact congrArg _ (sameD_eq h)
  · have h' := (Bool.and_eq_true _ _).mp h
    rw [beq_iff_eq.mp h'.1, sameOb_eq h'.2]
def sameGm : Gm → Gm → Bool
  | [], [] => true
  | a :: r, b :: s => sameEnt a b && sameGm r s
  | _, _ => false
theorem sameGm_eq : ∀ {a b : Gm}, sameGm a b = true → a = b
  | [], [], _ => rfl
  | a :: r, b :: s, h => by
    have h' := (Bool.and_eq_true _ _).mp h
    rw [sameEnt_eq h'.1, sameGm_eq h'.2]
def isNx (r : Option (Res Flow)) (Γ : Gm) : Bool := match r with
  | some (.ok .nx Γ') => sameGm Γ' Γ
  | _ => false
theorem isNx_ok {r : Option (Res Flow)} {Γ : Gm} (h : isNx r Γ = true) : r = some (.ok .nx Γ) := by
  unfold isNx at h
  split at h
  · rw [sameGm_eq h]
  · cases h
def isRet (r : Option (Res Flow)) (d : D) (Γ : Gm) : Bool := match r with
  | some (.ok (.ret (.dat x)) Γ') => sameD x d && sameGm Γ' Γ
  | _ => false
theorem isRet_ok {r : Option (Res Flow)} {d : D} {Γ : Gm} (h : isRet r d Γ = true) : r = some (.ok (.ret (.dat d)) Γ) := by
  unfold isRet at h
  split at h
  · have h' := (Bool.and_eq_true _ _).mp h
    rw [sameD_eq h'.1, sameGm_eq h'.2]
  · cases h
def isVal (r : Option (Res Val)) (d : D) (Γ : Gm) : Bool := match r with
  | some (.ok (.dat x) Γ') => sameD x d && sameGm Γ' Γ
  | _ => false
theorem isVal_ok {r : Option (Res Val)} {d : D} {Γ : Gm} (h : isVal r d Γ = true) : r = some (.ok (.dat d) Γ) := by
  unfold isVal at h
  split at h
  · have h' := (Bool.and_eq_true _ _).mp h
    rw [sameD_eq h'.1, sameGm_eq h'.2]
  · cases h
def isNew (r : Option (Res Val)) (ds : List D) (Γ : Gm) : Bool := match r with
  | some (.ok (.new (.lst x)) Γ') => sameDs x ds && sameGm Γ' Γ
  | _ => false
theorem isNew_ok {r : Option (Res Val)} {ds : List D} {Γ : Gm} (h : isNew r ds Γ = true) : r = some (.ok (.new (.lst ds)) Γ) := by
  unfold isNew at h
  split at h
  · have h' := (Bool.and_eq_true _ _).mp h
    rw [sameDs_eq h'.1, sameGm_eq h'.2]
  · cases h
/-- turns without a break -/
def goL (tg : Tg) (body : M Flow) : List D → Gm → Option Gm
  | [], Γ => some Γ
  | d :: ds, Γ => match tg d Γ with
    | none => none
    | some Γ1 => match body Γ1 with
      | some (.ok .nx Γ2) => goL tg body ds Γ2
      | some (.ok .ct Γ2) => goL tg body ds Γ2
      | _ => none
theorem go_cons {tg : Tg} {body : M Flow} {d : D} {ds : List D} {Γ Γ1 : Gm} : goL tg body (d :: ds) Γ = some Γ1 → ∃ Γ2, goL tg body [d] Γ = some Γ2 ∧ goL tg body ds Γ2 = some Γ1 ∧ (∀ ys, loopL tg body (d :: ys) Γ = loopL tg body ys Γ2) ∧ ∀ ys, goL tg body (d :: ys) Γ = goL tg body ys Γ2 := by
  intro h
  cases ht : tg d Γ with
  | none =>
    unfold goL at h
    rw [ht] at h
    cases h
  | some Γ2 =>
    have e1 : ∀ ys, goL tg body (d :: ys) Γ = match body Γ2 with
      | some (.ok .nx Γ2) => goL tg body ys Γ2
      | some (.ok .ct Γ2) => goL tg body ys Γ2
      | _ => none := fun ys => by
      show (match tg d Γ with
        | none => none
        | some Γ1 => match body Γ1 with
          | some (.ok .nx Γ2) => goL tg body ys Γ2
          | some (.ok .ct Γ2) => goL tg body ys Γ2
          | _ => none) = _
      rw [ht]
    have e2 : ∀ ys, loopL tg body (d :: ys) Γ = match body Γ2 with
      | some (.ok .nx Γ2) => loopL tg body ys Γ2
      | some (.ok .ct Γ2) => loopL tg body ys Γ2
      | some (.ok .brk Γ2) => some (.ok .nx Γ2)
      | some (.ok (.ret r) Γ2) => some (.ok (.ret r) Γ2)
      | some (.exc x Γ2) => some (.exc x Γ2)
      | none => none := fun ys => by
      show (match tg d Γ with
        | none => none
        | some Γ1 => match body Γ1 with
          | some (.ok .nx Γ2) => loopL tg body ys Γ2
          | some (.ok .ct Γ2) => loopL tg body ys Γ2
          | some (.ok .brk Γ2) => some (.ok .nx Γ2)
          | some (.ok (.ret r) Γ2) => some (.ok (.ret r) Γ2)
          | some (.exc x Γ2) => some (.exc x Γ2)
          | none => none) = _
      rw [ht]
    rw [e1] at h
    rw [e1]
    cases hb : body Γ2 with
    | none => rw [hb] at h; cases h
    | some r =>
      rw [hb] at h
      cases r with
      | exc x Γ3 => cases h
      | ok f Γ3 => cases f with
        | nx => exact ⟨Γ3, rfl, h, fun ys => by rw [e2, hb], fun ys => by rw [e1, hb]⟩
        | ct => exact ⟨Γ3, rfl, h, fun ys => by rw [e2, hb], fun ys => by rw [e1, hb]⟩
        | brk => cases h
        | ret r => cases h
theorem go_app {tg : Tg} {body : M Flow} : ∀ {xs ys : List D} {Γ Γ1 : Gm}, goL tg body xs Γ = some Γ1 → loopL tg body (xs ++ ys) Γ = loopL tg body ys Γ1
  | [], ys, Γ, Γ1, h => by cases h; rfl
  | x :: xs, ys, Γ, Γ1, h => by
    obtain ⟨Γ2, _, h2, h3, _⟩ := go_cons h
    rw [List.cons_append, h3]
    exact go_app h2
theorem go_end {tg : Tg} {body : M Flow} {xs : List D} {Γ Γ1 : Gm} (h : goL tg body xs Γ = some Γ1) : loopL tg body xs Γ = some (.ok .nx Γ1) := by
  have := go_app (ys := []) h
  rw [List.append_nil] at this
  exact this
theorem go_go {tg : Tg} {body : M Flow} : ∀ {xs ys : List D} {Γ Γ1 : Gm}, goL tg body xs Γ = some Γ1 → goL tg body (xs ++ ys) Γ = goL tg body ys Γ1
  | [], ys, Γ, Γ1, h => by cases h; rfl
  | x :: xs, ys, Γ, Γ1, h => by
    obtain ⟨Γ2, h1, h2, _, h4⟩ := go_cons h
    rw [List.cons_append, h4]
    exact go_go h2
def isGo (r : Option Gm) (Γ : Gm) : Bool := match r with
  | some Γ' => sameGm Γ' Γ
  | none => false
theorem isGo_ok {r : Option Gm} {Γ : Gm} (h : isGo r Γ = true) : r = some Γ := by
  unfold isGo at h
  split at h
  · rw [sameGm_eq h]
  · cases h
theorem seq_nx {a b : M Flow} {Γ Γ1 : Gm} (h : a Γ = some (.ok .nx Γ1)) : sSeq a b Γ = b Γ1 := by
  unfold sSeq
  rw [h]
theorem for_nx {tg : Tg} {src : M (List D)} {body : M Flow} {Γ Γ1 : Gm} {ds : List D} (h : src Γ = some (.ok ds Γ1)) : sFor tg src body Γ = loopL tg body ds Γ1 := by
  unfold sFor M.bind
  rw [h]
end E


set_option Elab.async false
set_option linter.all false
set_option maxRecDepth 100000
set_option maxHeartbeats 4000000
set_option autoImplicit false
namespace E
open PySem
theorem p18 : kPow 10 18 = some (.int 1000000000000000000) := if_pos (by decide +kernel)
theorem p60 : kPow 10 60 = some (.int (10 ^ 60)) := if_pos (by decide +kernel)
theorem p300 : kPow (10 ^ 60) 5 = some (.int (10 ^ 300)) := (show kPow (10 ^ 60) 5 = some (.int ((10 ^ 60) ^ (5 : Int).toNat)) from if_pos (by decide +kernel)).trans (by rw [show (5 : Int).toNat = 5 from rfl, ← Int.pow_mul])
theorem l300 : ((10 : Int) ^ 300).natAbs.log2 = 996 := by decide +kernel
theorem p300pos : (0 : Int) < 10 ^ 300 := by decide +kernel
theorem p300lt : (10 : Int) ^ 300 < 2 ^ 1000 := by decide +kernel
theorem c69 : (69621 : Int).natAbs.log2 = 16 := by decide +kernel
def urnBody : M Flow := (sSeq (sIf (asB (c2 fGe (c1 fAbs (cV 3)) (c2 fPow (cC (.int 10)) (cC (.int 18))))) (sAsg 1 (c2 fAdd (c2 fMul (cV 1) (c2 fPow (c2 fPow (cC (.int 10)) (cC (.int 60))) (cC (.int 5)))) (c2 fMod (c1 fAbs (cV 3)) (c2 fPow (c2 fPow (cC (.int 10)) (cC (.int 60))) (cC (.int 5)))))) sNil)
  (sAsg 2 (c2 fMod (c2 fAdd (c2 fAdd (c2 fMul (cV 2) (cC (.int 69621))) (c2 fMod (cV 3) (cC (.int 2147483579)))) (cC (.int 1))) (cC (.int 2305843009213693951)))))
theorem urn_turn {ns : List Int} {k : Nat} {a b z : Int} (ha : 0 ≤ a) (ha2 : a < 2 ^ (1000 * k)) (hk : k ≤ 100) (hb : 0 ≤ b) (hb2 : b < 2305843009213693951) :
    ∃ a' b' : Int, urnBody [.scr ns, .dat (.int a), .dat (.int b), .dat (.int z)] = some (.ok .nx [.scr ns, .dat (.int a'), .dat (.int b'), .dat (.int z)]) ∧ 0 ≤ a' ∧ a' < 2 ^ (1000 * (k + 1)) ∧ 0 ≤ b' ∧ b' < 2305843009213693951 := by
  have lb : b.natAbs.log2 < 61 := log2_lt hb (Int.lt_trans hb2 (by decide)) (by decide)
  have la : a.natAbs.log2 < 100001 := log2_lt ha (Int.lt_of_lt_of_le ha2 (by
    have : (2 : Int) ^ (1000 * k) ≤ 2 ^ 100001 := by exact_mod_cast Nat.pow_le_pow_right (by decide) (by omega)
    exact this)) (by decide)
  have k1 : kMul b 69621 = some (.int (b * 69621)) := kMul_ok (by rw [c69]; omega)
  have k2 : kMul a (10 ^ 300) = some (.int (a * 10 ^ 300)) := kMul_ok (by rw [l300]; omega)
  have k3 : ∀ i, kMod i (10 ^ 300) = some (.int (i % 10 ^ 300)) := fun i => kMod_ok p300pos
  have k6 : ∀ i, kMod i 2305843009213693951 = some (.int (i % 2305843009213693951)) := fun i => kMod_ok (by decide)
  have k7 : ∀ i, kMod i 2147483579 = some (.int (i % 2147483579)) := fun i => kMod_ok (by decide)
  have p300' := p300
  have p60' := p60
  have k2' := k2
  have k3' := k3
  generalize hN : (10 : Int) ^ 300 = N at *
  generalize hM : (10 : Int) ^ 60 = M60 at *
  have hN0 : 0 < N := by rw [← hN]; exact p300pos
  have hN1 : N < 2 ^ 1000 := by rw [← hN]; exact p300lt
  have up : (2 : Int) ^ (1000 * k) ≤ 2 ^ (1000 * (k + 1)) := by exact_mod_cast Nat.pow_le_pow_right (by decide) (by omega)
  generalize hz : (if z < 0 then -z else z) = y
  by_cases h : 1000000000000000000 ≤ y
  · refine ⟨a * N + y % N, (b * 69621 + z % 2147483579 + 1) % 2305843009213693951, ?_, ?_, ?_, Int.emod_nonneg _ (by decide), Int.emod_lt_of_pos _ (by decide)⟩
    · simp [urnBody, sSeq, sIf, asB, M.bind, M.ret, c1, c2, cV, cC, fGe, fAbs, fPow, p18, fI2, sAsg, fAdd, fMul, fMod, k1, k2', k3', k6, k7, p60', p300', storeG, notPar, hz, h]
    · have := Int.mul_nonneg ha (Int.le_of_lt hN0)
      have := Int.emod_nonneg y (Int.ne_of_gt hN0)
      omega
    · have h1 := Int.emod_lt_of_pos y hN0
      have h2 : a * N + N = (a + 1) * N := by rw [Int.add_mul, Int.one_mul]
      have h3 : (a + 1) * N ≤ 2 ^ (1000 * k) * N := Int.mul_le_mul_of_nonneg_right (by omega) (Int.le_of_lt hN0)
      have h4 : (2 : Int) ^ (1000 * k) * N ≤ 2 ^ (1000 * k) * 2 ^ 1000 := Int.mul_le_mul_of_nonneg_left (Int.le_of_lt hN1) (by exact_mod_cast Nat.zero_le _)
      have h5 : (2 : Int) ^ (1000 * (k + 1)) = 2 ^ (1000 * k) * 2 ^ 1000 := by rw [Nat.mul_succ, Int.pow_add]
      rw [h5]
      have h6 : a * N + y % N < a * N + N := by omega
      rw [h2] at h6
      exact Int.lt_of_lt_of_le h6 (Int.le_trans h3 h4)
  · refine ⟨a, (b * 69621 + z % 2147483579 + 1) % 2305843009213693951, ?_, ha, Int.lt_of_lt_of_le ha2 up, Int.emod_nonneg _ (by decide), Int.emod_lt_of_pos _ (by decide)⟩
    simp [urnBody, sSeq, sIf, asB, M.bind, M.ret, c1, c2, cV, cC, fGe, fAbs, fPow, p18, fI2, sAsg, fAdd, fMul, fMod, k1, k6, k7, p60', p300', storeG, notPar, hz, h, sNil]
theorem urn_loop {ns : List Int} : ∀ (zs : List Int) (k : Nat) (a b : Int) (t : Ent), 0 ≤ a → a < 2 ^ (1000 * k) → k + zs.length ≤ 101 → 0 ≤ b → b < 2305843009213693951 → (t = .un ∨ ∃ d, t = .dat d) →
    ∃ (a' b' : Int) (t' : Ent), loopL (tgN 3) urnBody (zs.map PyData.int) [.scr ns, .dat (.int a), .dat (.int b), t] = some (.ok .nx [.scr ns, .dat (.int a'), .dat (.int b'), t']) ∧ 0 ≤ a'
  | [], k, a, b, t, ha, _, _, _, _, _ => ⟨a, b, t, rfl, ha⟩
  | z :: zs, k, a, b, t, ha, ha2, hk, hb, hb2, ht => by
    obtain ⟨a1, b1, e1, h1, h2, h3, h4⟩ := urn_turn (ns := ns) (z := z) ha ha2 (by simp at hk; omega) hb hb2
    obtain ⟨a2, b2, t2, e2, h5⟩ := urn_loop (ns := ns) zs (k + 1) a1 b1 (.dat (.int z)) h1 h2 (by simp at hk; omega) h3 h4 (.inr ⟨_, rfl⟩)
    refine ⟨a2, b2, t2, ?_, h5⟩
    have eg : tgN 3 (.int z) [.scr ns, .dat (.int a), .dat (.int b), t] = some [.scr ns, .dat (.int a), .dat (.int b), .dat (.int z)] := by
      rcases ht with rfl | ⟨d, rfl⟩ <;> rfl
    rw [List.map_cons]
    unfold loopL
    rw [eg]
    dsimp only
    rw [e1]
    exact e2
theorem urn_ok (ns : List Int) : ∃ (a b : Int), m__law_urn [.scr ns] = some (.ok (.new (.lst [.int a, .int b, .int 0])) [.scr ns]) ∧ 0 ≤ a := by
  obtain ⟨a, b, t, e, h⟩ := urn_loop (ns := ns) (ns.take 61) 0 0 27457 .un (Int.le_refl _) (by decide) (by rw [List.length_take]; omega) (by decide) (by decide) (.inl rfl)
  refine ⟨a, b, ?_, h⟩
  have hcut : cutD (ns.map PyData.int) none (some 61) = (ns.take 61).map PyData.int := by
    unfold cutD
    rw [HT.sIx_none, show HT.sIx (ns.map PyData.int).length (ns.map PyData.int).length (some 61) = min 61 (ns.map PyData.int).length from HT.sIx_nat _ _ 61]
    rw [List.drop_zero, Nat.sub_zero, List.map_take]
    rw [List.take_eq_take_min]
    simp [List.take_eq_take_min]
  have src : rList (cSl (cV 0) oNone (oSome (cC (.int 61)))) [.scr ns, .dat (.int 0), .dat (.int 27457), .un] = some (.ok ((ns.take 61).map PyData.int) [.scr ns, .dat (.int 0), .dat (.int 27457), .un]) := by
    simp [rList, cSl, cV, oNone, oSome, cC, M.bind, M.ret, lookR, frz, hcut]
  unfold m__law_urn mkM
  rw [if_pos (by exact ⟨rfl, rfl⟩)]
  have body : c__law_urn [.scr ns, .un, .un, .un] = some (.ok (.ret (.new (.lst [.int a, .int b, .int 0]))) [.scr ns, .dat (.int a), .dat (.int b), t]) := by
    have h1 : sTupAsg [1, 2] (cTup (aF (cC (.int 0)) (aF (cC (.int 27457)) aNil))) [.scr ns, .un, .un, .un] = some (.ok .nx [.scr ns, .dat (.int 0), .dat (.int 27457), .un]) := rfl
    have h2 : sFor (tgN 3) (rList (cSl (cV 0) oNone (oSome (cC (.int 61))))) urnBody [.scr ns, .dat (.int 0), .dat (.int 27457), .un] = some (.ok .nx [.scr ns, .dat (.int a), .dat (.int b), t]) := by
      unfold sFor M.bind
      rw [src]
      exact e
    have h3 : sRet (cLst (aF (cV 1) (aF (cV 2) (aF (cC (.int 0)) aNil)))) [.scr ns, .dat (.int a), .dat (.int b), t] = some (.ok (.ret (.new (.lst [.int a, .int b, .int 0]))) [.scr ns, .dat (.int a), .dat (.int b), t]) := rfl
    have e0 : c__law_urn = sSeq (sTupAsg [1, 2] (cTup (aF (cC (.int 0)) (aF (cC (.int 27457)) aNil)))) (sSeq (sFor (tgN 3) (rList (cSl (cV 0) oNone (oSome (cC (.int 61))))) urnBody) (sRet (cLst (aF (cV 1) (aF (cV 2) (aF (cC (.int 0)) aNil)))))) := rfl
    rw [e0]
    unfold sSeq
    rw [h1]
    dsimp only
    rw [h2]
    dsimp only
    rw [h3]
  have e1 : ([Ent.scr ns] ++ List.replicate (4 - 1) Ent.un) = [.scr ns, .un, .un, .un] := rfl
  rw [e1, body]
  rfl
end E


set_option Elab.async false
set_option linter.all false
set_option maxRecDepth 100000
set_option maxHeartbeats 4000000
set_option autoImplicit false
namespace E
open PySem

def extP (n : Nat) (row : List Int) : List (List Int) := (List.range n).filterMap fun (s : Nat) => if row.contains (s : Int) then none else some (row ++ [(s : Int)])
def rowsP (n : Nat) : Nat → List (List Int)
  | 0 => [[]]
  | k + 1 => (rowsP n k).flatMap (extP n)
def mapD (r : List (List Int)) : List D := r.map fun x => .list (x.map PyData.int)
def allIn : M Flow := (sExpr (cMth 3 mExtend (aF (cLC (tgN 5) [5] (rRng1 (cV 0)) (asB (c2 (fInD true) (cV 5) (cV 4))) (c2 fAdd (cV 4) (cLst (aF (cV 5) aNil)))) aNil)))
def allTurn : M Flow := (sSeq (sAsg 3 (cLst aNil)) (sSeq (sFor (tgN 4) (rList (cV 1)) allIn) (sAsg 1 (cV 3))))
def lastD (r : List (List Int)) : Ent := match r.getLast? with
  | some x => .dat (.list (x.map PyData.int))
  | none => .un
def S0 : Gm := [.dat (.int 6), .own false (.lst [.list []]), .un, .un, .un, .un]
def SA (t : Nat) (r2 : Ent) : Gm := [.dat (.int 6), .dat (.list (mapD (rowsP 6 t))), .dat (.int (t - 1 : Nat)), .dat (.list (mapD (rowsP 6 t))), r2, .un]
def SB (t : Nat) (r : List (List Int)) (r2 : Ent) : Gm := [.dat (.int 6), .dat (.list (mapD (rowsP 6 t))), .dat (.int t), .own false (.lst (mapD (r.flatMap (extP 6)))), r2, .un]
theorem drop_parts {α : Type} (xs : List α) (m k : Nat) : xs.drop m = (xs.drop m).take k ++ xs.drop (m + k) := by
  rw [← List.drop_drop, List.take_append_drop]
theorem all_a : goL (tgN 2) allTurn (rangeD 0 1 4) S0 = some (SA 4 (lastD (rowsP 6 3))) := isGo_ok (by decide +kernel)

theorem all_4_0 : goL (tgN 4) allIn (((mapD (rowsP 6 4)).drop 0).take 120) (SB 4 ((rowsP 6 4).take 0) (lastD (rowsP 6 3))) = some (SB 4 ((rowsP 6 4).take 120) (lastD ((rowsP 6 4).take 120))) := isGo_ok (by decide +kernel)
theorem all_4_1 : goL (tgN 4) allIn (((mapD (rowsP 6 4)).drop 120).take 120) (SB 4 ((rowsP 6 4).take 120) (lastD ((rowsP 6 4).take 120))) = some (SB 4 ((rowsP 6 4).take 240) (lastD ((rowsP 6 4).take 240))) := isGo_ok (by decide +kernel)
theorem all_4_2 : goL (tgN 4) allIn (((mapD (rowsP 6 4)).drop 240).take 120) (SB 4 ((rowsP 6 4).take 240) (lastD ((rowsP 6 4).take 240))) = some (SB 4 ((rowsP 6 4).take 360) (lastD ((rowsP 6 4).take 360))) := isGo_ok (by decide +kernel)
theorem all_4 : loopL (tgN 4) allIn (mapD (rowsP 6 4)) (SB 4 [] (lastD (rowsP 6 3))) = some (.ok .nx (SB 4 (rowsP 6 4) (lastD (rowsP 6 4)))) := by
  show loopL (tgN 4) allIn ((mapD (rowsP 6 4)).drop 0) (SB 4 ((rowsP 6 4).take 0) (lastD (rowsP 6 3))) = _
  rw [drop_parts _ 0 120, go_app all_4_0]
  rw [drop_parts _ 120 120, go_app all_4_1]
  rw [drop_parts _ 240 120, go_app all_4_2]
  have e1 : (mapD (rowsP 6 4)).drop (240 + 120) = [] := List.drop_eq_nil_of_le (by rw [show (mapD (rowsP 6 4)).length = 360 by decide +kernel]; decide)
  have e2 : (rowsP 6 4).take 360 = rowsP 6 4 := List.take_of_length_le (by rw [show (rowsP 6 4).length = 360 by decide +kernel]; decide)
  rw [e1, e2]
  rfl

theorem all_5_0 : goL (tgN 4) allIn (((mapD (rowsP 6 5)).drop 0).take 120) (SB 5 ((rowsP 6 5).take 0) (lastD (rowsP 6 4))) = some (SB 5 ((rowsP 6 5).take 120) (lastD ((rowsP 6 5).take 120))) := isGo_ok (by decide +kernel)
theorem all_5_1 : goL (tgN 4) allIn (((mapD (rowsP 6 5)).drop 120).take 120) (SB 5 ((rowsP 6 5).take 120) (lastD ((rowsP 6 5).take 120))) = some (SB 5 ((rowsP 6 5).take 240) (lastD ((rowsP 6 5).take 240))) := isGo_ok (by decide +kernel)
theorem all_5_2 : goL (tgN 4) allIn (((mapD (rowsP 6 5)).drop 240).take 120) (SB 5 ((rowsP 6 5).take 240) (lastD ((rowsP 6 5).take 240))) = some (SB 5 ((rowsP 6 5).take 360) (lastD ((rowsP 6 5).take 360))) := isGo_ok (by decide +kernel)
theorem all_5_3 : goL (tgN 4) allIn (((mapD (rowsP 6 5)).drop 360).take 120) (SB 5 ((rowsP 6 5).take 360) (lastD ((rowsP 6 5).take 360))) = some (SB 5 ((rowsP 6 5).take 480) (lastD ((rowsP 6 5).take 480))) := isGo_ok (by decide +kernel)
theorem all_5_4 : goL (tgN 4) allIn (((mapD (rowsP 6 5)).drop 480).take 120) (SB 5 ((rowsP 6 5).take 480) (lastD ((rowsP 6 5).take 480))) = some (SB 5 ((rowsP 6 5).take 600) (lastD ((rowsP 6 5).take 600))) := isGo_ok (by decide +kernel)
theorem all_5_5 : goL (tgN 4) allIn (((mapD (rowsP 6 5)).drop 600).take 120) (SB 5 ((rowsP 6 5).take 600) (lastD ((rowsP 6 5).take 600))) = some (SB 5 ((rowsP 6 5).take 720) (lastD ((rowsP 6 5).take 720))) := isGo_ok (by decide +kernel)
theorem all_5 : loopL (tgN 4) allIn (mapD (rowsP 6 5)) (SB 5 [] (lastD (rowsP 6 4))) = some (.ok .nx (SB 5 (rowsP 6 5) (lastD (rowsP 6 5)))) := by
  show loopL (tgN 4) allIn ((mapD (rowsP 6 5)).drop 0) (SB 5 ((rowsP 6 5).take 0) (lastD (rowsP 6 4))) = _
  rw [drop_parts _ 0 120, go_app all_5_0]
  rw [drop_parts _ 120 120, go_app all_5_1]
  rw [drop_parts _ 240 120, go_app all_5_2]
  rw [drop_parts _ 360 120, go_app all_5_3]
  rw [drop_parts _ 480 120, go_app all_5_4]
  rw [drop_parts _ 600 120, go_app all_5_5]
  have e1 : (mapD (rowsP 6 5)).drop (600 + 120) = [] := List.drop_eq_nil_of_le (by rw [show (mapD (rowsP 6 5)).length = 720 by decide +kernel]; decide)
  have e2 : (rowsP 6 5).take 720 = rowsP 6 5 := List.take_of_length_le (by rw [show (rowsP 6 5).length = 720 by decide +kernel]; decide)
  rw [e1, e2]
  rfl


theorem turn_gen {n t : Int} {R R2 : List D} {r2 r3 : Ent} (h : loopL (tgN 4) allIn R [.dat (.int n), .dat (.list R), .dat (.int t), .own false (.lst []), r2, .un] = some (.ok .nx [.dat (.int n), .dat (.list R), .dat (.int t), .own false (.lst R2), r3, .un])) (k : Int) :
    goL (tgN 2) allTurn [.int t] [.dat (.int n), .dat (.list R), .dat (.int k), .dat (.list R), r2, .un] = some [.dat (.int n), .dat (.list R2), .dat (.int t), .dat (.list R2), r3, .un] := by
  have h1 : tgN 2 (.int t) [.dat (.int n), .dat (.list R), .dat (.int k), .dat (.list R), r2, .un] = some [.dat (.int n), .dat (.list R), .dat (.int t), .dat (.list R), r2, .un] := rfl
  have h2 : allTurn [.dat (.int n), .dat (.list R), .dat (.int t), .dat (.list R), r2, .un] = some (.ok .nx [.dat (.int n), .dat (.list R2), .dat (.int t), .dat (.list R2), r3, .un]) := by
    unfold allTurn
    rw [seq_nx (Γ1 := [.dat (.int n), .dat (.list R), .dat (.int t), .own false (.lst []), r2, .un]) rfl, seq_nx ((for_nx (ds := R) rfl).trans h)]
    rfl
  unfold goL
  rw [h1]
  dsimp only
  rw [h2]
  rfl
theorem all_gen {n : Int} {R : List D} {k : Int} {r2 : Ent} (hn : smallI n = true) (h : loopL (tgN 2) allTurn (rangeD 0 1 n.toNat) [.dat (.int n), .own false (.lst [.list []]), .un, .un, .un, .un] = some (.ok .nx [.dat (.int n), .dat (.list R), .dat (.int k), .dat (.list R), r2, .un])) :
    m__law_all [.dat (.int n)] = some (.ok (.dat (.list R)) [.dat (.int n)]) := by
  have e0 : c__law_all = sSeq (sAsg 1 (cLst (aF (cLst aNil) aNil))) (sSeq (sFor (tgN 2) (rRng1 (cV 0)) allTurn) (sRet (cV 1))) := rfl
  have src : rRng1 (cV 0) [.dat (.int n), .own false (.lst [.list []]), .un, .un, .un, .un] = some (.ok (rangeD 0 1 n.toNat) [.dat (.int n), .own false (.lst [.list []]), .un, .un, .un, .un]) := by
    simp [rRng1, asI, M.bind, M.ret, cV, hn]
  have body : c__law_all [.dat (.int n), .un, .un, .un, .un, .un] = some (.ok (.ret (.dat (.list R))) [.dat (.int n), .dat (.list R), .dat (.int k), .dat (.list R), r2, .un]) := by
    rw [e0, seq_nx (Γ1 := [.dat (.int n), .own false (.lst [.list []]), .un, .un, .un, .un]) rfl, seq_nx ((for_nx src).trans h)]
    rfl
  unfold m__law_all mkM
  rw [if_pos (by exact ⟨rfl, rfl⟩)]
  rw [show ([Ent.dat (.int n)] ++ List.replicate (6 - 1) Ent.un) = [.dat (.int n), .un, .un, .un, .un, .un] from rfl, body]
  rfl
theorem all6 : m__law_all [.dat (.int 6)] = some (.ok (.dat (.list (mapD (rowsP 6 6)))) [.dat (.int 6)]) := by
  have f4 : (rowsP 6 4).flatMap (extP 6) = rowsP 6 5 := rfl
  have f5 : (rowsP 6 5).flatMap (extP 6) = rowsP 6 6 := rfl
  have h4 := all_4
  have h5 := all_5
  have ha := all_a
  unfold SB at h4 h5
  unfold SA at ha
  rw [f4] at h4
  rw [f5] at h5
  rw [List.flatMap_nil] at h4 h5
  generalize rowsP 6 4 = R4 at *
  generalize rowsP 6 5 = R5 at *
  generalize rowsP 6 6 = R6 at *
  generalize rowsP 6 3 = R3 at *
  have t4 := turn_gen h4 3
  have t5 := turn_gen h5 4
  refine all_gen (k := 5) (r2 := lastD R5) (by decide) ?_
  show loopL (tgN 2) allTurn (rangeD 0 1 6) S0 = _
  rw [show rangeD 0 1 6 = rangeD 0 1 4 ++ ([.int 4] ++ [.int 5]) from rfl, go_app ha]
  exact (go_app t4).trans (go_end t5)

end E


set_option Elab.async false
set_option linter.all false
set_option maxRecDepth 100000
set_option maxHeartbeats 4000000
set_option autoImplicit false
namespace E
open PySem

def lp1 : M Flow := (sSeq (sAsg 4 (c1 fTuple (cCall m__law_falls (aF (cV 3) aNil))))
  (sSeq (sDSet 1 (cV 4) (c2 fAdd (cDGet 1 (cV 4) (cC (.int 0))) (cC (.int 1))))
  (sSet 2 (c2 fSub (c1 fLen (cV 4)) (cC (.int 1))) (c2 fAdd (c2 fIx (cV 2) (c2 fSub (c1 fLen (cV 4)) (cC (.int 1)))) (cC (.int 1))))))
def lp2 : M Flow := (sSeq (sPar 6 7 (cDGet 1 (c1 fTuple (cV 5)) (cC (.int 0))) (c1 fList (cV 5)))
  (sSeq (sAsg 8 (cLst (aF (cCall m_order_count (aF (cV 0) (aF (cV 5) aNil))) (aF (cCallK m_order_count [1, 0] (aF (cV 5) (aF (cV 0) aNil))) aNil))))
  (sIf (cOrT (cNotT (asB (cCallB (m__law_alike 6) (bC (yL 8) (bC (yLst (bC (yL 6) (bC (yL 6) bNil))) bNil))))) (asB (c2 fNe (cV 5) (cV 7)))) (sRet (cC (.bool false))) sNil)))
def lp3 : M Flow := (sSeq (sAsg 9 (cCall m_counts_by_drops (aF (cV 0) aNil)))
  (sSeq (sIf (cNotT (asB (cCallB (m__law_alike 6) (bC (yLst (bC (yL 9) (bC (yF (cCallK m_counts_by_drops [0] (aF (cV 0) aNil))) bNil))) (bC (yLst (bC (yL 2) (bC (yL 2) bNil))) bNil))))) (sRet (cC (.bool false))) sNil)
  (sSeq (sExpr (cMth 9 mReverse aNil))
  (sSeq (sExpr (cMth 9 mAppend (aF (cC .none) aNil)))
  (sRet (cCallB (m__law_alike 6) (bC (yF (cCall m_counts_by_drops (aF (cV 0) aNil))) (bC (yL 2) bNil))))))))
def R0 : Gm := [.dat (.int 6), .own false (.dt []), .own false (.lst [.int 0, .int 0, .int 0, .int 0, .int 0]), .un, .un, .un, .un, .un, .un, .un]
def allL : List D := mapD (rowsP 6 6)
def subsP (n : Nat) : List (List Int) := (((List.range n).foldl (fun (f : List (List Int)) (s : Nat) => f ++ f.map fun r => r ++ [(s : Int)]) [[]]).filter fun r => 0 < r.length && r.length < n)
def subL : List D := mapD (subsP 6)

def R1 : Gm := [.dat (.int 6), .own false (.dt [([.inl 0], .int 1), ([.inl 0, .inl 5], .int 4), ([.inl 0, .inl 4], .int 9), ([.inl 0, .inl 4, .inl 5], .int 6), ([.inl 0, .inl 3], .int 9), ([.inl 0, .inl 3, .inl 5], .int 16), ([.inl 0, .inl 3, .inl 4], .int 11), ([.inl 0, .inl 3, .inl 4, .inl 5], .int 4), ([.inl 0, .inl 2], .int 4), ([.inl 0, .inl 2, .inl 5], .int 11), ([.inl 0, .inl 2, .inl 4], .int 16), ([.inl 0, .inl 2, .inl 4, .inl 5], .int 9), ([.inl 0, .inl 2, .inl 3], .int 6), ([.inl 0, .inl 2, .inl 3, .inl 5], .int 9), ([.inl 0, .inl 2, .inl 3, .inl 4], .int 4), ([.inl 0, .inl 2, .inl 3, .inl 4, .inl 5], .int 1)]), .own false (.lst [.int 1, .int 26, .int 66, .int 26, .int 1]), .dat (.list [.int 0, .int 5, .int 4, .int 3, .int 2, .int 1]), .dat (.tuple [.int 0, .int 2, .int 3, .int 4, .int 5]), .un, .un, .un, .un, .un]
def R2 : Gm := [.dat (.int 6), .own false (.dt [([.inl 0], .int 1), ([.inl 0, .inl 5], .int 4), ([.inl 0, .inl 4], .int 9), ([.inl 0, .inl 4, .inl 5], .int 6), ([.inl 0, .inl 3], .int 9), ([.inl 0, .inl 3, .inl 5], .int 16), ([.inl 0, .inl 3, .inl 4], .int 11), ([.inl 0, .inl 3, .inl 4, .inl 5], .int 4), ([.inl 0, .inl 2], .int 4), ([.inl 0, .inl 2, .inl 5], .int 11), ([.inl 0, .inl 2, .inl 4], .int 16), ([.inl 0, .inl 2, .inl 4, .inl 5], .int 9), ([.inl 0, .inl 2, .inl 3], .int 6), ([.inl 0, .inl 2, .inl 3, .inl 5], .int 9), ([.inl 0, .inl 2, .inl 3, .inl 4], .int 4), ([.inl 0, .inl 2, .inl 3, .inl 4, .inl 5], .int 1), ([.inl 0, .inl 1], .int 4), ([.inl 0, .inl 1, .inl 5], .int 6), ([.inl 0, .inl 1, .inl 4], .int 16), ([.inl 0, .inl 1, .inl 4, .inl 5], .int 4), ([.inl 0, .inl 1, .inl 3], .int 11), ([.inl 0, .inl 1, .inl 3, .inl 5], .int 9), ([.inl 0, .inl 1, .inl 3, .inl 4], .int 9), ([.inl 0, .inl 1, .inl 3, .inl 4, .inl 5], .int 1), ([.inl 1], .int 1), ([.inl 1, .inl 5], .int 9), ([.inl 1, .inl 4], .int 9), ([.inl 1, .inl 4, .inl 5], .int 11), ([.inl 1, .inl 3], .int 4), ([.inl 1, .inl 3, .inl 5], .int 16), ([.inl 1, .inl 3, .inl 4], .int 6), ([.inl 1, .inl 3, .inl 4, .inl 5], .int 4)]), .own false (.lst [.int 2, .int 52, .int 132, .int 52, .int 2]), .dat (.list [.int 1, .int 5, .int 4, .int 3, .int 2, .int 0]), .dat (.tuple [.int 1, .int 3, .int 4, .int 5]), .un, .un, .un, .un, .un]
def R3 : Gm := [.dat (.int 6), .own false (.dt [([.inl 0], .int 1), ([.inl 0, .inl 5], .int 4), ([.inl 0, .inl 4], .int 9), ([.inl 0, .inl 4, .inl 5], .int 6), ([.inl 0, .inl 3], .int 9), ([.inl 0, .inl 3, .inl 5], .int 16), ([.inl 0, .inl 3, .inl 4], .int 11), ([.inl 0, .inl 3, .inl 4, .inl 5], .int 4), ([.inl 0, .inl 2], .int 13), ([.inl 0, .inl 2, .inl 5], .int 22), ([.inl 0, .inl 2, .inl 4], .int 32), ([.inl 0, .inl 2, .inl 4, .inl 5], .int 13), ([.inl 0, .inl 2, .inl 3], .int 6), ([.inl 0, .inl 2, .inl 3, .inl 5], .int 9), ([.inl 0, .inl 2, .inl 3, .inl 4], .int 4), ([.inl 0, .inl 2, .inl 3, .inl 4, .inl 5], .int 1), ([.inl 0, .inl 1], .int 4), ([.inl 0, .inl 1, .inl 5], .int 6), ([.inl 0, .inl 1, .inl 4], .int 16), ([.inl 0, .inl 1, .inl 4, .inl 5], .int 4), ([.inl 0, .inl 1, .inl 3], .int 11), ([.inl 0, .inl 1, .inl 3, .inl 5], .int 9), ([.inl 0, .inl 1, .inl 3, .inl 4], .int 9), ([.inl 0, .inl 1, .inl 3, .inl 4, .inl 5], .int 1), ([.inl 1], .int 1), ([.inl 1, .inl 5], .int 9), ([.inl 1, .inl 4], .int 9), ([.inl 1, .inl 4, .inl 5], .int 11), ([.inl 1, .inl 3], .int 4), ([.inl 1, .inl 3, .inl 5], .int 16), ([.inl 1, .inl 3, .inl 4], .int 6), ([.inl 1, .inl 3, .inl 4, .inl 5], .int 4), ([.inl 0, .inl 1, .inl 2], .int 6), ([.inl 0, .inl 1, .inl 2, .inl 5], .int 4), ([.inl 0, .inl 1, .inl 2, .inl 4], .int 9), ([.inl 0, .inl 1, .inl 2, .inl 4, .inl 5], .int 1), ([.inl 1, .inl 2], .int 4), ([.inl 1, .inl 2, .inl 5], .int 16), ([.inl 1, .inl 2, .inl 4], .int 11), ([.inl 1, .inl 2, .inl 4, .inl 5], .int 9), ([.inl 2], .int 1), ([.inl 2, .inl 5], .int 9), ([.inl 2, .inl 4], .int 4), ([.inl 2, .inl 4, .inl 5], .int 6)]), .own false (.lst [.int 3, .int 78, .int 198, .int 78, .int 3]), .dat (.list [.int 2, .int 5, .int 4, .int 3, .int 1, .int 0]), .dat (.tuple [.int 1, .int 2, .int 4, .int 5]), .un, .un, .un, .un, .un]
def R4 : Gm := [.dat (.int 6), .own false (.dt [([.inl 0], .int 1), ([.inl 0, .inl 5], .int 4), ([.inl 0, .inl 4], .int 9), ([.inl 0, .inl 4, .inl 5], .int 6), ([.inl 0, .inl 3], .int 18), ([.inl 0, .inl 3, .inl 5], .int 22), ([.inl 0, .inl 3, .inl 4], .int 11), ([.inl 0, .inl 3, .inl 4, .inl 5], .int 4), ([.inl 0, .inl 2], .int 13), ([.inl 0, .inl 2, .inl 5], .int 22), ([.inl 0, .inl 2, .inl 4], .int 32), ([.inl 0, .inl 2, .inl 4, .inl 5], .int 13), ([.inl 0, .inl 2, .inl 3], .int 22), ([.inl 0, .inl 2, .inl 3, .inl 5], .int 18), ([.inl 0, .inl 2, .inl 3, .inl 4], .int 4), ([.inl 0, .inl 2, .inl 3, .inl 4, .inl 5], .int 1), ([.inl 0, .inl 1], .int 4), ([.inl 0, .inl 1, .inl 5], .int 6), ([.inl 0, .inl 1, .inl 4], .int 16), ([.inl 0, .inl 1, .inl 4, .inl 5], .int 4), ([.inl 0, .inl 1, .inl 3], .int 22), ([.inl 0, .inl 1, .inl 3, .inl 5], .int 13), ([.inl 0, .inl 1, .inl 3, .inl 4], .int 9), ([.inl 0, .inl 1, .inl 3, .inl 4, .inl 5], .int 1), ([.inl 1], .int 1), ([.inl 1, .inl 5], .int 9), ([.inl 1, .inl 4], .int 9), ([.inl 1, .inl 4, .inl 5], .int 11), ([.inl 1, .inl 3], .int 13), ([.inl 1, .inl 3, .inl 5], .int 32), ([.inl 1, .inl 3, .inl 4], .int 6), ([.inl 1, .inl 3, .inl 4, .inl 5], .int 4), ([.inl 0, .inl 1, .inl 2], .int 6), ([.inl 0, .inl 1, .inl 2, .inl 5], .int 4), ([.inl 0, .inl 1, .inl 2, .inl 4], .int 9), ([.inl 0, .inl 1, .inl 2, .inl 4, .inl 5], .int 1), ([.inl 1, .inl 2], .int 4), ([.inl 1, .inl 2, .inl 5], .int 16), ([.inl 1, .inl 2, .inl 4], .int 11), ([.inl 1, .inl 2, .inl 4, .inl 5], .int 9), ([.inl 2], .int 1), ([.inl 2, .inl 5], .int 9), ([.inl 2, .inl 4], .int 4), ([.inl 2, .inl 4, .inl 5], .int 6), ([.inl 0, .inl 1, .inl 2, .inl 3], .int 4), ([.inl 0, .inl 1, .inl 2, .inl 3, .inl 5], .int 1), ([.inl 1, .inl 2, .inl 3], .int 6), ([.inl 1, .inl 2, .inl 3, .inl 5], .int 9), ([.inl 2, .inl 3], .int 4), ([.inl 2, .inl 3, .inl 5], .int 11), ([.inl 3], .int 1), ([.inl 3, .inl 5], .int 4)]), .own false (.lst [.int 4, .int 104, .int 264, .int 104, .int 4]), .dat (.list [.int 3, .int 5, .int 4, .int 2, .int 1, .int 0]), .dat (.tuple [.int 1, .int 2, .int 3, .int 5]), .un, .un, .un, .un, .un]
def R5 : Gm := [.dat (.int 6), .own false (.dt [([.inl 0], .int 1), ([.inl 0, .inl 5], .int 4), ([.inl 0, .inl 4], .int 13), ([.inl 0, .inl 4, .inl 5], .int 6), ([.inl 0, .inl 3], .int 18), ([.inl 0, .inl 3, .inl 5], .int 22), ([.inl 0, .inl 3, .inl 4], .int 22), ([.inl 0, .inl 3, .inl 4, .inl 5], .int 4), ([.inl 0, .inl 2], .int 13), ([.inl 0, .inl 2, .inl 5], .int 22), ([.inl 0, .inl 2, .inl 4], .int 48), ([.inl 0, .inl 2, .inl 4, .inl 5], .int 13), ([.inl 0, .inl 2, .inl 3], .int 22), ([.inl 0, .inl 2, .inl 3, .inl 5], .int 18), ([.inl 0, .inl 2, .inl 3, .inl 4], .int 13), ([.inl 0, .inl 2, .inl 3, .inl 4, .inl 5], .int 1), ([.inl 0, .inl 1], .int 4), ([.inl 0, .inl 1, .inl 5], .int 6), ([.inl 0, .inl 1, .inl 4], .int 22), ([.inl 0, .inl 1, .inl 4, .inl 5], .int 4), ([.inl 0, .inl 1, .inl 3], .int 22), ([.inl 0, .inl 1, .inl 3, .inl 5], .int 13), ([.inl 0, .inl 1, .inl 3, .inl 4], .int 18), ([.inl 0, .inl 1, .inl 3, .inl 4, .inl 5], .int 1), ([.inl 1], .int 1), ([.inl 1, .inl 5], .int 9), ([.inl 1, .inl 4], .int 18), ([.inl 1, .inl 4, .inl 5], .int 11), ([.inl 1, .inl 3], .int 13), ([.inl 1, .inl 3, .inl 5], .int 32), ([.inl 1, .inl 3, .inl 4], .int 22), ([.inl 1, .inl 3, .inl 4, .inl 5], .int 4), ([.inl 0, .inl 1, .inl 2], .int 6), ([.inl 0, .inl 1, .inl 2, .inl 5], .int 4), ([.inl 0, .inl 1, .inl 2, .inl 4], .int 13), ([.inl 0, .inl 1, .inl 2, .inl 4, .inl 5], .int 1), ([.inl 1, .inl 2], .int 4), ([.inl 1, .inl 2, .inl 5], .int 16), ([.inl 1, .inl 2, .inl 4], .int 22), ([.inl 1, .inl 2, .inl 4, .inl 5], .int 9), ([.inl 2], .int 1), ([.inl 2, .inl 5], .int 9), ([.inl 2, .inl 4], .int 13), ([.inl 2, .inl 4, .inl 5], .int 6), ([.inl 0, .inl 1, .inl 2, .inl 3], .int 4), ([.inl 0, .inl 1, .inl 2, .inl 3, .inl 5], .int 1), ([.inl 1, .inl 2, .inl 3], .int 6), ([.inl 1, .inl 2, .inl 3, .inl 5], .int 9), ([.inl 2, .inl 3], .int 4), ([.inl 2, .inl 3, .inl 5], .int 11), ([.inl 3], .int 1), ([.inl 3, .inl 5], .int 4), ([.inl 0, .inl 1, .inl 2, .inl 3, .inl 4], .int 1), ([.inl 1, .inl 2, .inl 3, .inl 4], .int 4), ([.inl 2, .inl 3, .inl 4], .int 6), ([.inl 3, .inl 4], .int 4), ([.inl 4], .int 1)]), .own false (.lst [.int 5, .int 130, .int 330, .int 130, .int 5]), .dat (.list [.int 4, .int 5, .int 3, .int 2, .int 1, .int 0]), .dat (.tuple [.int 1, .int 2, .int 3, .int 4]), .un, .un, .un, .un, .un]
def R6 : Gm := [.dat (.int 6), .own false (.dt [([.inl 0], .int 1), ([.inl 0, .inl 5], .int 4), ([.inl 0, .inl 4], .int 13), ([.inl 0, .inl 4, .inl 5], .int 6), ([.inl 0, .inl 3], .int 18), ([.inl 0, .inl 3, .inl 5], .int 22), ([.inl 0, .inl 3, .inl 4], .int 22), ([.inl 0, .inl 3, .inl 4, .inl 5], .int 4), ([.inl 0, .inl 2], .int 13), ([.inl 0, .inl 2, .inl 5], .int 22), ([.inl 0, .inl 2, .inl 4], .int 48), ([.inl 0, .inl 2, .inl 4, .inl 5], .int 13), ([.inl 0, .inl 2, .inl 3], .int 22), ([.inl 0, .inl 2, .inl 3, .inl 5], .int 18), ([.inl 0, .inl 2, .inl 3, .inl 4], .int 13), ([.inl 0, .inl 2, .inl 3, .inl 4, .inl 5], .int 1), ([.inl 0, .inl 1], .int 4), ([.inl 0, .inl 1, .inl 5], .int 6), ([.inl 0, .inl 1, .inl 4], .int 22), ([.inl 0, .inl 1, .inl 4, .inl 5], .int 4), ([.inl 0, .inl 1, .inl 3], .int 22), ([.inl 0, .inl 1, .inl 3, .inl 5], .int 13), ([.inl 0, .inl 1, .inl 3, .inl 4], .int 18), ([.inl 0, .inl 1, .inl 3, .inl 4, .inl 5], .int 1), ([.inl 1], .int 1), ([.inl 1, .inl 5], .int 13), ([.inl 1, .inl 4], .int 18), ([.inl 1, .inl 4, .inl 5], .int 22), ([.inl 1, .inl 3], .int 13), ([.inl 1, .inl 3, .inl 5], .int 48), ([.inl 1, .inl 3, .inl 4], .int 22), ([.inl 1, .inl 3, .inl 4, .inl 5], .int 13), ([.inl 0, .inl 1, .inl 2], .int 6), ([.inl 0, .inl 1, .inl 2, .inl 5], .int 4), ([.inl 0, .inl 1, .inl 2, .inl 4], .int 13), ([.inl 0, .inl 1, .inl 2, .inl 4, .inl 5], .int 1), ([.inl 1, .inl 2], .int 4), ([.inl 1, .inl 2, .inl 5], .int 22), ([.inl 1, .inl 2, .inl 4], .int 22), ([.inl 1, .inl 2, .inl 4, .inl 5], .int 18), ([.inl 2], .int 1), ([.inl 2, .inl 5], .int 18), ([.inl 2, .inl 4], .int 13), ([.inl 2, .inl 4, .inl 5], .int 22), ([.inl 0, .inl 1, .inl 2, .inl 3], .int 4), ([.inl 0, .inl 1, .inl 2, .inl 3, .inl 5], .int 1), ([.inl 1, .inl 2, .inl 3], .int 6), ([.inl 1, .inl 2, .inl 3, .inl 5], .int 13), ([.inl 2, .inl 3], .int 4), ([.inl 2, .inl 3, .inl 5], .int 22), ([.inl 3], .int 1), ([.inl 3, .inl 5], .int 13), ([.inl 0, .inl 1, .inl 2, .inl 3, .inl 4], .int 1), ([.inl 1, .inl 2, .inl 3, .inl 4], .int 4), ([.inl 2, .inl 3, .inl 4], .int 6), ([.inl 3, .inl 4], .int 4), ([.inl 4], .int 1), ([.inl 5], .int 1), ([.inl 4, .inl 5], .int 4), ([.inl 3, .inl 4, .inl 5], .int 6), ([.inl 2, .inl 3, .inl 4, .inl 5], .int 4), ([.inl 1, .inl 2, .inl 3, .inl 4, .inl 5], .int 1)]), .own false (.lst [.int 6, .int 156, .int 396, .int 156, .int 6]), .dat (.list [.int 5, .int 4, .int 3, .int 2, .int 1, .int 0]), .dat (.tuple [.int 1, .int 2, .int 3, .int 4, .int 5]), .un, .un, .un, .un, .un]
def Q1 : Gm := [.dat (.int 6), .own false (.dt [([.inl 0], .int 1), ([.inl 0, .inl 5], .int 4), ([.inl 0, .inl 4], .int 13), ([.inl 0, .inl 4, .inl 5], .int 6), ([.inl 0, .inl 3], .int 18), ([.inl 0, .inl 3, .inl 5], .int 22), ([.inl 0, .inl 3, .inl 4], .int 22), ([.inl 0, .inl 3, .inl 4, .inl 5], .int 4), ([.inl 0, .inl 2], .int 13), ([.inl 0, .inl 2, .inl 5], .int 22), ([.inl 0, .inl 2, .inl 4], .int 48), ([.inl 0, .inl 2, .inl 4, .inl 5], .int 13), ([.inl 0, .inl 2, .inl 3], .int 22), ([.inl 0, .inl 2, .inl 3, .inl 5], .int 18), ([.inl 0, .inl 2, .inl 3, .inl 4], .int 13), ([.inl 0, .inl 2, .inl 3, .inl 4, .inl 5], .int 1), ([.inl 0, .inl 1], .int 4), ([.inl 0, .inl 1, .inl 5], .int 6), ([.inl 0, .inl 1, .inl 4], .int 22), ([.inl 0, .inl 1, .inl 4, .inl 5], .int 4), ([.inl 0, .inl 1, .inl 3], .int 22), ([.inl 0, .inl 1, .inl 3, .inl 5], .int 13), ([.inl 0, .inl 1, .inl 3, .inl 4], .int 18), ([.inl 0, .inl 1, .inl 3, .inl 4, .inl 5], .int 1), ([.inl 1], .int 1), ([.inl 1, .inl 5], .int 13), ([.inl 1, .inl 4], .int 18), ([.inl 1, .inl 4, .inl 5], .int 22), ([.inl 1, .inl 3], .int 13), ([.inl 1, .inl 3, .inl 5], .int 48), ([.inl 1, .inl 3, .inl 4], .int 22), ([.inl 1, .inl 3, .inl 4, .inl 5], .int 13), ([.inl 0, .inl 1, .inl 2], .int 6), ([.inl 0, .inl 1, .inl 2, .inl 5], .int 4), ([.inl 0, .inl 1, .inl 2, .inl 4], .int 13), ([.inl 0, .inl 1, .inl 2, .inl 4, .inl 5], .int 1), ([.inl 1, .inl 2], .int 4), ([.inl 1, .inl 2, .inl 5], .int 22), ([.inl 1, .inl 2, .inl 4], .int 22), ([.inl 1, .inl 2, .inl 4, .inl 5], .int 18), ([.inl 2], .int 1), ([.inl 2, .inl 5], .int 18), ([.inl 2, .inl 4], .int 13), ([.inl 2, .inl 4, .inl 5], .int 22), ([.inl 0, .inl 1, .inl 2, .inl 3], .int 4), ([.inl 0, .inl 1, .inl 2, .inl 3, .inl 5], .int 1), ([.inl 1, .inl 2, .inl 3], .int 6), ([.inl 1, .inl 2, .inl 3, .inl 5], .int 13), ([.inl 2, .inl 3], .int 4), ([.inl 2, .inl 3, .inl 5], .int 22), ([.inl 3], .int 1), ([.inl 3, .inl 5], .int 13), ([.inl 0, .inl 1, .inl 2, .inl 3, .inl 4], .int 1), ([.inl 1, .inl 2, .inl 3, .inl 4], .int 4), ([.inl 2, .inl 3, .inl 4], .int 6), ([.inl 3, .inl 4], .int 4), ([.inl 4], .int 1), ([.inl 5], .int 1), ([.inl 4, .inl 5], .int 4), ([.inl 3, .inl 4, .inl 5], .int 6), ([.inl 2, .inl 3, .inl 4, .inl 5], .int 4), ([.inl 1, .inl 2, .inl 3, .inl 4, .inl 5], .int 1)]), .own false (.lst [.int 6, .int 156, .int 396, .int 156, .int 6]), .dat (.list [.int 5, .int 4, .int 3, .int 2, .int 1, .int 0]), .dat (.tuple [.int 1, .int 2, .int 3, .int 4, .int 5]), .dat (.list [.int 3]), .dat (.int 1), .own false (.lst [.int 3]), .own false (.lst [.int 1, .int 1]), .un]
def Q2 : Gm := [.dat (.int 6), .own false (.dt [([.inl 0], .int 1), ([.inl 0, .inl 5], .int 4), ([.inl 0, .inl 4], .int 13), ([.inl 0, .inl 4, .inl 5], .int 6), ([.inl 0, .inl 3], .int 18), ([.inl 0, .inl 3, .inl 5], .int 22), ([.inl 0, .inl 3, .inl 4], .int 22), ([.inl 0, .inl 3, .inl 4, .inl 5], .int 4), ([.inl 0, .inl 2], .int 13), ([.inl 0, .inl 2, .inl 5], .int 22), ([.inl 0, .inl 2, .inl 4], .int 48), ([.inl 0, .inl 2, .inl 4, .inl 5], .int 13), ([.inl 0, .inl 2, .inl 3], .int 22), ([.inl 0, .inl 2, .inl 3, .inl 5], .int 18), ([.inl 0, .inl 2, .inl 3, .inl 4], .int 13), ([.inl 0, .inl 2, .inl 3, .inl 4, .inl 5], .int 1), ([.inl 0, .inl 1], .int 4), ([.inl 0, .inl 1, .inl 5], .int 6), ([.inl 0, .inl 1, .inl 4], .int 22), ([.inl 0, .inl 1, .inl 4, .inl 5], .int 4), ([.inl 0, .inl 1, .inl 3], .int 22), ([.inl 0, .inl 1, .inl 3, .inl 5], .int 13), ([.inl 0, .inl 1, .inl 3, .inl 4], .int 18), ([.inl 0, .inl 1, .inl 3, .inl 4, .inl 5], .int 1), ([.inl 1], .int 1), ([.inl 1, .inl 5], .int 13), ([.inl 1, .inl 4], .int 18), ([.inl 1, .inl 4, .inl 5], .int 22), ([.inl 1, .inl 3], .int 13), ([.inl 1, .inl 3, .inl 5], .int 48), ([.inl 1, .inl 3, .inl 4], .int 22), ([.inl 1, .inl 3, .inl 4, .inl 5], .int 13), ([.inl 0, .inl 1, .inl 2], .int 6), ([.inl 0, .inl 1, .inl 2, .inl 5], .int 4), ([.inl 0, .inl 1, .inl 2, .inl 4], .int 13), ([.inl 0, .inl 1, .inl 2, .inl 4, .inl 5], .int 1), ([.inl 1, .inl 2], .int 4), ([.inl 1, .inl 2, .inl 5], .int 22), ([.inl 1, .inl 2, .inl 4], .int 22), ([.inl 1, .inl 2, .inl 4, .inl 5], .int 18), ([.inl 2], .int 1), ([.inl 2, .inl 5], .int 18), ([.inl 2, .inl 4], .int 13), ([.inl 2, .inl 4, .inl 5], .int 22), ([.inl 0, .inl 1, .inl 2, .inl 3], .int 4), ([.inl 0, .inl 1, .inl 2, .inl 3, .inl 5], .int 1), ([.inl 1, .inl 2, .inl 3], .int 6), ([.inl 1, .inl 2, .inl 3, .inl 5], .int 13), ([.inl 2, .inl 3], .int 4), ([.inl 2, .inl 3, .inl 5], .int 22), ([.inl 3], .int 1), ([.inl 3, .inl 5], .int 13), ([.inl 0, .inl 1, .inl 2, .inl 3, .inl 4], .int 1), ([.inl 1, .inl 2, .inl 3, .inl 4], .int 4), ([.inl 2, .inl 3, .inl 4], .int 6), ([.inl 3, .inl 4], .int 4), ([.inl 4], .int 1), ([.inl 5], .int 1), ([.inl 4, .inl 5], .int 4), ([.inl 3, .inl 4, .inl 5], .int 6), ([.inl 2, .inl 3, .inl 4, .inl 5], .int 4), ([.inl 1, .inl 2, .inl 3, .inl 4, .inl 5], .int 1)]), .own false (.lst [.int 6, .int 156, .int 396, .int 156, .int 6]), .dat (.list [.int 5, .int 4, .int 3, .int 2, .int 1, .int 0]), .dat (.tuple [.int 1, .int 2, .int 3, .int 4, .int 5]), .dat (.list [.int 4]), .dat (.int 1), .own false (.lst [.int 4]), .own false (.lst [.int 1, .int 1]), .un]
def Q3 : Gm := [.dat (.int 6), .own false (.dt [([.inl 0], .int 1), ([.inl 0, .inl 5], .int 4), ([.inl 0, .inl 4], .int 13), ([.inl 0, .inl 4, .inl 5], .int 6), ([.inl 0, .inl 3], .int 18), ([.inl 0, .inl 3, .inl 5], .int 22), ([.inl 0, .inl 3, .inl 4], .int 22), ([.inl 0, .inl 3, .inl 4, .inl 5], .int 4), ([.inl 0, .inl 2], .int 13), ([.inl 0, .inl 2, .inl 5], .int 22), ([.inl 0, .inl 2, .inl 4], .int 48), ([.inl 0, .inl 2, .inl 4, .inl 5], .int 13), ([.inl 0, .inl 2, .inl 3], .int 22), ([.inl 0, .inl 2, .inl 3, .inl 5], .int 18), ([.inl 0, .inl 2, .inl 3, .inl 4], .int 13), ([.inl 0, .inl 2, .inl 3, .inl 4, .inl 5], .int 1), ([.inl 0, .inl 1], .int 4), ([.inl 0, .inl 1, .inl 5], .int 6), ([.inl 0, .inl 1, .inl 4], .int 22), ([.inl 0, .inl 1, .inl 4, .inl 5], .int 4), ([.inl 0, .inl 1, .inl 3], .int 22), ([.inl 0, .inl 1, .inl 3, .inl 5], .int 13), ([.inl 0, .inl 1, .inl 3, .inl 4], .int 18), ([.inl 0, .inl 1, .inl 3, .inl 4, .inl 5], .int 1), ([.inl 1], .int 1), ([.inl 1, .inl 5], .int 13), ([.inl 1, .inl 4], .int 18), ([.inl 1, .inl 4, .inl 5], .int 22), ([.inl 1, .inl 3], .int 13), ([.inl 1, .inl 3, .inl 5], .int 48), ([.inl 1, .inl 3, .inl 4], .int 22), ([.inl 1, .inl 3, .inl 4, .inl 5], .int 13), ([.inl 0, .inl 1, .inl 2], .int 6), ([.inl 0, .inl 1, .inl 2, .inl 5], .int 4), ([.inl 0, .inl 1, .inl 2, .inl 4], .int 13), ([.inl 0, .inl 1, .inl 2, .inl 4, .inl 5], .int 1), ([.inl 1, .inl 2], .int 4), ([.inl 1, .inl 2, .inl 5], .int 22), ([.inl 1, .inl 2, .inl 4], .int 22), ([.inl 1, .inl 2, .inl 4, .inl 5], .int 18), ([.inl 2], .int 1), ([.inl 2, .inl 5], .int 18), ([.inl 2, .inl 4], .int 13), ([.inl 2, .inl 4, .inl 5], .int 22), ([.inl 0, .inl 1, .inl 2, .inl 3], .int 4), ([.inl 0, .inl 1, .inl 2, .inl 3, .inl 5], .int 1), ([.inl 1, .inl 2, .inl 3], .int 6), ([.inl 1, .inl 2, .inl 3, .inl 5], .int 13), ([.inl 2, .inl 3], .int 4), ([.inl 2, .inl 3, .inl 5], .int 22), ([.inl 3], .int 1), ([.inl 3, .inl 5], .int 13), ([.inl 0, .inl 1, .inl 2, .inl 3, .inl 4], .int 1), ([.inl 1, .inl 2, .inl 3, .inl 4], .int 4), ([.inl 2, .inl 3, .inl 4], .int 6), ([.inl 3, .inl 4], .int 4), ([.inl 4], .int 1), ([.inl 5], .int 1), ([.inl 4, .inl 5], .int 4), ([.inl 3, .inl 4, .inl 5], .int 6), ([.inl 2, .inl 3, .inl 4, .inl 5], .int 4), ([.inl 1, .inl 2, .inl 3, .inl 4, .inl 5], .int 1)]), .own false (.lst [.int 6, .int 156, .int 396, .int 156, .int 6]), .dat (.list [.int 5, .int 4, .int 3, .int 2, .int 1, .int 0]), .dat (.tuple [.int 1, .int 2, .int 3, .int 4, .int 5]), .dat (.list [.int 3, .int 4]), .dat (.int 4), .own false (.lst [.int 3, .int 4]), .own false (.lst [.int 4, .int 4]), .un]
def Q4 : Gm := [.dat (.int 6), .own false (.dt [([.inl 0], .int 1), ([.inl 0, .inl 5], .int 4), ([.inl 0, .inl 4], .int 13), ([.inl 0, .inl 4, .inl 5], .int 6), ([.inl 0, .inl 3], .int 18), ([.inl 0, .inl 3, .inl 5], .int 22), ([.inl 0, .inl 3, .inl 4], .int 22), ([.inl 0, .inl 3, .inl 4, .inl 5], .int 4), ([.inl 0, .inl 2], .int 13), ([.inl 0, .inl 2, .inl 5], .int 22), ([.inl 0, .inl 2, .inl 4], .int 48), ([.inl 0, .inl 2, .inl 4, .inl 5], .int 13), ([.inl 0, .inl 2, .inl 3], .int 22), ([.inl 0, .inl 2, .inl 3, .inl 5], .int 18), ([.inl 0, .inl 2, .inl 3, .inl 4], .int 13), ([.inl 0, .inl 2, .inl 3, .inl 4, .inl 5], .int 1), ([.inl 0, .inl 1], .int 4), ([.inl 0, .inl 1, .inl 5], .int 6), ([.inl 0, .inl 1, .inl 4], .int 22), ([.inl 0, .inl 1, .inl 4, .inl 5], .int 4), ([.inl 0, .inl 1, .inl 3], .int 22), ([.inl 0, .inl 1, .inl 3, .inl 5], .int 13), ([.inl 0, .inl 1, .inl 3, .inl 4], .int 18), ([.inl 0, .inl 1, .inl 3, .inl 4, .inl 5], .int 1), ([.inl 1], .int 1), ([.inl 1, .inl 5], .int 13), ([.inl 1, .inl 4], .int 18), ([.inl 1, .inl 4, .inl 5], .int 22), ([.inl 1, .inl 3], .int 13), ([.inl 1, .inl 3, .inl 5], .int 48), ([.inl 1, .inl 3, .inl 4], .int 22), ([.inl 1, .inl 3, .inl 4, .inl 5], .int 13), ([.inl 0, .inl 1, .inl 2], .int 6), ([.inl 0, .inl 1, .inl 2, .inl 5], .int 4), ([.inl 0, .inl 1, .inl 2, .inl 4], .int 13), ([.inl 0, .inl 1, .inl 2, .inl 4, .inl 5], .int 1), ([.inl 1, .inl 2], .int 4), ([.inl 1, .inl 2, .inl 5], .int 22), ([.inl 1, .inl 2, .inl 4], .int 22), ([.inl 1, .inl 2, .inl 4, .inl 5], .int 18), ([.inl 2], .int 1), ([.inl 2, .inl 5], .int 18), ([.inl 2, .inl 4], .int 13), ([.inl 2, .inl 4, .inl 5], .int 22), ([.inl 0, .inl 1, .inl 2, .inl 3], .int 4), ([.inl 0, .inl 1, .inl 2, .inl 3, .inl 5], .int 1), ([.inl 1, .inl 2, .inl 3], .int 6), ([.inl 1, .inl 2, .inl 3, .inl 5], .int 13), ([.inl 2, .inl 3], .int 4), ([.inl 2, .inl 3, .inl 5], .int 22), ([.inl 3], .int 1), ([.inl 3, .inl 5], .int 13), ([.inl 0, .inl 1, .inl 2, .inl 3, .inl 4], .int 1), ([.inl 1, .inl 2, .inl 3, .inl 4], .int 4), ([.inl 2, .inl 3, .inl 4], .int 6), ([.inl 3, .inl 4], .int 4), ([.inl 4], .int 1), ([.inl 5], .int 1), ([.inl 4, .inl 5], .int 4), ([.inl 3, .inl 4, .inl 5], .int 6), ([.inl 2, .inl 3, .inl 4, .inl 5], .int 4), ([.inl 1, .inl 2, .inl 3, .inl 4, .inl 5], .int 1)]), .own false (.lst [.int 6, .int 156, .int 396, .int 156, .int 6]), .dat (.list [.int 5, .int 4, .int 3, .int 2, .int 1, .int 0]), .dat (.tuple [.int 1, .int 2, .int 3, .int 4, .int 5]), .dat (.list [.int 5]), .dat (.int 1), .own false (.lst [.int 5]), .own false (.lst [.int 1, .int 1]), .un]
def Q5 : Gm := [.dat (.int 6), .own false (.dt [([.inl 0], .int 1), ([.inl 0, .inl 5], .int 4), ([.inl 0, .inl 4], .int 13), ([.inl 0, .inl 4, .inl 5], .int 6), ([.inl 0, .inl 3], .int 18), ([.inl 0, .inl 3, .inl 5], .int 22), ([.inl 0, .inl 3, .inl 4], .int 22), ([.inl 0, .inl 3, .inl 4, .inl 5], .int 4), ([.inl 0, .inl 2], .int 13), ([.inl 0, .inl 2, .inl 5], .int 22), ([.inl 0, .inl 2, .inl 4], .int 48), ([.inl 0, .inl 2, .inl 4, .inl 5], .int 13), ([.inl 0, .inl 2, .inl 3], .int 22), ([.inl 0, .inl 2, .inl 3, .inl 5], .int 18), ([.inl 0, .inl 2, .inl 3, .inl 4], .int 13), ([.inl 0, .inl 2, .inl 3, .inl 4, .inl 5], .int 1), ([.inl 0, .inl 1], .int 4), ([.inl 0, .inl 1, .inl 5], .int 6), ([.inl 0, .inl 1, .inl 4], .int 22), ([.inl 0, .inl 1, .inl 4, .inl 5], .int 4), ([.inl 0, .inl 1, .inl 3], .int 22), ([.inl 0, .inl 1, .inl 3, .inl 5], .int 13), ([.inl 0, .inl 1, .inl 3, .inl 4], .int 18), ([.inl 0, .inl 1, .inl 3, .inl 4, .inl 5], .int 1), ([.inl 1], .int 1), ([.inl 1, .inl 5], .int 13), ([.inl 1, .inl 4], .int 18), ([.inl 1, .inl 4, .inl 5], .int 22), ([.inl 1, .inl 3], .int 13), ([.inl 1, .inl 3, .inl 5], .int 48), ([.inl 1, .inl 3, .inl 4], .int 22), ([.inl 1, .inl 3, .inl 4, .inl 5], .int 13), ([.inl 0, .inl 1, .inl 2], .int 6), ([.inl 0, .inl 1, .inl 2, .inl 5], .int 4), ([.inl 0, .inl 1, .inl 2, .inl 4], .int 13), ([.inl 0, .inl 1, .inl 2, .inl 4, .inl 5], .int 1), ([.inl 1, .inl 2], .int 4), ([.inl 1, .inl 2, .inl 5], .int 22), ([.inl 1, .inl 2, .inl 4], .int 22), ([.inl 1, .inl 2, .inl 4, .inl 5], .int 18), ([.inl 2], .int 1), ([.inl 2, .inl 5], .int 18), ([.inl 2, .inl 4], .int 13), ([.inl 2, .inl 4, .inl 5], .int 22), ([.inl 0, .inl 1, .inl 2, .inl 3], .int 4), ([.inl 0, .inl 1, .inl 2, .inl 3, .inl 5], .int 1), ([.inl 1, .inl 2, .inl 3], .int 6), ([.inl 1, .inl 2, .inl 3, .inl 5], .int 13), ([.inl 2, .inl 3], .int 4), ([.inl 2, .inl 3, .inl 5], .int 22), ([.inl 3], .int 1), ([.inl 3, .inl 5], .int 13), ([.inl 0, .inl 1, .inl 2, .inl 3, .inl 4], .int 1), ([.inl 1, .inl 2, .inl 3, .inl 4], .int 4), ([.inl 2, .inl 3, .inl 4], .int 6), ([.inl 3, .inl 4], .int 4), ([.inl 4], .int 1), ([.inl 5], .int 1), ([.inl 4, .inl 5], .int 4), ([.inl 3, .inl 4, .inl 5], .int 6), ([.inl 2, .inl 3, .inl 4, .inl 5], .int 4), ([.inl 1, .inl 2, .inl 3, .inl 4, .inl 5], .int 1)]), .own false (.lst [.int 6, .int 156, .int 396, .int 156, .int 6]), .dat (.list [.int 5, .int 4, .int 3, .int 2, .int 1, .int 0]), .dat (.tuple [.int 1, .int 2, .int 3, .int 4, .int 5]), .dat (.list [.int 3, .int 5]), .dat (.int 13), .own false (.lst [.int 3, .int 5]), .own false (.lst [.int 13, .int 13]), .un]
def Q6 : Gm := [.dat (.int 6), .own false (.dt [([.inl 0], .int 1), ([.inl 0, .inl 5], .int 4), ([.inl 0, .inl 4], .int 13), ([.inl 0, .inl 4, .inl 5], .int 6), ([.inl 0, .inl 3], .int 18), ([.inl 0, .inl 3, .inl 5], .int 22), ([.inl 0, .inl 3, .inl 4], .int 22), ([.inl 0, .inl 3, .inl 4, .inl 5], .int 4), ([.inl 0, .inl 2], .int 13), ([.inl 0, .inl 2, .inl 5], .int 22), ([.inl 0, .inl 2, .inl 4], .int 48), ([.inl 0, .inl 2, .inl 4, .inl 5], .int 13), ([.inl 0, .inl 2, .inl 3], .int 22), ([.inl 0, .inl 2, .inl 3, .inl 5], .int 18), ([.inl 0, .inl 2, .inl 3, .inl 4], .int 13), ([.inl 0, .inl 2, .inl 3, .inl 4, .inl 5], .int 1), ([.inl 0, .inl 1], .int 4), ([.inl 0, .inl 1, .inl 5], .int 6), ([.inl 0, .inl 1, .inl 4], .int 22), ([.inl 0, .inl 1, .inl 4, .inl 5], .int 4), ([.inl 0, .inl 1, .inl 3], .int 22), ([.inl 0, .inl 1, .inl 3, .inl 5], .int 13), ([.inl 0, .inl 1, .inl 3, .inl 4], .int 18), ([.inl 0, .inl 1, .inl 3, .inl 4, .inl 5], .int 1), ([.inl 1], .int 1), ([.inl 1, .inl 5], .int 13), ([.inl 1, .inl 4], .int 18), ([.inl 1, .inl 4, .inl 5], .int 22), ([.inl 1, .inl 3], .int 13), ([.inl 1, .inl 3, .inl 5], .int 48), ([.inl 1, .inl 3, .inl 4], .int 22), ([.inl 1, .inl 3, .inl 4, .inl 5], .int 13), ([.inl 0, .inl 1, .inl 2], .int 6), ([.inl 0, .inl 1, .inl 2, .inl 5], .int 4), ([.inl 0, .inl 1, .inl 2, .inl 4], .int 13), ([.inl 0, .inl 1, .inl 2, .inl 4, .inl 5], .int 1), ([.inl 1, .inl 2], .int 4), ([.inl 1, .inl 2, .inl 5], .int 22), ([.inl 1, .inl 2, .inl 4], .int 22), ([.inl 1, .inl 2, .inl 4, .inl 5], .int 18), ([.inl 2], .int 1), ([.inl 2, .inl 5], .int 18), ([.inl 2, .inl 4], .int 13), ([.inl 2, .inl 4, .inl 5], .int 22), ([.inl 0, .inl 1, .inl 2, .inl 3], .int 4), ([.inl 0, .inl 1, .inl 2, .inl 3, .inl 5], .int 1), ([.inl 1, .inl 2, .inl 3], .int 6), ([.inl 1, .inl 2, .inl 3, .inl 5], .int 13), ([.inl 2, .inl 3], .int 4), ([.inl 2, .inl 3, .inl 5], .int 22), ([.inl 3], .int 1), ([.inl 3, .inl 5], .int 13), ([.inl 0, .inl 1, .inl 2, .inl 3, .inl 4], .int 1), ([.inl 1, .inl 2, .inl 3, .inl 4], .int 4), ([.inl 2, .inl 3, .inl 4], .int 6), ([.inl 3, .inl 4], .int 4), ([.inl 4], .int 1), ([.inl 5], .int 1), ([.inl 4, .inl 5], .int 4), ([.inl 3, .inl 4, .inl 5], .int 6), ([.inl 2, .inl 3, .inl 4, .inl 5], .int 4), ([.inl 1, .inl 2, .inl 3, .inl 4, .inl 5], .int 1)]), .own false (.lst [.int 6, .int 156, .int 396, .int 156, .int 6]), .dat (.list [.int 5, .int 4, .int 3, .int 2, .int 1, .int 0]), .dat (.tuple [.int 1, .int 2, .int 3, .int 4, .int 5]), .dat (.list [.int 4, .int 5]), .dat (.int 4), .own false (.lst [.int 4, .int 5]), .own false (.lst [.int 4, .int 4]), .un]
def Q7 : Gm := [.dat (.int 6), .own false (.dt [([.inl 0], .int 1), ([.inl 0, .inl 5], .int 4), ([.inl 0, .inl 4], .int 13), ([.inl 0, .inl 4, .inl 5], .int 6), ([.inl 0, .inl 3], .int 18), ([.inl 0, .inl 3, .inl 5], .int 22), ([.inl 0, .inl 3, .inl 4], .int 22), ([.inl 0, .inl 3, .inl 4, .inl 5], .int 4), ([.inl 0, .inl 2], .int 13), ([.inl 0, .inl 2, .inl 5], .int 22), ([.inl 0, .inl 2, .inl 4], .int 48), ([.inl 0, .inl 2, .inl 4, .inl 5], .int 13), ([.inl 0, .inl 2, .inl 3], .int 22), ([.inl 0, .inl 2, .inl 3, .inl 5], .int 18), ([.inl 0, .inl 2, .inl 3, .inl 4], .int 13), ([.inl 0, .inl 2, .inl 3, .inl 4, .inl 5], .int 1), ([.inl 0, .inl 1], .int 4), ([.inl 0, .inl 1, .inl 5], .int 6), ([.inl 0, .inl 1, .inl 4], .int 22), ([.inl 0, .inl 1, .inl 4, .inl 5], .int 4), ([.inl 0, .inl 1, .inl 3], .int 22), ([.inl 0, .inl 1, .inl 3, .inl 5], .int 13), ([.inl 0, .inl 1, .inl 3, .inl 4], .int 18), ([.inl 0, .inl 1, .inl 3, .inl 4, .inl 5], .int 1), ([.inl 1], .int 1), ([.inl 1, .inl 5], .int 13), ([.inl 1, .inl 4], .int 18), ([.inl 1, .inl 4, .inl 5], .int 22), ([.inl 1, .inl 3], .int 13), ([.inl 1, .inl 3, .inl 5], .int 48), ([.inl 1, .inl 3, .inl 4], .int 22), ([.inl 1, .inl 3, .inl 4, .inl 5], .int 13), ([.inl 0, .inl 1, .inl 2], .int 6), ([.inl 0, .inl 1, .inl 2, .inl 5], .int 4), ([.inl 0, .inl 1, .inl 2, .inl 4], .int 13), ([.inl 0, .inl 1, .inl 2, .inl 4, .inl 5], .int 1), ([.inl 1, .inl 2], .int 4), ([.inl 1, .inl 2, .inl 5], .int 22), ([.inl 1, .inl 2, .inl 4], .int 22), ([.inl 1, .inl 2, .inl 4, .inl 5], .int 18), ([.inl 2], .int 1), ([.inl 2, .inl 5], .int 18), ([.inl 2, .inl 4], .int 13), ([.inl 2, .inl 4, .inl 5], .int 22), ([.inl 0, .inl 1, .inl 2, .inl 3], .int 4), ([.inl 0, .inl 1, .inl 2, .inl 3, .inl 5], .int 1), ([.inl 1, .inl 2, .inl 3], .int 6), ([.inl 1, .inl 2, .inl 3, .inl 5], .int 13), ([.inl 2, .inl 3], .int 4), ([.inl 2, .inl 3, .inl 5], .int 22), ([.inl 3], .int 1), ([.inl 3, .inl 5], .int 13), ([.inl 0, .inl 1, .inl 2, .inl 3, .inl 4], .int 1), ([.inl 1, .inl 2, .inl 3, .inl 4], .int 4), ([.inl 2, .inl 3, .inl 4], .int 6), ([.inl 3, .inl 4], .int 4), ([.inl 4], .int 1), ([.inl 5], .int 1), ([.inl 4, .inl 5], .int 4), ([.inl 3, .inl 4, .inl 5], .int 6), ([.inl 2, .inl 3, .inl 4, .inl 5], .int 4), ([.inl 1, .inl 2, .inl 3, .inl 4, .inl 5], .int 1)]), .own false (.lst [.int 6, .int 156, .int 396, .int 156, .int 6]), .dat (.list [.int 5, .int 4, .int 3, .int 2, .int 1, .int 0]), .dat (.tuple [.int 1, .int 2, .int 3, .int 4, .int 5]), .dat (.list [.int 3, .int 4, .int 5]), .dat (.int 6), .own false (.lst [.int 3, .int 4, .int 5]), .own false (.lst [.int 6, .int 6]), .un]
def Q8 : Gm := [.dat (.int 6), .own false (.dt [([.inl 0], .int 1), ([.inl 0, .inl 5], .int 4), ([.inl 0, .inl 4], .int 13), ([.inl 0, .inl 4, .inl 5], .int 6), ([.inl 0, .inl 3], .int 18), ([.inl 0, .inl 3, .inl 5], .int 22), ([.inl 0, .inl 3, .inl 4], .int 22), ([.inl 0, .inl 3, .inl 4, .inl 5], .int 4), ([.inl 0, .inl 2], .int 13), ([.inl 0, .inl 2, .inl 5], .int 22), ([.inl 0, .inl 2, .inl 4], .int 48), ([.inl 0, .inl 2, .inl 4, .inl 5], .int 13), ([.inl 0, .inl 2, .inl 3], .int 22), ([.inl 0, .inl 2, .inl 3, .inl 5], .int 18), ([.inl 0, .inl 2, .inl 3, .inl 4], .int 13), ([.inl 0, .inl 2, .inl 3, .inl 4, .inl 5], .int 1), ([.inl 0, .inl 1], .int 4), ([.inl 0, .inl 1, .inl 5], .int 6), ([.inl 0, .inl 1, .inl 4], .int 22), ([.inl 0, .inl 1, .inl 4, .inl 5], .int 4), ([.inl 0, .inl 1, .inl 3], .int 22), ([.inl 0, .inl 1, .inl 3, .inl 5], .int 13), ([.inl 0, .inl 1, .inl 3, .inl 4], .int 18), ([.inl 0, .inl 1, .inl 3, .inl 4, .inl 5], .int 1), ([.inl 1], .int 1), ([.inl 1, .inl 5], .int 13), ([.inl 1, .inl 4], .int 18), ([.inl 1, .inl 4, .inl 5], .int 22), ([.inl 1, .inl 3], .int 13), ([.inl 1, .inl 3, .inl 5], .int 48), ([.inl 1, .inl 3, .inl 4], .int 22), ([.inl 1, .inl 3, .inl 4, .inl 5], .int 13), ([.inl 0, .inl 1, .inl 2], .int 6), ([.inl 0, .inl 1, .inl 2, .inl 5], .int 4), ([.inl 0, .inl 1, .inl 2, .inl 4], .int 13), ([.inl 0, .inl 1, .inl 2, .inl 4, .inl 5], .int 1), ([.inl 1, .inl 2], .int 4), ([.inl 1, .inl 2, .inl 5], .int 22), ([.inl 1, .inl 2, .inl 4], .int 22), ([.inl 1, .inl 2, .inl 4, .inl 5], .int 18), ([.inl 2], .int 1), ([.inl 2, .inl 5], .int 18), ([.inl 2, .inl 4], .int 13), ([.inl 2, .inl 4, .inl 5], .int 22), ([.inl 0, .inl 1, .inl 2, .inl 3], .int 4), ([.inl 0, .inl 1, .inl 2, .inl 3, .inl 5], .int 1), ([.inl 1, .inl 2, .inl 3], .int 6), ([.inl 1, .inl 2, .inl 3, .inl 5], .int 13), ([.inl 2, .inl 3], .int 4), ([.inl 2, .inl 3, .inl 5], .int 22), ([.inl 3], .int 1), ([.inl 3, .inl 5], .int 13), ([.inl 0, .inl 1, .inl 2, .inl 3, .inl 4], .int 1), ([.inl 1, .inl 2, .inl 3, .inl 4], .int 4), ([.inl 2, .inl 3, .inl 4], .int 6), ([.inl 3, .inl 4], .int 4), ([.inl 4], .int 1), ([.inl 5], .int 1), ([.inl 4, .inl 5], .int 4), ([.inl 3, .inl 4, .inl 5], .int 6), ([.inl 2, .inl 3, .inl 4, .inl 5], .int 4), ([.inl 1, .inl 2, .inl 3, .inl 4, .inl 5], .int 1)]), .own false (.lst [.int 6, .int 156, .int 396, .int 156, .int 6]), .dat (.list [.int 5, .int 4, .int 3, .int 2, .int 1, .int 0]), .dat (.tuple [.int 1, .int 2, .int 3, .int 4, .int 5]), .dat (.list [.int 1, .int 2, .int 3, .int 4, .int 5]), .dat (.int 1), .own false (.lst [.int 1, .int 2, .int 3, .int 4, .int 5]), .own false (.lst [.int 1, .int 1]), .un]
theorem r_0 : goL (tgN 3) lp1 ((allL.drop 0).take 120) R0 = some R1 := isGo_ok (by decide +kernel)
theorem r_1 : goL (tgN 3) lp1 ((allL.drop 120).take 120) R1 = some R2 := isGo_ok (by decide +kernel)
theorem r_2 : goL (tgN 3) lp1 ((allL.drop 240).take 120) R2 = some R3 := isGo_ok (by decide +kernel)
theorem r_3 : goL (tgN 3) lp1 ((allL.drop 360).take 120) R3 = some R4 := isGo_ok (by decide +kernel)
theorem r_4 : goL (tgN 3) lp1 ((allL.drop 480).take 120) R4 = some R5 := isGo_ok (by decide +kernel)
theorem r_5 : goL (tgN 3) lp1 ((allL.drop 600).take 120) R5 = some R6 := isGo_ok (by decide +kernel)
theorem q_0 : goL (tgN 5) lp2 ((subL.drop 0).take 8) R6 = some Q1 := isGo_ok (by decide +kernel)
theorem q_1 : goL (tgN 5) lp2 ((subL.drop 8).take 8) Q1 = some Q2 := isGo_ok (by decide +kernel)
theorem q_2 : goL (tgN 5) lp2 ((subL.drop 16).take 8) Q2 = some Q3 := isGo_ok (by decide +kernel)
theorem q_3 : goL (tgN 5) lp2 ((subL.drop 24).take 8) Q3 = some Q4 := isGo_ok (by decide +kernel)
theorem q_4 : goL (tgN 5) lp2 ((subL.drop 32).take 8) Q4 = some Q5 := isGo_ok (by decide +kernel)
theorem q_5 : goL (tgN 5) lp2 ((subL.drop 40).take 8) Q5 = some Q6 := isGo_ok (by decide +kernel)
theorem q_6 : goL (tgN 5) lp2 ((subL.drop 48).take 8) Q6 = some Q7 := isGo_ok (by decide +kernel)
theorem q_7 : goL (tgN 5) lp2 ((subL.drop 56).take 8) Q7 = some Q8 := isGo_ok (by decide +kernel)
theorem loop1 : loopL (tgN 3) lp1 allL R0 = some (.ok .nx R6) := by
  show loopL (tgN 3) lp1 (allL.drop 0) R0 = _
  rw [drop_parts _ 0 120, go_app r_0]
  rw [drop_parts _ 120 120, go_app r_1]
  rw [drop_parts _ 240 120, go_app r_2]
  rw [drop_parts _ 360 120, go_app r_3]
  rw [drop_parts _ 480 120, go_app r_4]
  rw [drop_parts _ 600 120, go_app r_5]
  have e1 : allL.drop (600 + 120) = [] := List.drop_eq_nil_of_le (by rw [show allL.length = 720 by decide +kernel]; decide)
  rw [e1]
  rfl
theorem loop2 : loopL (tgN 5) lp2 subL R6 = some (.ok .nx Q8) := by
  show loopL (tgN 5) lp2 (subL.drop 0) R6 = _
  rw [drop_parts _ 0 8, go_app q_0]
  rw [drop_parts _ 8 8, go_app q_1]
  rw [drop_parts _ 16 8, go_app q_2]
  rw [drop_parts _ 24 8, go_app q_3]
  rw [drop_parts _ 32 8, go_app q_4]
  rw [drop_parts _ 40 8, go_app q_5]
  rw [drop_parts _ 48 8, go_app q_6]
  rw [drop_parts _ 56 8, go_app q_7]
  have e1 : subL.drop (56 + 8) = [] := List.drop_eq_nil_of_le (by rw [show subL.length = 62 by decide +kernel]; decide)
  rw [e1]
  rfl
theorem subs6 : m__law_subsets [.dat (.int 6)] = some (.ok (.new (.lst subL)) [.dat (.int 6)]) := isNew_ok (by decide +kernel)
def isT (r : Option (Res Val)) : Bool := match r with
  | some (.ok (.dat (.bool true)) _) => true
  | _ => false
def isTF (r : Option (Res Flow)) : Bool := match r with
  | some (.ok (.ret (.dat (.bool true))) _) => true
  | _ => false
theorem isTF_ok {r : Option (Res Flow)} (h : isTF r = true) : ∃ Γ, r = some (.ok (.ret (.dat (.bool true))) Γ) := by
  unfold isTF at h
  split at h
  · exact ⟨_, rfl⟩
  · cases h
theorem isT_ok {r : Option (Res Val)} (h : isT r = true) : ∃ Γ, r = some (.ok (.dat (.bool true)) Γ) := by
  unfold isT at h
  split at h
  · exact ⟨_, rfl⟩
  · cases h
theorem fin6 : isTF (lp3 Q8) = true := by decide +kernel
theorem call0 {m : Fn} {Γ : Gm} {n : Int} {d : D} (h0 : Γ[0]? = some (.dat (.int n))) (h : m [.dat (.int n)] = some (.ok (.dat d) [.dat (.int n)])) : cCall m (aF (cV 0) aNil) Γ = some (.ok (.dat d) Γ) := by
  simp [cCall, aF, cV, M.bind, M.ret, frz, aNil, h0, callM, entsOf, entOf, h, backTo', locsOf]
theorem call0n {m : Fn} {Γ : Gm} {n : Int} {d : Ob} (h0 : Γ[0]? = some (.dat (.int n))) (h : m [.dat (.int n)] = some (.ok (.new d) [.dat (.int n)])) : cCall m (aF (cV 0) aNil) Γ = some (.ok (.new d) Γ) := by
  simp [cCall, aF, cV, M.bind, M.ret, frz, aNil, h0, callM, entsOf, entOf, h, backTo', locsOf]
theorem src_d {c : M Val} {L : List D} {Γ : Gm} (h : c Γ = some (.ok (.dat (.list L)) Γ)) : rList c Γ = some (.ok L Γ) := by
  unfold rList M.bind
  rw [h]
  rfl
theorem src_n {c : M Val} {L : List D} {Γ : Gm} (h : c Γ = some (.ok (.new (.lst L)) Γ)) : rList c Γ = some (.ok L Γ) := by
  unfold rList M.bind
  rw [h]
  rfl
theorem right_gen {n : Int} {R0 R1 Q1 Γ : Gm} {L1 L2 : List D} {p b1 b2 b3 : M Flow} {c1 c2 : M (List D)} (h1 : p [.dat (.int n), .un, .un, .un, .un, .un, .un, .un, .un, .un] = some (.ok .nx R0)) (s1 : c1 R0 = some (.ok L1 R0)) (l1 : loopL (tgN 3) b1 L1 R0 = some (.ok .nx R1))
    (s2 : c2 R1 = some (.ok L2 R1)) (l2 : loopL (tgN 5) b2 L2 R1 = some (.ok .nx Q1)) (h3 : b3 Q1 = some (.ok (.ret (.dat (.bool true))) Γ)) : ∃ es, mkM 1 10 (sSeq p (sSeq (sFor (tgN 3) c1 b1) (sSeq (sFor (tgN 5) c2 b2) b3))) [.dat (.int n)] = some (.ok (.dat (.bool true)) es) := by
  have body : sSeq p (sSeq (sFor (tgN 3) c1 b1) (sSeq (sFor (tgN 5) c2 b2) b3)) [.dat (.int n), .un, .un, .un, .un, .un, .un, .un, .un, .un] = some (.ok (.ret (.dat (.bool true))) Γ) := by
    rw [seq_nx h1, seq_nx ((for_nx s1).trans l1), seq_nx ((for_nx s2).trans l2)]
    exact h3
  refine ⟨outs [.dat (.int n)] Γ, ?_⟩
  unfold mkM
  rw [if_pos (by exact ⟨rfl, rfl⟩)]
  rw [show ([Ent.dat (.int n)] ++ List.replicate (10 - 1) Ent.un) = [.dat (.int n), .un, .un, .un, .un, .un, .un, .un, .un, .un] from rfl, body]
  rfl
theorem right_e0 : m__law_right = mkM 1 10 (sSeq (sPar 1 2 cDNewT (c2 fMul (cLst (aF (cC (.int 0)) aNil)) (c2 fSub (cV 0) (cC (.int 1))))) (sSeq (sFor (tgN 3) (rList (cCall m__law_all (aF (cV 0) aNil))) lp1) (sSeq (sFor (tgN 5) (rList (cCall m__law_subsets (aF (cV 0) aNil))) lp2) lp3))) := rfl
theorem par6 : sPar 1 2 cDNewT (c2 fMul (cLst (aF (cC (.int 0)) aNil)) (c2 fSub (cV 0) (cC (.int 1)))) [.dat (.int 6), .un, .un, .un, .un, .un, .un, .un, .un, .un] = some (.ok .nx R0) := isNx_ok (by decide +kernel)
theorem right6 : ∃ es, m__law_right [.dat (.int 6)] = some (.ok (.dat (.bool true)) es) := by
  obtain ⟨Γ, hf⟩ := isTF_ok fin6
  have s1 := src_d (call0 (Γ := R0) rfl all6)
  have s2 := src_n (call0n (Γ := R6) rfl subs6)
  rw [right_e0]
  exact right_gen par6 s1 loop1 s2 loop2 hf
theorem right2 : isT (m__law_right [.dat (.int 2)]) = true := by decide +kernel
theorem right3 : isT (m__law_right [.dat (.int 3)]) = true := by decide +kernel
theorem right4 : isT (m__law_right [.dat (.int 4)]) = true := by decide +kernel
theorem right5 : isT (m__law_right [.dat (.int 5)]) = true := by decide +kernel

end E


set_option Elab.async false
set_option linter.all false
set_option maxRecDepth 100000
set_option maxHeartbeats 4000000
set_option autoImplicit false
namespace E
open PySem
/-! the law, from what its parts do -/
theorem law_gen {urn draw right : Fn} {ns : List Int} {a b r1 a1 c1' r2 a2 c2' : Int} {es1 es2 : List Ent} (hu : urn [.scr ns] = some (.ok (.new (.lst [.int a, .int b, .int 0])) [.scr ns]))
    (h1 : draw [.own true (.lst [.int a, .int b, .int 0]), .dat (.int 4)] = some (.ok (.dat (.int r1)) (.own true (.lst [.int a1, .int b, .int c1']) :: es1)))
    (h2 : draw [.own true (.lst [.int a1, .int b, .int c1']), .dat (.int 2)] = some (.ok (.dat (.int r2)) (.own true (.lst [.int a2, .int b, .int c2']) :: es2)))
    (k1 : 0 ≤ r1) (k2 : r1 < 4) (k3 : 0 ≤ r2) (k4 : r2 < 2) (hr : ∀ n : Int, 2 ≤ n → n ≤ 6 → ∃ es, right [.dat (.int n)] = some (.ok (.dat (.bool true)) es)) :
    ∃ es, mkM 1 4 (sSeq (sAsg 1 (cCall urn (aL (cV 0) aNil)))
  (sSeq (sAsg 2 (cLst (aF (c2 fAdd (cC (.int 2)) (cCall draw (aL (cV 1) (aF (cC (.int 4)) aNil)))) (aF (c2 fIx (cLst (aF (cC (.int 6)) (aF (cC (.int 3)) aNil))) (cCall draw (aL (cV 1) (aF (cC (.int 2)) aNil)))) aNil))))
  (sRet (c2 fEq (cLC (tgN 3) [3] (rList (cV 2)) (cNotT (asB (cCall right (aF (cV 3) aNil)))) (cV 3)) (cLst aNil))))) [.scr ns] = some (.ok (.dat (.bool true)) es) := by
  have a1' : sAsg 1 (cCall urn (aL (cV 0) aNil)) [.scr ns, .un, .un, .un] = some (.ok .nx [.scr ns, .own false (.lst [.int a, .int b, .int 0]), .un, .un]) := by
    simp [sAsg, cCall, aL, cV, M.bind, M.ret, aNil, callM, entsOf, entOf, hu, backTo', locsOf, storeG, notPar]
  obtain ⟨x, hx⟩ : ∃ x, x = (if r2 = 0 then (6 : Int) else 3) := ⟨_, rfl⟩
  have hx2 : 2 ≤ x ∧ x ≤ 6 := by
    rw [hx]
    split <;> omega
  have hix : fIx [.scr ns, .own false (.lst [.int a2, .int b, .int c2']), .un, .un] (.new (.lst [.int 6, .int 3])) (.dat (.int r2)) = some (.dat (.int x)) := by
    have : r2 = 0 ∨ r2 = 1 := by omega
    rcases this with rfl | rfl
    · rw [hx]; rfl
    · rw [hx]; rfl
  have a2' : sAsg 2 (cLst (aF (c2 fAdd (cC (.int 2)) (cCall draw (aL (cV 1) (aF (cC (.int 4)) aNil)))) (aF (c2 fIx (cLst (aF (cC (.int 6)) (aF (cC (.int 3)) aNil))) (cCall draw (aL (cV 1) (aF (cC (.int 2)) aNil)))) aNil))) [.scr ns, .own false (.lst [.int a, .int b, .int 0]), .un, .un]
      = some (.ok .nx [.scr ns, .own false (.lst [.int a2, .int b, .int c2']), .own false (.lst [.int (2 + r1), .int x]), .un]) := by
    simp [sAsg, cLst, cCall, aL, aF, cV, cC, c2, M.bind, M.ret, aNil, frz, callM, entsOf, entOf, h1, h2, hix, backTo', locsOf, entBack, storeG, notPar, fAdd, fI2, datsOf]
  obtain ⟨e1, q1⟩ := hr (2 + r1) (by omega) (by omega)
  obtain ⟨e2, q2⟩ := hr x hx2.1 hx2.2
  have a3' : ∃ Γ, sRet (c2 fEq (cLC (tgN 3) [3] (rList (cV 2)) (cNotT (asB (cCall right (aF (cV 3) aNil)))) (cV 3)) (cLst aNil)) [.scr ns, .own false (.lst [.int a2, .int b, .int c2']), .own false (.lst [.int (2 + r1), .int x]), .un] = some (.ok (.ret (.dat (.bool true))) Γ) := by
    refine ⟨[.scr ns, .own false (.lst [.int a2, .int b, .int c2']), .dat (.list [.int (2 + r1), .int x]), .un], ?_⟩
    simp [sRet, c2, cLC, lcLoop, rList, cNotT, asB, cCall, aF, cV, M.bind, M.ret, aNil, frz, callM, entsOf, entOf, q1, q2, backTo', locsOf, tgN, gSet1, notPar, wipeG, notOwn, restore, cLst, datsOf, fEq, fI2, fEqD, datR]
    exact rfl
  obtain ⟨Γ, a3'⟩ := a3'
  refine ⟨outs [.scr ns] Γ, ?_⟩
  unfold mkM
  rw [if_pos (by exact ⟨rfl, rfl⟩)]
  rw [show ([Ent.scr ns] ++ List.replicate (4 - 1) Ent.un) = [.scr ns, .un, .un, .un] from rfl, seq_nx a1', seq_nx a2', a3']
  rfl
theorem right_all (n : Int) (h1 : 2 ≤ n) (h2 : n ≤ 6) : ∃ es, m__law_right [.dat (.int n)] = some (.ok (.dat (.bool true)) es) := by
  have : n = 2 ∨ n = 3 ∨ n = 4 ∨ n = 5 ∨ n = 6 := by omega
  rcases this with rfl | rfl | rfl | rfl | rfl
  · exact isT_ok right2
  · exact isT_ok right3
  · exact isT_ok right4
  · exact isT_ok right5
  · exact right6
theorem law_true (ns : List Int) (_ : ns.length ≤ 63) : ∃ es, m_law [.scr ns] = some (.ok (.dat (.bool true)) es) := by
  obtain ⟨a, b, hu, ha⟩ := urn_ok ns
  obtain ⟨r1, a1, c1, es1, hd1, h1, h2, h3, h4, h5⟩ := draw_ok (b := b) (w := 4) ha (Int.le_refl 0) (by decide) (by decide) (by decide)
  obtain ⟨r2, a2, c2, es2, hd2, k1, k2, _, _, _⟩ := draw_ok (b := b) (w := 2) h3 (Int.le_trans (Int.le_refl 0) h4) (by omega) (by decide) (by decide)
  exact law_gen hu hd1 hd2 h1 h2 k1 k2 right_all
end E


set_option Elab.async false
set_option linter.all false
set_option maxRecDepth 100000
set_option maxHeartbeats 4000000
set_option autoImplicit false
open PySem PySem.W PyProof.Rows
theorem E.cx_done {P : Program} {w : World} {H : L2.Hp} {s : Shared} {e : Value} {s' : Shared} (z : L2.CX P w [] H s (fun _ _ _ => False) e s') : False := by
  obtain ⟨_, _, _, _, _, _, _, _, _, _, _, _, z⟩ := z
  exact z
set_option maxRecDepth 100000 in
set_option maxHeartbeats 0 in
theorem PySem.Challenge.cw_ringrestart_k37_orders_counted_by_listin_holds : PySem.Challenge.rw_ringrestart_k37_orders_counted_by_listin.Holds := by
  w_on; o_law; k_head; (case hw => w_witness2)
  k_fill
  refine L2.walk_of (l := PySem.Challenge.rw_ringrestart_k37_orders_counted_by_listin) (n := 63) (k := 9) (x := "script") (CX := fun w => L2.CX PySem.Challenge.rw_ringrestart_k37_orders_counted_by_listin.prog w) (sp := fun w => E.spLaw _) rfl (by decide) rfl ⟨rfl, by decide, by decide⟩ (fun w h Y => PySem.W.kIn_of Y) ?F (fun _ _ a ns hl _ hS => ⟨a, ns, rfl, hS, hl, fun _ => rfl⟩) (fun _ _ _ _ _ z => E.cx_done z)
  case F =>
    intro w mg fa h KX G hmg
    refine' E.ok_law (E.Tx.mk
      (E.kc_mk (c := 0) KX G ?q1 ?q2 ?q3 ?q4 ?q5 (E.in4 ?q6 ?q7 ?q8 ?q9))
      (E.df_mk KX G (fun _ _ _ _ _ _ us hl => match us, hl with | [_, _, _], _ => rfl) ?q10 ?q11 ?q12 ?q13)
      (E.df_mk KX G (fun _ _ _ _ _ _ us hl => match us, hl with | [_], _ => rfl) ?q14 ?q15 ?q16 ?q17)
      (E.df_mk KX G (fun _ _ _ _ _ _ us hl => match us, hl with | [_, _], _ => rfl) ?q18 ?q19 ?q20 ?q21)
      (E.df_mk KX G (fun _ _ _ _ _ _ us hl => match us, hl with | [_, _], _ => rfl) ?q22 ?q23 ?q24 ?q25)
      (E.df_mk KX G (fun _ _ _ _ _ _ us hl => match us, hl with | [_, _], _ => rfl) ?q26 ?q27 ?q28 ?q29)
      (E.df_mk KX G (fun _ _ _ _ _ _ us hl => match us, hl with | [_, _], _ => rfl) ?q30 ?q31 ?q32 ?q33)
      (E.df_mk KX G (fun _ _ _ _ _ _ us hl => match us, hl with | [_], _ => rfl) ?q34 ?q35 ?q36 ?q37)
      (E.df_mk KX G (fun _ _ _ _ _ _ us hl => match us, hl with | [_, _], _ => rfl) ?q38 ?q39 ?q40 ?q41)
      (E.df_mk KX G (fun _ _ _ _ _ _ us hl => match us, hl with | [_], _ => rfl) ?q42 ?q43 ?q44 ?q45)
      (E.dfI_mk (fun _ _ _ _ _ _ us hl => match us, hl with | [_, _], _ => rfl) ?q46 ?q47 ?q48 ?q49 ?q50 ?q51 ?q52)
      (E.dfM_mk (fun _ _ _ _ _ _ us hl => match us, hl with | [_, _, _, _], _ => rfl) ?q53 ?q54 ?q55 ?q56 ?q57)
      (E.dfM_mk (fun _ _ _ _ _ _ us hl => match us, hl with | [_], _ => rfl) ?q58 ?q59 ?q60 ?q61 ?q62)
      (E.dfM_mk (fun _ _ _ _ _ _ us hl => match us, hl with | [_, _], _ => rfl) ?q63 ?q64 ?q65 ?q66 ?q67)
      (E.df_mk KX G (fun _ _ _ _ _ _ us hl => match us, hl with | [_], _ => rfl) ?q68 ?q69 ?q70 ?q71)
      (E.df_mk KX G (fun _ _ _ _ _ _ us hl => match us, hl with | [_, _], _ => rfl) ?q72 ?q73 ?q74 ?q75)
      (E.df_mk KX G (fun _ _ _ _ _ _ us hl => match us, hl with | [_], _ => rfl) ?q76 ?q77 ?q78 ?q79)
      (E.df_mk KX G (fun _ _ _ _ _ _ us hl => match us, hl with | [_], _ => rfl) ?q80 ?q81 ?q82 ?q83)
      (E.df_mk KX G (fun _ _ _ _ _ _ us hl => match us, hl with | [_, _], _ => rfl) ?q84 ?q85 ?q86 ?q87)
      (E.df_mk KX G (fun _ _ _ _ _ _ us hl => match us, hl with | [_], _ => rfl) ?q88 ?q89 ?q90 ?q91)
      (E.df_mk KX G (fun _ _ _ _ _ _ us hl => match us, hl with | [_], _ => rfl) ?q92 ?q93 ?q94 ?q95)
      (E.df_mk KX G (fun _ _ _ _ _ _ us hl => match us, hl with | [_, _], _ => rfl) ?q96 ?q97 ?q98 ?q99)
      (E.df_mk KX G (fun _ _ _ _ _ _ us hl => match us, hl with | [_], _ => rfl) ?q100 ?q101 ?q102 ?q103)
      (E.df_mk KX G (fun _ _ _ _ _ _ us hl => match us, hl with | [_], _ => rfl) ?q104 ?q105 ?q106 ?q107)
      (E.df_mk KX G (fun _ _ _ _ _ _ us hl => match us, hl with | [_], _ => rfl) ?q108 ?q109 ?q110 ?q111)
      (E.gI_mk KX G ?q112)
      (E.gI_mk KX G ?q113)
      (PySem.W.mg_none_of KX G ?q114)
      (PySem.W.mg_none_of KX G ?q115)
      (PySem.W.mg_none_of KX G ?q116)
      (PySem.W.mg_none_of KX G ?q117)
      (PySem.W.mg_none_of KX G ?q118)
      (PySem.W.mg_none_of KX G ?q119)
      (PySem.W.mg_none_of KX G ?q120)
      (PySem.W.mg_none_of KX G ?q121)
      (PySem.W.mg_none_of KX G ?q122)
      (PySem.W.mg_none_of KX G ?q123)
      (PySem.W.mg_none_of KX G ?q124)
      (PySem.W.mg_none_of KX G ?q125)
      (PySem.W.mg_none_of KX G ?q126)
      (PySem.W.mg_none_of KX G ?q127)) hmg E.law_true
    (case q1 => k_is)
    (case q2 => k_is)
    (case q3 => k_is)
    (case q4 => k_is)
    (case q5 => k_is)
    (case q6 => k_is)
    (case q7 => k_is)
    (case q8 => k_is)
    (case q9 => k_is)
    (case q10 => k_is)
    (case q11 => k_is)
    (case q12 => k_is)
    (case q13 => k_is)
    (case q14 => k_is)
    (case q15 => k_is)
    (case q16 => k_is)
    (case q17 => k_is)
    (case q18 => k_is)
    (case q19 => k_is)
    (case q20 => k_is)
    (case q21 => k_is)
    (case q22 => k_is)
    (case q23 => k_is)
    (case q24 => k_is)
    (case q25 => k_is)
    (case q26 => k_is)
    (case q27 => k_is)
    (case q28 => k_is)
    (case q29 => k_is)
    (case q30 => k_is)
    (case q31 => k_is)
    (case q32 => k_is)
    (case q33 => k_is)
    (case q34 => k_is)
    (case q35 => k_is)
    (case q36 => k_is)
    (case q37 => k_is)
    (case q38 => k_is)
    (case q39 => k_is)
    (case q40 => k_is)
    (case q41 => k_is)
    (case q42 => k_is)
    (case q43 => k_is)
    (case q44 => k_is)
    (case q45 => k_is)
    (case q46 => k_is)
    (case q47 => k_is)
    (case q48 => k_is)
    (case q49 => k_is)
    (case q50 => k_is)
    (case q51 => k_is)
    (case q52 => k_is)
    (case q53 => k_is)
    (case q54 => k_is)
    (case q55 => k_is)
    (case q56 => k_is)
    (case q57 => k_is)
    (case q58 => k_is)
    (case q59 => k_is)
    (case q60 => k_is)
    (case q61 => k_is)
    (case q62 => k_is)
    (case q63 => k_is)
    (case q64 => k_is)
    (case q65 => k_is)
    (case q66 => k_is)
    (case q67 => k_is)
    (case q68 => k_is)
    (case q69 => k_is)
    (case q70 => k_is)
    (case q71 => k_is)
    (case q72 => k_is)
    (case q73 => k_is)
    (case q74 => k_is)
    (case q75 => k_is)
    (case q76 => k_is)
    (case q77 => k_is)
    (case q78 => k_is)
    (case q79 => k_is)
    (case q80 => k_is)
    (case q81 => k_is)
    (case q82 => k_is)
    (case q83 => k_is)
    (case q84 => k_is)
    (case q85 => k_is)
    (case q86 => k_is)
    (case q87 => k_is)
    (case q88 => k_is)
    (case q89 => k_is)
    (case q90 => k_is)
    (case q91 => k_is)
    (case q92 => k_is)
    (case q93 => k_is)
    (case q94 => k_is)
    (case q95 => k_is)
    (case q96 => k_is)
    (case q97 => k_is)
    (case q98 => k_is)
    (case q99 => k_is)
    (case q100 => k_is)
    (case q101 => k_is)
    (case q102 => k_is)
    (case q103 => k_is)
    (case q104 => k_is)
    (case q105 => k_is)
    (case q106 => k_is)
    (case q107 => k_is)
    (case q108 => k_is)
    (case q109 => k_is)
    (case q110 => k_is)
    (case q111 => k_is)
    (case q112 => k_is)
    (case q113 => k_is)
    (case q114 => k_is)
    (case q115 => k_is)
    (case q116 => k_is)
    (case q117 => k_is)
    (case q118 => k_is)
    (case q119 => k_is)
    (case q120 => k_is)
    (case q121 => k_is)
    (case q122 => k_is)
    (case q123 => k_is)
    (case q124 => k_is)
    (case q125 => k_is)
    (case q126 => k_is)
    (case q127 => k_is)


