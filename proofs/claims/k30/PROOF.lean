import PyProof.Rows.All
import Wide.All
import OpenK.AllK
import Wide.FinOn
import HandS.ForMost
import HandS.Evl
import HandS.Walk
import HandS.Zip
import HandS.IsInst
import HandS.Conv
import HandS.RevRange
import HandS.TupAny
import KE.KTupSum
import KE.GoesEnum
import PySem.Challenge.RW_fairround_k30_whole_stretches
set_option Elab.async false
set_option linter.all false
set_option maxRecDepth 100000
set_option maxHeartbeats 8000000
namespace FR
open PySem PySem.Spec L2
open Evl (Ex ex_rd ex_l ex_t fresh_back)
abbrev Dt := PyData

/-! ### data over heaps -/
mutual
theorem dp_ex {K : PySem.W.Frag} {H H' : Hp} (e : Ex H H') : ∀ {v : V} {d : Dt}, Dp K H v d → Dp K H' v d
  | _, _, .non => .non
  | _, _, .bl b => .bl b
  | _, _, .int i => .int i
  | _, _, .str x => .str x
  | _, _, .lst h a => .lst (ex_l e h) (dpa_ex e a)
  | _, _, .tup h a => .tup (ex_t e h) (dpa_ex e a)
theorem dpa_ex {K : PySem.W.Frag} {H H' : Hp} (e : Ex H H') : ∀ {vs : List V} {ds : List Dt}, DpAll K H vs ds → DpAll K H' vs ds
  | _, _, .nil => .nil
  | _, _, .cons h t => .cons (dp_ex e h) (dpa_ex e t)
end
mutual
/-- no list, no dict within -/
def imm : Dt → Bool
  | .none => true
  | .bool _ => true
  | .int _ => true
  | .str _ => true
  | .list _ => false
  | .tuple xs => immAll xs
  | .dict _ => false
def immAll : List Dt → Bool
  | [] => true
  | x :: xs => imm x && immAll xs
end
/-- the tuples of H stand in H' -/
def Tx (H H' : Hp) : Prop := ∀ a xs, Rd H a (.tup xs) → Rd H' a (.tup xs)
theorem Tx.refl (H : Hp) : Tx H H := fun _ _ h => h
theorem Tx.trans {H H1 H2 : Hp} (a : Tx H H1) (b : Tx H1 H2) : Tx H H2 := fun x o h => b x o (a x o h)
theorem Tx.of {H H' : Hp} (e : Ex H H') : Tx H H' := fun _ _ h => ex_rd e h
theorem tx_t {K : PySem.W.Frag} {H H' : Hp} {a : Addr} {xs : List V} (e : Tx H H') (h : SqT K H a xs) : SqT K H' a xs := by
  rcases h with h | h
  · exact Or.inl (e a _ h)
  · exact Or.inr h
theorem Tx.mut {H H' : Hp} {p : Addr} {xs ys : List V} (e : Tx H H') (h : H' p = some (.lst xs)) : Tx H (upd H' p (.lst ys)) := fun a zs r => by
  have r' := e a zs r
  have ne : a ≠ p := by
    rintro rfl
    rcases r' with r' | ⟨o, r'⟩ <;> · rw [h] at r'; cases r'
  rcases r' with r' | ⟨o, r'⟩
  · exact .inl (by rw [upd_ne ne]; exact r')
  · exact .inr ⟨o, by rw [upd_ne ne]; exact r'⟩
mutual
theorem dp_tx {K : PySem.W.Frag} {H H' : Hp} (e : Tx H H') : ∀ {v : V} {d : Dt}, imm d = true → Dp K H v d → Dp K H' v d
  | _, _, _, .non => .non
  | _, _, _, .bl b => .bl b
  | _, _, _, .int i => .int i
  | _, _, _, .str x => .str x
  | _, _, i, .lst h a => by simp [imm] at i
  | _, _, i, .tup h a => .tup (tx_t e h) (dpa_tx e (by simpa [imm] using i) a)
theorem dpa_tx {K : PySem.W.Frag} {H H' : Hp} (e : Tx H H') : ∀ {vs : List V} {ds : List Dt}, immAll ds = true → DpAll K H vs ds → DpAll K H' vs ds
  | _, _, _, .nil => .nil
  | _, _, i, .cons h t => by
    simp only [immAll, Bool.and_eq_true] at i
    exact .cons (dp_tx e i.1 h) (dpa_tx e i.2 t)
end
theorem immAll_iff : ∀ {ds : List Dt}, immAll ds = true ↔ ∀ d ∈ ds, imm d = true
  | [] => by simp [immAll]
  | d :: ds => by simp [immAll, immAll_iff (ds := ds)]
theorem immAll_map {α : Type} (f : α → Dt) : ∀ (l : List α), (∀ a ∈ l, imm (f a) = true) → immAll (l.map f) = true := fun l h =>
  immAll_iff.mpr fun d hd => by
    obtain ⟨a, ha, rfl⟩ := List.mem_map.mp hd
    exact h a ha
section
variable {K : PySem.W.Frag} {H : Hp} {v : V} {vs ws : List V} {d : Dt} {ds es : List Dt}
theorem dp_int {i : Int} (h : Dp K H v (.int i)) : v = .int i := by cases h; rfl
theorem dp_bl {b : Bool} (h : Dp K H v (.bool b)) : v = .bl b := by cases h; rfl
theorem dp_str {x : Str} (h : Dp K H v (.str x)) : v = .str x := by cases h; rfl
theorem dp_non (h : Dp K H v .none) : v = .non := by cases h; rfl
theorem dp_tup (h : Dp K H v (.tuple ds)) : ∃ a vs, v = .ref a ∧ SqT K H a vs ∧ DpAll K H vs ds := by
  cases h with
  | tup h a => exact ⟨_, _, rfl, h, a⟩
theorem dp_lst (h : Dp K H v (.list ds)) : ∃ a vs, v = .ref a ∧ SqL K H a vs ∧ DpAll K H vs ds := by
  cases h with
  | lst h a => exact ⟨_, _, rfl, h, a⟩
theorem dpa_len : ∀ {vs : List V} {ds : List Dt}, DpAll K H vs ds → vs.length = ds.length
  | _, _, .nil => rfl
  | _, _, .cons _ t => by simp [dpa_len t]
theorem dpa_get : ∀ {vs : List V} {ds : List Dt} {i : Nat} {v : V}, DpAll K H vs ds → vs[i]? = some v → ∃ d, ds[i]? = some d ∧ Dp K H v d
  | _, _, _, _, .nil, e => by simp at e
  | _, _, 0, _, .cons h _, e => by simp at e; subst e; exact ⟨_, rfl, h⟩
  | _, _, i + 1, _, .cons _ t, e => by
    obtain ⟨d, h1, h2⟩ := dpa_get (i := i) t (by simpa using e)
    exact ⟨d, by simpa using h1, h2⟩
theorem dpa_at : ∀ {vs : List V} {ds : List Dt} {i : Nat} {d : Dt}, DpAll K H vs ds → ds[i]? = some d → ∃ v, vs[i]? = some v ∧ Dp K H v d
  | _, _, _, _, .nil, e => by simp at e
  | _, _, 0, _, .cons h _, e => by simp at e; subst e; exact ⟨_, rfl, h⟩
  | _, _, i + 1, _, .cons _ t, e => by
    obtain ⟨d, h1, h2⟩ := dpa_at (i := i) t (by simpa using e)
    exact ⟨d, by simpa using h1, h2⟩
theorem dpa_app : ∀ {vs ws : List V} {ds es : List Dt}, DpAll K H vs ds → DpAll K H ws es → DpAll K H (vs ++ ws) (ds ++ es)
  | _, _, _, _, .nil, s => s
  | _, _, _, _, .cons h t, s => .cons h (dpa_app t s)
theorem dpa_take : ∀ {vs : List V} {ds : List Dt} (n : Nat), DpAll K H vs ds → DpAll K H (vs.take n) (ds.take n)
  | _, _, 0, _ => .nil
  | _, _, _ + 1, .nil => .nil
  | _, _, n + 1, .cons h t => .cons h (dpa_take n t)
theorem dpa_drop : ∀ {vs : List V} {ds : List Dt} (n : Nat), DpAll K H vs ds → DpAll K H (vs.drop n) (ds.drop n)
  | _, _, 0, h => h
  | _, _, _ + 1, .nil => .nil
  | _, _, n + 1, .cons _ t => dpa_drop n t
theorem dpa_set {x : V} {y : Dt} (h : Dp K H x y) : ∀ {vs : List V} {ds : List Dt} (n : Nat), DpAll K H vs ds → DpAll K H (vs.set n x) (ds.set n y)
  | _, _, _, .nil => .nil
  | _, _, 0, .cons _ t => .cons h t
  | _, _, n + 1, .cons q t => .cons q (dpa_set h n t)
theorem dpa_ints : ∀ {vs : List V} {ns : List Int}, DpAll K H vs (ns.map PyData.int) → vs = ns.map V.int
  | [], [], _ => rfl
  | _ :: _, [], h => by cases h
  | [], _ :: _, h => by cases h
  | v :: vs, n :: ns, h => by
    cases h with
    | cons h t => rw [dp_int h, dpa_ints t]; rfl
theorem dpa_bls : ∀ {vs : List V} {ns : List Bool}, DpAll K H vs (ns.map PyData.bool) → vs = ns.map V.bl
  | [], [], _ => rfl
  | _ :: _, [], h => by cases h
  | [], _ :: _, h => by cases h
  | v :: vs, n :: ns, h => by
    cases h with
    | cons h t => rw [dp_bl h, dpa_bls t]; rfl
theorem dpa_of_ints : ∀ (ns : List Int), DpAll K H (ns.map V.int) (ns.map PyData.int)
  | [] => .nil
  | n :: ns => .cons (.int n) (dpa_of_ints ns)
end

/-! ### what a body may change -/
structure Bs where
  B : Hp → Prop
  O : Addr → Prop
  ex : ∀ {H H'}, B H → Ex H H' → B H'
  wr : ∀ {H l vs ws}, O l → H l = some (.lst vs) → B H → B (upd H l (.lst ws))
  new : ∀ {H l}, B H → H l = none → O l
def Bs.of (H0 : Hp) : Bs where
  B := Ex H0
  O := fun l => H0 l = none
  ex := fun a b => a.trans b
  wr := fun o _ b => Ex.mut b o
  new := fun b h => fresh_back b h
/-- in a loop: the tuples that stood at its start stand -/
def Bs.tx (b : Bs) (H1 : Hp) : Bs where
  B := fun H => b.B H ∧ Tx H1 H
  O := b.O
  ex := fun a e => ⟨b.ex a.1 e, a.2.trans (Tx.of e)⟩
  wr := fun o h a => ⟨b.wr o h a.1, a.2.mut h⟩
  new := fun a h => b.new a.1 h
/-- in a loop that changes nothing -/
def Bs.fx (b : Bs) (H1 : Hp) : Bs where
  B := fun H => b.B H ∧ Ex H1 H
  O := fun l => b.O l ∧ H1 l = none
  ex := fun a e => ⟨b.ex a.1 e, a.2.trans e⟩
  wr := fun o h a => ⟨b.wr o.1 h a.1, Ex.mut a.2 o.2⟩
  new := fun a h => ⟨b.new a.1 h, fresh_back a.2 h⟩
structure Bs.Le (b' b : Bs) : Prop where
  hb : ∀ {H}, b'.B H → b.B H
  o : ∀ {l}, b'.O l → b.O l
theorem Bs.Le.refl (b : Bs) : b.Le b := ⟨id, id⟩
theorem Bs.Le.trans {a b c : Bs} (h : a.Le b) (k : b.Le c) : a.Le c := ⟨fun x => k.hb (h.hb x), fun x => k.o (h.o x)⟩
theorem Bs.tx_le (b : Bs) (H1 : Hp) : (b.tx H1).Le b := ⟨fun h => h.1, id⟩
theorem Bs.fx_le (b : Bs) (H1 : Hp) : (b.fx H1).Le b := ⟨fun h => h.1, fun h => h.1⟩

/-! ### slots -/
inductive Slot where
  | un
  | d (x : Dt)
  | own (l : Addr) (ds : List Dt)
abbrev Rho := List Slot
inductive SlOk (K : PySem.W.Frag) (b : Bs) (H : Hp) : Option V → Slot → Prop where
  | un {o} : SlOk K b H o .un
  | d {v x} (h : Dp K H v x) : SlOk K b H (some v) (.d x)
  | own {l vs ds} (o : b.O l) (h : H l = some (.lst vs)) (a : DpAll K H vs ds) : SlOk K b H (some (.ref l)) (.own l ds)
inductive SlAll (K : PySem.W.Frag) (b : Bs) (H : Hp) : St → Rho → Prop where
  | nil : SlAll K b H [] []
  | cons {o s σ ρ} (h : SlOk K b H o s) (t : SlAll K b H σ ρ) : SlAll K b H (o :: σ) (s :: ρ)
structure Sls (K : PySem.W.Frag) (b : Bs) (H : Hp) (σ : St) (ρ : Rho) : Prop where
  hb : b.B H
  all : SlAll K b H σ ρ
section
variable {K : PySem.W.Frag} {b b' : Bs} {H H' : Hp} {σ : St} {ρ : Rho} {o : Option V} {s : Slot}
theorem SlOk.ex (e : Ex H H') (h : SlOk K b H o s) : SlOk K b H' o s := by
  cases h with
  | un => exact .un
  | d h => exact .d (dp_ex e h)
  | own h1 h2 h3 => exact .own h1 (e _ _ h2) (dpa_ex e h3)
theorem SlAll.ex (e : Ex H H') : ∀ {σ : St} {ρ : Rho}, SlAll K b H σ ρ → SlAll K b H' σ ρ
  | _, _, .nil => .nil
  | _, _, .cons h t => .cons (h.ex e) (t.ex e)
theorem Sls.ex (h : Sls K b H σ ρ) (e : Ex H H') : Sls K b H' σ ρ := ⟨b.ex h.hb e, h.all.ex e⟩
theorem SlOk.base (le : ∀ {l}, b.O l → b'.O l) (h : SlOk K b H o s) : SlOk K b' H o s := by
  cases h with
  | un => exact .un
  | d h => exact .d h
  | own h1 h2 h3 => exact .own (le h1) h2 h3
theorem SlAll.base (le : ∀ {l}, b.O l → b'.O l) : ∀ {σ : St} {ρ : Rho}, SlAll K b H σ ρ → SlAll K b' H σ ρ
  | _, _, .nil => .nil
  | _, _, .cons h t => .cons (h.base le) (t.base le)
theorem Sls.le (h : Sls K b' H σ ρ) (le : b'.Le b) : Sls K b H σ ρ := ⟨le.hb h.hb, h.all.base le.o⟩
theorem SlAll.len : ∀ {σ : St} {ρ : Rho}, SlAll K b H σ ρ → σ.length = ρ.length
  | _, _, .nil => rfl
  | _, _, .cons _ t => congrArg (· + 1) t.len
theorem SlAll.get : ∀ {σ : St} {ρ : Rho} {i : Nat} {s : Slot}, SlAll K b H σ ρ → ρ[i]? = some s → ∃ o, σ[i]? = some o ∧ SlOk K b H o s
  | _, _, _, _, .nil, e => by simp at e
  | _, _, 0, _, .cons h _, e => by simp at e; subst e; exact ⟨_, rfl, h⟩
  | _, _, i + 1, _, .cons _ t, e => by
    obtain ⟨o, h1, h2⟩ := SlAll.get (i := i) t (by simpa using e)
    exact ⟨o, by simpa using h1, h2⟩
theorem SlAll.set (h : SlOk K b H o s) : ∀ {σ : St} {ρ : Rho} (i : Nat), SlAll K b H σ ρ → SlAll K b H (σ.set i o) (ρ.set i s)
  | _, _, _, .nil => .nil
  | _, _, 0, .cons _ t => .cons h t
  | _, _, i + 1, .cons q t => .cons q (SlAll.set h i t)
theorem Sls.set (h : Sls K b H σ ρ) (i : Nat) (k : SlOk K b H o s) : Sls K b H (σ.set i o) (ρ.set i s) := ⟨h.hb, SlAll.set k i h.all⟩
/-- slots forgotten -/
def wipeR (ρ : Rho) : List Nat → Rho
  | [] => ρ
  | v :: vs => (wipeR ρ vs).set v .un
theorem SlAll.wipe (h : SlAll K b H σ ρ) : ∀ vs : List Nat, SlAll K b H (L2.wipe σ vs) (wipeR ρ vs)
  | [] => h
  | v :: vs => SlAll.set (o := none) .un v (h.wipe vs)
theorem Sls.wipe (h : Sls K b H σ ρ) (vs : List Nat) : Sls K b H (L2.wipe σ vs) (wipeR ρ vs) := ⟨h.hb, h.all.wipe vs⟩
theorem wipe_set : ∀ (vs : List Nat) (σ : St) (j : Nat) (x : Option V), j ∈ vs → L2.wipe (σ.set j x) vs = L2.wipe σ vs
  | [], _, _, _, h => by cases h
  | v :: vs, σ, j, x, h => by
    show (L2.wipe (σ.set j x) vs).set v none = (L2.wipe σ vs).set v none
    by_cases hj : j ∈ vs
    · rw [wipe_set vs σ j x hj]
    · have e : v = j := by
        rcases List.mem_cons.mp h with e | e
        · exact e.symm
        · exact absurd e hj
      subst e
      have gen : ∀ (vs : List Nat) (σ : St), v ∉ vs → L2.wipe (σ.set v x) vs = (L2.wipe σ vs).set v x := by
        intro vs
        induction vs with
        | nil => intro σ _; rfl
        | cons u us ih =>
          intro σ hn
          have hu : v ≠ u := fun e => hn (by simp [e])
          show (L2.wipe (σ.set v x) us).set u none = ((L2.wipe σ us).set u none).set v x
          rw [ih σ (fun e => hn (List.mem_cons_of_mem _ e)), List.set_comm _ _ hu]
      rw [gen vs σ hj, List.set_set]
theorem wipe_wipe (σ : St) : ∀ (vs us : List Nat), (∀ v ∈ vs, v ∈ us) → L2.wipe (L2.wipe σ vs) us = L2.wipe σ us
  | [], us, _ => rfl
  | v :: vs, us, h => by
    show L2.wipe ((L2.wipe σ vs).set v none) us = _
    rw [wipe_set us _ v none (h v (by simp)), wipe_wipe σ vs us fun w hw => h w (by simp [hw])]
end
end FR

namespace FR
open PySem PySem.Spec L2
open Evl (Ex ex_rd ex_l ex_t fresh_back)

/-! ### what an expression's reading gives, over slots of data -/
section
variable (K : PySem.W.Frag) (b : Bs)
def EvS (te : TE) (ρ : Rho) (S : Dt → Prop) : Prop := ∀ σ H (Q : VK), Sls K b H σ ρ → (∀ d v H', S d → Ex H H' → Dp K H' v d → Q v H') → te σ H Q
def Ev (te : TE) (ρ : Rho) (d : Dt) : Prop := ∀ σ H (Q : VK), Sls K b H σ ρ → (∀ v H', Ex H H' → Dp K H' v d → Q v H') → te σ H Q
def EvT (tt : TT) (ρ : Rho) (c : Bool) : Prop := ∀ σ H (Q : Bool → Hp → Prop), Sls K b H σ ρ → (∀ H', Ex H H' → Q c H') → tt σ H Q
def EvA (ta : TA) (ρ : Rho) (ds : List Dt) : Prop := ∀ σ H (Q : List V → Hp → Prop), Sls K b H σ ρ → (∀ vs H', Ex H H' → DpAll K H' vs ds → Q vs H') → ta σ H Q
/-- a tracked list -/
def EvM (te : TE) (ρ : Rho) (ds : List Dt) : Prop := ∀ σ H (Q : VK), Sls K b H σ ρ → (∀ p vs H', Ex H H' → H' p = some (.lst vs) → DpAll K H' vs ds → Q (.ref p) H') → te σ H Q
/-- a new list -/
def EvL (te : TE) (ρ : Rho) (ds : List Dt) : Prop := ∀ σ H (Q : VK), Sls K b H σ ρ → (∀ p vs H', H p = none → Ex H H' → H' p = some (.lst vs) → DpAll K H' vs ds → Q (.ref p) H') → te σ H Q
def EvO (to : TO) (ρ : Rho) (o : Option Int) : Prop := ∀ σ H (Q : Option Int → Hp → Prop), Sls K b H σ ρ → (∀ H', Ex H H' → Q o H') → to σ H Q
def EvG (g : TG) (ρ : Rho) (y : Dt) (ρ' : Rho) (js : List Nat) : Prop := ∀ σ H v (Q : L2.St → Hp → Prop), Sls K b H σ ρ → Dp K H v y →
  (∀ σ', Sls K b H σ' ρ' → (∀ vs : List Nat, (∀ j ∈ js, j ∈ vs) → L2.wipe σ' vs = L2.wipe σ vs) → Q σ' H) → g v σ H Q
end
section
variable {K : PySem.W.Frag} {b b' : Bs} {ρ : Rho} {te ta tb tc tx : TE} {tt tu : TT} {tA : TA} {d e : Dt} {ds es : List Dt} {i j k : Int}
theorem Ev.s (h : Ev K b te ρ d) : EvS K b te ρ (· = d) := fun σ H Q s q => h σ H Q s fun v H' e r => q d v H' rfl e r
theorem EvS.one (h : EvS K b te ρ (· = d)) : Ev K b te ρ d := fun σ H Q s q => h σ H Q s fun _ v H' e x r => q v H' x (e ▸ r)
theorem Ev.cast (h : Ev K b te ρ d) (e : d = d') : Ev K b te ρ d' := e ▸ h
theorem EvT.cast {c c' : Bool} (h : EvT K b tt ρ c) (e : c = c') : EvT K b tt ρ c' := e ▸ h
theorem EvL.cast (h : EvL K b te ρ ds) (e : ds = es) : EvL K b te ρ es := e ▸ h
theorem EvL.m (h : EvL K b te ρ ds) : EvM K b te ρ ds := fun σ H Q s q => h σ H Q s fun p vs H' _ e x r => q p vs H' e x r
theorem EvM.v (h : EvM K b te ρ ds) : Ev K b te ρ (.list ds) := fun σ H Q s q => h σ H Q s fun p vs H' e x r => q _ H' e (.lst (SqL.of x) r)
theorem EvL.v (h : EvL K b te ρ ds) : Ev K b te ρ (.list ds) := h.m.v
theorem ev_var {n : Nat} (h : ρ[n]? = some (.d d)) : Ev K b (tVar n) ρ d := fun σ H Q s q => by
  obtain ⟨o, h1, h2⟩ := s.all.get h
  cases h2 with
  | d h2 => exact ⟨_, h1, q _ H (Ex.refl H) h2⟩
theorem em_own {n : Nat} {l : Addr} (h : ρ[n]? = some (.own l ds)) : EvM K b (tVar n) ρ ds := fun σ H Q s q => by
  obtain ⟨o, h1, h2⟩ := s.all.get h
  cases h2 with
  | own _ h2 h3 => exact ⟨_, h1, q _ _ H (Ex.refl H) h2 h3⟩
theorem ev_int : Ev K b (tC (.int i)) ρ (.int i) := fun σ H Q s q => q _ H (Ex.refl H) (.int i)
theorem ev_bl {c : Bool} : Ev K b (tC (.bl c)) ρ (.bool c) := fun σ H Q s q => q _ H (Ex.refl H) (.bl c)
theorem ev_str {x : Str} : Ev K b (tC (.str x)) ρ (.str x) := fun σ H Q s q => q _ H (Ex.refl H) (.str x)
theorem ev_non : Ev K b (tC .non) ρ .none := fun σ H Q s q => q _ H (Ex.refl H) .non
/-! operators -/
theorem ev_op {r : R2} (ha : Ev K b ta ρ d) (hb : Ev K b tb ρ e) {f : Dt}
    (hr : ∀ x y H (Q : VK), Dp K H x d → Dp K H y e → (∀ v H', Ex H H' → Dp K H' v f → Q v H') → r x y H Q) : Ev K b (tOp r ta tb) ρ f := fun σ H Q s q =>
  ha σ H _ s fun x H1 e1 d1 => hb σ H1 _ (s.ex e1) fun y H2 e2 d2 => hr x y H2 Q (dp_ex e2 d1) d2 fun v H3 e3 d3 => q v H3 ((e1.trans e2).trans e3) d3
theorem ev_I0 {g : Int → Int → Int} (ha : Ev K b ta ρ (.int i)) (hb : Ev K b tb ρ (.int j)) : Ev K b (tOp (rI0 fun i j => .int (g i j)) ta tb) ρ (.int (g i j)) :=
  ev_op ha hb fun x y H Q d1 d2 q => ⟨i, j, dp_int d1, dp_int d2, q _ H (Ex.refl H) (.int _)⟩
theorem ev_IC {C : Int → Int → Prop} {g : Int → Int → Int} (ha : Ev K b ta ρ (.int i)) (hb : Ev K b tb ρ (.int j)) (hc : C i j) : Ev K b (tOp (rI C fun i j => .int (g i j)) ta tb) ρ (.int (g i j)) :=
  ev_op ha hb fun x y H Q d1 d2 q => ⟨i, j, dp_int d1, dp_int d2, hc, q _ H (Ex.refl H) (.int _)⟩
theorem ev_B0 {g : Int → Int → Bool} (ha : Ev K b ta ρ (.int i)) (hb : Ev K b tb ρ (.int j)) : Ev K b (tOp (rI0 fun i j => .bl (g i j)) ta tb) ρ (.bool (g i j)) :=
  ev_op ha hb fun x y H Q d1 d2 q => ⟨i, j, dp_int d1, dp_int d2, q _ H (Ex.refl H) (.bl _)⟩
theorem ev_add (ha : Ev K b ta ρ (.int i)) (hb : Ev K b tb ρ (.int j)) : Ev K b (tOp (rI0 fun i j => .int (i + j)) ta tb) ρ (.int (i + j)) := ev_I0 (g := fun i j => i + j) ha hb
theorem ev_sub (ha : Ev K b ta ρ (.int i)) (hb : Ev K b tb ρ (.int j)) : Ev K b (tOp (rI0 fun i j => .int (i - j)) ta tb) ρ (.int (i - j)) := ev_I0 (g := fun i j => i - j) ha hb
theorem ev_mul (ha : Ev K b ta ρ (.int i)) (hb : Ev K b tb ρ (.int j)) (hc : CMul i j) : Ev K b (tOp (rI CMul fun i j => .int (i * j)) ta tb) ρ (.int (i * j)) := ev_IC (g := fun i j => i * j) ha hb hc
theorem ev_fdiv (ha : Ev K b ta ρ (.int i)) (hb : Ev K b tb ρ (.int j)) (hc : CDiv i j) : Ev K b (tOp (rI CDiv fun i j => .int (i / j)) ta tb) ρ (.int (i / j)) := ev_IC (g := fun i j => i / j) ha hb hc
theorem ev_mod (ha : Ev K b ta ρ (.int i)) (hb : Ev K b tb ρ (.int j)) (hc : 0 < j) : Ev K b (tOp (rI (fun _ j => 0 < j) fun i j => .int (i % j)) ta tb) ρ (.int (i % j)) := ev_IC (C := fun _ j => 0 < j) (g := fun i j => i % j) ha hb hc
theorem ev_lt (ha : Ev K b ta ρ (.int i)) (hb : Ev K b tb ρ (.int j)) : Ev K b (tOp (rI0 fun i j => .bl (decide (i < j))) ta tb) ρ (.bool (decide (i < j))) := ev_B0 (g := fun i j => decide (i < j)) ha hb
theorem ev_le (ha : Ev K b ta ρ (.int i)) (hb : Ev K b tb ρ (.int j)) : Ev K b (tOp (rI0 fun i j => .bl (decide (i ≤ j))) ta tb) ρ (.bool (decide (i ≤ j))) := ev_B0 (g := fun i j => decide (i ≤ j)) ha hb
theorem ev_gt (ha : Ev K b ta ρ (.int i)) (hb : Ev K b tb ρ (.int j)) : Ev K b (tOp (rI0 fun i j => .bl (decide (j < i))) ta tb) ρ (.bool (decide (j < i))) := ev_B0 (g := fun i j => decide (j < i)) ha hb
theorem ev_ge (ha : Ev K b ta ρ (.int i)) (hb : Ev K b tb ρ (.int j)) : Ev K b (tOp (rI0 fun i j => .bl (decide (j ≤ i))) ta tb) ρ (.bool (decide (j ≤ i))) := ev_B0 (g := fun i j => decide (j ≤ i)) ha hb
theorem ev_neg (ha : Ev K b ta ρ (.int i)) : Ev K b (tUn (rU fun i => .int (-i)) ta) ρ (.int (-i)) := fun σ H Q s q =>
  ha σ H _ s fun x H1 e1 d1 => ⟨i, dp_int d1, q _ H1 e1 (.int _)⟩
theorem ev_eqI (ha : Ev K b ta ρ (.int i)) (hb : Ev K b tb ρ (.int j)) : Ev K b (tOp rEq ta tb) ρ (.bool (decide (i = j))) :=
  ev_op ha hb fun x y H Q d1 d2 q => by
    rw [dp_int d1, dp_int d2]
    refine ⟨rfl, ?_⟩
    rw [show decide (V.int i = V.int j) = decide (i = j) from by rw [dec_int, Bool.beq_eq_decide_eq]]
    exact q _ H (Ex.refl H) (.bl _)
theorem ev_neI (ha : Ev K b ta ρ (.int i)) (hb : Ev K b tb ρ (.int j)) : Ev K b (tOp rNe ta tb) ρ (.bool (!decide (i = j))) :=
  ev_op ha hb fun x y H Q d1 d2 q => by
    rw [dp_int d1, dp_int d2]
    refine ⟨rfl, ?_⟩
    rw [show decide (V.int i = V.int j) = decide (i = j) from by rw [dec_int, Bool.beq_eq_decide_eq]]
    exact q _ H (Ex.refl H) (.bl _)
theorem ev_eqB {x y : Bool} (ha : Ev K b ta ρ (.bool x)) (hb : Ev K b tb ρ (.bool y)) : Ev K b (tOp rEq ta tb) ρ (.bool (decide (x = y))) :=
  ev_op ha hb fun x y H Q d1 d2 q => by
    rw [dp_bl d1, dp_bl d2]
    refine ⟨rfl, ?_⟩
    rw [dec_bl, Bool.beq_eq_decide_eq]
    exact q _ H (Ex.refl H) (.bl _)
theorem ev_neB {x y : Bool} (ha : Ev K b ta ρ (.bool x)) (hb : Ev K b tb ρ (.bool y)) : Ev K b (tOp rNe ta tb) ρ (.bool (!decide (x = y))) :=
  ev_op ha hb fun x y H Q d1 d2 q => by
    rw [dp_bl d1, dp_bl d2]
    refine ⟨rfl, ?_⟩
    rw [dec_bl, Bool.beq_eq_decide_eq]
    exact q _ H (Ex.refl H) (.bl _)
theorem ev_eqS {x y : Str} (ha : Ev K b ta ρ (.str x)) (hb : Ev K b tb ρ (.str y)) : Ev K b (tOp rEq ta tb) ρ (.bool (decide (x = y))) :=
  ev_op ha hb fun x y H Q d1 d2 q => by
    rw [dp_str d1, dp_str d2]
    refine ⟨rfl, ?_⟩
    have e : ∀ a c : Str, decide (V.str a = V.str c) = decide (a = c) := fun a c => by
      by_cases h : a = c
      · rw [h]; simp
      · rw [decide_eq_false h, decide_eq_false (fun z => h (V.str.inj z))]
    rw [e]
    exact q _ H (Ex.refl H) (.bl _)
theorem ev_eqD (ha : Ev K b ta ρ d) (hb : Ev K b tb ρ e) (hd : SeqAt.shaped d = true) (he : SeqAt.shaped e = true) : Ev K b (tOp (rEqD K) ta tb) ρ (.bool (PyData.eqv d e)) :=
  ev_op ha hb fun x y H Q d1 d2 q => ⟨d, e, d1, d2, hd, he, q _ H (Ex.refl H) (.bl _)⟩
theorem ev_neD (ha : Ev K b ta ρ d) (hb : Ev K b tb ρ e) (hd : SeqAt.shaped d = true) (he : SeqAt.shaped e = true) : Ev K b (tOp (rNeD K) ta tb) ρ (.bool (!PyData.eqv d e)) :=
  ev_op ha hb fun x y H Q d1 d2 q => ⟨d, e, d1, d2, hd, he, q _ H (Ex.refl H) (.bl _)⟩
/-- is None -/
def isNon : Dt → Bool
  | .none => true
  | _ => false
theorem dp_isNon {H : Hp} {v : V} (h : Dp K H v d) : decide (v = .non) = isNon d := by cases h <;> rfl
theorem ev_isN (ha : Ev K b ta ρ d) : Ev K b (tIsN ta) ρ (.bool (isNon d)) := fun σ H Q s q =>
  ha σ H _ s fun x H1 e1 d1 => by
    rw [dp_isNon d1]
    exact q _ H1 e1 (.bl _)
theorem ev_notN (ha : Ev K b ta ρ d) : Ev K b (tNotN ta) ρ (.bool (!isNon d)) := fun σ H Q s q =>
  ha σ H _ s fun x H1 e1 d1 => by
    rw [dp_isNon d1]
    exact q _ H1 e1 (.bl _)
/-! tests -/
theorem et_test {c : Bool} (h : Ev K b te ρ (.bool c)) : EvT K b (tTest te) ρ c := fun σ H Q s q => h σ H _ s fun v H1 e1 d1 => ⟨c, dp_bl d1, q H1 e1⟩
theorem et_B {c : Bool} (h : Ev K b te ρ (.bool c)) : EvT K b (tB te) ρ c := fun σ H Q s q => h σ H _ s fun v H1 e1 d1 => ⟨c, dp_bl d1, q H1 e1⟩
theorem et_and {c c' : Bool} (h : EvT K b tt ρ c) (h2 : c = true → EvT K b tu ρ c') : EvT K b (tAnd tt tu) ρ (c && c') := fun σ H Q s q =>
  h σ H _ s fun H1 e1 => by
    cases c with
    | true => exact h2 rfl σ H1 Q (s.ex e1) fun H2 e2 => q H2 (e1.trans e2)
    | false => exact q H1 e1
theorem et_or {c c' : Bool} (h : EvT K b tt ρ c) (h2 : c = false → EvT K b tu ρ c') : EvT K b (tOr tt tu) ρ (c || c') := fun σ H Q s q =>
  h σ H _ s fun H1 e1 => by
    cases c with
    | true => exact q H1 e1
    | false => exact h2 rfl σ H1 Q (s.ex e1) fun H2 e2 => q H2 (e1.trans e2)
theorem et_not {c : Bool} (h : EvT K b tt ρ c) : EvT K b (tNot tt) ρ (!c) := fun σ H Q s q => h σ H _ s fun H1 e1 => q H1 e1
theorem et_yes : EvT K b tYes ρ true := fun σ H Q s q => q H (Ex.refl H)
theorem ev_andV {c c' : Bool} (h : Ev K b ta ρ (.bool c)) (h2 : c = true → Ev K b tb ρ (.bool c')) : Ev K b (tAndV ta tb) ρ (.bool (c && c')) := fun σ H Q s q =>
  h σ H _ s fun v H1 e1 d1 => ⟨c, dp_bl d1, by
    cases c with
    | true => exact h2 rfl σ H1 Q (s.ex e1) fun v H2 e2 d2 => q v H2 (e1.trans e2) d2
    | false => exact q _ H1 e1 (.bl _)⟩
theorem ev_orV {c c' : Bool} (h : Ev K b ta ρ (.bool c)) (h2 : c = false → Ev K b tb ρ (.bool c')) : Ev K b (tOrV ta tb) ρ (.bool (c || c')) := fun σ H Q s q =>
  h σ H _ s fun v H1 e1 d1 => ⟨c, dp_bl d1, by
    cases c with
    | true => exact q _ H1 e1 (.bl _)
    | false => exact h2 rfl σ H1 Q (s.ex e1) fun v H2 e2 d2 => q v H2 (e1.trans e2) d2⟩
theorem ev_notV {c : Bool} (h : Ev K b ta ρ (.bool c)) : Ev K b (tNotV ta) ρ (.bool (!c)) := fun σ H Q s q =>
  h σ H _ s fun v H1 e1 d1 => ⟨c, dp_bl d1, q _ H1 e1 (.bl _)⟩
theorem ev_chainLe (ha : Ev K b ta ρ (.int i)) (hb : Ev K b tb ρ (.int j)) (hc : Ev K b tc ρ (.int k)) :
    Ev K b (tChain (rI0 fun i j => .bl (decide (i ≤ j))) (rI0 fun i j => .bl (decide (i ≤ j))) ta tb tc) ρ (.bool (decide (i ≤ j) && decide (j ≤ k))) := fun σ H Q s q =>
  ha σ H _ s fun x H1 e1 d1 => hb σ H1 _ (s.ex e1) fun y H2 e2 d2 => ⟨i, j, dp_int d1, dp_int d2, decide (i ≤ j), rfl, by
    by_cases h : i ≤ j
    · rw [decide_eq_true h]
      exact hc σ H2 _ (s.ex (e1.trans e2)) fun z H3 e3 d3 => ⟨j, k, by rw [dp_int d2], dp_int d3, q _ H3 ((e1.trans e2).trans e3) (by rw [decide_eq_true h, Bool.true_and]; exact .bl _)⟩
    · rw [decide_eq_false h]
      exact q _ H2 (e1.trans e2) (by rw [decide_eq_false h, Bool.false_and]; exact .bl _)⟩
/-! arguments, displays -/
theorem ea_nil : EvA K b tNil ρ [] := fun σ H Q s q => q [] H (Ex.refl H) .nil
theorem ea_cons (h : Ev K b ta ρ d) (hr : EvA K b tA ρ ds) : EvA K b (tCons ta tA) ρ (d :: ds) := fun σ H Q s q =>
  h σ H _ s fun v H1 e1 d1 => hr σ H1 _ (s.ex e1) fun vs H2 e2 d2 => q _ H2 (e1.trans e2) (.cons (dp_ex e2 d1) d2)
theorem ev_tup (h : EvA K b tA ρ ds) (hl : ds.length ≤ 100000) : Ev K b (tTup tA) ρ (.tuple ds) := fun σ H Q s q =>
  h σ H _ s fun vs H1 e1 d1 => ⟨Evl.sz_of (by rw [dpa_len d1]; exact hl), fun p hp => q _ _ (e1.trans (Ex.new hp)) (.tup (SqT.of upd_same) (dpa_ex (Ex.new hp) d1))⟩
theorem el_lst (h : EvA K b tA ρ ds) (hl : ds.length ≤ 100000) : EvL K b (tLst tA) ρ ds := fun σ H Q s q =>
  h σ H _ s fun vs H1 e1 d1 => ⟨Evl.sz_of (by rw [dpa_len d1]; exact hl), fun p hp => q p vs _ (fresh_back e1 hp) (e1.trans (Ex.new hp)) upd_same (dpa_ex (Ex.new hp) d1)⟩
/-! items, slices -/
theorem ixN_at {α β : Type} {xs : List α} {ys : List β} {i : Int} {y : β} (hl : xs.length = ys.length) (h : atI ys i = some y) : ∃ j, ixN xs.length i = some j ∧ ys[j]? = some y ∧ j < ys.length := by
  unfold atI at h
  rw [hl]
  cases e : ixN ys.length i with
  | none => rw [e] at h; cases h
  | some j =>
    rw [e] at h
    have h : ys[j]? = some y := h
    exact ⟨j, rfl, h, (List.getElem?_eq_some_iff.mp h).1⟩
theorem dpa_atI {H : Hp} {vs : List V} (h : DpAll K H vs ds) (e : atI ds i = some d) : ∃ v, atI vs i = some v ∧ Dp K H v d := by
  obtain ⟨j, e1, e2, _⟩ := ixN_at (dpa_len h) e
  obtain ⟨v, h1, h2⟩ := dpa_at h e2
  refine ⟨v, ?_, h2⟩
  unfold atI
  rw [e1]
  exact h1
theorem ev_ixT (ha : Ev K b ta ρ (.tuple ds)) (hb : Ev K b tb ρ (.int i)) (h : atI ds i = some d) : Ev K b (tOp (rIxT K) ta tb) ρ d :=
  ev_op ha hb fun x y H Q d1 d2 q => by
    obtain ⟨a, vs, rfl, h1, h2⟩ := dp_tup d1
    obtain ⟨v, h3, h4⟩ := dpa_atI h2 h
    exact ⟨a, vs, i, v, rfl, dp_int d2, h1, h3, q _ H (Ex.refl H) h4⟩
theorem ev_ixL (ha : Ev K b ta ρ (.list ds)) (hb : Ev K b tb ρ (.int i)) (h : atI ds i = some d) : Ev K b (tOp (rIxL K) ta tb) ρ d :=
  ev_op ha hb fun x y H Q d1 d2 q => by
    obtain ⟨a, vs, rfl, h1, h2⟩ := dp_lst d1
    obtain ⟨v, h3, h4⟩ := dpa_atI h2 h
    exact ⟨a, vs, i, v, rfl, dp_int d2, h1, h3, q _ H (Ex.refl H) h4⟩
theorem eo_none : EvO K b tNoPart ρ none := fun σ H Q s q => q H (Ex.refl H)
theorem eo_some (h : Ev K b te ρ (.int i)) : EvO K b (tPart te) ρ (some i) := fun σ H Q s q => h σ H _ s fun v H1 e1 d1 => ⟨i, dp_int d1, q H1 e1⟩
def cutD {α : Type} (xs : List α) (lo hi : Option Int) : List α := (xs.drop (HT.sIx xs.length 0 lo)).take (HT.sIx xs.length xs.length hi - HT.sIx xs.length 0 lo)
theorem dpa_cut {H : Hp} {vs : List V} (h : DpAll K H vs ds) (lo hi : Option Int) : DpAll K H (cutV vs lo hi) (cutD ds lo hi) := by
  unfold cutV cutD
  rw [dpa_len h]
  exact dpa_take _ (dpa_drop _ h)
theorem cutD_whole {α : Type} {xs : List α} {lo hi : Option Int} (h : HT.sIx xs.length 0 lo = 0 ∧ HT.sIx xs.length xs.length hi = xs.length) : cutD xs lo hi = xs := by
  unfold cutD
  rw [h.1, h.2]
  simp
theorem ev_slT {tl th : TO} {lo hi : Option Int} (h : Ev K b te ρ (.tuple ds)) (hl : EvO K b tl ρ lo) (hh : EvO K b th ρ hi) : Ev K b (tSl (rSlA K) te tl th) ρ (.tuple (cutD ds lo hi)) := fun σ H Q s q =>
  h σ H _ s fun v H1 e1 d1 => hl σ H1 _ (s.ex e1) fun H2 e2 => hh σ H2 _ (s.ex (e1.trans e2)) fun H3 e3 => by
    obtain ⟨a, vs, rfl, h1, h2⟩ := dp_tup d1
    have h1' := ex_t (e2.trans e3) h1
    have h2' := dpa_ex (e2.trans e3) h2
    refine ⟨a, vs, rfl, h1', fun hw => ?_, fun hw p hp => ?_⟩
    · rw [dpa_len h2'] at hw
      rw [cutD_whole hw] at q
      exact q _ H3 (e1.trans (e2.trans e3)) (.tup h1' h2')
    · exact q _ _ ((e1.trans (e2.trans e3)).trans (Ex.new hp)) (.tup (SqT.of upd_same) (dpa_ex (Ex.new hp) (dpa_cut h2' lo hi)))
theorem el_slL {tl th : TO} {lo hi : Option Int} (h : Ev K b te ρ (.list ds)) (hl : EvO K b tl ρ lo) (hh : EvO K b th ρ hi) : EvL K b (tSl (rSlL K) te tl th) ρ (cutD ds lo hi) := fun σ H Q s q =>
  h σ H _ s fun v H1 e1 d1 => hl σ H1 _ (s.ex e1) fun H2 e2 => hh σ H2 _ (s.ex (e1.trans e2)) fun H3 e3 => by
    obtain ⟨a, vs, rfl, h1, h2⟩ := dp_lst d1
    exact ⟨a, vs, rfl, ex_l (e2.trans e3) h1, fun p hp => q p _ _ (fresh_back (e1.trans (e2.trans e3)) hp) ((e1.trans (e2.trans e3)).trans (Ex.new hp)) upd_same (dpa_ex (Ex.new hp) (dpa_cut (dpa_ex (e2.trans e3) h2) lo hi))⟩
theorem ev_catT (ha : Ev K b ta ρ (.tuple ds)) (hb : Ev K b tb ρ (.tuple es)) (hl : ds.length + es.length ≤ 100000) : Ev K b (tOp (rCatA K) ta tb) ρ (.tuple (ds ++ es)) :=
  ev_op ha hb fun x y H Q d1 d2 q => by
    obtain ⟨a, vs, rfl, h1, h2⟩ := dp_tup d1
    obtain ⟨c, ws, rfl, h3, h4⟩ := dp_tup d2
    refine ⟨a, c, vs, ws, rfl, rfl, h1, h3, Evl.sz_of (by rw [dpa_len h2, dpa_len h4]; exact hl), fun e => ?_, fun _ e => ?_, fun _ _ p hp => ?_⟩
    · subst e
      cases h2
      exact q _ H (Ex.refl H) (.tup h3 h4)
    · subst e
      cases h4
      rw [List.append_nil] at q
      exact q _ H (Ex.refl H) (.tup h1 h2)
    · exact q _ _ (Ex.new hp) (.tup (SqT.of upd_same) (dpa_ex (Ex.new hp) (dpa_app h2 h4)))
theorem el_cat (ha : EvM K b ta ρ ds) (hb : EvM K b tb ρ es) (hl : ds.length + es.length ≤ 100000) : EvL K b (tOp rCat ta tb) ρ (ds ++ es) := fun σ H Q s q =>
  ha σ H _ s fun a vs H1 e1 h1 d1 => hb σ H1 _ (s.ex e1) fun c ws H2 e2 h2 d2 =>
    ⟨a, c, vs, ws, rfl, rfl, e2 _ _ h1, h2, Evl.sz_of (by rw [dpa_len d1, dpa_len d2]; exact hl), fun p hp => q p _ _ (fresh_back (e1.trans e2) hp) ((e1.trans e2).trans (Ex.new hp)) upd_same (dpa_ex (Ex.new hp) (dpa_app (dpa_ex e2 d1) d2))⟩
/-! calls of built-ins -/
theorem ev_call1 {r : List V → Hp → VK → Prop} (ha : Ev K b ta ρ d) {f : Dt} (hr : ∀ x H (Q : VK), Dp K H x d → (∀ v H', Ex H H' → Dp K H' v f → Q v H') → r [x] H Q) : Ev K b (tCB r (tCons ta tNil)) ρ f := fun σ H Q s q =>
  ha σ H _ s fun x H1 e1 d1 => hr x H1 Q d1 fun v H2 e2 d2 => q v H2 (e1.trans e2) d2
theorem ev_lenT (ha : Ev K b ta ρ (.tuple ds)) : Ev K b (tCB (Evl.rLenS K) (tCons ta tNil)) ρ (.int (ds.length : Int)) :=
  ev_call1 ha fun x H Q d1 q => by
    obtain ⟨a, vs, rfl, h1, h2⟩ := dp_tup d1
    refine ⟨a, vs, rfl, .inr h1, ?_⟩
    rw [dpa_len h2]
    exact q _ H (Ex.refl H) (.int _)
theorem ev_lenL (ha : Ev K b ta ρ (.list ds)) : Ev K b (tCB (Evl.rLenS K) (tCons ta tNil)) ρ (.int (ds.length : Int)) :=
  ev_call1 ha fun x H Q d1 q => by
    obtain ⟨a, vs, rfl, h1, h2⟩ := dp_lst d1
    refine ⟨a, vs, rfl, .inl h1, ?_⟩
    rw [dpa_len h2]
    exact q _ H (Ex.refl H) (.int _)
def rTupS (K : PySem.W.Frag) : List V → Hp → VK → Prop := fun xs H Q => ∃ p ys, xs = [.ref p] ∧ ((SqL K H p ys ∧ ∀ l, H l = none → Q (.ref l) (upd H l (.tup ys))) ∨ (SqT K H p ys ∧ Q (.ref p) H))
theorem ev_tupL (ha : Ev K b ta ρ (.list ds)) : Ev K b (tCB (rTupS K) (tCons ta tNil)) ρ (.tuple ds) :=
  ev_call1 ha fun x H Q d1 q => by
    obtain ⟨a, vs, rfl, h1, h2⟩ := dp_lst d1
    exact ⟨a, vs, rfl, .inl ⟨h1, fun l hl => q _ _ (Ex.new hl) (.tup (SqT.of upd_same) (dpa_ex (Ex.new hl) h2))⟩⟩
theorem el_list {f : Dt} (ha : Ev K b ta ρ f) (hf : f = .tuple ds ∨ f = .list ds) : EvL K b (tCB (Evl.rListS K) (tCons ta tNil)) ρ ds := fun σ H Q s q =>
  ha σ H _ s fun x H1 e1 d1 => by
    rcases hf with rfl | rfl
    · obtain ⟨a, vs, rfl, h1, h2⟩ := dp_tup d1
      exact ⟨a, vs, rfl, .inr h1, fun l hl => q l vs _ (fresh_back e1 hl) (e1.trans (Ex.new hl)) upd_same (dpa_ex (Ex.new hl) h2)⟩
    · obtain ⟨a, vs, rfl, h1, h2⟩ := dp_lst d1
      exact ⟨a, vs, rfl, .inl h1, fun l hl => q l vs _ (fresh_back e1 hl) (e1.trans (Ex.new hl)) upd_same (dpa_ex (Ex.new hl) h2)⟩
theorem ev_sumL {ns : List Int} (ha : Ev K b ta ρ (.list (ns.map PyData.int))) : Ev K b (tCB (rSum K) (tCons ta tNil)) ρ (.int ns.sum) :=
  ev_call1 ha fun x H Q d1 q => by
    obtain ⟨a, vs, rfl, h1, h2⟩ := dp_lst d1
    exact ⟨a, ns, rfl, by rw [← dpa_ints h2]; exact h1, q _ H (Ex.refl H) (.int _)⟩
theorem ev_allL {bs : List Bool} (ha : Ev K b ta ρ (.list (bs.map PyData.bool))) : Ev K b (tCB (rAll K) (tCons ta tNil)) ρ (.bool (bs.all id)) :=
  ev_call1 ha fun x H Q d1 q => by
    obtain ⟨a, vs, rfl, h1, h2⟩ := dp_lst d1
    exact ⟨a, bs, rfl, by rw [← dpa_bls h2]; exact h1, q _ H (Ex.refl H) (.bl _)⟩
def rAbs : List V → Hp → VK → Prop := fun xs H Q => ∃ i, xs = [.int i] ∧ Q (.int (if i < 0 then -i else i)) H
theorem ev_abs (ha : Ev K b ta ρ (.int i)) : Ev K b (tCB rAbs (tCons ta tNil)) ρ (.int (if i < 0 then -i else i)) :=
  ev_call1 ha fun x H Q d1 q => ⟨i, by rw [dp_int d1], q _ H (Ex.refl H) (.int _)⟩
def rMin2 : List V → Hp → VK → Prop := fun xs H Q => ∃ i j, xs = [.int i, .int j] ∧ Q (.int (if j < i then j else i)) H
theorem ev_min2 (ha : Ev K b ta ρ (.int i)) (hb : Ev K b tb ρ (.int j)) : Ev K b (tCB rMin2 (tCons ta (tCons tb tNil))) ρ (.int (if j < i then j else i)) := fun σ H Q s q =>
  ha σ H _ s fun x H1 e1 d1 => hb σ H1 _ (s.ex e1) fun y H2 e2 d2 => ⟨i, j, by rw [dp_int d1, dp_int d2], q _ H2 (e1.trans e2) (.int _)⟩
def rInt1 : List V → Hp → VK → Prop := fun xs H Q => (∃ i, xs = [.int i] ∧ Q (.int i) H) ∨ ∃ k, xs = [.bl k] ∧ Q (.int (if k then 1 else 0)) H
theorem ev_intB {c : Bool} (ha : Ev K b ta ρ (.bool c)) : Ev K b (tCB rInt1 (tCons ta tNil)) ρ (.int (if c then 1 else 0)) :=
  ev_call1 ha fun x H Q d1 q => .inr ⟨c, by rw [dp_bl d1], q _ H (Ex.refl H) (.int _)⟩
/-! isinstance -/
def tyD : Dt → String
  | .none => "NoneType"
  | .bool _ => "bool"
  | .int _ => "int"
  | .str _ => "str"
  | .list _ => "list"
  | .tuple _ => "tuple"
  | .dict _ => "dict"
theorem tyX_of {H : Hp} {v : V} (h : Dp K H v d) : TyX K H v (.type (tyD d)) := by
  cases h with
  | non => exact .base .non
  | bl b => exact .base (.bl b)
  | int i => exact .base (.int i)
  | str x => exact .base (.str x)
  | lst h a =>
    rcases h with (h | ⟨o, h⟩) | ⟨o, its, n, h, c, _⟩
    · exact .base (.lst h)
    · exact .base (.frz h)
    · exact .kList h c
  | tup h a =>
    rcases h with (h | ⟨o, h⟩) | ⟨o, its, n, h, c, _⟩
    · exact .base (.tup h)
    · exact .fTuple h
    · exact .kTuple h c
theorem ev_isi {T : String} {r : Bool} (ha : Ev K b ta ρ d) (h : kitB (tyD d) T = some r) : Ev K b (tCB (rIsi K) (tCons ta (tCons (tC (.ty T)) tNil))) ρ (.bool r) := fun σ H Q s q =>
  ha σ H _ s fun x H1 e1 d1 => ⟨x, .ty T, .type (tyD d), .type T, r, rfl, .ty T, tyX_of d1, kit_ty h, q _ H1 e1 (.bl _)⟩
def isInt : Dt → Bool
  | .int _ => true
  | .bool _ => true
  | _ => false
def isBool : Dt → Bool
  | .bool _ => true
  | _ => false
def isTup : Dt → Bool
  | .tuple _ => true
  | _ => false
def isDict : Dt → Bool
  | .dict _ => true
  | _ => false
theorem kb_int : ∀ d : Dt, isDict d = false → kitB (tyD d) "int" = some (isInt d)
  | .none, _ => (by decide +kernel : kitB "NoneType" "int" = some false)
  | .bool _, _ => (by decide +kernel : kitB "bool" "int" = some true)
  | .int _, _ => (by decide +kernel : kitB "int" "int" = some true)
  | .str _, _ => (by decide +kernel : kitB "str" "int" = some false)
  | .list _, _ => (by decide +kernel : kitB "list" "int" = some false)
  | .tuple _, _ => (by decide +kernel : kitB "tuple" "int" = some false)
  | .dict _, h => nomatch h
theorem kb_bool : ∀ d : Dt, isDict d = false → kitB (tyD d) "bool" = some (isBool d)
  | .none, _ => (by decide +kernel : kitB "NoneType" "bool" = some false)
  | .bool _, _ => (by decide +kernel : kitB "bool" "bool" = some true)
  | .int _, _ => (by decide +kernel : kitB "int" "bool" = some false)
  | .str _, _ => (by decide +kernel : kitB "str" "bool" = some false)
  | .list _, _ => (by decide +kernel : kitB "list" "bool" = some false)
  | .tuple _, _ => (by decide +kernel : kitB "tuple" "bool" = some false)
  | .dict _, h => nomatch h
theorem kb_tup : ∀ d : Dt, isDict d = false → kitB (tyD d) "tuple" = some (isTup d)
  | .none, _ => (by decide +kernel : kitB "NoneType" "tuple" = some false)
  | .bool _, _ => (by decide +kernel : kitB "bool" "tuple" = some false)
  | .int _, _ => (by decide +kernel : kitB "int" "tuple" = some false)
  | .str _, _ => (by decide +kernel : kitB "str" "tuple" = some false)
  | .list _, _ => (by decide +kernel : kitB "list" "tuple" = some false)
  | .tuple _, _ => (by decide +kernel : kitB "tuple" "tuple" = some true)
  | .dict _, h => nomatch h
theorem dp_noDict {H : Hp} {v : V} (h : Dp K H v d) : isDict d = false := by cases h <;> rfl
theorem ev_isF {T : String} {f : Dt → Bool} (kb : ∀ d : Dt, isDict d = false → kitB (tyD d) T = some (f d)) (ha : Ev K b ta ρ d) : Ev K b (tCB (rIsi K) (tCons ta (tCons (tC (.ty T)) tNil))) ρ (.bool (f d)) := fun σ H Q s q =>
  ha σ H _ s fun x H1 e1 d1 => ⟨x, .ty T, .type (tyD d), .type T, f d, rfl, .ty T, tyX_of d1, kit_ty (kb d (dp_noDict d1)), q _ H1 e1 (.bl _)⟩
theorem ev_isInt (ha : Ev K b ta ρ d) : Ev K b (tCB (rIsi K) (tCons ta (tCons (tC (.ty "int")) tNil))) ρ (.bool (isInt d)) := ev_isF kb_int ha
theorem ev_isBool (ha : Ev K b ta ρ d) : Ev K b (tCB (rIsi K) (tCons ta (tCons (tC (.ty "bool")) tNil))) ρ (.bool (isBool d)) := ev_isF kb_bool ha
theorem ev_isTup (ha : Ev K b ta ρ d) : Ev K b (tCB (rIsi K) (tCons ta (tCons (tC (.ty "tuple")) tNil))) ρ (.bool (isTup d)) := ev_isF kb_tup ha
end
end FR

namespace FR
open PySem PySem.Spec L2
open Evl (Ex ex_rd ex_l ex_t fresh_back)

/-! ### what is walked -/
def YD (K : PySem.W.Frag) (ys : List Dt) : Nat → Hp → V → Hp → Prop := fun i H x H' => Ex H H' ∧ ∃ y, ys[i]? = some y ∧ Dp K H' x y
section
variable (K : PySem.W.Frag) (b : Bs)
def EvI (wi : TI) (ρ : Rho) (ys : List Dt) : Prop := ∀ σ H (R : It → Hp → Prop), Sls K b H σ ρ → (∀ J H1, Ex H H1 → Walk J ys.length (fun H2 => Ex H1 H2) (YD K ys) → R J H1) → wi σ H R
/-- .. through a loop that changes lists -/
def EvW (wi : TI) (ρ : Rho) (ys : List Dt) : Prop := ∀ σ H (R : It → Hp → Prop), Sls K b H σ ρ → (∀ J H1, Ex H H1 → Walk J ys.length (fun H2 => Tx H1 H2) (YD K ys) → R J H1) → wi σ H R
end
def enumD (ds : List Dt) : List Dt := ds.zipIdx.map fun p => .tuple [.int (p.2 : Int), p.1]
def zipD (ds es : List Dt) : List Dt := (ds.zip es).map fun p => .tuple [p.1, p.2]
section
variable {K : PySem.W.Frag} {b b' : Bs} {ρ ρ' : Rho} {te ta tb tc tx : TE} {tt tu : TT} {tA : TA} {d e : Dt} {ds es ys : List Dt} {i j k : Int} {wi : TI}
theorem EvW.toI (h : EvW K b wi ρ ys) : EvI K b wi ρ ys := fun σ H R s q => h σ H R s fun J H1 e1 w => q J H1 e1 (w.mono (fun _ e => Tx.of e) fun _ _ _ _ _ _ y => y)
theorem ei_tup (h : Ev K b te ρ (.tuple ys)) : EvI K b (iTup K te) ρ ys := fun σ H R s q =>
  h σ H _ s fun v H1 e1 d1 => by
    obtain ⟨a, vs, rfl, h1, h2⟩ := dp_tup d1
    refine ⟨a, rfl, ⟨vs, h1⟩, q _ H1 e1 ?_⟩
    rw [← dpa_len h2]
    refine (walk_tup (K := K) (a := a) (xs := vs)).mono (fun H2 e2 => ex_t e2 h1) fun i H2 x H3 _ e2 y => ?_
    obtain ⟨rfl, y⟩ := y
    obtain ⟨d, h3, h4⟩ := dpa_get h2 y
    exact ⟨Ex.refl _, d, h3, dp_ex e2 h4⟩
theorem ew_tup (h : Ev K b te ρ (.tuple ys)) (hi : immAll ys = true) : EvW K b (iTup K te) ρ ys := fun σ H R s q =>
  h σ H _ s fun v H1 e1 d1 => by
    obtain ⟨a, vs, rfl, h1, h2⟩ := dp_tup d1
    refine ⟨a, rfl, ⟨vs, h1⟩, q _ H1 e1 ?_⟩
    rw [← dpa_len h2]
    refine (walk_tup (K := K) (a := a) (xs := vs)).mono (fun H2 e2 => tx_t e2 h1) fun i H2 x H3 _ e2 y => ?_
    obtain ⟨rfl, y⟩ := y
    obtain ⟨d, h3, h4⟩ := dpa_get h2 y
    exact ⟨Ex.refl _, d, h3, dp_tx e2 (immAll_iff.mp hi d (List.mem_of_getElem? h3)) h4⟩
theorem ei_list (h : Ev K b te ρ (.list ys)) : EvI K b (iList K te) ρ ys := fun σ H R s q =>
  h σ H _ s fun v H1 e1 d1 => by
    obtain ⟨a, vs, rfl, h1, h2⟩ := dp_lst d1
    refine ⟨a, rfl, ⟨vs, h1⟩, q _ H1 e1 ?_⟩
    rw [← dpa_len h2]
    refine (walk_list (K := K) (a := a) (xs := vs)).mono (fun H2 e2 => ex_l e2 h1) fun i H2 x H3 _ e2 y => ?_
    obtain ⟨rfl, y⟩ := y
    obtain ⟨d, h3, h4⟩ := dpa_get h2 y
    exact ⟨Ex.refl _, d, h3, dp_ex e2 h4⟩
theorem ea_one (h : EvA K b tA ρ [d]) (σ : L2.St) (H : Hp) (Q : List V → Hp → Prop) (s : Sls K b H σ ρ) (q : ∀ v H', Ex H H' → Dp K H' v d → Q [v] H') : tA σ H Q :=
  h σ H Q s fun vs H1 e1 d1 => by
    cases d1 with
    | cons h t => cases t; exact q _ H1 e1 h
def rngD (lo : Int) (n : Nat) : List Dt := (List.range n).map fun (i : Nat) => .int (lo + (i : Int))
theorem walk_rngD (lo : Int) (n : Nat) (G : Hp → Prop) : Walk (Itr lo n) (rngD lo n).length G (YD K (rngD lo n)) := by
  rw [show (rngD lo n).length = n by simp [rngD]]
  refine walk_range.mono (fun _ _ => True.intro) fun i H x H' hi _ y => ?_
  obtain ⟨rfl, rfl⟩ := y
  refine ⟨Ex.refl _, .int (lo + i), ?_, .int _⟩
  unfold rngD
  rw [List.getElem?_map, List.getElem?_range hi]
  rfl
theorem ew_rng1 (h : EvA K b tA ρ [.int j]) (hl : -(2 ^ 62) ≤ j) (hh : j < 2 ^ 62) : EvW K b (iRng1 tA) ρ (rngD 0 j.toNat) := fun σ H R s q =>
  ea_one h σ H _ s fun v H1 e1 d1 => ⟨j, by rw [dp_int d1], hl, hh, q _ H1 e1 (walk_rngD 0 j.toNat _)⟩
theorem ew_rng2 (h : EvA K b tA ρ [.int i, .int j]) (hl : -(2 ^ 62) ≤ i) (hh : i < 2 ^ 62) (hl' : -(2 ^ 62) ≤ j) (hh' : j < 2 ^ 62) : EvW K b (iRng2 tA) ρ (rngD i (j - i).toNat) := fun σ H R s q =>
  h σ H _ s fun vs H1 e1 d1 => by
    cases d1 with
    | cons h1 t =>
      cases t with
      | cons h2 t =>
        cases t
        exact ⟨i, j, by rw [dp_int h1, dp_int h2], ⟨hl, hh, hl', hh'⟩, q _ H1 e1 (walk_rngD _ _ _)⟩
def rngC (lo c : Int) (n : Nat) : List Dt := (List.range n).map fun (i : Nat) => .int (lo + (i : Int) * c)
theorem walk_rngC (lo c : Int) (n : Nat) (G : Hp → Prop) : Walk (Itc lo c n) (rngC lo c n).length G (YD K (rngC lo c n)) := by
  rw [show (rngC lo c n).length = n by simp [rngC]]
  refine walk_rangeC.mono (fun _ _ => True.intro) fun i H x H' hi _ y => ?_
  obtain ⟨rfl, rfl⟩ := y
  refine ⟨Ex.refl _, .int (lo + (i : Int) * c), ?_, .int _⟩
  unfold rngC
  rw [List.getElem?_map, List.getElem?_range hi]
  rfl
theorem ew_rng3 {n : Nat} (h : EvA K b tA ρ [.int i, .int j, .int k]) (hr : RgC i j k n) : EvW K b (iRng3 tA) ρ (rngC i k n) := fun σ H R s q =>
  h σ H _ s fun vs H1 e1 d1 => by
    cases d1 with
    | cons h1 t =>
      cases t with
      | cons h2 t =>
        cases t with
        | cons h3 t =>
          cases t
          exact ⟨i, j, k, n, by rw [dp_int h1, dp_int h2, dp_int h3], hr, q _ H1 e1 (walk_rngC _ _ _ _)⟩
/-- reversed(range(i, j)) -/
theorem ew_revR (ha : Ev K b ta ρ (.int i)) (hb : Ev K b tb ρ (.int j)) (hl : -(2 ^ 62) ≤ i) (hh : i < 2 ^ 62) (hl' : -(2 ^ 62) ≤ j) (hh' : j < 2 ^ 62) :
    EvW K b (iRevR (tRg2 ta tb)) ρ (rngC (i + (((j - i).toNat : Nat) : Int) - 1) (-1) (j - i).toNat) := fun σ H R s q =>
  ha σ H _ s fun v H1 e1 d1 => hb σ H1 _ (s.ex e1) fun u H2 e2 d2 => ⟨i, j, dp_int d1, dp_int d2, hl, hh, hl', hh', q _ H2 (e1.trans e2) (walk_rngC _ _ _ _)⟩
theorem yd_pair {xs ys : List V} {H0 H2 H3 : Hp} {v : V} {i : Nat} {d e : Dt} {f : List Dt} (hx : ∀ x, xs[i]? = some x → Dp K H2 x d) (hy : ∀ y, ys[i]? = some y → Dp K H2 y e) (hf : f[i]? = some (.tuple [d, e]))
    (y : YPair (fun i => xs[i]?) (fun i => ys[i]?) i H2 v H3) : YD K f i H2 v H3 := by
  obtain ⟨T, x, z, rfl, hT, rfl, h1, h2⟩ := y
  exact ⟨Ex.new hT, _, hf, .tup (SqT.of upd_same) (.cons (dp_ex (Ex.new hT) (hx _ h1)) (.cons (dp_ex (Ex.new hT) (hy _ h2)) .nil))⟩
theorem zipD_len : (zipD ds es).length = min ds.length es.length := by unfold zipD; rw [List.length_map, List.length_zip]
theorem zipD_get {n : Nat} (h1 : ds[n]? = some d) (h2 : es[n]? = some e) : (zipD ds es)[n]? = some (.tuple [d, e]) := by
  unfold zipD
  rw [List.getElem?_map, List.getElem?_zip_eq_some (z := (d, e)) |>.mpr ⟨h1, h2⟩]
  rfl
theorem enumD_len : (enumD ds).length = ds.length := by unfold enumD; rw [List.length_map, List.length_zipIdx]
theorem enumD_get {n : Nat} (h1 : ds[n]? = some d) : (enumD ds)[n]? = some (.tuple [.int (n : Int), d]) := by
  unfold enumD
  rw [List.getElem?_map, List.getElem?_zipIdx, h1]
  simp
theorem get_lt {α : Type} {l : List α} {n : Nat} {x : α} (h : l[n]? = some x) : n < l.length := (List.getElem?_eq_some_iff.mp h).1
theorem ea_two (h : EvA K b tA ρ [d, e]) (σ : L2.St) (H : Hp) (Q : List V → Hp → Prop) (s : Sls K b H σ ρ) (q : ∀ v u H', Ex H H' → Dp K H' v d → Dp K H' u e → Q [v, u] H') : tA σ H Q :=
  h σ H Q s fun vs H1 e1 d1 => by
    cases d1 with
    | cons h1 t =>
      cases t with
      | cons h2 t => cases t; exact q _ _ H1 e1 h1 h2
theorem yd_pair2 {xs zs : List V} {H1 H2 H3 : Hp} {v : V} {i : Nat} (hx : DpAll K H2 xs ds) (hz : DpAll K H2 zs es) (y : YPair (fun i => xs[i]?) (fun i => zs[i]?) i H2 v H3) : YD K (zipD ds es) i H2 v H3 := by
  obtain ⟨T, x, z, rfl, hT, rfl, h1, h2⟩ := y
  obtain ⟨d, h3, h4⟩ := dpa_get hx h1
  obtain ⟨e, h5, h6⟩ := dpa_get hz h2
  exact ⟨Ex.new hT, _, zipD_get h3 h5, .tup (SqT.of upd_same) (.cons (dp_ex (Ex.new hT) h4) (.cons (dp_ex (Ex.new hT) h6) .nil))⟩
theorem walk_zipT {a c : Addr} {xs zs : List V} {n : Nat} (hn : n = min xs.length zs.length) : Walk (RZ.ItzT K a c) n (fun H => SqT K H a xs ∧ SqT K H c zs) (YPair (fun i => xs[i]?) (fun i => zs[i]?)) := by
  subst hn
  refine ⟨fun i _ hi q => ?_, fun _ q => ⟨xs, zs, q.1, q.2, by omega⟩, fun i H v H' _ q y => ?_⟩
  · have h1 : i < xs.length := by omega
    have h2 : i < zs.length := by omega
    exact ⟨xs, zs, xs[i], zs[i], q.1, q.2, by simp [h1], by simp [h2]⟩
  · obtain ⟨T, x, z, h1, h2, h3, h4, h5⟩ := y
    exact ⟨T, x, z, h1, h2, h3, h4 xs q.1, h5 zs q.2⟩
theorem ew_zipT (h : EvA K b tA ρ [.tuple ds, .tuple es]) (hi : immAll ds = true) (hj : immAll es = true) : EvW K b (RZ.iZipA K tA) ρ (zipD ds es) := fun σ H R s q =>
  ea_two h σ H _ s fun v u H1 e1 d1 d2 => by
    obtain ⟨a, vs, rfl, h1, h2⟩ := dp_tup d1
    obtain ⟨c, ws, rfl, h3, h4⟩ := dp_tup d2
    refine ⟨a, c, vs, ws, rfl, .inr ⟨h1, h3, q _ H1 e1 ?_⟩⟩
    rw [zipD_len, ← dpa_len h2, ← dpa_len h4]
    exact (walk_zipT rfl).mono (fun H2 e2 => ⟨tx_t e2 h1, tx_t e2 h3⟩) fun i H2 x H3 _ e2 y => yd_pair2 (H1 := H1) (dpa_tx e2 hi h2) (dpa_tx e2 hj h4) y
theorem ei_zipT (h : EvA K b tA ρ [.tuple ds, .tuple es]) : EvI K b (RZ.iZipA K tA) ρ (zipD ds es) := fun σ H R s q =>
  ea_two h σ H _ s fun v u H1 e1 d1 d2 => by
    obtain ⟨a, vs, rfl, h1, h2⟩ := dp_tup d1
    obtain ⟨c, ws, rfl, h3, h4⟩ := dp_tup d2
    refine ⟨a, c, vs, ws, rfl, .inr ⟨h1, h3, q _ H1 e1 ?_⟩⟩
    rw [zipD_len, ← dpa_len h2, ← dpa_len h4]
    exact (walk_zipT rfl).mono (fun H2 e2 => ⟨ex_t e2 h1, ex_t e2 h3⟩) fun i H2 x H3 _ e2 y => yd_pair2 (H1 := H1) (dpa_ex e2 h2) (dpa_ex e2 h4) y
theorem ei_enumL (h : EvA K b tA ρ [.list ds]) : EvI K b (iEnum K tA) ρ (enumD ds) := fun σ H R s q =>
  ea_one h σ H _ s fun v H1 e1 d1 => by
    obtain ⟨a, vs, rfl, h1, h2⟩ := dp_lst d1
    refine ⟨a, vs, rfl, h1, q _ H1 e1 ?_⟩
    rw [enumD_len, ← dpa_len h2]
    refine (walk_enum (K := K) (a := a) (xs := vs)).mono (fun H2 e2 => ex_l e2 h1) fun i H2 x H3 _ e2 y => ?_
    obtain ⟨T, x, z, rfl, hT, rfl, h3, h4⟩ := y
    obtain ⟨d, h5, h6⟩ := dpa_get h2 h4
    cases h3
    exact ⟨Ex.new hT, _, enumD_get h5, .tup (SqT.of upd_same) (.cons (.int _) (.cons (dp_ex (e2.trans (Ex.new hT)) h6) .nil))⟩
/-! ### targets -/
theorem eg_name {n : Nat} {y : Dt} : EvG K b (gName n) ρ y (ρ.set n (.d y)) [n] := fun σ H v Q s h q =>
  q _ (s.set n (.d h)) fun vs hv => wipe_set vs σ n (some v) (hv n (by simp))
theorem eg_tup2 {m n : Nat} {y z : Dt} : EvG K b (gTup K 2 (gCons (gName m) (gCons (gName n) gNil))) ρ (.tuple [y, z]) ((ρ.set m (.d y)).set n (.d z)) [m, n] := fun σ H v Q s h q => by
  obtain ⟨a, vs, rfl, h1, h2⟩ := dp_tup h
  cases h2 with
  | cons h2 t =>
    cases t with
    | cons h3 t =>
      cases t
      refine ⟨a, _, rfl, h1, rfl, _, _, rfl, _, _, rfl, rfl, ?_⟩
      exact q _ ((s.set m (.d h2)).set n (.d h3)) fun vs hv => by rw [wipe_set vs _ n _ (hv n (by simp)), wipe_set vs _ m _ (hv m (by simp))]
theorem eg_tup3 {m n l : Nat} {y z u : Dt} : EvG K b (gTup K 3 (gCons (gName m) (gCons (gName n) (gCons (gName l) gNil)))) ρ (.tuple [y, z, u]) (((ρ.set m (.d y)).set n (.d z)).set l (.d u)) [m, n, l] := fun σ H v Q s h q => by
  obtain ⟨a, vs, rfl, h1, h2⟩ := dp_tup h
  cases h2 with
  | cons h2 t =>
    cases t with
    | cons h3 t =>
      cases t with
      | cons h4 t =>
        cases t
        refine ⟨a, _, rfl, h1, rfl, _, _, rfl, _, _, rfl, _, _, rfl, rfl, ?_⟩
        exact q _ (((s.set m (.d h2)).set n (.d h3)).set l (.d h4)) fun vs hv => by rw [wipe_set vs _ l _ (hv l (by simp)), wipe_set vs _ n _ (hv n (by simp)), wipe_set vs _ m _ (hv m (by simp))]
/-! ### comprehensions -/
theorem el_lc {α : Type} {xs : List α} {y : α → Dt} {ys : List Dt} {g : TG} {ws : List Nat} {js : List Nat} (hi : EvI K b wi ρ ys) (hy : ys = xs.map y) (hn : xs.length ≤ 40000) (p : α → Bool) (f : α → Dt) {ρ' : α → Rho}
    (hg : ∀ a ∈ xs, EvG K b g (wipeR ρ ws) (y a) (ρ' a) js) (hjs : ∀ j ∈ js, j ∈ ws) (ht : ∀ a ∈ xs, EvT K b tt (ρ' a) (p a)) (he : ∀ a ∈ xs, p a = true → Ev K b te (ρ' a) (f a)) (hm : ∀ a ∈ xs, p a = true → imm (f a) = true) :
    EvL K b (tLc wi g tt te ws) ρ ((xs.filter p).map f) := fun σ H Q s q => by
  subst hy
  refine hi σ H _ s fun J H1 e1 w D hD => ?_
  have s1 := s.ex e1
  rw [List.length_map] at w
  have pre : ∀ i, ((xs.take i).filter p).map f = ((xs.take i).filter p).map f := fun _ => rfl
  refine lc_it w (fun i H2 => Ex H1 H2 ∧ ∃ acc, H2 D = some (.lst acc) ∧ DpAll K H2 acc (((xs.take i).filter p).map f)) ⟨Ex.new hD, [], upd_same, .nil⟩ (fun i H2 _ h => h.1) (fun i x H2 H3 hlt h yy => ?_) (fun H2 h => ?_)
  · obtain ⟨e2, acc, ha, hacc⟩ := h
    obtain ⟨e3, yv, hyv, dx⟩ := yy
    rw [List.getElem?_map, List.getElem?_eq_getElem hlt] at hyv
    cases hyv
    have hmem : xs[i] ∈ xs := List.getElem_mem hlt
    have tk : xs.take (i + 1) = xs.take i ++ [xs[i]] := by rw [List.take_add_one, List.getElem?_eq_getElem hlt]; rfl
    have s3 : Sls K b H3 (L2.wipe σ ws) (wipeR ρ ws) := (s1.ex (e2.trans e3)).wipe ws
    refine hg _ hmem (L2.wipe σ ws) H3 x _ s3 dx fun σ' s' hw => ⟨?_, ?_⟩
    · rw [hw ws hjs]
      exact wipe_wipe σ ws ws fun _ h => h
    · refine ht _ hmem σ' H3 _ s' fun H4 e4 => ?_
      have sl : acc.length ≤ i := by
        rw [dpa_len hacc, List.length_map]
        exact Nat.le_trans (List.length_filter_le _ _) (by rw [List.length_take]; exact Nat.min_le_left _ _)
      cases hp : p xs[i] with
      | false =>
        show Ex H1 H4 ∧ _
        refine ⟨(e2.trans e3).trans e4, acc, e4 _ _ (e3 _ _ ha), ?_⟩
        rw [tk, List.filter_append, List.filter_cons_of_neg (by rw [hp]; decide), List.filter_nil, List.append_nil]
        exact dpa_ex (e3.trans e4) hacc
      | true =>
        show te σ' H4 _
        refine he _ hmem hp σ' H4 _ (s'.ex e4) fun v H5 e5 dv => ?_
        have ha5 : H5 D = some (.lst acc) := e5 _ _ (e4 _ _ (e3 _ _ ha))
        refine ⟨acc, ha5, Evl.sz_lt (by omega), Ex.mut (((e2.trans e3).trans e4).trans e5) hD, _, upd_same, ?_⟩
        have tx : Tx H5 (upd H5 D (.lst (acc ++ [v]))) := (Tx.refl H5).mut ha5
        rw [tk, List.filter_append, List.filter_cons_of_pos hp, List.filter_nil, List.map_append]
        refine dpa_app (dpa_tx tx ?_ (dpa_ex ((e3.trans e4).trans e5) hacc)) (.cons (dp_tx tx (hm _ hmem hp) dv) .nil)
        refine immAll_map f _ fun a ha => ?_
        obtain ⟨h1, h2⟩ := List.mem_filter.mp ha
        exact hm a (List.mem_of_mem_take h1) h2
  · obtain ⟨e2, acc, ha, hacc⟩ := h
    rw [List.take_of_length_le (Nat.le_refl _)] at hacc
    exact q D acc H2 (fresh_back e1 hD) (e1.trans e2) ha hacc
theorem el_lc0 {α : Type} {xs : List α} {y : α → Dt} {ys : List Dt} {g : TG} {ws : List Nat} {js : List Nat} (hi : EvI K b wi ρ ys) (hy : ys = xs.map y) (hn : xs.length ≤ 40000) (f : α → Dt) {ρ' : α → Rho}
    (hg : ∀ a ∈ xs, EvG K b g (wipeR ρ ws) (y a) (ρ' a) js) (hjs : ∀ j ∈ js, j ∈ ws) (he : ∀ a ∈ xs, Ev K b te (ρ' a) (f a)) (hm : ∀ a ∈ xs, imm (f a) = true) :
    EvL K b (tLc wi g tYes te ws) ρ (xs.map f) := by
  have h := el_lc (tt := tYes) hi hy hn (fun _ => true) f hg hjs (fun _ _ => et_yes) (fun a h _ => he a h) (fun a h _ => hm a h)
  rw [List.filter_eq_self.mpr (fun _ _ => rfl)] at h
  exact h
end

/-! ### promises -/
/-- called with data of P it gives some data of S, and changes nothing -/
def spS (K : PySem.W.Frag) (P : List Dt → (Dt → Prop) → Prop) : Sp := fun vs H Q _ => ∃ ds S, DpAll K H vs ds ∧ P ds S ∧ ∀ d v H', S d → Ex H H' → Dp K H' v d → Q v H'
/-- .. one answer -/
def spF (K : PySem.W.Frag) (P : List Dt → Dt → Prop) : Sp := spS K fun ds S => ∃ d, P ds d ∧ S = (· = d)
section
variable {K : PySem.W.Frag} {b b' : Bs} {ρ ρ' : Rho} {tA : TA} {d : Dt} {ds : List Dt} {E : XK}
theorem es_call {P : List Dt → (Dt → Prop) → Prop} {S : Dt → Prop} (ha : EvA K b tA ρ ds) (hp : P ds S) : EvS K b (tCall (spS K P) [] E tA) ρ S := fun σ H Q s q =>
  ha σ H _ s fun vs H1 e1 d1 => ⟨ds, S, by rw [List.append_nil]; exact d1, hp, fun d v H2 hd e2 r => q d v H2 hd (e1.trans e2) r⟩
theorem ev_call {P : List Dt → Dt → Prop} (ha : EvA K b tA ρ ds) (hp : P ds d) : Ev K b (tCall (spF K P) [] E tA) ρ d := EvS.one (es_call ha ⟨d, hp, rfl⟩)
end

/-! ### statements -/
section
variable (K : PySem.W.Frag) (b : Bs)
def Bk (t : TS) (ρ : Rho) (D : Ends) : Prop := ∀ σ H, Sls K b H σ ρ → t D σ H
def Nx (ρ : Rho) (D : Ends) : Prop := ∀ σ H, Sls K b H σ ρ → D.nx σ H
def Rt (D : Ends) (S : Dt → Prop) : Prop := ∀ d v H, S d → b.B H → Dp K H v d → D.rt v H
def At (P : Rho → Prop) : L2.St → Hp → Prop := fun σ H => ∃ ρ, P ρ ∧ Sls K b H σ ρ
end
section
variable {K : PySem.W.Frag} {b b' : Bs} {ρ ρ' : Rho} {te ta tb tc tx : TE} {tt : TT} {tA : TA} {d e : Dt} {ds es ys : List Dt} {D : Ends} {t u : TS} {S : Dt → Prop}
theorem Rt.le (h : Rt K b D S) (le : b'.Le b) : Rt K b' D S := fun d v H hd hb r => h d v H hd (le.hb hb) r
theorem bk_seq (h : Bk K b t ρ { D with nx := u D }) : Bk K b (tSeq t u) ρ D := h
theorem bk_asgS {n : Nat} (h : EvS K b te ρ S) (k : ∀ d, S d → Nx K b (ρ.set n (.d d)) D) : Bk K b (tAsg te (gName n)) ρ D := fun σ H s => h σ H _ s fun d v H1 hd e1 r => k d hd _ H1 ((s.ex e1).set n (.d r))
theorem bk_asg {n : Nat} (h : Ev K b te ρ d) (k : Nx K b (ρ.set n (.d d)) D) : Bk K b (tAsg te (gName n)) ρ D := bk_asgS h.s fun _ e => e ▸ k
/-- a new list in slot n -/
theorem bk_asgL {n : Nat} (h : EvL K b te ρ ds) (k : ∀ l, (∀ (j : Nat) l' es, ρ[j]? = some (.own l' es) → l ≠ l') → Nx K b (ρ.set n (.own l ds)) D) : Bk K b (tAsg te (gName n)) ρ D := fun σ H s =>
  h σ H _ s fun p vs H1 hp e1 hv r => k p (fun j l' es hj e => by
    subst e
    obtain ⟨o, h1, h2⟩ := s.all.get hj
    cases h2 with
    | own _ h2 _ => rw [hp] at h2; cases h2) _ H1 ((s.ex e1).set n (.own (b.new s.hb hp) hv r))
theorem bk_asgG {g : TG} (h : EvS K b te ρ S) (k : ∀ d, S d → ∃ ρ' js, EvG K b g ρ d ρ' js ∧ Nx K b ρ' D) : Bk K b (tAsg te g) ρ D := fun σ H s => h σ H _ s fun d v H1 hd e1 r => by
  obtain ⟨ρ', js, hg, hn⟩ := k d hd
  exact hg σ H1 v _ (s.ex e1) r fun σ' s' _ => hn σ' H1 s'
theorem bk_asgG1 {g : TG} {js : List Nat} (h : Ev K b te ρ d) (hg : EvG K b g ρ d ρ' js) (k : Nx K b ρ' D) : Bk K b (tAsg te g) ρ D := bk_asgG h.s fun _ e => ⟨ρ', js, e ▸ hg, k⟩
theorem bk_next (k : Nx K b ρ D) : Bk K b tNext ρ D := k
theorem bk_if {c : Bool} (h : EvT K b tt ρ c) (h1 : c = true → Bk K b t ρ D) (h2 : c = false → Bk K b u ρ D) : Bk K b (tIfS tt t u) ρ D := fun σ H s =>
  h σ H _ s fun H1 e1 => by
    cases c with
    | true => exact h1 rfl σ H1 (s.ex e1)
    | false => exact h2 rfl σ H1 (s.ex e1)
theorem bk_retS {S' : Dt → Prop} (h : EvS K b te ρ S') (r : Rt K b D S) (k : ∀ d, S' d → S d) : Bk K b (tRet te) ρ D := fun σ H s => h σ H _ s fun d v H1 hd e1 dv => r d v H1 (k d hd) (b.ex s.hb e1) dv
theorem bk_ret (h : Ev K b te ρ d) (r : Rt K b D S) (k : S d) : Bk K b (tRet te) ρ D := bk_retS h.s r fun _ e => e ▸ k
/-- the other slots stand where the list at l changes -/
def FreeS (l : Addr) : Slot → Prop
  | .un => True
  | .d x => imm x = true
  | .own l' es => l' ≠ l ∧ immAll es = true
def Free (ρ : Rho) (n : Nat) (l : Addr) : Prop := ∀ (j : Nat) s, j ≠ n → ρ[j]? = some s → FreeS l s
theorem sl_mut {H : Hp} {l : Addr} {vs ws : List V} (hl : H l = some (.lst vs)) {o : Option V} {s : Slot} (h : SlOk K b H o s) (k : FreeS l s) : SlOk K b (upd H l (.lst ws)) o s := by
  cases h with
  | un => exact .un
  | d h => exact .d (dp_tx ((Tx.refl H).mut hl) k h)
  | own h1 h2 h3 => exact .own h1 (by rw [upd_ne k.1]; exact h2) (dpa_tx ((Tx.refl H).mut hl) k.2 h3)
theorem all_mut {H : Hp} {l : Addr} {vs ws : List V} {es : List Dt} (hl : H l = some (.lst vs)) (ho : b.O l) (hw : DpAll K (upd H l (.lst ws)) ws es) : ∀ {σ : L2.St} {ρ : Rho} {n : Nat} {ds : List Dt}, SlAll K b H σ ρ → ρ[n]? = some (.own l ds) → Free ρ n l → SlAll K b (upd H l (.lst ws)) σ (ρ.set n (.own l es)) := by
  intro σ ρ n ds h
  induction h generalizing n with
  | nil => intro e; simp at e
  | @cons o s σ ρ h t ih =>
    intro e f
    cases n with
    | zero =>
      simp at e
      subst e
      cases h with
      | own h1 h2 h3 =>
        refine .cons (.own h1 upd_same hw) ?_
        have rest : ∀ {σ : L2.St} {ρ : Rho}, SlAll K b H σ ρ → (∀ (j : Nat) s, ρ[j]? = some s → FreeS l s) → SlAll K b (upd H l (.lst ws)) σ ρ := by
          intro σ ρ h
          induction h with
          | nil => intro _; exact .nil
          | @cons o s σ ρ h t ih => intro f; exact .cons (sl_mut hl h (f 0 s rfl)) (ih fun j s e => f (j + 1) s (by simpa using e))
        exact rest t fun j s e => f (j + 1) s (by simp) (by simpa using e)
    | succ n =>
      exact .cons (sl_mut hl h (f 0 s (by simp) rfl)) (ih (by simpa using e) fun j s hj e => f (j + 1) s (by simpa using hj) (by simpa using e))
theorem bk_app {n : Nat} {l : Addr} (hn : ρ[n]? = some (.own l ds)) (h : Ev K b te ρ d) (hd : imm d = true) (hds : immAll ds = true) (hz : ds.length < 100000) (f : Free ρ n l) (k : Nx K b (ρ.set n (.own l (ds ++ [d]))) D) :
    Bk K b (tDrop (tBM K "list" rAppend (tVar n) (tCons te tNil))) ρ D := fun σ H s => by
  obtain ⟨o, h1, h2⟩ := s.all.get hn
  cases h2 with
  | @own _ vs _ ho hl hv =>
    refine ⟨_, h1, Or.inl ⟨rfl, _, SqL.of hl⟩, h σ H _ s fun v H1 e1 dv => ?_⟩
    have hl1 := e1 _ _ hl
    have hv1 := dpa_ex e1 hv
    refine ⟨l, vs, v, rfl, rfl, hl1, Evl.sz_lt (by rw [dpa_len hv]; exact hz), ?_⟩
    have s1 := s.ex e1
    have tx : Tx H1 (upd H1 l (.lst (vs ++ [v]))) := (Tx.refl H1).mut hl1
    exact k σ _ ⟨b.wr ho hl1 s1.hb, all_mut hl1 ho (dpa_app (dpa_tx tx hds hv1) (.cons (dp_tx tx hd dv) .nil)) s1.all hn f⟩
/-- an own list becomes plain data -/
theorem SlAll.plain {H : Hp} {l : Addr} : ∀ {σ : L2.St} {ρ : Rho} {n : Nat} {ds : List Dt}, SlAll K b H σ ρ → ρ[n]? = some (.own l ds) → SlAll K b H σ (ρ.set n (.d (.list ds)))
  | _, _, _, _, .nil, e => by simp at e
  | _, _, 0, _, .cons h t, e => by
    simp at e
    subst e
    cases h with
    | own h1 h2 h3 => exact .cons (.d (.lst (SqL.of h2) h3)) t
  | _, _, n + 1, _, .cons h t, e => .cons h (SlAll.plain t (by simpa using e))
/-- for over what stands while the body changes lists -/
theorem bk_for {wi : TI} {g : TG} {tb : TS} (h : EvW K b wi ρ ys) (Pv : Nat → Rho → Prop) (h0 : Pv 0 ρ)
    (hs : ∀ (b' : Bs) (n : Nat) y ρ1, b'.Le b → ys[n]? = some y → Pv n ρ1 → ∃ ρ2 js, EvG K b' g ρ1 y ρ2 js ∧ Bk K b' tb ρ2 { D with nx := At K b' (Pv (n + 1)), ct := At K b' (Pv (n + 1)), bk := D.nx })
    (hd : ∀ ρ1, Pv ys.length ρ1 → Nx K b ρ1 D) : Bk K b (tFor wi g tb) ρ D := fun σ H s =>
  h σ H _ s fun J H1 e1 w => by
    refine for_it w (fun n => At K (b.tx H1) (Pv n)) ⟨ρ, h0, ⟨⟨b.ex s.hb e1, Tx.refl H1⟩, SlAll.base (b := b) (b' := b.tx H1) (fun h => h) (s.all.ex e1)⟩⟩ (fun n σ' H' _ ⟨_, _, s'⟩ => s'.hb.2) (fun n x σ' H2 H3 hlt ⟨ρ1, p1, s1⟩ y => ?_) (fun σ' H' ⟨ρ1, p1, s1⟩ => hd ρ1 p1 σ' H' (s1.le (b.tx_le H1)))
    obtain ⟨e3, yv, hyv, dx⟩ := y
    obtain ⟨ρ2, js, hg, hb⟩ := hs (b.tx H1) n yv ρ1 (b.tx_le H1) hyv p1
    exact hg σ' H3 x _ (s1.ex e3) dx fun σ2 s2 _ => hb σ2 H3 s2
/-- for over anything, the body changes nothing and no own list stands in a slot -/
def noOwn (ρ : Rho) : Bool := ρ.all fun s => match s with | .own _ _ => false | _ => true
theorem SlAll.free {H : Hp} (b1 : Bs) : ∀ {σ : L2.St} {ρ : Rho}, SlAll K b H σ ρ → noOwn ρ = true → SlAll K b1 H σ ρ
  | _, _, .nil, _ => .nil
  | _, _, .cons h t, e => by
    simp only [noOwn, List.all_cons, Bool.and_eq_true] at e
    refine .cons ?_ (SlAll.free b1 t e.2)
    cases h with
    | un => exact .un
    | d h => exact .d h
    | own => cases e.1
theorem bk_forP {wi : TI} {g : TG} {tb : TS} (h : EvI K b wi ρ ys) (Pv : Nat → Rho → Prop) (h0 : Pv 0 ρ) (hno : noOwn ρ = true)
    (hs : ∀ (b' : Bs) (n : Nat) y ρ1, b'.Le b → ys[n]? = some y → Pv n ρ1 → ∃ ρ2 js, EvG K b' g ρ1 y ρ2 js ∧ Bk K b' tb ρ2 { D with nx := At K b' (Pv (n + 1)), ct := At K b' (Pv (n + 1)), bk := D.nx })
    (hd : ∀ ρ1, Pv ys.length ρ1 → Nx K b ρ1 D) : Bk K b (tFor wi g tb) ρ D := fun σ H s =>
  h σ H _ s fun J H1 e1 w => by
    refine for_it w (fun n => At K (b.fx H1) (Pv n)) ⟨ρ, h0, ⟨⟨b.ex s.hb e1, Ex.refl H1⟩, (s.all.ex e1).free _ hno⟩⟩ (fun n σ' H' _ ⟨_, _, s'⟩ => s'.hb.2) (fun n x σ' H2 H3 hlt ⟨ρ1, p1, s1⟩ y => ?_) (fun σ' H' ⟨ρ1, p1, s1⟩ => hd ρ1 p1 σ' H' (s1.le (b.fx_le H1)))
    obtain ⟨e3, yv, hyv, dx⟩ := y
    obtain ⟨ρ2, js, hg, hb⟩ := hs (b.fx H1) n yv ρ1 (b.fx_le H1) hyv p1
    exact hg σ' H3 x _ (s1.ex e3) dx fun σ2 s2 _ => hb σ2 H3 s2
end

/-! ### defs -/
section
variable {P : Program} {w : World} {K : PySem.W.Frag} {mg : Str → Option Value} {base : Heap}
theorem start_ok {b : Bs} {H : Hp} : ∀ {vs : List V} {ds : List Dt} (m : Nat), DpAll K H vs ds → SlAll K b H (vs.map some ++ List.replicate m none) (ds.map Slot.d ++ List.replicate m .un)
  | _, _, 0, .nil => .nil
  | _, _, m + 1, .nil => .cons .un (start_ok m .nil)
  | _, _, m, .cons h t => .cons (.d h) (start_ok m t)
/-- THE RULE: a def's body, over data -/
theorem okS {x qual : Str} {st : Stmt} {f : Addr} {fd : FuncData} {N ps : List Str} {k : Nat} {PP : List Dt → (Dt → Prop) → Prop} (F : Fun K x qual st f fd) (S : FnScope N ps (defScope st)) (len : ∀ ds S, PP ds S → ds.length = ps.length)
    (hbody : ∀ (cdv : Value) (A : Around) (outer : List Env) (s : Shared) (H : Hp) (E : XK), Room k (A.deeper (PyProof.Rows.envOfC qual (defScope st) s.heap.objs.size f cdv)) →
      ∃ t, PSs (cxOf CX0 P w K mg base N qual (defScope st) f cdv A outer s H E).nox (defBody st) t ∧
        ∀ ds S, PP ds S → ∀ (b : Bs) (D : Ends), Rt K b D S → (∀ σ H, S .none → b.B H → D.nx σ H) → Bk K b t (ds.map Slot.d ++ List.replicate (N.length - ds.length) .un) D) : FnOk P w K mg base CX0 (k + 1) f fd ps (spS K PP) := by
  refine F.ok S (fun vs H Q E h => ?_) (fun cdv A outer s H vs Q E hr h => ?_)
  · obtain ⟨ds, S', h1, h2, _⟩ := h
    rw [dpa_len h1]
    exact len ds S' h2
  · obtain ⟨ds, S', h1, h2, q⟩ := h
    obtain ⟨t, ht, hk⟩ := hbody cdv A outer s H E hr
    refine ⟨t, ht, hk ds S' h2 (Bs.of H) _ (fun d v H' hd hb r => q d v H' hd hb r) (fun σ H' hd hb => q _ .non H' hd hb .non) _ _ ⟨Ex.refl H, ?_⟩⟩
    unfold L2.start
    rw [dpa_len h1]
    exact start_ok _ h1
/-- .. of one answer -/
theorem okF {x qual : Str} {st : Stmt} {f : Addr} {fd : FuncData} {N ps : List Str} {k : Nat} {PP : List Dt → Dt → Prop} (F : Fun K x qual st f fd) (S : FnScope N ps (defScope st)) (len : ∀ ds d, PP ds d → ds.length = ps.length)
    (hbody : ∀ (cdv : Value) (A : Around) (outer : List Env) (s : Shared) (H : Hp) (E : XK), Room k (A.deeper (PyProof.Rows.envOfC qual (defScope st) s.heap.objs.size f cdv)) →
      ∃ t, PSs (cxOf CX0 P w K mg base N qual (defScope st) f cdv A outer s H E).nox (defBody st) t ∧
        ∀ ds d, PP ds d → ∀ (b : Bs) (D : Ends), Rt K b D (· = d) → Bk K b t (ds.map Slot.d ++ List.replicate (N.length - ds.length) .un) D) : FnOk P w K mg base CX0 (k + 1) f fd ps (spF K PP) :=
  okS F S (fun ds S ⟨d, h, _⟩ => len ds d h) fun cdv A outer s H E hr => by
    obtain ⟨t, ht, hk⟩ := hbody cdv A outer s H E hr
    exact ⟨t, ht, fun ds S ⟨d, h, e⟩ b D hR _ => hk ds d h b D (e ▸ hR)⟩
end
end FR

namespace FR
open PySem PySem.Spec L2
open Evl (Ex ex_rd ex_l ex_t fresh_back)

/-! ### sum of a tuple of ints -/
section
variable {prog : Program} {w : World} {A : Around} {E : Value → Shared → Prop} {s : Shared} {t : Addr} {its : List Value} {ns : List Int} {Q : Value → Shared → Prop}
theorem sumT_raw (hh : A.handled = none) (hl : s.heap.IsTuple t its.toArray) (hi : PyProof.Rows.IntsAre its ns)
    (h : ∀ h' tk t', (∀ b o, s.heap.get? b = some o → h'.get? b = some o) → Q (.int ns.sum t') { s with heap := h', toks := tk }) : wpAny (model prog w) A (call (.builtin "sum") [.ref t]) Q E s := by
  obtain ⟨xs, e⟩ := hi.allInts.items
  have hn : numsOf (intItems xs).toList = ns := by rw [← e]; exact hi.numsOf
  rw [nums_intItems] at hn
  rw [e] at hl
  refine PySem.W.ktm_sumG hh hl fun h' tk t' hk => ?_
  have := h h' tk t' hk
  rw [preSum_eq, List.take_of_length_le (by simp), hn]
  exact this
end
def rSumT (K : PySem.W.Frag) : List V → Hp → VK → Prop := fun vs H Q => ∃ (a : Addr) (ns : List Int), vs = [V.ref a] ∧ SqT K H a (ns.map V.int) ∧ Q (.int ns.sum) H
theorem cr_sumT {X : Cx} (hc : X.calm = true) : CallR X (.builtin "sum") (rSumT X.K) := by
  intro pins s σ H vs us Q I r h
  obtain ⟨a, ns, rfl, hs, q⟩ := h
  obtain ⟨its, rv, hl, _⟩ := I.tuple hs
  rw [Vals.ref1 r]
  exact sumT_raw (I.ok.hd hc) (show s.heap.IsTuple a its.toArray from hl) rv.ints fun h' tk t' hk => ⟨.int _, H, I.kept hk, ⟨_, rfl⟩, q⟩
theorem ev_sumT {K : PySem.W.Frag} {b : Bs} {ρ : Rho} {ta : TE} {ns : List Int} (ha : Ev K b ta ρ (.tuple (ns.map PyData.int))) : Ev K b (tCB (rSumT K) (tCons ta tNil)) ρ (.int ns.sum) :=
  ev_call1 ha fun x H Q d1 q => by
    obtain ⟨a, vs, rfl, h1, h2⟩ := dp_tup d1
    exact ⟨a, ns, rfl, by rw [← dpa_ints h2]; exact h1, q _ H (Ex.refl H) (.int _)⟩

/-! ### enumerate of a tuple -/
theorem meets_enumT (t : Addr) (items : Array Value) :
    Meets (Builtin.«enumerate.__new__» ⟨[.type "enumerate", .ref t], []⟩) (fun _ R s => s.heap.IsTuple t items ∧
      R (.ok (.ret (.ref (s.heap.objs.size + 1))))
        { s with heap := (s.heap.push { cls := .type "tuple_iterator", data := .fields #[.ref t, .int 0 0] }).push { cls := .type "enumerate", data := .fields #[.none, .bool false, .ref s.heap.objs.size, rawInt 0, .none, .none] } }) :=
  .of_wp fun prog w A R s h => by
    obtain ⟨hp, g, d, tk, os⟩ := s
    obtain ⟨hl, h⟩ := h
    rw [show hp.objs.size + 1 = (hp.push { cls := .type "tuple_iterator", data := .fields #[.ref t, .int 0 0] }).objs.size from (Heap.size_push ..).symm] at h
    have hsub := sub_enumerate
    have q1 : ∀ {A' : Around} {E : Value → Shared → Prop} {Q : Value → Shared → Prop}, Q (.ref hp.objs.size) ⟨hp.push { cls := .type "tuple_iterator", data := .fields #[.ref t, .int 0 0] }, g, d, tk, os⟩ → wpAny (model prog w) A' (pyIter (.ref t)) Q E ⟨hp, g, d, tk, os⟩ :=
      fun q => wpAny_pyIter_tuple hl q
    wp_walk using q1
    refine wpAny_stack_any fun st => wpAny_pure ?_
    split
    · rename_i c _ _ _ _ _
      cases (c == Value.type "enumerate")
      · wp_walk using q1
        exact ⟨_, rfl, h⟩
      · wp_walk using q1
        exact ⟨_, rfl, h⟩
    · wp_walk using q1
      exact ⟨_, rfl, h⟩
theorem call_enumT {prog : Program} {w : World} {A : Around} {E : Value → Shared → Prop} {s : Shared} {t : Addr} {items : Array Value} {Q : Value → Shared → Prop} (hT : s.heap.IsTuple t items)
    (h : ∀ h', IsEnum h' (s.heap.objs.size + 1) s.heap.objs.size 0 .none → h'.IsTupleIter s.heap.objs.size t 0 → h'.objs.size = s.heap.objs.size + 2 →
      (∀ b o, s.heap.get? b = some o → h'.get? b = some o) → Q (.ref (s.heap.objs.size + 1)) { s with heap := h' }) :
    wpAny (model prog w) A (call (.type "enumerate") [.ref t]) Q E s := by
  have hz : (s.heap.push { cls := .type "tuple_iterator", data := .fields #[.ref t, .int 0 0] }).objs.size = s.heap.objs.size + 1 := Heap.size_push ..
  have he : IsEnum ((s.heap.push { cls := .type "tuple_iterator", data := .fields #[.ref t, .int 0 0] }).push
      { cls := .type "enumerate", data := .fields #[.none, .bool false, .ref s.heap.objs.size, rawInt 0, .none, .none] }) (s.heap.objs.size + 1) s.heap.objs.size 0 .none := by
    have := Heap.get?_push_size (s.heap.push { cls := .type "tuple_iterator", data := .fields #[.ref t, .int 0 0] })
      (o := { cls := .type "enumerate", data := .fields #[.none, .bool false, .ref s.heap.objs.size, rawInt 0, .none, .none] }) rfl
    rw [hz] at this
    exact this
  refine callType_new F.called_enumerate (by decide) (F.typeCall_enumerate_1 _) (F.newCall_enumerate_1 _) (fun obj => F.args_object_init_2 obj _) F.entry_enumerate_new
    (meets_enumT t items) ⟨hT, ?_⟩
  refine ⟨⟨_, he, rfl⟩, h _ he ⟨_, Heap.get?_push_of_some _ (Heap.get?_push_size _ rfl), rfl, rfl⟩ (by rw [Heap.size_push, hz]) fun b o x => Heap.get?_push_of_some _ (Heap.get?_push_of_some _ x)⟩
/-- the tuple at a as it stands at each turn, each item in a new pair -/
def IteT (K : PySem.W.Frag) (a : Addr) : It :=
  ⟨fun i H => ∃ (xs : List V) (x : V), SqT K H a xs ∧ xs[i]? = some x, fun i H v H' => ∃ T x, v = .ref T ∧ H T = none ∧ H' = upd H T (.tup [.int (i : Nat), x]) ∧ ∀ xs, SqT K H a xs → xs[i]? = some x, fun i H => ∃ xs : List V, SqT K H a xs ∧ xs.length ≤ i⟩
theorem turn_enumT {P : Program} {w : World} {K : PySem.W.Frag} {elts : List Expr} {kk : Nat} {tpos : Pos} (a e it : Addr) :
    Turn P w K (.Tuple elts kk tpos) (IteT K a) [e, it] e (fun i h => (∃ old, IsEnum h e it ((i : Nat) : Int) old) ∧ h.IsTupleIter it a i ∧ e ≠ it ∧ a ≠ it ∧ a ≠ e) where
  mem := by simp
  obj := fun i h st b hb => by
    obtain ⟨⟨old, he⟩, ⟨o, ho, hc, hd⟩, _⟩ := st
    have e' : b = e ∨ b = it := by simpa using hb
    rcases e' with z | z
    · rw [z]; exact ⟨_, he, fun v q => nomatch q⟩
    · rw [z]; exact ⟨o, ho, fun v q => by rw [hd] at q; cases q⟩
  keep := fun i h h' st k => let ⟨⟨old, he⟩, hi, hne⟩ := st; ⟨⟨old, k e (by simp) _ he⟩, hi.at fun o q => k it (by simp) o q, hne⟩
  item := by
    intro X hP hw hK hc i pins s σ H E I hf st hg
    subst hP hw hK
    obtain ⟨⟨old, he⟩, hit, hne, hai, hae⟩ := st
    obtain ⟨xs, x, hq, hx⟩ := hg
    obtain ⟨its, rv, p, hz⟩ := I.tuple hq
    have pT : s.heap.IsTuple a its.toArray := p
    obtain ⟨u, hu, ru⟩ := rv.get hx
    have hel : e < s.heap.objs.size := Heap.lt_size he
    have hil : it < s.heap.objs.size := by obtain ⟨_, q, _⟩ := hit; exact Heap.lt_size q
    have hlt : i < its.toArray.size := by
      have := (List.getElem?_eq_some_iff.mp hu).1
      simpa using this
    have hh : X.A.in1.handled = none := I.ok.hd hc
    refine wpAny_pyNext_enum_itemD (Draws.tuple (prog := X.prog) (w := X.w) (A := X.A.in1) hh it a hai its.toArray) he ⟨hit, pT⟩ hlt hne (by simp; exact ⟨hne, fun z => hae z.symm⟩) fun x' h' tk hP ho hit' hT hsz hk => ?_
    have hxu : x' = u := by
      have hP : its.toArray[i]? = some x' := hP
      have hu' : its.toArray[i]? = some u := by simpa using hu
      rw [hu'] at hP
      exact (Option.some.inj hP).symm
    subst hxu
    refine ⟨_, rfl, wpAny_letOwnedTupleGo_enum (s := { s with heap := h', toks := tk + 1 }) ho fun h'' he' sb => ?_⟩
    have hT2 : h''.get? s.heap.objs.size = some { cls := .type "tuple", data := .seq #[.int i tk, x'] } := (sb.2 _ (Nat.ne_of_gt hel)).trans hT
    have new : ObjOk X.prog X.w (upd H s.heap.objs.size (.tup [.int (i : Nat), x])) h'' s.heap.objs.size (.tup [.int (i : Nat), x]) :=
      ⟨by show 2 ≤ sizeLine; decide, [.int i tk, x'], .cons ⟨_, rfl⟩ (.cons ru .nil), ⟨_, hT2, rfl, _, rfl⟩⟩
    have I1 : Inv X pins σ (upd H s.heap.objs.size (.tup [.int (i : Nat), x])) { s with heap := h'', toks := tk + 1 } :=
      I.turnedNew (ch := [e, it]) (fun b ob hb q => (sb.2 b (fun z => hb (by simp [z]))).trans (hk b ob (fun z => hb (by simp [z])) (fun z => hb (by simp [z])) q)) hf (Nat.le_refl _) new
    refine ⟨.ref s.heap.objs.size, _, I1, rfl, ⟨_, x, rfl, I.hok.fresh (Nat.le_refl _), rfl, fun ys hy => by rw [I.tuple_inj hy hq]; exact hx⟩, ⟨⟨x', ?_⟩, hit'.1.at fun o q => (sb.2 it (Ne.symm hne)).trans q, hne, hai, hae⟩, fun b hb => ?_⟩
    · have e1 : ((i + 1 : Nat) : Int) = (i : Int) + 1 := by omega
      rw [e1]
      exact he'
    · have hb' : b < s.heap.objs.size := by
        have e' : b = e ∨ b = it := by simpa using hb
        rcases e' with z | z
        · rw [z]; exact hel
        · rw [z]; exact hil
      rw [upd_ne (Nat.ne_of_lt hb')]
      exact (hf b hb).1
  done := by
    intro X hP hw hK hc i pins s σ H E I hf st hg
    subst hP hw hK
    obtain ⟨⟨old, he⟩, hit, hne, hai, hae⟩ := st
    obtain ⟨xs, hq, hx⟩ := hg
    obtain ⟨its, rv, p, hz⟩ := I.tuple hq
    have pT : s.heap.IsTuple a its.toArray := p
    obtain ⟨f0, f1, f2, f3, f4, f5⟩ := hf it (by simp)
    have hl := rv.length
    have hh : X.A.in1.handled = none := I.ok.hd hc
    -- an iterator past the end: it draws nothing
    have D : Draws X.prog X.w X.A.in1 it [it, a] its.toArray.size (fun i v => its.toArray[i]? = some v) (fun j h => ∃ j', its.toArray.size ≤ j' ∧ (j < its.toArray.size → False) ∧ h.IsTupleIter it a j' ∧ h.IsTuple a its.toArray) :=
      { live := fun _ _ st => let ⟨_, _, _, ⟨o, ho, _⟩, _⟩ := st; ⟨o, ho⟩
        frame := fun _ _ _ st hk => let ⟨j', h1, h2, h3, h4⟩ := st; ⟨j', h1, h2, h3.at fun o e => hk it (by simp) o e, h4.at fun o e => hk a (by simp) o e⟩
        item := fun j s Q E hi st hQ => let ⟨_, _, h2, _⟩ := st; (h2 hi).elim
        done := fun s Q E st hE => let ⟨j', h1, _, h3, h4⟩ := st; wpAny_nextOf_tuple_end hh h3 h4 (by simpa using h1) hE }
    exact wpAny_pyNext_enum_endD D he ⟨i, by simp; omega, fun z => absurd z (Nat.lt_irrefl _), hit, pT⟩ fun h' eb => ⟨rfl, I.turned (t' := s.toks) (fun b o hb q => eb b o hb q) f0 f1 f3 f4 f5⟩
  self := fun A i s Q E st h => let ⟨⟨_, he⟩, _⟩ := st; wpAny_pyIter_enum he h
def iEnumT (K : PySem.W.Frag) (ta : TA) : TI := fun σ H R => ta σ H fun vs H1 => ∃ a xs, vs = [.ref a] ∧ SqT K H1 a xs ∧ R (IteT K a) H1
theorem pi_enumT {X : Cx} {e : Expr} {ta : TA} {p pos tpos : Pos} {elts : List Expr} {kk : Nat} (hg : Gl X "enumerate") (hm : X.mg "enumerate" = none) (ha : PA X [e] ta) (hs : starEach [e] X.env = [(false, eval e X.env)] := by rfl) :
    PI X (.Tuple elts kk tpos) (.Call (.Name "enumerate" p) [e] [] pos) (iEnumT X.K ta) := by
  refine ⟨fun pins s σ H R I h => ?_⟩
  refine PyProof.Rows.Call_ (ld_blt I hg hm PyProof.Rows.boot_enumerate (PyProof.Rows.callWith_type1 (thn (ha.run pos pins s σ H _ I h) fun us s1 ⟨vs, H1, I1, r1, q1⟩ => ?_) hs rfl))
  obtain ⟨a, xs, ex, hq, q⟩ := q1
  subst ex
  cases r1 with
  | cons r rr =>
    cases rr
    cases r
    obtain ⟨its, rv, p', hz⟩ := I1.tuple hq
    have pT : s1.heap.IsTuple a its.toArray := p'
    refine call_enumT pT fun h' he hit hsz hk => wpAny_pyIter_enum he ?_
    have I2 : Inv X pins σ H1 { s1 with heap := h' } := I1.kept (t' := s1.toks) hk
    have hal : a < s1.heap.objs.size := by obtain ⟨o, ho, _⟩ := p'; exact Heap.lt_size ho
    refine ⟨s1.heap.objs.size + 1, [s1.heap.objs.size + 1, s1.heap.objs.size], _, _, H1, rfl, I2, turn_enumT a (s1.heap.objs.size + 1) s1.heap.objs.size, ⟨⟨.none, he⟩, hit, Nat.succ_ne_self _, Nat.ne_of_lt hal, Nat.ne_of_lt (Nat.lt_succ_of_lt hal)⟩, fun b hb => ?_, q⟩
    have e' : b = s1.heap.objs.size + 1 ∨ b = s1.heap.objs.size := by simpa using hb
    have hle : s1.heap.objs.size ≤ b := by
      rcases e' with z | z
      · rw [z]; exact Nat.le_add_right _ _
      · rw [z]; exact Nat.le_refl _
    exact I1.fpOk hle (I1.hok.fresh hle)
theorem walk_enumT {K : PySem.W.Frag} {a : Addr} {xs : List V} : Walk (IteT K a) xs.length (fun H => SqT K H a xs) (YPair (fun i => some (.int (i : Nat))) (fun i => xs[i]?)) := by
  refine ⟨fun i _ hi q => ⟨xs, xs[i], q, by simp [hi]⟩, fun _ q => ⟨xs, q, Nat.le_refl _⟩, fun i H v H' _ q y => ?_⟩
  obtain ⟨T, x, h1, h2, h3, h4⟩ := y
  exact ⟨T, .int (i : Nat), x, h1, h2, h3, rfl, h4 xs q⟩
section
variable {K : PySem.W.Frag} {b : Bs} {ρ : Rho} {tA : TA} {ds : List Dt}
theorem ei_enumT (h : EvA K b tA ρ [.tuple ds]) : EvI K b (iEnumT K tA) ρ (enumD ds) := fun σ H R s q =>
  ea_one h σ H _ s fun v H1 e1 d1 => by
    obtain ⟨a, vs, rfl, h1, h2⟩ := dp_tup d1
    refine ⟨a, vs, rfl, h1, q _ H1 e1 ?_⟩
    rw [enumD_len, ← dpa_len h2]
    refine walk_enumT.mono (fun H2 e2 => ex_t e2 h1) fun i H2 x H3 _ e2 y => ?_
    obtain ⟨T, x, z, rfl, hT, rfl, h3, h4⟩ := y
    obtain ⟨d, h5, h6⟩ := dpa_get h2 h4
    cases h3
    exact ⟨Ex.new hT, _, enumD_get h5, .tup (SqT.of upd_same) (.cons (.int _) (.cons (dp_ex (e2.trans (Ex.new hT)) h6) .nil))⟩
theorem ew_enumT (h : EvA K b tA ρ [.tuple ds]) (hi : immAll ds = true) : EvW K b (iEnumT K tA) ρ (enumD ds) := fun σ H R s q =>
  ea_one h σ H _ s fun v H1 e1 d1 => by
    obtain ⟨a, vs, rfl, h1, h2⟩ := dp_tup d1
    refine ⟨a, vs, rfl, h1, q _ H1 e1 ?_⟩
    rw [enumD_len, ← dpa_len h2]
    refine walk_enumT.mono (fun H2 e2 => tx_t e2 h1) fun i H2 x H3 _ e2 y => ?_
    obtain ⟨T, x, z, rfl, hT, rfl, h3, h4⟩ := y
    obtain ⟨d, h5, h6⟩ := dpa_get h2 h4
    cases h3
    exact ⟨Ex.new hT, _, enumD_get h5, .tup (SqT.of upd_same) (.cons (.int _) (.cons (dp_ex (Ex.new hT) (dp_tx e2 (immAll_iff.mp hi d (List.mem_of_getElem? h5)) h6)) .nil))⟩
end
end FR

namespace FR
open PySem PySem.Spec L2
open Evl (Ex ex_rd ex_l ex_t fresh_back)

/-! ### built-in names, defs that are called -/
structure Nam (K : PySem.W.Frag) (mg : Str → Option Value) : Prop where
  len : mg "len" = none
  tuple : mg "tuple" = none
  list : mg "list" = none
  range : mg "range" = none
  sum_ : mg "sum" = none
  all_ : mg "all" = none
  isinstance : mg "isinstance" = none
  int : mg "int" = none
  bool : mg "bool" = none
  abs : mg "abs" = none
  min : mg "min" = none
  max : mg "max" = none
  zip : mg "zip" = none
  enumerate : mg "enumerate" = none
  sorted : mg "sorted" = none
  reversed : mg "reversed" = none
  str : mg "str" = none
structure Cal (P : Program) (w : World) (K : PySem.W.Frag) (mg : Str → Option Value) (base : Heap) (k : Nat) (x : Str) (ps : List Str) (sp : Sp) (f : Addr) (fd : FuncData) : Prop where
  ok : FnOk P w K mg base CX0 k f fd ps sp
  g : mg x = some (.ref f)
  kp : PySem.W.keepIn K (.ref f) = true
  b : Binds K fd ps []
theorem bt_len : bootBuiltins "len" = some (.builtin "len") := by decide +kernel
theorem bt_tuple : bootBuiltins "tuple" = some (.type "tuple") := by decide +kernel
theorem bt_list : bootBuiltins "list" = some (.type "list") := by decide +kernel
theorem bt_sum : bootBuiltins "sum" = some (.builtin "sum") := by decide +kernel
theorem bt_all : bootBuiltins "all" = some (.builtin "all") := by decide +kernel
theorem bt_isi : bootBuiltins "isinstance" = some (.builtin "isinstance") := by decide +kernel
theorem bt_int : bootBuiltins "int" = some (.type "int") := by decide +kernel
theorem bt_bool : bootBuiltins "bool" = some (.type "bool") := by decide +kernel
theorem bt_abs : bootBuiltins "abs" = some (.builtin "abs") := by decide +kernel
theorem bt_min : bootBuiltins "min" = some (.builtin "min") := by decide +kernel
section
variable {X : Cx} {K : PySem.W.Frag} {P : Program} {w : World} {p pos : Pos} {e e2 : Expr} {es : List Expr} {te te2 : TE} {tA : TA} {k : Nat} {x : Str} {ps : List Str} {sp : Sp} {f : Addr} {fd : FuncData}
theorem d_call (C : Cal X.prog X.w X.K X.mg X.base k x ps sp f fd) (hr : Room k X.A) (ha : PA X (e :: es) tA) (hg : Gl X x := by rfl) (hdb : (x == ("__debug__" : Str)) = false := by decide)
    (he : starEach (e :: es) X.env = (false, eval e X.env) :: starEach es X.env := by rfl) (hpl : (backTo pos (starEach es X.env)).any (·.1) = false := by rfl) : PE X (.Call (.Name x p) (e :: es) [] pos) (tCall sp [] E0 tA) :=
  pe_call C.ok hr hg C.g C.kp C.b .nil pass0 ha hdb he hpl
theorem d_len (M : Nam K X.mg) (ha : PE X e te) (hg : Gl X "len" := by rfl) (hs : starEach [e] X.env = (false, eval e X.env) :: starEach [] X.env := by rfl) (hK : X.K = K := by rfl) : PE X (.Call (.Name "len" p) [e] [] pos) (tCB (Evl.rLenS K) (tCons te tNil)) := by
  subst hK
  exact pe_callB call_len_seq hg M.len bt_len (pa_cons ha pa_nil hs) (he := hs)
theorem d_tuple (M : Nam K X.mg) (ha : PE X e te) (hg : Gl X "tuple" := by rfl) (hs : starEach [e] X.env = (false, eval e X.env) :: starEach [] X.env := by rfl) (hK : X.K = K := by rfl) : PE X (.Call (.Name "tuple" p) [e] [] pos) (tCB (rTupS K) (tCons te tNil)) := by
  subst hK
  exact pe_callTy call_tuple_of hg M.tuple bt_tuple (pa_cons ha pa_nil hs) (he := hs)
theorem d_list (M : Nam K X.mg) (ha : PE X e te) (hg : Gl X "list" := by rfl) (hs : starEach [e] X.env = (false, eval e X.env) :: starEach [] X.env := by rfl) (hK : X.K = K := by rfl) : PE X (.Call (.Name "list" p) [e] [] pos) (tCB (Evl.rListS K) (tCons te tNil)) := by
  subst hK
  exact pe_callTy call_list_of hg M.list bt_list (pa_cons ha pa_nil hs) (he := hs)
theorem d_sumL (M : Nam K X.mg) (ha : PE X e te) (hc : X.calm = true := by rfl) (hg : Gl X "sum" := by rfl) (hs : starEach [e] X.env = (false, eval e X.env) :: starEach [] X.env := by rfl) (hK : X.K = K := by rfl) : PE X (.Call (.Name "sum" p) [e] [] pos) (tCB (rSum K) (tCons te tNil)) := by
  subst hK
  exact pe_callB (cr_sum hc) hg M.sum_ bt_sum (pa_cons ha pa_nil hs) (he := hs)
theorem d_sumT (M : Nam K X.mg) (ha : PE X e te) (hc : X.calm = true := by rfl) (hg : Gl X "sum" := by rfl) (hs : starEach [e] X.env = (false, eval e X.env) :: starEach [] X.env := by rfl) (hK : X.K = K := by rfl) : PE X (.Call (.Name "sum" p) [e] [] pos) (tCB (rSumT K) (tCons te tNil)) := by
  subst hK
  exact pe_callB (cr_sumT hc) hg M.sum_ bt_sum (pa_cons ha pa_nil hs) (he := hs)
theorem d_all (M : Nam K X.mg) (ha : PE X e te) (hc : X.calm = true := by rfl) (hg : Gl X "all" := by rfl) (hs : starEach [e] X.env = (false, eval e X.env) :: starEach [] X.env := by rfl) (hK : X.K = K := by rfl) : PE X (.Call (.Name "all" p) [e] [] pos) (tCB (rAll K) (tCons te tNil)) := by
  subst hK
  exact pe_callB (cr_all hc) hg M.all_ bt_all (pa_cons ha pa_nil hs) (he := hs)
theorem d_abs (M : Nam K X.mg) (ha : PE X e te) (hg : Gl X "abs" := by rfl) (hs : starEach [e] X.env = (false, eval e X.env) :: starEach [] X.env := by rfl) : PE X (.Call (.Name "abs" p) [e] [] pos) (tCB rAbs (tCons te tNil)) := pe_callB call_abs hg M.abs bt_abs (pa_cons ha pa_nil hs) (he := hs)
theorem d_min (M : Nam K X.mg) (ha : PE X e te) (hb : PE X e2 te2) (hc : X.calm = true := by rfl) (hg : Gl X "min" := by rfl) (hs : starEach [e, e2] X.env = (false, eval e X.env) :: starEach [e2] X.env := by rfl) (hpl : (backTo pos (starEach [e2] X.env)).any (·.1) = false := by rfl)
    (hs2 : starEach [e2] X.env = (false, eval e2 X.env) :: starEach [] X.env := by rfl) : PE X (.Call (.Name "min" p) [e, e2] [] pos) (tCB rMin2 (tCons te (tCons te2 tNil))) :=
  pe_callB (call_min2 hc) hg M.min bt_min (pa_cons ha (pa_cons hb pa_nil hs2) hs) (he := hs) (hpl := hpl)
theorem d_int (M : Nam K X.mg) (ha : PE X e te) (hg : Gl X "int" := by rfl) (hs : starEach [e] X.env = (false, eval e X.env) :: starEach [] X.env := by rfl) : PE X (.Call (.Name "int" p) [e] [] pos) (tCB rInt1 (tCons te tNil)) := pe_callTy call_int1 hg M.int bt_int (pa_cons ha pa_nil hs) (he := hs)
theorem d_isi {y : Str} {T : String} {q : Pos} (M : Nam K X.mg) (ha : PE X e te) (hm : X.mg y = none) (hb : bootBuiltins y = some (.type T)) (hg : Gl X "isinstance" := by rfl) (hg2 : Gl X y := by rfl) (hn : y ≠ "__name__" := by decide) (hd : (y == ("__debug__" : Str)) = false := by decide)
    (hs : starEach [e, .Name y q] X.env = (false, eval e X.env) :: starEach [.Name y q] X.env := by rfl) (hpl : (backTo pos (starEach [.Name y q] X.env)).any (·.1) = false := by rfl) (hK : X.K = K := by rfl) : PE X (.Call (.Name "isinstance" p) [e, .Name y q] [] pos) (tCB (rIsi K) (tCons te (tCons (tC (.ty T)) tNil))) := by
  subst hK
  exact pe_callB call_isi hg M.isinstance bt_isi (pa_cons ha (pa_cons (pe_bltn (v := .ty T) hg2 hm hb rfl hn hd) pa_nil) hs) (he := hs) (hpl := hpl)
theorem d_isInt {q : Pos} (M : Nam K X.mg) (ha : PE X e te) (hg : Gl X "isinstance" := by rfl) (hg2 : Gl X "int" := by rfl)
    (hs : starEach [e, .Name "int" q] X.env = (false, eval e X.env) :: starEach [.Name "int" q] X.env := by rfl) (hK : X.K = K := by rfl) : PE X (.Call (.Name "isinstance" p) [e, .Name "int" q] [] pos) (tCB (rIsi K) (tCons te (tCons (tC (.ty "int")) tNil))) := d_isi M ha M.int bt_int hg hg2 (hs := hs) (hK := hK)
theorem d_isBool {q : Pos} (M : Nam K X.mg) (ha : PE X e te) (hg : Gl X "isinstance" := by rfl) (hg2 : Gl X "bool" := by rfl)
    (hs : starEach [e, .Name "bool" q] X.env = (false, eval e X.env) :: starEach [.Name "bool" q] X.env := by rfl) (hK : X.K = K := by rfl) : PE X (.Call (.Name "isinstance" p) [e, .Name "bool" q] [] pos) (tCB (rIsi K) (tCons te (tCons (tC (.ty "bool")) tNil))) := d_isi M ha M.bool bt_bool hg hg2 (hs := hs) (hK := hK)
theorem d_isTup {q : Pos} (M : Nam K X.mg) (ha : PE X e te) (hg : Gl X "isinstance" := by rfl) (hg2 : Gl X "tuple" := by rfl)
    (hs : starEach [e, .Name "tuple" q] X.env = (false, eval e X.env) :: starEach [.Name "tuple" q] X.env := by rfl) (hK : X.K = K := by rfl) : PE X (.Call (.Name "isinstance" p) [e, .Name "tuple" q] [] pos) (tCB (rIsi K) (tCons te (tCons (tC (.ty "tuple")) tNil))) := d_isi M ha M.tuple bt_tuple hg hg2 (hs := hs) (hK := hK)
theorem d_ixT {a i : Expr} {ta ti : TE} (M : Nam K X.mg) (ha : PE X a ta) (hi : PE X i ti) (hs : PlainIx i := by exact fun _ _ => rfl) (hK : X.K = K := by rfl) : PE X (.Subscript a i pos) (tOp (rIxT K) ta ti) := by
  subst hK
  exact pe_ix ix_tup ha hi hs
theorem d_ixL {a i : Expr} {ta ti : TE} (M : Nam K X.mg) (ha : PE X a ta) (hi : PE X i ti) (hs : PlainIx i := by exact fun _ _ => rfl) (hK : X.K = K := by rfl) : PE X (.Subscript a i pos) (tOp (rIxL K) ta ti) := by
  subst hK
  exact pe_ix ix_list ha hi hs
theorem d_slT {a : Expr} {ta : TE} {lo hi : Option Expr} {tl th : TO} {p2 : Pos} (M : Nam K X.mg) (ha : PE X a ta) (hl : PO X lo tl) (hh : PO X hi th) (hK : X.K = K := by rfl) : PE X (.Subscript a (.Slice lo hi none p2) pos) (tSl (rSlA K) ta tl th) := by
  subst hK
  exact pe_slice sl_tupA ha hl hh
theorem d_slL {a : Expr} {ta : TE} {lo hi : Option Expr} {tl th : TO} {p2 : Pos} (M : Nam K X.mg) (ha : PE X a ta) (hl : PO X lo tl) (hh : PO X hi th) (hK : X.K = K := by rfl) : PE X (.Subscript a (.Slice lo hi none p2) pos) (tSl (rSlL K) ta tl th) := by
  subst hK
  exact pe_slice sl_list ha hl hh
theorem d_catT {a c : Expr} {ta tc : TE} (M : Nam K X.mg) (ha : PE X a ta) (hc : PE X c tc) (hK : X.K = K := by rfl) : PE X (.BinOp a .Add c pos) (tOp (rCatA K) ta tc) := by
  subst hK
  exact pe_op op_catA ha hc
theorem d_eqD {a c : Expr} {ta tc : TE} (M : Nam K X.mg) (hu : X.A.units + 64 < cLine) (ha : PE X a ta) (hc : PE X c tc) (hK : X.K = K := by rfl) : PE X (.Compare a [.Eq] [c] pos) (tOp (rEqD K) ta tc) := by
  subst hK
  exact pe_cmpR (op_eqD hu) ha hc (nomark _)
theorem d_neD {a c : Expr} {ta tc : TE} (M : Nam K X.mg) (hu : X.A.units + 64 < cLine) (ha : PE X a ta) (hc : PE X c tc) (hK : X.K = K := by rfl) : PE X (.Compare a [.NotEq] [c] pos) (tOp (rNeD K) ta tc) := by
  subst hK
  exact pe_cmpR (op_neD hu) ha hc (nomark _)
theorem d_eqDt {a c : Expr} {ta tc : TE} (M : Nam K X.mg) (hu : X.A.units + 64 < cLine) (ha : PE X a ta) (hc : PE X c tc) (hK : X.K = K := by rfl) : PT X (.Compare a [.Eq] [c] pos) (tTest (tOp (rEqD K) ta tc)) := by
  subst hK
  exact pt_cmpR (op_eqD hu) ha hc (nomark _)
theorem d_neDt {a c : Expr} {ta tc : TE} (M : Nam K X.mg) (hu : X.A.units + 64 < cLine) (ha : PE X a ta) (hc : PE X c tc) (hK : X.K = K := by rfl) : PT X (.Compare a [.NotEq] [c] pos) (tTest (tOp (rNeD K) ta tc)) := by
  subst hK
  exact pt_cmpR (op_neD hu) ha hc (nomark _)
/-! what is walked -/
section
variable {tg it : Expr} {tpos : Pos} {elts : List Expr} {kk : Nat}
theorem w_tup {tl : TE} (M : Nam K X.mg) (h : PE X it tl) (hK : X.K = K := by rfl) : PI X tg it (iTup K tl) := by
  subst hK
  exact pi_tup h
theorem w_lst {tl : TE} (M : Nam K X.mg) (h : PE X it tl) (hK : X.K = K := by rfl) : PI X tg it (iList K tl) := by
  subst hK
  exact pi_list h
theorem w_rng1 {ta : TA} {a : Expr} (M : Nam K X.mg) (ha : PA X [a] ta) (hg : Gl X "range" := by rfl) (hs : starEach [a] X.env = [(false, eval a X.env)] := by rfl) : PI X tg (.Call (.Name "range" p) [a] [] pos) (iRng1 ta) := pi_range1 hg M.range ha hs
theorem w_enumT {ta : TA} {a : Expr} (M : Nam K X.mg) (ha : PA X [a] ta) (hg : Gl X "enumerate" := by rfl) (hs : starEach [a] X.env = [(false, eval a X.env)] := by rfl) (hK : X.K = K := by rfl) : PI X (.Tuple elts kk tpos) (.Call (.Name "enumerate" p) [a] [] pos) (iEnumT K ta) := by
  subst hK
  exact pi_enumT hg M.enumerate ha hs
theorem w_enumL {ta : TA} {a : Expr} (M : Nam K X.mg) (ha : PA X [a] ta) (hg : Gl X "enumerate" := by rfl) (hs : starEach [a] X.env = [(false, eval a X.env)] := by rfl) (hK : X.K = K := by rfl) : PI X (.Tuple elts kk tpos) (.Call (.Name "enumerate" p) [a] [] pos) (iEnum K ta) := by
  subst hK
  exact pi_enum hg M.enumerate ha hs
theorem w_zip {ta : TA} {a c : Expr} (M : Nam K X.mg) (ha : PA X [a, c] ta) (hg : Gl X "zip" := by rfl) (hs : starEach [a, c] X.env = (false, eval a X.env) :: starEach [c] X.env := by rfl) (hpl : (backTo pos (starEach [c] X.env)).any (·.1) = false := by rfl) (hK : X.K = K := by rfl) :
    PI X (.Tuple elts kk tpos) (.Call (.Name "zip" p) [a, c] [] pos) (RZ.iZipA K ta) := by
  subst hK
  exact RZ.pi_zipA hg M.zip ha hs hpl
theorem g_tup {t : TGs} {n : Nat} (M : Nam K X.mg) (h : PGs X elts t) (hc : X.calm = true := by rfl) (hn : (assignEach elts X.env).length = n := by rfl) (hst : (assignEach elts X.env).findIdx? (·.1) = none := by rfl) (hK : X.K = K := by rfl) : PG X (.Tuple elts kk tpos) (gTup K n t) := by
  subst hK
  exact pg_tup hc h hn hst
end
/-- a comprehension within one -/
theorem blkIn2 {N : List Str} {own : List (Str × Nat)} {scope1 scope sc0 : Scope} {cl : List (Str × Addr)} {C : Addr} (h0 : X.env.scope = sc0) (h : blkC N (relS scope1 sc0) scope own = true) : BlkOk N (compEnvC scope1 cl C X.env).scope scope own := by
  subst h0
  exact blkOk_by h
end
end FR

namespace FR
open PySem PySem.Spec L2
open Evl (Ex ex_rd ex_l ex_t fresh_back)

/-! ### slots forgotten; what stands through a change -/
section
variable {K : PySem.W.Frag} {b b' : Bs} {ρ ρ' : Rho} {D : Ends} {t : TS}
theorem SlAll.forget {H : Hp} : ∀ {σ : L2.St} {ρ : Rho} (n : Nat), SlAll K b H σ ρ → SlAll K b H σ (ρ.set n .un)
  | _, _, _, .nil => .nil
  | _, _, 0, .cons _ t => .cons .un t
  | _, _, n + 1, .cons h t => .cons h (SlAll.forget n t)
theorem Sls.forget {H : Hp} {σ : L2.St} (n : Nat) (s : Sls K b H σ ρ) : Sls K b H σ (ρ.set n .un) := ⟨s.hb, s.all.forget n⟩
theorem nx_un (n : Nat) (h : Nx K b (ρ.set n .un) D) : Nx K b ρ D := fun σ H s => h σ H (s.forget n)
theorem bk_un (n : Nat) (h : Bk K b t (ρ.set n .un) D) : Bk K b t ρ D := fun σ H s => h σ H (s.forget n)
theorem nx_at {P : Rho → Prop} {rt : VK} {bk ct : L2.St → Hp → Prop} (h : P ρ) : Nx K b ρ { nx := At K b P, rt := rt, bk := bk, ct := ct } := fun σ H s => ⟨ρ, h, s⟩
theorem nx_eq (e : ρ = ρ') (h : Nx K b ρ' D) : Nx K b ρ D := e ▸ h
theorem bk_eq (e : ρ = ρ') (h : Bk K b t ρ' D) : Bk K b t ρ D := e ▸ h
theorem nx_bk (h : Bk K b t ρ D) : Nx K b ρ { nx := t D, rt := D.rt, bk := D.bk, ct := D.ct } := h
section
variable {te : TE} {d : Dt} {ds ys : List Dt} {S : Dt → Prop} {u v : TS} {tt : TT}
theorem bq_asg {n : Nat} (h : Ev K b te ρ d) (k : Bk K b u (ρ.set n (.d d)) D) : Bk K b (tSeq (tAsg te (gName n)) u) ρ D := bk_seq (bk_asg h (nx_bk k))
theorem bq_asgS {n : Nat} (h : EvS K b te ρ S) (k : ∀ d, S d → Bk K b u (ρ.set n (.d d)) D) : Bk K b (tSeq (tAsg te (gName n)) u) ρ D := bk_seq (bk_asgS h fun d hd => nx_bk (k d hd))
theorem bq_asgL {n : Nat} (h : EvL K b te ρ ds) (k : ∀ l, (∀ (j : Nat) l' es, ρ[j]? = some (.own l' es) → l ≠ l') → Bk K b u (ρ.set n (.own l ds)) D) : Bk K b (tSeq (tAsg te (gName n)) u) ρ D := bk_seq (bk_asgL h fun l hl => nx_bk (k l hl))
theorem bq_asgG {g : TG} {js : List Nat} (h : Ev K b te ρ d) (hg : EvG K b g ρ d ρ' js) (k : Bk K b u ρ' D) : Bk K b (tSeq (tAsg te g) u) ρ D := bk_seq (bk_asgG1 h hg (nx_bk k))
theorem bq_app {n : Nat} {l : Addr} (hn : ρ[n]? = some (.own l ds)) (h : Ev K b te ρ d) (hd : imm d = true) (hds : immAll ds = true) (hz : ds.length < 100000) (f : Free ρ n l) (k : Bk K b u (ρ.set n (.own l (ds ++ [d]))) D) :
    Bk K b (tSeq (tDrop (tBM K "list" rAppend (tVar n) (tCons te tNil))) u) ρ D := bk_seq (bk_app hn h hd hds hz f (nx_bk k))
/-- if without else, ahead of more -/
theorem bq_when {c : Bool} (h : EvT K b tt ρ c) (h1 : c = true → Bk K b t ρ { nx := u D, rt := D.rt, bk := D.bk, ct := D.ct }) (h2 : c = false → Bk K b u ρ D) : Bk K b (tSeq (tIfS tt t tNext) u) ρ D :=
  bk_seq (bk_if h h1 fun e => bk_next (nx_bk (h2 e)))
/-- .. at the end of a block -/
theorem bk_when {c : Bool} (h : EvT K b tt ρ c) (h1 : c = true → Bk K b t ρ D) (h2 : c = false → Nx K b ρ D) : Bk K b (tIfS tt t tNext) ρ D := bk_if h h1 fun e => bk_next (h2 e)
theorem bq_for {wi : TI} {g : TG} {tb : TS} (h : EvW K b wi ρ ys) (Pv : Nat → Rho → Prop) (h0 : Pv 0 ρ)
    (hs : ∀ (b' : Bs) (n : Nat) y ρ1, b'.Le b → ys[n]? = some y → Pv n ρ1 → ∃ ρ2 js, EvG K b' g ρ1 y ρ2 js ∧ Bk K b' tb ρ2 { nx := At K b' (Pv (n + 1)), ct := At K b' (Pv (n + 1)), bk := u D, rt := D.rt })
    (hd : ∀ ρ1, Pv ys.length ρ1 → Bk K b u ρ1 D) : Bk K b (tSeq (tFor wi g tb) u) ρ D := bk_seq (bk_for h Pv h0 hs fun ρ1 hp => nx_bk (hd ρ1 hp))
theorem bq_forP {wi : TI} {g : TG} {tb : TS} (h : EvI K b wi ρ ys) (Pv : Nat → Rho → Prop) (h0 : Pv 0 ρ) (hno : noOwn ρ = true)
    (hs : ∀ (b' : Bs) (n : Nat) y ρ1, b'.Le b → ys[n]? = some y → Pv n ρ1 → ∃ ρ2 js, EvG K b' g ρ1 y ρ2 js ∧ Bk K b' tb ρ2 { nx := At K b' (Pv (n + 1)), ct := At K b' (Pv (n + 1)), bk := u D, rt := D.rt })
    (hd : ∀ ρ1, Pv ys.length ρ1 → Bk K b u ρ1 D) : Bk K b (tSeq (tFor wi g tb) u) ρ D := bk_seq (bk_forP h Pv h0 hno hs fun ρ1 hp => nx_bk (hd ρ1 hp))
end
def immS : Slot → Bool
  | .un => true
  | .d x => imm x
  | .own _ _ => false
/-- all but slot n is data without a list -/
def freeB : Rho → Nat → Bool
  | [], _ => true
  | _ :: ρ, 0 => ρ.all immS
  | s :: ρ, n + 1 => immS s && freeB ρ n
theorem freeS_of {l : Addr} : ∀ {s : Slot}, immS s = true → FreeS l s
  | .un, _ => True.intro
  | .d _, h => h
  | .own _ _, h => nomatch h
theorem free_of {l : Addr} : ∀ {ρ : Rho} {n : Nat}, freeB ρ n = true → Free ρ n l
  | [], _, _ => fun j s _ e => by simp at e
  | _ :: ρ, 0, h => fun j s hj e => by
    cases j with
    | zero => exact absurd rfl hj
    | succ j =>
      have e : ρ[j]? = some s := by simpa using e
      exact freeS_of (List.all_eq_true.mp h s (List.mem_of_getElem? e))
  | s :: ρ, n + 1, h => fun j u hj e => by
    have h : (immS s && freeB ρ n) = true := h
    rw [Bool.and_eq_true] at h
    cases j with
    | zero =>
      simp at e
      subst e
      exact freeS_of h.1
    | succ j => exact free_of h.2 j u (by omega) (by simpa using e)
end
/-! ### data that compare -/
def Sh (n : Nat) (d : Dt) : Prop := PyData.canLay0 d = true ∧ PyData.depth d ≤ n
theorem Sh.ok {n : Nat} {d : Dt} (h : Sh n d) (hn : n ≤ 64 := by decide) : SeqAt.shaped d = true := by
  unfold SeqAt.shaped
  rw [h.1, decide_eq_true (Nat.le_trans h.2 hn)]
  rfl
theorem Sh.mono {m n : Nat} {d : Dt} (h : Sh m d) (hn : m ≤ n) : Sh n d := ⟨h.1, Nat.le_trans h.2 hn⟩
theorem sh_int (n : Nat) (i : Int) : Sh n (.int i) := ⟨rfl, Nat.zero_le _⟩
theorem sh_bool (n : Nat) (i : Bool) : Sh n (.bool i) := ⟨rfl, Nat.zero_le _⟩
theorem sh_none (n : Nat) : Sh n .none := ⟨rfl, Nat.zero_le _⟩
theorem sh_all {n : Nat} : ∀ {ds : List Dt}, (∀ d ∈ ds, Sh n d) → PyData.canLayAll0 ds = true ∧ PyData.depthAll ds ≤ n
  | [], _ => ⟨rfl, Nat.zero_le _⟩
  | d :: ds, h => by
    obtain ⟨h1, h2⟩ := h d (by simp)
    obtain ⟨h3, h4⟩ := sh_all (ds := ds) fun x hx => h x (by simp [hx])
    constructor
    · show (PyData.canLay0 d && PyData.canLayAll0 ds) = true
      rw [h1, h3]
      rfl
    · show max (PyData.depth d) (PyData.depthAll ds) ≤ n
      omega
theorem sh_tup {n : Nat} {ds : List Dt} (h : ∀ d ∈ ds, Sh n d) : Sh (n + 1) (.tuple ds) := ⟨(sh_all h).1, Nat.succ_le_succ (sh_all h).2⟩
theorem sh_lst {n : Nat} {ds : List Dt} (h : ∀ d ∈ ds, Sh n d) : Sh (n + 1) (.list ds) := ⟨(sh_all h).1, Nat.succ_le_succ (sh_all h).2⟩
def intsD (ns : List Int) : List Dt := ns.map PyData.int
def rowD (ns : List Int) : Dt := .tuple (intsD ns)
def rowsD (t : List (List Int)) : List Dt := t.map rowD
def tabD (t : List (List Int)) : Dt := .tuple (rowsD t)
theorem sh_ints {ns : List Int} : ∀ d ∈ intsD ns, Sh 0 d := fun d h => by
  obtain ⟨i, _, rfl⟩ := List.mem_map.mp h
  exact sh_int 0 i
theorem sh_row (ns : List Int) : Sh 1 (rowD ns) := sh_tup sh_ints
theorem sh_tab (t : List (List Int)) : Sh 2 (tabD t) := sh_tup fun d h => by
  obtain ⟨r, _, rfl⟩ := List.mem_map.mp h
  exact sh_row r
theorem eqvAll_ints : ∀ a b : List Int, PyData.eqvAll (intsD a) (intsD b) = decide (a = b)
  | [], [] => rfl
  | [], _ :: _ => rfl
  | _ :: _, [] => rfl
  | x :: a, y :: b => by
    show ((x == y) && PyData.eqvAll (intsD a) (intsD b)) = _
    rw [eqvAll_ints a b, Bool.beq_eq_decide_eq, ← Bool.decide_and]
    exact decide_eq_decide.mpr (by simp)
theorem eqv_row (a b : List Int) : PyData.eqv (rowD a) (rowD b) = decide (a = b) := eqvAll_ints a b
theorem eqvAll_rows : ∀ a b : List (List Int), PyData.eqvAll (rowsD a) (rowsD b) = decide (a = b)
  | [], [] => rfl
  | [], _ :: _ => rfl
  | _ :: _, [] => rfl
  | x :: a, y :: b => by
    show (PyData.eqv (rowD x) (rowD y) && PyData.eqvAll (rowsD a) (rowsD b)) = _
    rw [eqvAll_rows a b, eqv_row, ← Bool.decide_and]
    exact decide_eq_decide.mpr (by simp)
theorem eqv_tab (a b : List (List Int)) : PyData.eqv (tabD a) (tabD b) = decide (a = b) := eqvAll_rows a b
theorem eqv_nil : ∀ ds : List Dt, PyData.eqv (.list ds) (.list []) = ds.isEmpty
  | [] => rfl
  | _ :: _ => rfl
theorem imm_ints (ns : List Int) : immAll (intsD ns) = true := immAll_map _ _ fun _ _ => rfl
theorem imm_row (ns : List Int) : imm (rowD ns) = true := imm_ints ns
theorem imm_rows (t : List (List Int)) : immAll (rowsD t) = true := immAll_map _ _ fun r _ => imm_row r
theorem imm_tab (t : List (List Int)) : imm (tabD t) = true := imm_rows t
theorem intsD_len (ns : List Int) : (intsD ns).length = ns.length := by simp [intsD]
theorem rowsD_len (t : List (List Int)) : (rowsD t).length = t.length := by simp [rowsD]
theorem intsD_get {ns : List Int} {k : Nat} {x : Int} (h : ns[k]? = some x) : (intsD ns)[k]? = some (.int x) := by unfold intsD; rw [List.getElem?_map, h]; rfl
theorem intsD_at' {ns : List Int} {k : Nat} {x : Int} (h : ns[k]? = some x) : atI (intsD ns) (k : Int) = some (.int x) := atI_nat (intsD_get h)
theorem rowsD_get {t : List (List Int)} {k : Nat} {r : List Int} (h : t[k]? = some r) : (rowsD t)[k]? = some (rowD r) := by unfold rowsD; rw [List.getElem?_map, h]; rfl
theorem rowsD_at {t : List (List Int)} {k : Nat} {r : List Int} (h : t[k]? = some r) : atI (rowsD t) (k : Int) = some (rowD r) := atI_nat (rowsD_get h)
theorem intsD_inv {ns : List Int} {k : Nat} {d : Dt} (h : (intsD ns)[k]? = some d) : ∃ x, ns[k]? = some x ∧ d = .int x := by
  unfold intsD at h
  rw [List.getElem?_map] at h
  cases e : ns[k]? with
  | none => rw [e] at h; cases h
  | some x => rw [e] at h; exact ⟨x, rfl, (Option.some.inj h).symm⟩
theorem rowsD_inv {t : List (List Int)} {k : Nat} {d : Dt} (h : (rowsD t)[k]? = some d) : ∃ r, t[k]? = some r ∧ d = rowD r := by
  unfold rowsD at h
  rw [List.getElem?_map] at h
  cases e : t[k]? with
  | none => rw [e] at h; cases h
  | some x => rw [e] at h; exact ⟨x, rfl, (Option.some.inj h).symm⟩
theorem rngD_inv {lo : Int} {n k : Nat} {d : Dt} (h : (rngD lo n)[k]? = some d) : k < n ∧ d = .int (lo + (k : Int)) := by
  have hk : k < n := by have := get_lt h; simpa [rngD] using this
  unfold rngD at h
  rw [List.getElem?_map, List.getElem?_range hk] at h
  exact ⟨hk, (Option.some.inj h).symm⟩
theorem rngD_len (lo : Int) (n : Nat) : (rngD lo n).length = n := by simp [rngD]
theorem rngD0 (n : Nat) : rngD 0 n = (List.range n).map fun (i : Nat) => PyData.int (i : Int) := by
  unfold rngD
  congr 1
  funext i
  rw [Int.zero_add]
def rngN (n : Nat) : List Dt := (List.range n).map fun (i : Nat) => PyData.int (i : Int)
theorem rngN_inv {n k : Nat} {d : Dt} (h : (rngN n)[k]? = some d) : k < n ∧ d = .int (k : Int) := by
  unfold rngN at h
  rw [← rngD0] at h
  obtain ⟨h1, h2⟩ := rngD_inv h
  rw [Int.zero_add] at h2
  exact ⟨h1, h2⟩
theorem rngN_len (n : Nat) : (rngN n).length = n := by simp [rngN]
theorem ew_rngN {K : PySem.W.Frag} {b : Bs} {ρ : Rho} {tA : TA} {n : Nat} (h : EvA K b tA ρ [.int (n : Int)]) (hn : n ≤ 1000000) : EvW K b (iRng1 tA) ρ (rngN n) := by
  have e := ew_rng1 h (by omega) (by omega)
  rw [rngD0, show ((n : Int)).toNat = n by omega] at e
  exact e
theorem ei_rngN {K : PySem.W.Frag} {b : Bs} {ρ : Rho} {tA : TA} {n : Nat} (h : EvA K b tA ρ [.int (n : Int)]) (hn : n ≤ 1000000) : EvI K b (iRng1 tA) ρ (rngN n) := (ew_rngN h hn).toI
theorem enumD_inv {ds : List Dt} {n : Nat} {y : Dt} (h : (enumD ds)[n]? = some y) : ∃ d, ds[n]? = some d ∧ y = .tuple [.int (n : Int), d] := by
  have hn : n < ds.length := by rw [← enumD_len]; exact get_lt h
  have e := List.getElem?_eq_getElem hn
  rw [enumD_get e] at h
  exact ⟨_, e, (Option.some.inj h).symm⟩
theorem zipD_inv {ds es : List Dt} {n : Nat} {y : Dt} (h : (zipD ds es)[n]? = some y) : ∃ d e, ds[n]? = some d ∧ es[n]? = some e ∧ y = .tuple [d, e] := by
  have hn : n < min ds.length es.length := by rw [← zipD_len]; exact get_lt h
  have e1 := List.getElem?_eq_getElem (l := ds) (i := n) (by omega)
  have e2 := List.getElem?_eq_getElem (l := es) (i := n) (by omega)
  rw [zipD_get e1 e2] at h
  exact ⟨_, _, e1, e2, (Option.some.inj h).symm⟩
theorem ev_ixRow {K : PySem.W.Frag} {b : Bs} {ρ : Rho} {ta tb : TE} {ns : List Int} {k : Nat} {x : Int} (ha : Ev K b ta ρ (rowD ns)) (hb : Ev K b tb ρ (.int (k : Int))) (h : ns[k]? = some x) : Ev K b (tOp (rIxT K) ta tb) ρ (.int x) := ev_ixT ha hb (intsD_at' h)
theorem ev_ixTab {K : PySem.W.Frag} {b : Bs} {ρ : Rho} {ta tb : TE} {t : List (List Int)} {k : Nat} {r : List Int} (ha : Ev K b ta ρ (tabD t)) (hb : Ev K b tb ρ (.int (k : Int))) (h : t[k]? = some r) : Ev K b (tOp (rIxT K) ta tb) ρ (rowD r) := ev_ixT ha hb (rowsD_at h)
theorem cmul_l {i j : Int} (h : -(2 ^ 64) < i ∧ i < 2 ^ 64) : CMul i j := .inl h
theorem cmul_r {i j : Int} (h : -(2 ^ 64) < j ∧ j < 2 ^ 64) : CMul i j := .inr h
theorem cdiv {i j : Int} (h : 0 < j ∧ j < 1073741824) : CDiv i j := h
end FR

namespace FR
open PySem PySem.Spec L2
open Evl (Ex ex_rd ex_l ex_t fresh_back)
/-! ### the law's numbers -/
def cellF (ns : List Int) (k : Nat) : Int := if k < ns.length then ns.getD k 0 else 0
def mixM (ns : List Int) (k : Nat) : Int := (cellF ns k + 7919 * (k : Int) + 1) * 48271 % 2147483647
def mixF (ns : List Int) (k : Nat) : Int := (mixM ns k * mixM ns k + 7 * mixM ns k + (k : Int)) % 2147483629
def drawM (n : Int) (k : Nat) : Int := (n + 104729 * (k : Int) + 17) * 69621 % 2147483647
def drawF (n : Int) (k : Nat) : Int := (drawM n k * drawM n k + 3 * drawM n k + (k : Int)) % 2147483629
theorem mixF_nn (ns : List Int) (k : Nat) : 0 ≤ mixF ns k := Int.emod_nonneg _ (by decide)
theorem mixF_lt (ns : List Int) (k : Nat) : mixF ns k < 2147483629 := Int.emod_lt_of_pos _ (by decide)
theorem drawF_nn (n : Int) (k : Nat) : 0 ≤ drawF n k := Int.emod_nonneg _ (by decide)
theorem drawF_lt (n : Int) (k : Nat) : drawF n k < 2147483629 := Int.emod_lt_of_pos _ (by decide)
theorem mixM_b (ns : List Int) (k : Nat) : 0 ≤ mixM ns k ∧ mixM ns k < 2147483647 := ⟨Int.emod_nonneg _ (by decide), Int.emod_lt_of_pos _ (by decide)⟩
theorem drawM_b (n : Int) (k : Nat) : 0 ≤ drawM n k ∧ drawM n k < 2147483647 := ⟨Int.emod_nonneg _ (by decide), Int.emod_lt_of_pos _ (by decide)⟩
def PCell : List Dt → Dt → Prop := fun ds d => ∃ (ns : List Int) (k : Nat), ds = [.list (intsD ns), .int (k : Int)] ∧ d = .int (cellF ns k)
def PMixed : List Dt → Dt → Prop := fun ds d => ∃ (ns : List Int) (k : Nat), ds = [.list (intsD ns), .int (k : Int)] ∧ k ≤ 1000 ∧ d = .int (mixF ns k)
def PDrawn : List Dt → Dt → Prop := fun ds d => ∃ (n : Int) (k : Nat), ds = [.int n, .int (k : Int)] ∧ k ≤ 1000 ∧ d = .int (drawF n k)
theorem intsD_at {ns : List Int} {k : Nat} (h : k < ns.length) : atI (intsD ns) (k : Int) = some (.int (ns.getD k 0)) :=
  intsD_at' (by rw [List.getD_eq_getElem?_getD, List.getElem?_eq_getElem h]; rfl)
/-! ### the law's tables -/
def wideF (n : Int) : Nat := (1 + n % 5).toNat
def tallF (n : Int) : Nat := (1 + n / 5 % 5).toNat
def menuF (c n : Int) : Int := ([3, 20, 100, c] : List Int).getD (n / 25 % 4).toNat 0
def rowF (c n : Int) (i : Nat) : List Int := (List.range (wideF n)).map fun j => drawF (drawF n i) j / 8 % menuF c n
def tabF (c n : Int) : List (List Int) := (List.range (tallF n)).map fun i => rowF c n i
def baseL (n : Int) : List Int := [1, 2, 3, 7, 12, 1 + n / 6 % 60]
def baseF (n : Int) : Int := (baseL n).getD (n % 6).toNat 0
theorem wideF_b (n : Int) : 1 ≤ wideF n ∧ wideF n ≤ 5 ∧ (1 + n % 5) = (wideF n : Int) := by unfold wideF; omega
theorem tallF_b (n : Int) : 1 ≤ tallF n ∧ tallF n ≤ 5 ∧ (1 + n / 5 % 5) = (tallF n : Int) := by unfold tallF; omega
theorem menu_at (c n : Int) : atI ([.int 3, .int 20, .int 100, .int c] : List Dt) (n / 25 % 4) = some (.int (menuF c n)) := by
  have h : n / 25 % 4 = (((n / 25 % 4).toNat : Nat) : Int) := by omega
  have hk : (n / 25 % 4).toNat < 4 := by omega
  unfold menuF
  rw [h]
  generalize (n / 25 % 4).toNat = k at hk
  rw [show (((k : Nat) : Int)).toNat = k by omega]
  refine atI_nat ?_
  rcases k with _ | _ | _ | _ | k
  all_goals first | rfl | omega
theorem menuF_b (c n : Int) (hc : 3 ≤ c) (hc' : c ≤ 100001) : 3 ≤ menuF c n ∧ menuF c n ≤ 100001 := by
  unfold menuF
  have hk : (n / 25 % 4).toNat < 4 := by omega
  generalize (n / 25 % 4).toNat = k at hk
  rcases k with _ | _ | _ | _ | k
  · exact (by decide : (3 : Int) ≤ 3 ∧ (3 : Int) ≤ 100001)
  · exact (by decide : (3 : Int) ≤ 20 ∧ (20 : Int) ≤ 100001)
  · exact (by decide : (3 : Int) ≤ 100 ∧ (100 : Int) ≤ 100001)
  · exact ⟨hc, hc'⟩
  · omega
theorem base_at (n : Int) : atI (intsD (baseL n)) (n % 6) = some (.int (baseF n)) := by
  have h : n % 6 = (((n % 6).toNat : Nat) : Int) := by omega
  have hk : (n % 6).toNat < 6 := by omega
  unfold baseF
  rw [h]
  generalize (n % 6).toNat = k at hk
  rw [show (((k : Nat) : Int)).toNat = k by omega]
  exact intsD_at hk
theorem baseF_b (n : Int) : 1 ≤ baseF n ∧ baseF n ≤ 60 := by
  unfold baseF
  have hk : (n % 6).toNat < 6 := by omega
  generalize (n % 6).toNat = k at hk
  unfold baseL
  rcases k with _ | _ | _ | _ | _ | _ | k
  · exact (by decide : (1 : Int) ≤ 1 ∧ (1 : Int) ≤ 60)
  · exact (by decide : (1 : Int) ≤ 2 ∧ (2 : Int) ≤ 60)
  · exact (by decide : (1 : Int) ≤ 3 ∧ (3 : Int) ≤ 60)
  · exact (by decide : (1 : Int) ≤ 7 ∧ (7 : Int) ≤ 60)
  · exact (by decide : (1 : Int) ≤ 12 ∧ (12 : Int) ≤ 60)
  · show 1 ≤ 1 + n / 6 % 60 ∧ 1 + n / 6 % 60 ≤ 60
    omega
  · omega
/-- rows of one length -/
structure Rect (t : List (List Int)) (w : Nat) : Prop where
  t1 : 1 ≤ t.length
  tm : t.length ≤ 1000
  w1 : 1 ≤ w
  wm : w ≤ 1000
  rows : ∀ r ∈ t, r.length = w
theorem Rect.head {t : List (List Int)} {w : Nat} (h : Rect t w) : ∃ r, t[0]? = some r ∧ r.length = w := by
  cases t with
  | nil => exact absurd h.t1 (by simp)
  | cons r t => exact ⟨r, rfl, h.rows r (by simp)⟩
theorem rowF_len (c n : Int) (i : Nat) : (rowF c n i).length = wideF n := by simp [rowF]
theorem tabF_len (c n : Int) : (tabF c n).length = tallF n := by simp [tabF]
theorem tabF_rect (c n : Int) : Rect (tabF c n) (wideF n) := by
  have h1 := wideF_b n
  have h2 := tallF_b n
  refine ⟨by rw [tabF_len]; omega, by rw [tabF_len]; omega, by omega, by omega, fun r hr => ?_⟩
  obtain ⟨i, _, rfl⟩ := List.mem_map.mp hr
  exact rowF_len c n i
theorem tabF_vals (c n : Int) (hc : 3 ≤ c) (hc' : c ≤ 100001) : ∀ r ∈ tabF c n, ∀ x ∈ r, 0 ≤ x ∧ x ≤ 100000 := fun r hr x hx => by
  obtain ⟨i, _, rfl⟩ := List.mem_map.mp hr
  obtain ⟨j, _, rfl⟩ := List.mem_map.mp hx
  have h := menuF_b c n hc hc'
  have h0 := Int.emod_nonneg (drawF (drawF n i) j / 8) (show menuF c n ≠ 0 by omega)
  have h1 := Int.emod_lt_of_pos (drawF (drawF n i) j / 8) (show 0 < menuF c n by omega)
  omega
def PTable (c : Int) : List Dt → Dt → Prop := fun ds d => ∃ n : Int, ds = [.int n] ∧ d = tabD (tabF c n)
def PBase : List Dt → Dt → Prop := fun ds d => ∃ n : Int, ds = [.int n] ∧ d = .int (baseF n)
/-! ### the program's tables -/
def upF (c b : Int) : Int := (c + b - 1) / b
def POneUp : List Dt → Dt → Prop := fun ds d => ∃ c b : Int, ds = [.int c, .int b] ∧ (0 < b ∧ b < 1073741824) ∧ d = .int (upF c b)
def downT (t : List (List Int)) (b : Int) : List (List Int) := t.map fun r => r.map fun c => c / b
def upT (t : List (List Int)) (b : Int) : List (List Int) := t.map fun r => r.map fun c => upF c b
def PDown : List Dt → Dt → Prop := fun ds d => ∃ (t : List (List Int)) (w : Nat) (b : Int), ds = [tabD t, .int b] ∧ Rect t w ∧ (0 < b ∧ b < 1073741824) ∧ d = tabD (downT t b)
def PUp : List Dt → Dt → Prop := fun ds d => ∃ (t : List (List Int)) (w : Nat) (b : Int), ds = [tabD t, .int b] ∧ Rect t w ∧ (0 < b ∧ b < 1073741824) ∧ d = tabD (upT t b)
def rowS (t : List (List Int)) : List Int := t.map fun r => r.sum
def colS (t : List (List Int)) (j : Nat) : Int := (t.map fun r => r.getD j 0).sum
def pilS (t : List (List Int)) (w : Nat) : List Int := (List.range w).map fun j => colS t j
def sumsD (t : List (List Int)) (w : Nat) : Dt := .tuple [rowD (rowS t), rowD (pilS t w), .int (rowS t).sum]
def PSums : List Dt → Dt → Prop := fun ds d => ∃ (t : List (List Int)) (w : Nat), ds = [tabD t] ∧ Rect t w ∧ d = sumsD t w
theorem sh_sums (t : List (List Int)) (w : Nat) : Sh 2 (sumsD t w) := sh_tup fun d h => by
  rcases List.mem_cons.mp h with rfl | h
  · exact sh_row _
  · rcases List.mem_cons.mp h with rfl | h
    · exact sh_row _
    · rcases List.mem_singleton.mp h with rfl
      exact sh_int 1 _
theorem eqv_sums (t : List (List Int)) (w : Nat) : PyData.eqv (sumsD t w) (sumsD t w) = true := by
  show (PyData.eqv (rowD _) (rowD _) && (PyData.eqv (rowD _) (rowD _) && ((_ == _) && true))) = true
  rw [eqv_row, eqv_row]
  simp
/-! ### rounded -/
/-- as the law says it -/
def Rnd (b c n : Int) : Prop := n * b - c < b ∧ c - n * b < b
def rndD (c b : Int) : Dt → Bool
  | .int n => decide ((if n * b - c < 0 then -(n * b - c) else n * b - c) < b)
  | _ => false
def PRndD : List Dt → Dt → Prop := fun ds d => ∃ (c b : Int) (x : Dt), ds = [.int c, .int b, x] ∧ (0 < b ∧ b < 1073741824) ∧ d = .bool (rndD c b x)
theorem rndD_iff {c b n : Int} : rndD c b (.int n) = true ↔ Rnd b c n := by
  unfold rndD Rnd
  rw [decide_eq_true_eq]
  split <;> omega
theorem div_b {b c : Int} (hb : 0 < b) : c / b * b ≤ c ∧ c - c / b * b < b := by
  have h1 := Int.emod_add_mul_ediv c b
  have h2 := Int.emod_nonneg c (show b ≠ 0 by omega)
  have h3 := Int.emod_lt_of_pos c hb
  rw [Int.mul_comm] at h1
  omega
theorem up_b {b c : Int} (hb : 0 < b) : c ≤ upF c b * b ∧ upF c b * b - c < b := by
  have h := div_b (c := c + b - 1) hb
  unfold upF
  omega
theorem rnd_down {b c : Int} (hb : 0 < b) : Rnd b c (c / b) := by
  have h := div_b (c := c) hb
  unfold Rnd
  omega
theorem rnd_up {b c : Int} (hb : 0 < b) : Rnd b c (upF c b) := by
  have h := up_b (c := c) hb
  unfold Rnd
  omega
def PLaw : List Dt → Dt → Prop := fun ds d => ∃ ns : List Int, ds = [.list (intsD ns)] ∧ ns.length ≤ 63 ∧ d = .bool true
theorem downT_get {t : List (List Int)} {b : Int} {i : Nat} {r : List Int} (h : t[i]? = some r) : (downT t b)[i]? = some (r.map fun c => c / b) := by unfold downT; rw [List.getElem?_map, h]; rfl
theorem upT_get {t : List (List Int)} {b : Int} {i : Nat} {r : List Int} (h : t[i]? = some r) : (upT t b)[i]? = some (r.map fun c => upF c b) := by unfold upT; rw [List.getElem?_map, h]; rfl
theorem map_get {α β : Type} {f : α → β} {l : List α} {i : Nat} {x : α} (h : l[i]? = some x) : (l.map f)[i]? = some (f x) := by rw [List.getElem?_map, h]; rfl
theorem law_start {K : PySem.W.Frag} {H : Hp} {a : Addr} {ns : List Int} (hl : ns.length ≤ 63) (hS : SqL K H a (ns.map V.int)) : spF K PLaw [.ref a] H (fun v _ => v = .bl true) fun _ _ _ => False :=
  ⟨[.list (intsD ns)], (· = .bool true), .cons (.lst hS (dpa_of_ints ns)) .nil, ⟨.bool true, ⟨ns, rfl, hl, rfl⟩, rfl⟩, fun d v H' e _ r => by
    subst e
    exact dp_bl r⟩
end FR

namespace FR
open PySem PySem.Spec L2
/-! ### a truth from a proposition -/
noncomputable def tf (p : Prop) : Bool := @decide p (Classical.propDecidable p)
theorem tf_iff {p : Prop} : tf p = true ↔ p := @decide_eq_true_iff p (Classical.propDecidable p)
theorem tf_true {p : Prop} (h : p) : tf p = true := tf_iff.mpr h
theorem tf_false {p : Prop} (h : ¬ p) : tf p = false := by
  cases e : tf p with
  | false => rfl
  | true => exact absurd (tf_iff.mp e) h
/-! ### whole numbers of any thing -/
def isWhole (x : Dt) : Bool := isInt x && !isBool x
theorem isWhole_iff {x : Dt} (h : isWhole x = true) : ∃ n, x = .int n := by
  cases x with
  | int n => exact ⟨n, rfl⟩
  | _ => simp [isWhole, isInt, isBool] at h
theorem whole_ints : ∀ {xs : List Dt}, xs.all isWhole = true → ∃ ns, xs = intsD ns
  | [], _ => ⟨[], rfl⟩
  | x :: xs, h => by
    simp only [List.all_cons, Bool.and_eq_true] at h
    obtain ⟨n, rfl⟩ := isWhole_iff h.1
    obtain ⟨ns, rfl⟩ := whole_ints h.2
    exact ⟨n :: ns, rfl⟩
theorem ints_whole (ns : List Int) : (intsD ns).all isWhole = true := by
  rw [List.all_eq_true]
  intro d hd
  obtain ⟨i, _, rfl⟩ := List.mem_map.mp hd
  rfl
def wholeB (x : Dt) (n : Nat) : Bool := match x with
  | .tuple xs => decide (xs.length = n) && xs.all isWhole
  | _ => false
theorem wholeB_iff {x : Dt} {n : Nat} : wholeB x n = true ↔ ∃ ns, x = rowD ns ∧ ns.length = n := by
  constructor
  · intro h
    cases x with
    | tuple xs =>
      have h : (decide (xs.length = n) && xs.all isWhole) = true := h
      rw [Bool.and_eq_true, decide_eq_true_eq] at h
      obtain ⟨ns, rfl⟩ := whole_ints h.2
      exact ⟨ns, rfl, by rw [intsD_len] at h; exact h.1⟩
    | _ => simp [wholeB] at h
  · rintro ⟨ns, rfl, hl⟩
    show (decide ((intsD ns).length = n) && (intsD ns).all isWhole) = true
    rw [ints_whole, intsD_len, decide_eq_true hl]
    rfl
/-- of a bounded size -/
def Sz (x : Dt) : Prop := ∀ xs, x = .tuple xs → xs.length ≤ 1000
def PWhole : List Dt → Dt → Prop := fun ds d => ∃ (x : Dt) (n : Nat), ds = [x, .int (n : Int)] ∧ Sz x ∧ d = .bool (wholeB x n)
def isRnd (c b n : Int) : Bool := decide (c / b ≤ n) && decide (n ≤ upF c b)
def PRounded : List Dt → Dt → Prop := fun ds d => ∃ c b n : Int, ds = [.int c, .int b, .int n] ∧ (0 < b ∧ b < 1073741824) ∧ d = .bool (isRnd c b n)
theorem le_of_mul_lt {x y b : Int} (hb : 0 < b) (h : x * b < (y + 1) * b) : x ≤ y := by
  have : x < y + 1 := Int.lt_of_mul_lt_mul_right h (by omega)
  omega
theorem isRnd_iff {c b n : Int} (hb : 0 < b) : isRnd c b n = true ↔ Rnd b c n := by
  have h1 := div_b (c := c) hb
  have h2 := up_b (c := c) hb
  unfold isRnd
  rw [Bool.and_eq_true, decide_eq_true_eq, decide_eq_true_eq]
  constructor
  · rintro ⟨h3, h4⟩
    have h5 := Int.mul_le_mul_of_nonneg_right h3 (show 0 ≤ b by omega)
    have h6 := Int.mul_le_mul_of_nonneg_right h4 (show 0 ≤ b by omega)
    unfold Rnd
    omega
  · rintro ⟨h3, h4⟩
    constructor
    · refine le_of_mul_lt hb ?_
      rw [Int.add_mul]
      omega
    · refine le_of_mul_lt hb ?_
      rw [Int.add_mul]
      omega
/-! ### rows by themselves -/
def evenF (b : Int) : Int → List Int → List Int
  | _, [] => []
  | w, c :: cs => ((w + c) / b - w / b) :: evenF b (w + c) cs
theorem evenF_len (b : Int) : ∀ (w : Int) (cs : List Int), (evenF b w cs).length = cs.length
  | _, [] => rfl
  | w, c :: cs => by simp [evenF, evenF_len b (w + c) cs]
theorem evenF_snoc (b : Int) : ∀ (w : Int) (cs : List Int) (c : Int), evenF b w (cs ++ [c]) = evenF b w cs ++ [(w + cs.sum + c) / b - (w + cs.sum) / b]
  | w, [], c => by simp [evenF]
  | w, x :: cs, c => by
    simp only [List.cons_append, evenF]
    rw [evenF_snoc b (w + x) cs c, List.sum_cons, show w + x + cs.sum = w + (x + cs.sum) by omega]
theorem evenF_take_sum (b : Int) : ∀ (w : Int) (cs : List Int) (n : Nat), ((evenF b w cs).take n).sum = (w + (cs.take n).sum) / b - w / b
  | w, [], n => by simp [evenF]
  | w, c :: cs, 0 => by simp [evenF]
  | w, c :: cs, n + 1 => by
    simp only [evenF, List.take_succ_cons, List.sum_cons]
    rw [evenF_take_sum b (w + c) cs n, show w + c + (cs.take n).sum = w + (c + (cs.take n).sum) by omega]
    omega
def seg (cs : List Int) (i j : Nat) : Int := ((cs.drop i).take (j - i)).sum
theorem seg_eq (cs : List Int) {i j : Nat} (h : i ≤ j) : seg cs i j = (cs.take j).sum - (cs.take i).sum := by
  have e : cs.take j = cs.take i ++ (cs.drop i).take (j - i) := by
    rw [← List.take_append_drop i (cs.take j), List.take_take, Nat.min_eq_left h, List.drop_take]
  unfold seg
  rw [e, List.sum_append]
  omega
def EvenOk (cs : List Int) (b : Int) (x : Dt) : Prop := ∃ ns, x = rowD ns ∧ ns.length = cs.length ∧ ∀ i j : Nat, i < j → j ≤ cs.length → Rnd b (seg cs i j) (seg ns i j)
theorem even_ok {cs : List Int} {b : Int} (hb : 0 < b) : EvenOk cs b (rowD (evenF b 0 cs)) := by
  refine ⟨_, rfl, evenF_len b 0 cs, fun i j hij hj => ?_⟩
  rw [seg_eq _ (Nat.le_of_lt hij), seg_eq _ (Nat.le_of_lt hij), evenF_take_sum, evenF_take_sum, Int.zero_add, Int.zero_add]
  generalize (cs.take j).sum = p
  generalize (cs.take i).sum = q
  have h1 := div_b (c := p) hb
  have h2 := div_b (c := q) hb
  have e : (p / b - 0 / b - (q / b - 0 / b)) * b = p / b * b - q / b * b := by
    rw [show p / b - 0 / b - (q / b - 0 / b) = p / b - q / b by omega, Int.sub_mul]
  unfold Rnd
  rw [e]
  omega
def PEven : List Dt → Dt → Prop := fun ds d => ∃ (cs : List Int) (b : Int), ds = [rowD cs, .int b] ∧ cs.length ≤ 1000 ∧ (0 < b ∧ b < 1073741824) ∧ d = rowD (evenF b 0 cs)
def PIsEven : List Dt → Dt → Prop := fun ds d => ∃ (cs : List Int) (b : Int) (x : Dt), ds = [rowD cs, .int b, x] ∧ cs.length ≤ 1000 ∧ (0 < b ∧ b < 1073741824) ∧ Sz x ∧ Sh 60 x ∧ imm x = true ∧ d = .bool (tf (EvenOk cs b x))
theorem cut_ints (ns : List Int) {i j : Nat} (hj : j ≤ ns.length) (hij : i ≤ j) : cutD (intsD ns) (some (i : Int)) (some (j : Int)) = intsD ((ns.drop i).take (j - i)) := by
  unfold cutD
  rw [HT.sIx_nat, HT.sIx_nat, intsD_len, Nat.min_eq_left (Nat.le_trans hij hj), Nat.min_eq_left hj]
  unfold intsD
  rw [← List.map_drop, ← List.map_take]
theorem cut_lo {α : Type} (xs : List α) {j : Nat} (hj : j ≤ xs.length) : cutD xs none (some (j : Int)) = xs.take j := by
  unfold cutD
  rw [HT.sIx_nat, HT.sIx_none, Nat.min_eq_left hj]
  rfl
theorem cut_hi {α : Type} (xs : List α) (i : Nat) (hi : i ≤ xs.length) : cutD xs (some (i : Int)) none = xs.drop i := by
  unfold cutD
  rw [HT.sIx_nat, HT.sIx_none, Nat.min_eq_left hi]
  exact List.take_of_length_le (by rw [List.length_drop]; exact Nat.le_refl _)
theorem sum_take1 {cs : List Int} {i : Nat} {c : Int} (h : cs[i]? = some c) : (cs.take (i + 1)).sum = (cs.take i).sum + c := by
  rw [List.take_add_one, h, List.sum_append]
  simp
theorem take1 {α : Type} {cs : List α} {i : Nat} {c : α} (h : cs[i]? = some c) : cs.take (i + 1) = cs.take i ++ [c] := by
  rw [List.take_add_one, h]
  rfl
theorem shl_filter {n : Nat} {xs : List Dt} (h : Sh n (.tuple xs)) (p : Dt → Bool) : Sh n (.list ((xs.filter p).map fun x => x)) := by
  cases n with
  | zero => exact absurd h.2 (by show ¬ (PyData.depthAll xs + 1 ≤ 0); omega)
  | succ n =>
    refine sh_lst fun d hd => ?_
    rw [List.map_id'] at hd
    have hm := (List.mem_filter.mp hd).1
    have all : ∀ {ys : List Dt}, PyData.canLayAll0 ys = true → PyData.depthAll ys ≤ n → ∀ y ∈ ys, Sh n y := by
      intro ys
      induction ys with
      | nil => intro _ _ y hy; cases hy
      | cons z zs ih =>
        intro h1 h2 y hy
        have h1 : (PyData.canLay0 z && PyData.canLayAll0 zs) = true := h1
        have h2 : max (PyData.depth z) (PyData.depthAll zs) ≤ n := h2
        rw [Bool.and_eq_true] at h1
        rcases List.mem_cons.mp hy with rfl | hy
        · exact ⟨h1.1, by omega⟩
        · exact ih h1.2 (by omega) y hy
    exact all h.1 (Nat.le_of_succ_le_succ h.2) d hm
/-! ### the law's counts -/
def menuI (c m : Int) : Int := ([3, 20, 100, c] : List Int).getD m.toNat 0
theorem menuI_at {c m : Int} (h0 : 0 ≤ m) (h4 : m < 4) : atI ([.int 3, .int 20, .int 100, .int c] : List Dt) m = some (.int (menuI c m)) := by
  have h : m = ((m.toNat : Nat) : Int) := by omega
  have hk : m.toNat < 4 := by omega
  unfold menuI
  rw [h]
  generalize m.toNat = k at hk
  rw [show (((k : Nat) : Int)).toNat = k by omega]
  refine atI_nat ?_
  rcases k with _ | _ | _ | _ | k
  all_goals first | rfl | omega
theorem menuI_b {c m : Int} (hc : 3 ≤ c) (h0 : 0 ≤ m) (h4 : m < 4) : 3 ≤ menuI c m := by
  unfold menuI
  have hk : m.toNat < 4 := by omega
  generalize m.toNat = k at hk
  rcases k with _ | _ | _ | _ | k
  · exact (by decide : (3 : Int) ≤ 3)
  · exact (by decide : (3 : Int) ≤ 20)
  · exact (by decide : (3 : Int) ≤ 100)
  · exact hc
  · omega
def cntN (n : Int) : Nat := (1 + n / 4 % 40).toNat
def cntF (n : Int) : List Int := (List.range (cntN n)).map fun k => drawF n k / 4 % menuI 100001 (n % 4)
theorem cntN_b (n : Int) : 1 ≤ cntN n ∧ cntN n ≤ 40 ∧ 1 + n / 4 % 40 = (cntN n : Int) := by unfold cntN; omega
theorem cntF_len (n : Int) : (cntF n).length = cntN n := by simp [cntF]
/-- what one of six is -/
theorem six_at (x0 x1 x2 x3 x4 x5 : Dt) {m : Int} (h0 : 0 ≤ m) (h6 : m < 6) : ∃ d, atI [x0, x1, x2, x3, x4, x5] m = some d ∧ d ∈ [x0, x1, x2, x3, x4, x5] := by
  have h : m = ((m.toNat : Nat) : Int) := by omega
  have hk : m.toNat < [x0, x1, x2, x3, x4, x5].length := by show m.toNat < 6; omega
  rw [h]
  exact ⟨_, atI_nat (List.getElem?_eq_getElem hk), List.getElem_mem hk⟩
end FR

namespace FR
open PySem PySem.Spec L2
open Evl (Ex)
def topS (i : Nat) : Stmt := PySem.Challenge.pw_fairround_k30_whole_stretches.main.body.getD i (.Pass ⟨0, 0, 0, 0⟩)
abbrev s_put_up : Stmt := topS 1
abbrev N_put_up : List Str := ["count", "base"]
theorem sc_put_up : FnScope N_put_up ["count", "base"] (defScope s_put_up) := ⟨rfl, rfl, rfl, by decide +kernel, rfl, by decide +kernel, by decide +kernel⟩
abbrev s_is_rounded : Stmt := topS 2
abbrev N_is_rounded : List Str := ["count", "base", "number"]
theorem sc_is_rounded : FnScope N_is_rounded ["count", "base", "number"] (defScope s_is_rounded) := ⟨rfl, rfl, rfl, by decide +kernel, rfl, by decide +kernel, by decide +kernel⟩
abbrev s_is_whole_row : Stmt := topS 3
abbrev N_is_whole_row : List Str := ["thing", "wide", "part"]
theorem sc_is_whole_row : FnScope N_is_whole_row ["thing", "wide"] (defScope s_is_whole_row) := ⟨rfl, rfl, rfl, by decide +kernel, rfl, by decide +kernel, by decide +kernel⟩
abbrev s_even : Stmt := topS 5
abbrev N_even : List Str := ["counts", "base", "found", "whole", "count"]
theorem sc_even : FnScope N_even ["counts", "base"] (defScope s_even) := ⟨rfl, rfl, rfl, by decide +kernel, rfl, by decide +kernel, by decide +kernel⟩
abbrev s_is_even : Stmt := topS 6
abbrev N_is_even : List Str := ["counts", "base", "thing", "first", "end"]
theorem sc_is_even : FnScope N_is_even ["counts", "base", "thing"] (defScope s_is_even) := ⟨rfl, rfl, rfl, by decide +kernel, rfl, by decide +kernel, by decide +kernel⟩
abbrev s_Lcell_at : Stmt := topS 8
abbrev N_Lcell_at : List Str := ["_law_script", "_law_k"]
theorem sc_Lcell_at : FnScope N_Lcell_at ["_law_script", "_law_k"] (defScope s_Lcell_at) := ⟨rfl, rfl, rfl, by decide +kernel, rfl, by decide +kernel, by decide +kernel⟩
abbrev s_Lmixed : Stmt := topS 9
abbrev N_Lmixed : List Str := ["_law_script", "_law_k", "_law_drawn_here"]
theorem sc_Lmixed : FnScope N_Lmixed ["_law_script", "_law_k"] (defScope s_Lmixed) := ⟨rfl, rfl, rfl, by decide +kernel, rfl, by decide +kernel, by decide +kernel⟩
abbrev s_Ldrawn : Stmt := topS 10
abbrev N_Ldrawn : List Str := ["_law_number", "_law_k", "_law_drawn_here"]
theorem sc_Ldrawn : FnScope N_Ldrawn ["_law_number", "_law_k"] (defScope s_Ldrawn) := ⟨rfl, rfl, rfl, by decide +kernel, rfl, by decide +kernel, by decide +kernel⟩
abbrev s_Ltable : Stmt := topS 11
abbrev N_Ltable : List Str := ["_law_number", "_law_wide", "_law_tall", "_law_high", "_law_rows", "_law_at", "_law_drawn_here", "_law_place"]
theorem sc_Ltable : FnScope N_Ltable ["_law_number"] (defScope s_Ltable) := ⟨rfl, rfl, rfl, by decide +kernel, rfl, by decide +kernel, by decide +kernel⟩
abbrev s_Lbase : Stmt := topS 12
abbrev N_Lbase : List Str := ["_law_number"]
theorem sc_Lbase : FnScope N_Lbase ["_law_number"] (defScope s_Lbase) := ⟨rfl, rfl, rfl, by decide +kernel, rfl, by decide +kernel, by decide +kernel⟩
abbrev s_Lrounded : Stmt := topS 13
abbrev N_Lrounded : List Str := ["_law_count", "_law_base_here", "_law_number"]
theorem sc_Lrounded : FnScope N_Lrounded ["_law_count", "_law_base_here", "_law_number"] (defScope s_Lrounded) := ⟨rfl, rfl, rfl, by decide +kernel, rfl, by decide +kernel, by decide +kernel⟩
abbrev s_Lis_even : Stmt := topS 14
abbrev N_Lis_even : List Str := ["_law_counts", "_law_base_here", "_law_thing", "_law_first", "_law_end", "_law_part"]
theorem sc_Lis_even : FnScope N_Lis_even ["_law_counts", "_law_base_here", "_law_thing"] (defScope s_Lis_even) := ⟨rfl, rfl, rfl, by decide +kernel, rfl, by decide +kernel, by decide +kernel⟩
abbrev s_law : Stmt := topS 15
abbrev N_law : List Str := ["_law_script", "_law_base_here", "_law_number", "_law_high", "_law_counts", "_law_found", "_law_thing", "_law_k", "_law_told", "_law_drawn_here", "_law_at", "_law_here", "_law_other"]
theorem sc_law : FnScope N_law ["_law_script"] (defScope s_law) := ⟨rfl, rfl, rfl, by decide +kernel, rfl, by decide +kernel, by decide +kernel⟩
section
variable {P : Program} {w : World} {K : PySem.W.Frag} {mg : Str → Option Value} {base : Heap}
theorem cal_put_up {f : Addr} {fd : FuncData} (F : Fun K "put_up" "put_up" s_put_up f fd) (g : mg "put_up" = some (.ref f)) (bn : Binds K fd ["count", "base"] []) (M : Nam K mg) : Cal P w K mg base 1 "put_up" ["count", "base"] (spF K POneUp) f fd := by
  refine ⟨?_, g, F.kp, bn⟩
  refine okF F sc_put_up (fun _ _ h => by obtain ⟨n, k, rfl, _⟩ := h; rfl) fun cdv A outer s H E hr => ⟨_, (pss_one (ps_ret (pe_op op_fdiv (pe_op op_sub (pe_op op_add (pv 0) (pv 1)) pe_int) (pv 1)))), ?_⟩
  rintro _ _ ⟨c, b0, rfl, hb, rfl⟩ b D hR
  exact bk_ret (ev_fdiv (ev_sub (ev_add (ev_var rfl) (ev_var rfl)) ev_int) (ev_var rfl) (cdiv hb)) hR rfl
theorem cal_is_rounded {f : Addr} {fd : FuncData} (F : Fun K "is_rounded" "is_rounded" s_is_rounded f fd) (g : mg "is_rounded" = some (.ref f)) (bn : Binds K fd ["count", "base", "number"] []) (M : Nam K mg) {f_put_up : Addr} {fd_put_up : FuncData} (C_put_up : Cal P w K mg base 1 "put_up" ["count", "base"] (spF K POneUp) f_put_up fd_put_up) : Cal P w K mg base 2 "is_rounded" ["count", "base", "number"] (spF K PRounded) f fd := by
  refine ⟨?_, g, F.kp, bn⟩
  refine okF F sc_is_rounded (fun _ _ h => by obtain ⟨c, k, x, rfl, _⟩ := h; rfl) fun cdv A outer s H E hr => ⟨_, (pss_one (ps_ret (pe_chain op_le op_le (pe_op op_fdiv (pv 0) (pv 1)) (pv 2) (d_call C_put_up (hr.mono (by decide)) (pa_cons (pv 0) (pa_cons (pv 1) pa_nil)))))), ?_⟩
  rintro _ _ ⟨c, b0, n, rfl, hb, rfl⟩ b D hR
  exact bk_ret (ev_chainLe (ev_fdiv (ev_var rfl) (ev_var rfl) (cdiv hb)) (ev_var rfl) (ev_call (ea_cons (ev_var rfl) (ea_cons (ev_var rfl) ea_nil)) ⟨c, b0, rfl, hb, rfl⟩)) hR rfl
theorem cal_is_whole_row {f : Addr} {fd : FuncData} (F : Fun K "is_whole_row" "is_whole_row" s_is_whole_row f fd) (g : mg "is_whole_row" = some (.ref f)) (bn : Binds K fd ["thing", "wide"] []) (M : Nam K mg) : Cal P w K mg base 1 "is_whole_row" ["thing", "wide"] (spF K PWhole) f fd := by
  refine ⟨?_, g, F.kp, bn⟩
  refine okF F sc_is_whole_row (fun _ _ h => by obtain ⟨x, n, rfl, _⟩ := h; rfl) fun cdv A outer s H E hr => ⟨_, (pss_cons (ps_if (PW.pt (pw_or (pt_not (pt_val (d_isTup M (pv 0)))) (pw_or1 (pt_cmpR op_ne (d_len M (pv 0)) (pv 1) (nomark _))))) (pss_one (ps_ret pe_bl)) pss_nil) 
      (pss_one (ps_ret (d_all M (pe_lc (own := [("part", 2)]) (g := (gName 2)) (tt := tYes) rfl sc_is_whole_row.nd (w_tup M (pv 0)) (blkOk_by (own := [("part", 2)]) (N := N_is_whole_row) (sc := defScope s_is_whole_row) (by decide +kernel)) (fun _ _ _ _ _ => (pg_name (i := 2) sc_is_whole_row.nd rfl (by first | exact Or.inl rfl | exact Or.inr rfl))) (fun _ _ _ _ _ => pts_nil) (fun _ _ _ _ _ => (pe_and (d_isInt M (pv 2)) (pe_one (pe_not (d_isBool M (pv 2))))))))))), ?_⟩
  rintro _ _ ⟨x, n, rfl, hz, rfl⟩ b D hR
  by_cases hx : ∃ xs, x = .tuple xs
  · obtain ⟨xs, rfl⟩ := hx
    have hl := hz xs rfl
    refine bq_when (et_or (et_not (et_B (ev_isTup (ev_var rfl)))) fun _ => et_test (ev_neI (ev_lenT (ev_var rfl)) (ev_var rfl))) (fun h => ?_) (fun h => ?_)
    · have hn : ¬ xs.length = n := by simp [isTup] at h; omega
      refine bk_ret ev_bl hR ?_
      show _ = PyData.bool (decide (xs.length = n) && xs.all isWhole)
      rw [decide_eq_false hn]
      rfl
    · have hn : xs.length = n := by simp [isTup] at h; omega
      refine bk_ret (ev_allL (bs := xs.map isWhole) (Ev.cast (EvL.v (ds := xs.map fun x => PyData.bool (isWhole x)) ?_) ?_)) hR ?_
      · exact el_lc0 (xs := xs) (ei_tup (ev_var rfl)) (List.map_id' xs).symm (by omega) (fun x => .bool (isWhole x)) (fun _ _ => eg_name) (by decide) (fun x hx => ev_andV (ev_isInt (ev_var rfl)) fun _ => ev_notV (ev_isBool (ev_var rfl))) fun _ _ => rfl
      · rw [List.map_map]
        rfl
      · show _ = PyData.bool (decide (xs.length = n) && xs.all isWhole)
        rw [decide_eq_true hn, Bool.true_and, List.all_map]
        rfl
  · have e1 : isTup x = false := by
      cases x with
      | tuple xs => exact absurd ⟨xs, rfl⟩ hx
      | _ => rfl
    have e2 : wholeB x n = false := by
      cases x with
      | tuple xs => exact absurd ⟨xs, rfl⟩ hx
      | _ => rfl
    refine bq_when (c := true) (EvT.cast (et_or (c' := true) (et_not (et_B (ev_isTup (ev_var rfl)))) fun h => by rw [e1] at h; cases h) (by rw [e1]; rfl)) (fun h => ?_) (fun h => nomatch h)
    exact bk_ret ev_bl hR (by rw [e2])
theorem cal_even {f : Addr} {fd : FuncData} (F : Fun K "even" "even" s_even f fd) (g : mg "even" = some (.ref f)) (bn : Binds K fd ["counts", "base"] []) (M : Nam K mg) : Cal P w K mg base 1 "even" ["counts", "base"] (spF K PEven) f fd := by
  refine ⟨?_, g, F.kp, bn⟩
  refine okF F sc_even (fun _ _ h => by obtain ⟨x, n, rfl, _⟩ := h; rfl) fun cdv A outer s H E hr => ⟨_, (pss_cons (ps_set (i := 2) sc_even.nd rfl (by first | exact Or.inl rfl | exact Or.inr rfl) (pe_lst pa_nil)) 
      (pss_cons (ps_set (i := 3) sc_even.nd rfl (by first | exact Or.inl rfl | exact Or.inr rfl) pe_int) 
      (pss_cons (ps_for PassesOwn.never rfl (w_tup M (pv 0)) (pg_name (i := 4) sc_even.nd rfl (by first | exact Or.inl rfl | exact Or.inr rfl))
        (pss_cons (ps_expr (pe_bm PySem.F.plainAttrs_list PySem.F.slot_list_append PySem.F.type_list_append mt_append (pv 2) (pa_cons (pe_op op_sub (pe_op op_fdiv (pe_op op_add (pv 3) (pv 4)) (pv 1)) (pe_op op_fdiv (pv 3) (pv 1))) pa_nil))) 
        (pss_one (ps_set (i := 3) sc_even.nd rfl (by first | exact Or.inl rfl | exact Or.inr rfl) (pe_op op_add (pv 3) (pv 4)))))) 
      (pss_one (ps_ret (d_tuple M (pv 2))))))), ?_⟩
  rintro _ _ ⟨cs, c, rfl, hl, hb, rfl⟩ b D hR
  refine bq_asgL (el_lst ea_nil (by decide)) fun l _ => ?_
  refine bq_asg ev_int ?_
  refine bq_for (ew_tup (ys := intsD cs) (ev_var rfl) (imm_ints cs)) (fun i ρ => ρ = [.d (rowD cs), .d (.int c), .own l (intsD (evenF c 0 (cs.take i))), .d (.int (cs.take i).sum), .un]) rfl (fun b' i y ρ1 le hy hp => ?_) (fun ρ1 hp => ?_)
  · subst hp
    obtain ⟨x, hx, rfl⟩ := intsD_inv hy
    have hi : i < cs.length := get_lt hx
    refine ⟨_, _, eg_name, ?_⟩
    refine bq_app (n := 2) (l := l) rfl (ev_sub (ev_fdiv (ev_add (ev_var rfl) (ev_var rfl)) (ev_var rfl) (cdiv hb)) (ev_fdiv (ev_var rfl) (ev_var rfl) (cdiv hb))) rfl (imm_ints _) (by rw [intsD_len, evenF_len, List.length_take]; omega) (free_of (by simp [freeB, immS, imm, imm_row])) ?_
    refine bk_asg (d := .int (cs.take (i + 1)).sum) ((ev_add (ev_var rfl) (ev_var rfl)).cast (by rw [sum_take1 hx])) (nx_un 4 (nx_at ?_))
    show _ = _
    rw [take1 hx, evenF_snoc]
    simp [intsD]
  · subst hp
    refine bk_ret (d := rowD (evenF c 0 cs)) ((ev_tupL (EvM.v (em_own (l := l) rfl))).cast ?_) hR rfl
    rw [intsD_len, List.take_length]
    rfl
theorem cal_is_even {f : Addr} {fd : FuncData} (F : Fun K "is_even" "is_even" s_is_even f fd) (g : mg "is_even" = some (.ref f)) (bn : Binds K fd ["counts", "base", "thing"] []) (M : Nam K mg) {f_is_rounded : Addr} {fd_is_rounded : FuncData} (C_is_rounded : Cal P w K mg base 2 "is_rounded" ["count", "base", "number"] (spF K PRounded) f_is_rounded fd_is_rounded) {f_is_whole_row : Addr} {fd_is_whole_row : FuncData} (C_is_whole_row : Cal P w K mg base 1 "is_whole_row" ["thing", "wide"] (spF K PWhole) f_is_whole_row fd_is_whole_row) : Cal P w K mg base 3 "is_even" ["counts", "base", "thing"] (spF K PIsEven) f fd := by
  refine ⟨?_, g, F.kp, bn⟩
  refine okF F sc_is_even (fun _ _ h => by obtain ⟨x, n, y, rfl, _⟩ := h; rfl) fun cdv A outer s H E hr => ⟨_, (pss_cons (ps_if (pt_not (pt_val (d_call C_is_whole_row (hr.mono (by decide)) (pa_cons (pv 2) (pa_cons (d_len M (pv 0)) pa_nil))))) (pss_one (ps_ret pe_bl)) pss_nil) 
      (pss_cons (ps_for PassesOwn.never rfl (w_rng1 M (pa_cons (d_len M (pv 0)) pa_nil)) (pg_name (i := 3) sc_is_even.nd rfl (by first | exact Or.inl rfl | exact Or.inr rfl))
        (pss_one (ps_for PassesOwn.never rfl (pi_range2 (by rfl) M.range (pa_cons (pe_op op_add (pv 3) pe_int) (pa_cons (pe_op op_add (d_len M (pv 0)) pe_int) pa_nil))) (pg_name (i := 4) sc_is_even.nd rfl (by first | exact Or.inl rfl | exact Or.inr rfl))
          (pss_one (ps_if (pt_not (pt_val (d_call C_is_rounded (hr.mono (by decide)) (pa_cons (d_sumT M (d_slT M (pv 0) (po_some (pv 3)) (po_some (pv 4)))) (pa_cons (pv 1) (pa_cons (d_sumT M (d_slT M (pv 2) (po_some (pv 3)) (po_some (pv 4)))) pa_nil)))))) (pss_one (ps_ret pe_bl)) pss_nil))))) 
      (pss_one (ps_ret pe_bl)))), ?_⟩
  rintro _ _ ⟨cs, c, x, rfl, hl, hb, hz, hsh, him, rfl⟩ b D hR
  refine bk_seq (bk_if (et_not (et_B (ev_call (ea_cons (ev_var rfl) (ea_cons (ev_lenT (ev_var rfl)) ea_nil)) ⟨x, (intsD cs).length, rfl, hz, rfl⟩))) (fun h => ?_) (fun h => bk_next ?_))
  · refine bk_ret ev_bl hR ?_
    rw [tf_false]
    rintro ⟨ns, rfl, hn, _⟩
    have := (wholeB_iff (x := rowD ns) (n := (intsD cs).length)).mpr ⟨ns, rfl, by rw [intsD_len]; exact hn⟩
    rw [this] at h
    cases h
  have hw : wholeB x (intsD cs).length = true := by simpa using h
  obtain ⟨ns, rfl, hn⟩ := wholeB_iff.mp hw
  rw [intsD_len] at hn
  refine bk_seq (bk_forP (ei_rngN (ea_cons (ev_lenT (ev_var rfl)) ea_nil) (by rw [intsD_len]; omega)) (fun i ρ => ρ = [.d (rowD cs), .d (.int c), .d (rowD ns), .un, .un] ∧ ∀ i' j : Nat, i' < i → i' < j → j ≤ cs.length → Rnd c (seg cs i' j) (seg ns i' j)) ⟨rfl, fun i' j h => by omega⟩ rfl (fun b1 i y ρ1 le1 hy hp => ?_) (fun ρ1 hp => ?_))
  · obtain ⟨rfl, hp⟩ := hp
    obtain ⟨hi, rfl⟩ := rngN_inv hy
    rw [intsD_len] at hi
    refine ⟨_, _, eg_name, ?_⟩
    refine bk_forP (EvW.toI (ew_rng2 (ea_cons (ev_add (ev_var rfl) ev_int) (ea_cons (ev_add (ev_lenT (ev_var rfl)) ev_int) ea_nil)) (by omega) (by omega) (by omega) (by rw [intsD_len]; omega))) (fun k ρ => ρ = [.d (rowD cs), .d (.int c), .d (rowD ns), .d (.int (i : Int)), .un] ∧ ∀ j : Nat, j < i + 1 + k → i < j → j ≤ cs.length → Rnd c (seg cs i j) (seg ns i j)) ⟨rfl, fun j h1 h2 => by omega⟩ rfl (fun b2 k y ρ2 le2 hy hp2 => ?_) (fun ρ2 hp2 => ?_)
    · obtain ⟨rfl, hp2⟩ := hp2
      obtain ⟨hk, rfl⟩ := rngD_inv hy
      rw [intsD_len] at hk
      have hj : i + 1 + k ≤ cs.length := by omega
      have ej : ((i : Int) + 1 + (k : Int)) = ((i + 1 + k : Nat) : Int) := by omega
      rw [ej]
      refine ⟨_, _, eg_name, ?_⟩
      have e1 : ∀ {te : TE} {ρ : Rho} (ls : List Int), ls.length = cs.length → Ev K b2 te ρ (.tuple (cutD (intsD ls) (some (i : Int)) (some ((i + 1 + k : Nat) : Int)))) → Ev K b2 te ρ (.tuple (((ls.drop i).take (i + 1 + k - i)).map PyData.int)) := fun ls hl h => h.cast (by rw [cut_ints ls (by omega) (by omega)]; rfl)
      refine bk_if (et_not (et_B (ev_call (ea_cons (ev_sumT (e1 cs rfl (ev_slT (ev_var rfl) (eo_some (ev_var rfl)) (eo_some (ev_var rfl))))) (ea_cons (ev_var rfl) (ea_cons (ev_sumT (e1 ns hn (ev_slT (ev_var rfl) (eo_some (ev_var rfl)) (eo_some (ev_var rfl))))) ea_nil))) ⟨_, c, _, rfl, hb, rfl⟩))) (fun h => ?_) (fun h => ?_)
      · refine bk_ret ev_bl ((hR.le le1).le le2) ?_
        rw [tf_false]
        rintro ⟨ms, hm, _, hall⟩
        have hm : intsD ns = intsD ms := by injection hm
        have hm : ns = ms := by
          have := eqvAll_ints ns ms
          rw [← hm, eqvAll_ints, decide_eq_true rfl] at this
          exact of_decide_eq_true this.symm
        subst hm
        have := (isRnd_iff hb.1).mpr (hall i (i + 1 + k) (by omega) hj)
        unfold seg at this
        rw [this] at h
        cases h
      · refine bk_next (nx_un 4 (nx_at ⟨rfl, fun j h1 h2 h3 => ?_⟩))
        by_cases hjj : j = i + 1 + k
        · subst hjj
          have h' : isRnd ((cs.drop i).take (i + 1 + k - i)).sum c ((ns.drop i).take (i + 1 + k - i)).sum = true := by simpa using h
          exact (isRnd_iff hb.1).mp h'
        · exact hp2 j (by omega) h2 h3
    · obtain ⟨rfl, hp2⟩ := hp2
      rw [rngD_len, intsD_len] at hp2
      refine nx_un 3 (nx_at ⟨rfl, fun i' j h1 h2 h3 => ?_⟩)
      by_cases hii : i' = i
      · subst hii
        exact hp2 j (by omega) h2 h3
      · exact hp i' j (by omega) h2 h3
  · obtain ⟨rfl, hp⟩ := hp
    rw [rngN_len, intsD_len] at hp
    refine bk_ret ev_bl hR ?_
    rw [tf_true]
    exact ⟨ns, rfl, hn, fun i j h1 h2 => hp i j (by omega) h1 h2⟩
theorem cal_Lcell_at {f : Addr} {fd : FuncData} (F : Fun K "_law_cell_at" "_law_cell_at" s_Lcell_at f fd) (g : mg "_law_cell_at" = some (.ref f)) (bn : Binds K fd ["_law_script", "_law_k"] []) (M : Nam K mg) : Cal P w K mg base 1 "_law_cell_at" ["_law_script", "_law_k"] (spF K PCell) f fd := by
  refine ⟨?_, g, F.kp, bn⟩
  refine okF F sc_Lcell_at (fun _ _ h => by obtain ⟨ns, k, rfl, _⟩ := h; rfl) fun cdv A outer s H E hr => ⟨_, (pss_cons (ps_if (pt_cmpR op_lt (pv 1) (d_len M (pv 0)) (nomark _)) (pss_one (ps_ret (d_ixL M (pv 0) (pv 1)))) pss_nil) 
      (pss_one (ps_ret pe_int))), ?_⟩
  rintro _ _ ⟨ns, k, rfl, rfl⟩ b D hR
  refine bk_seq (bk_if (et_test (ev_lt (ev_var rfl) (ev_lenL (ev_var rfl)))) (fun h => ?_) (fun h => ?_))
  · have hk : k < ns.length := by have := of_decide_eq_true h; rw [intsD_len] at this; omega
    exact bk_ret (ev_ixL (ev_var rfl) (ev_var rfl) (intsD_at hk)) hR (by unfold cellF; rw [if_pos hk])
  · have hk : ¬ k < ns.length := by have := of_decide_eq_false h; rw [intsD_len] at this; omega
    exact bk_next (bk_ret ev_int hR (by unfold cellF; rw [if_neg hk]))
theorem cal_Lmixed {f : Addr} {fd : FuncData} (F : Fun K "_law_mixed" "_law_mixed" s_Lmixed f fd) (g : mg "_law_mixed" = some (.ref f)) (bn : Binds K fd ["_law_script", "_law_k"] []) (M : Nam K mg) {f_Lcell_at : Addr} {fd_Lcell_at : FuncData} (C_Lcell_at : Cal P w K mg base 1 "_law_cell_at" ["_law_script", "_law_k"] (spF K PCell) f_Lcell_at fd_Lcell_at) : Cal P w K mg base 2 "_law_mixed" ["_law_script", "_law_k"] (spF K PMixed) f fd := by
  refine ⟨?_, g, F.kp, bn⟩
  refine okF F sc_Lmixed (fun _ _ h => by obtain ⟨ns, k, rfl, _⟩ := h; rfl) fun cdv A outer s H E hr => ⟨_, (pss_cons (ps_set (i := 2) sc_Lmixed.nd rfl (by first | exact Or.inl rfl | exact Or.inr rfl) (pe_op op_mod (pe_op op_mul (pe_op op_add (pe_op op_add (d_call C_Lcell_at (hr.mono (by decide)) (pa_cons (pv 0) (pa_cons (pv 1) pa_nil))) (pe_op op_mul pe_int (pv 1))) pe_int) pe_int) pe_int)) 
      (pss_one (ps_ret (pe_op op_mod (pe_op op_add (pe_op op_add (pe_op op_mul (pv 2) (pv 2)) (pe_op op_mul pe_int (pv 2))) (pv 1)) pe_int)))), ?_⟩
  rintro _ _ ⟨ns, k, rfl, hk, rfl⟩ b D hR
  have hb := mixM_b ns k
  refine bk_seq (bk_asg (d := .int (mixM ns k)) (ev_mod (ev_mul (ev_add (ev_add (ev_call (ea_cons (ev_var rfl) (ea_cons (ev_var rfl) ea_nil)) ⟨ns, k, rfl, rfl⟩) (ev_mul ev_int (ev_var rfl) (cmul_l (by decide)))) ev_int) ev_int (cmul_r (by decide))) ev_int (by decide)) ?_)
  exact bk_ret (ev_mod (ev_add (ev_add (ev_mul (ev_var rfl) (ev_var rfl) (cmul_l (by omega))) (ev_mul ev_int (ev_var rfl) (cmul_l (by decide)))) (ev_var rfl)) ev_int (by decide)) hR rfl
theorem cal_Ldrawn {f : Addr} {fd : FuncData} (F : Fun K "_law_drawn" "_law_drawn" s_Ldrawn f fd) (g : mg "_law_drawn" = some (.ref f)) (bn : Binds K fd ["_law_number", "_law_k"] []) (M : Nam K mg) : Cal P w K mg base 1 "_law_drawn" ["_law_number", "_law_k"] (spF K PDrawn) f fd := by
  refine ⟨?_, g, F.kp, bn⟩
  refine okF F sc_Ldrawn (fun _ _ h => by obtain ⟨n, k, rfl, _⟩ := h; rfl) fun cdv A outer s H E hr => ⟨_, (pss_cons (ps_set (i := 2) sc_Ldrawn.nd rfl (by first | exact Or.inl rfl | exact Or.inr rfl) (pe_op op_mod (pe_op op_mul (pe_op op_add (pe_op op_add (pv 0) (pe_op op_mul pe_int (pv 1))) pe_int) pe_int) pe_int)) 
      (pss_one (ps_ret (pe_op op_mod (pe_op op_add (pe_op op_add (pe_op op_mul (pv 2) (pv 2)) (pe_op op_mul pe_int (pv 2))) (pv 1)) pe_int)))), ?_⟩
  rintro _ _ ⟨n, k, rfl, hk, rfl⟩ b D hR
  have hb := drawM_b n k
  refine bk_seq (bk_asg (d := .int (drawM n k)) (ev_mod (ev_mul (ev_add (ev_add (ev_var rfl) (ev_mul ev_int (ev_var rfl) (cmul_l (by decide)))) ev_int) ev_int (cmul_r (by decide))) ev_int (by decide)) ?_)
  exact bk_ret (ev_mod (ev_add (ev_add (ev_mul (ev_var rfl) (ev_var rfl) (cmul_l (by omega))) (ev_mul ev_int (ev_var rfl) (cmul_l (by decide)))) (ev_var rfl)) ev_int (by decide)) hR rfl
theorem cal_Ltable {f : Addr} {fd : FuncData} (F : Fun K "_law_table" "_law_table" s_Ltable f fd) (g : mg "_law_table" = some (.ref f)) (bn : Binds K fd ["_law_number"] []) (M : Nam K mg) {f_Ldrawn : Addr} {fd_Ldrawn : FuncData} (C_Ldrawn : Cal P w K mg base 1 "_law_drawn" ["_law_number", "_law_k"] (spF K PDrawn) f_Ldrawn fd_Ldrawn) : Cal P w K mg base 2 "_law_table" ["_law_number"] (spF K (PTable 100001)) f fd := by
  refine ⟨?_, g, F.kp, bn⟩
  refine okF F sc_Ltable (fun _ _ h => by obtain ⟨n, rfl, _⟩ := h; rfl) fun cdv A outer s H E hr => ⟨_, (pss_cons (ps_set (i := 1) sc_Ltable.nd rfl (by first | exact Or.inl rfl | exact Or.inr rfl) (pe_op op_add pe_int (pe_op op_mod (pv 0) pe_int))) 
      (pss_cons (ps_set (i := 2) sc_Ltable.nd rfl (by first | exact Or.inl rfl | exact Or.inr rfl) (pe_op op_add pe_int (pe_op op_mod (pe_op op_fdiv (pv 0) pe_int) pe_int))) 
      (pss_cons (ps_set (i := 3) sc_Ltable.nd rfl (by first | exact Or.inl rfl | exact Or.inr rfl) (d_ixT M (pe_tup (pa_cons pe_int (pa_cons pe_int (pa_cons pe_int (pa_cons pe_int pa_nil))))) (pe_op op_mod (pe_op op_fdiv (pv 0) pe_int) pe_int))) 
      (pss_cons (ps_set (i := 4) sc_Ltable.nd rfl (by first | exact Or.inl rfl | exact Or.inr rfl) (pe_lst pa_nil)) 
      (pss_cons (ps_for PassesOwn.never rfl (w_rng1 M (pa_cons (pv 2) pa_nil)) (pg_name (i := 5) sc_Ltable.nd rfl (by first | exact Or.inl rfl | exact Or.inr rfl))
        (pss_cons (ps_set (i := 6) sc_Ltable.nd rfl (by first | exact Or.inl rfl | exact Or.inr rfl) (d_call C_Ldrawn (hr.mono (by decide)) (pa_cons (pv 0) (pa_cons (pv 5) pa_nil)))) 
        (pss_one (ps_expr (pe_bm PySem.F.plainAttrs_list PySem.F.slot_list_append PySem.F.type_list_append mt_append (pv 4) (pa_cons (d_tuple M (pe_lc (own := [("_law_place", 7)]) (g := (gName 7)) (tt := tYes) rfl sc_Ltable.nd (w_rng1 M (pa_cons (pv 1) pa_nil)) (blkOk_by (own := [("_law_place", 7)]) (N := N_Ltable) (sc := defScope s_Ltable) (by decide +kernel)) (fun _ _ _ _ _ => (pg_name (i := 7) sc_Ltable.nd rfl (by first | exact Or.inl rfl | exact Or.inr rfl))) (fun _ _ _ _ _ => pts_nil) (fun _ _ _ _ _ => (pe_op op_mod (pe_op op_fdiv (d_call C_Ldrawn (hr.mono (by decide)) (pa_cons (pv 6) (pa_cons (pv 7) pa_nil))) pe_int) (pv 3))))) pa_nil)))))) 
      (pss_one (ps_ret (d_tuple M (pv 4))))))))), ?_⟩
  rintro _ _ ⟨n, rfl, rfl⟩ b D hR
  have hw := wideF_b n
  have ht := tallF_b n
  have hm := menuF_b 100001 n (by decide) (by decide)
  refine bk_seq (bk_asg (d := .int (wideF n : Int)) ((ev_add ev_int (ev_mod (ev_var rfl) ev_int (by decide))).cast (by rw [hw.2.2])) ?_)
  refine bk_seq (bk_asg (d := .int (tallF n : Int)) ((ev_add ev_int (ev_mod (ev_fdiv (ev_var rfl) ev_int (cdiv (by decide))) ev_int (by decide))).cast (by rw [ht.2.2])) ?_)
  refine bk_seq (bk_asg (d := .int (menuF 100001 n)) (ev_ixT (ev_tup (ea_cons ev_int (ea_cons ev_int (ea_cons ev_int (ea_cons ev_int ea_nil)))) (by decide)) (ev_mod (ev_fdiv (ev_var rfl) ev_int (cdiv (by decide))) ev_int (by decide)) (menu_at 100001 n)) ?_)
  refine bk_seq (bk_asgL (el_lst ea_nil (by decide)) fun l _ => ?_)
  refine bk_seq (bk_for (ew_rngN (ea_cons (ev_var rfl) ea_nil) (by omega)) (fun i ρ => ρ = [.d (.int n), .d (.int (wideF n : Int)), .d (.int (tallF n : Int)), .d (.int (menuF 100001 n)), .own l (rowsD ((List.range i).map fun i => rowF 100001 n i)), .un, .un, .un]) rfl (fun b' i y ρ1 le hy hp => ?_) (fun ρ1 hp => ?_))
  · subst hp
    obtain ⟨hi, rfl⟩ := rngN_inv hy
    refine ⟨_, _, eg_name, ?_⟩
    refine bk_seq (bk_asg (ev_call (ea_cons (ev_var rfl) (ea_cons (ev_var rfl) ea_nil)) ⟨n, i, rfl, by omega, rfl⟩) ?_)
    refine bk_app (n := 4) (l := l) (d := rowD (rowF 100001 n i)) rfl ?_ (imm_row _) (imm_rows _) (by rw [rowsD_len, List.length_map, List.length_range]; omega) (free_of rfl) (nx_un 5 (nx_un 6 (nx_at ?_)))
    · refine (ev_tupL (EvL.v (el_lc0 (xs := List.range (wideF n)) (ei_rngN (ea_cons (ev_var rfl) ea_nil) (by omega)) rfl (by rw [List.length_range]; omega) (fun j => .int (drawF (drawF n i) j / 8 % menuF 100001 n)) (fun _ _ => eg_name) (by decide)
        (fun j hj => ev_mod (ev_fdiv (ev_call (ea_cons (ev_var rfl) (ea_cons (ev_var rfl) ea_nil)) ⟨_, j, rfl, by have := List.mem_range.mp hj; omega, rfl⟩) ev_int (cdiv (by decide))) (ev_var rfl) (by omega)) fun _ _ => rfl))).cast ?_
      unfold rowD rowF intsD
      rw [List.map_map]
      rfl
    · show _ = _
      rw [List.range_succ, List.map_append]
      unfold rowsD
      rw [List.map_append]
      rfl
  · subst hp
    refine bk_ret (d := tabD (tabF 100001 n)) ((ev_tupL (EvM.v (em_own (l := l) rfl))).cast ?_) hR rfl
    rw [rngN_len]
    rfl
theorem cal_Lbase {f : Addr} {fd : FuncData} (F : Fun K "_law_base" "_law_base" s_Lbase f fd) (g : mg "_law_base" = some (.ref f)) (bn : Binds K fd ["_law_number"] []) (M : Nam K mg) : Cal P w K mg base 1 "_law_base" ["_law_number"] (spF K PBase) f fd := by
  refine ⟨?_, g, F.kp, bn⟩
  refine okF F sc_Lbase (fun _ _ h => by obtain ⟨n, rfl, _⟩ := h; rfl) fun cdv A outer s H E hr => ⟨_, (pss_one (ps_ret (d_ixT M (pe_tup (pa_cons pe_int (pa_cons pe_int (pa_cons pe_int (pa_cons pe_int (pa_cons pe_int (pa_cons (pe_op op_add pe_int (pe_op op_mod (pe_op op_fdiv (pv 0) pe_int) pe_int)) pa_nil))))))) (pe_op op_mod (pv 0) pe_int)))), ?_⟩
  rintro _ _ ⟨n, rfl, rfl⟩ b D hR
  exact bk_ret (ev_ixT (ds := intsD (baseL n)) (ev_tup (ea_cons ev_int (ea_cons ev_int (ea_cons ev_int (ea_cons ev_int (ea_cons ev_int (ea_cons (ev_add ev_int (ev_mod (ev_fdiv (ev_var rfl) ev_int (cdiv (by decide))) ev_int (by decide))) ea_nil)))))) (by show 6 ≤ 100000; decide)) (ev_mod (ev_var rfl) ev_int (by decide)) (base_at n)) hR rfl
theorem cal_Lrounded {f : Addr} {fd : FuncData} (F : Fun K "_law_rounded" "_law_rounded" s_Lrounded f fd) (g : mg "_law_rounded" = some (.ref f)) (bn : Binds K fd ["_law_count", "_law_base_here", "_law_number"] []) (M : Nam K mg) : Cal P w K mg base 1 "_law_rounded" ["_law_count", "_law_base_here", "_law_number"] (spF K PRndD) f fd := by
  refine ⟨?_, g, F.kp, bn⟩
  refine okF F sc_Lrounded (fun _ _ h => by obtain ⟨c, k, x, rfl, _⟩ := h; rfl) fun cdv A outer s H E hr => ⟨_, (pss_one (ps_ret (pe_and (d_isInt M (pv 2)) (pe_and (pe_not (d_isBool M (pv 2))) (pe_one (pe_cmpR op_lt (d_abs M (pe_op op_sub (pe_op op_mul (pv 2) (pv 1)) (pv 0))) (pv 1) (nomark _))))))), ?_⟩
  rintro _ _ ⟨c, b0, x, rfl, hb, rfl⟩ b D hR
  have go : ∀ {te : TE} {ρ : Rho}, isInt x = true → (!isBool x) = true → (∀ n, x = .int n → Ev K b te ρ (.bool (rndD c b0 (.int n)))) → Ev K b te ρ (.bool (rndD c b0 x)) := fun h1 h2 h => by
    cases x with
    | int n => exact h n rfl
    | bool _ => simp [isBool] at h2
    | _ => simp [isInt] at h1
  refine bk_ret (d := .bool (isInt x && (!isBool x && rndD c b0 x))) (ev_andV (ev_isInt (ev_var rfl)) fun h1 => ev_andV (ev_notV (ev_isBool (ev_var rfl))) fun h2 => go h1 h2 fun n hn => ?_) hR ?_
  · subst hn
    exact ev_lt (ev_abs (ev_sub (ev_mul (ev_var rfl) (ev_var rfl) (cmul_r (by omega))) (ev_var rfl))) (ev_var rfl)
  · cases x <;> first | rfl | simp [isInt, isBool, rndD]
theorem cal_Lis_even {f : Addr} {fd : FuncData} (F : Fun K "_law_is_even" "_law_is_even" s_Lis_even f fd) (g : mg "_law_is_even" = some (.ref f)) (bn : Binds K fd ["_law_counts", "_law_base_here", "_law_thing"] []) (M : Nam K mg) {f_Lrounded : Addr} {fd_Lrounded : FuncData} (C_Lrounded : Cal P w K mg base 1 "_law_rounded" ["_law_count", "_law_base_here", "_law_number"] (spF K PRndD) f_Lrounded fd_Lrounded) : Cal P w K mg base 2 "_law_is_even" ["_law_counts", "_law_base_here", "_law_thing"] (spF K PIsEven) f fd := by
  refine ⟨?_, g, F.kp, bn⟩
  refine okF F sc_Lis_even (fun _ _ h => by obtain ⟨x, n, y, rfl, _⟩ := h; rfl) fun cdv A outer s H E hr => ⟨_, (pss_cons (ps_if (PW.pt (pw_or (pt_not (pt_val (d_isTup M (pv 2)))) (pw_or1 (pt_cmpR op_ne (d_len M (pv 2)) (d_len M (pv 0)) (nomark _))))) (pss_one (ps_ret pe_bl)) pss_nil) 
      (pss_cons (ps_if (d_neDt M hr.units (pe_lc (own := [("_law_part", 5)]) (g := (gName 5)) (tt := _) rfl sc_Lis_even.nd (w_tup M (pv 2)) (blkOk_by (own := [("_law_part", 5)]) (N := N_Lis_even) (sc := defScope s_Lis_even) (by decide +kernel)) (fun _ _ _ _ _ => (pg_name (i := 5) sc_Lis_even.nd rfl (by first | exact Or.inl rfl | exact Or.inr rfl))) (fun _ _ _ _ _ => pts_one (PW.pt (pw_or (pt_not (pt_val (d_isInt M (pv 5)))) (pw_or1 (pt_val (d_isBool M (pv 5))))))) (fun _ _ _ _ _ => (pv 5))) (pe_lst pa_nil)) (pss_one (ps_ret pe_bl)) pss_nil) 
      (pss_cons (ps_for PassesOwn.never rfl (w_rng1 M (pa_cons (d_len M (pv 0)) pa_nil)) (pg_name (i := 3) sc_Lis_even.nd rfl (by first | exact Or.inl rfl | exact Or.inr rfl))
        (pss_one (ps_for PassesOwn.never rfl (pi_range2 (by rfl) M.range (pa_cons (pe_op op_add (pv 3) pe_int) (pa_cons (pe_op op_add (d_len M (pv 0)) pe_int) pa_nil))) (pg_name (i := 4) sc_Lis_even.nd rfl (by first | exact Or.inl rfl | exact Or.inr rfl))
          (pss_one (ps_if (pt_not (pt_val (d_call C_Lrounded (hr.mono (by decide)) (pa_cons (d_sumT M (d_slT M (pv 0) (po_some (pv 3)) (po_some (pv 4)))) (pa_cons (pv 1) (pa_cons (d_sumT M (d_slT M (pv 2) (po_some (pv 3)) (po_some (pv 4)))) pa_nil)))))) (pss_one (ps_ret pe_bl)) pss_nil))))) 
      (pss_one (ps_ret pe_bl))))), ?_⟩
  rintro _ _ ⟨cs, c, x, rfl, hl, hb, hz, hsh, him, rfl⟩ b D hR
  have no : (∀ ns, x = rowD ns → ns.length = cs.length → False) → ∀ {ρ : Rho}, Bk K b (tRet (tC (.bl false))) ρ D := fun h ρ => bk_ret ev_bl hR (by
    rw [tf_false]
    rintro ⟨ns, rfl, hn, _⟩
    exact h ns rfl hn)
  by_cases hx : ∃ xs, x = .tuple xs
  · obtain ⟨xs, rfl⟩ := hx
    have hxl := hz xs rfl
    have hxi := immAll_iff.mp (show immAll xs = true from him)
    refine bq_when (et_or (et_not (et_B (ev_isTup (ev_var rfl)))) fun _ => et_test (ev_neI (ev_lenT (ev_var rfl)) (ev_lenT (ev_var rfl)))) (fun h => ?_) (fun h => ?_)
    · refine no fun ns e hn => ?_
      have e : xs = intsD ns := by injection e
      rw [e, intsD_len, intsD_len, hn] at h
      simp [isTup] at h
    have hlen : xs.length = cs.length := by simp [isTup, intsD_len] at h; omega
    refine bq_when (et_test (ev_neD (EvL.v (el_lc (xs := xs) (ei_tup (ev_var rfl)) (List.map_id' xs).symm (by omega) (fun y => !isInt y || isBool y) (fun y => y) (fun _ _ => eg_name) (by decide) (fun y _ => et_or (et_not (et_B (ev_isInt (ev_var rfl)))) fun _ => et_B (ev_isBool (ev_var rfl))) (fun y _ _ => ev_var rfl) (fun y hy _ => hxi y hy)))
      (EvL.v (el_lst ea_nil (by decide))) (shl_filter hsh _).ok (by decide +kernel))) (fun h => ?_) (fun h => ?_)
    · refine no fun ns e hn => ?_
      have e : xs = intsD ns := by injection e
      rw [e, eqv_nil] at h
      have hf : (intsD ns).filter (fun y => !isInt y || isBool y) = [] := by
        rw [List.filter_eq_nil_iff]
        intro y hy
        obtain ⟨i, _, rfl⟩ := List.mem_map.mp hy
        simp [isInt, isBool]
      rw [hf] at h
      cases h
    rw [eqv_nil] at h
    have hall : xs.all isWhole = true := by
      rw [List.all_eq_true]
      intro y hy
      have hf : ((xs.filter fun y => !isInt y || isBool y).map fun y => y) = [] := by simpa using h
      rw [List.map_id', List.filter_eq_nil_iff] at hf
      have := hf y hy
      unfold isWhole
      cases h1 : isInt y <;> cases h2 : isBool y <;> simp [h1, h2] at this ⊢
    obtain ⟨ns, rfl⟩ := whole_ints hall
    rw [intsD_len] at hlen
    have hn := hlen
    refine bq_forP (ei_rngN (ea_cons (ev_lenT (ev_var rfl)) ea_nil) (by rw [intsD_len]; omega)) (fun i ρ => ρ = [.d (rowD cs), .d (.int c), .d (rowD ns), .un, .un, .un] ∧ ∀ i' j : Nat, i' < i → i' < j → j ≤ cs.length → Rnd c (seg cs i' j) (seg ns i' j)) ⟨rfl, fun i' j h => by omega⟩ rfl (fun b1 i y ρ1 le1 hy hp => ?_) (fun ρ1 hp => ?_)
    · obtain ⟨rfl, hp⟩ := hp
      obtain ⟨hi, rfl⟩ := rngN_inv hy
      rw [intsD_len] at hi
      refine ⟨_, _, eg_name, ?_⟩
      refine bk_forP (EvW.toI (ew_rng2 (ea_cons (ev_add (ev_var rfl) ev_int) (ea_cons (ev_add (ev_lenT (ev_var rfl)) ev_int) ea_nil)) (by omega) (by omega) (by omega) (by rw [intsD_len]; omega))) (fun k ρ => ρ = [.d (rowD cs), .d (.int c), .d (rowD ns), .d (.int (i : Int)), .un, .un] ∧ ∀ j : Nat, j < i + 1 + k → i < j → j ≤ cs.length → Rnd c (seg cs i j) (seg ns i j)) ⟨rfl, fun j h1 h2 => by omega⟩ rfl (fun b2 k y ρ2 le2 hy hp2 => ?_) (fun ρ2 hp2 => ?_)
      · obtain ⟨rfl, hp2⟩ := hp2
        obtain ⟨hk, rfl⟩ := rngD_inv hy
        rw [intsD_len] at hk
        have hj : i + 1 + k ≤ cs.length := by omega
        have ej : ((i : Int) + 1 + (k : Int)) = ((i + 1 + k : Nat) : Int) := by omega
        rw [ej]
        refine ⟨_, _, eg_name, ?_⟩
        have e1 : ∀ {te : TE} {ρ : Rho} (ls : List Int), ls.length = cs.length → Ev K b2 te ρ (.tuple (cutD (intsD ls) (some (i : Int)) (some ((i + 1 + k : Nat) : Int)))) → Ev K b2 te ρ (.tuple (((ls.drop i).take (i + 1 + k - i)).map PyData.int)) := fun ls hl h => h.cast (by rw [cut_ints ls (by omega) (by omega)]; rfl)
        refine bk_when (et_not (et_B (ev_call (ea_cons (ev_sumT (e1 cs rfl (ev_slT (ev_var rfl) (eo_some (ev_var rfl)) (eo_some (ev_var rfl))))) (ea_cons (ev_var rfl) (ea_cons (ev_sumT (e1 ns hn (ev_slT (ev_var rfl) (eo_some (ev_var rfl)) (eo_some (ev_var rfl))))) ea_nil))) ⟨_, c, _, rfl, hb, rfl⟩))) (fun h => ?_) (fun h => ?_)
        · refine bk_ret ev_bl ((hR.le le1).le le2) ?_
          rw [tf_false]
          rintro ⟨ms, hm, _, hall⟩
          have hm : intsD ns = intsD ms := by injection hm
          have hm : ns = ms := by
            have := eqvAll_ints ns ms
            rw [← hm, eqvAll_ints, decide_eq_true rfl] at this
            exact of_decide_eq_true this.symm
          subst hm
          have := rndD_iff.mpr (hall i (i + 1 + k) (by omega) hj)
          unfold seg at this
          rw [this] at h
          cases h
        · refine nx_un 4 (nx_at ⟨rfl, fun j h1 h2 h3 => ?_⟩)
          by_cases hjj : j = i + 1 + k
          · subst hjj
            have h' : rndD ((cs.drop i).take (i + 1 + k - i)).sum c (.int ((ns.drop i).take (i + 1 + k - i)).sum) = true := by simpa using h
            exact rndD_iff.mp h'
          · exact hp2 j (by omega) h2 h3
      · obtain ⟨rfl, hp2⟩ := hp2
        rw [rngD_len, intsD_len] at hp2
        refine nx_un 3 (nx_at ⟨rfl, fun i' j h1 h2 h3 => ?_⟩)
        by_cases hii : i' = i
        · subst hii
          exact hp2 j (by omega) h2 h3
        · exact hp i' j (by omega) h2 h3
    · obtain ⟨rfl, hp⟩ := hp
      rw [rngN_len, intsD_len] at hp
      refine bk_ret ev_bl hR ?_
      rw [tf_true]
      exact ⟨ns, rfl, hn, fun i j h1 h2 => hp i j (by omega) h1 h2⟩
  · have e1 : isTup x = false := by
      cases x with
      | tuple xs => exact absurd ⟨xs, rfl⟩ hx
      | _ => rfl
    refine bq_when (c := true) (EvT.cast (et_or (c' := true) (et_not (et_B (ev_isTup (ev_var rfl)))) fun h => by rw [e1] at h; cases h) (by rw [e1]; rfl)) (fun h => ?_) (fun h => nomatch h)
    exact no fun ns e _ => hx ⟨_, e⟩
theorem cal_law {f : Addr} {fd : FuncData} (F : Fun K "law" "law" s_law f fd) (g : mg "law" = some (.ref f)) (bn : Binds K fd ["_law_script"] []) (M : Nam K mg) {f_even : Addr} {fd_even : FuncData} (C_even : Cal P w K mg base 1 "even" ["counts", "base"] (spF K PEven) f_even fd_even) {f_is_even : Addr} {fd_is_even : FuncData} (C_is_even : Cal P w K mg base 3 "is_even" ["counts", "base", "thing"] (spF K PIsEven) f_is_even fd_is_even) {f_Lmixed : Addr} {fd_Lmixed : FuncData} (C_Lmixed : Cal P w K mg base 2 "_law_mixed" ["_law_script", "_law_k"] (spF K PMixed) f_Lmixed fd_Lmixed) {f_Ldrawn : Addr} {fd_Ldrawn : FuncData} (C_Ldrawn : Cal P w K mg base 1 "_law_drawn" ["_law_number", "_law_k"] (spF K PDrawn) f_Ldrawn fd_Ldrawn) {f_Lbase : Addr} {fd_Lbase : FuncData} (C_Lbase : Cal P w K mg base 1 "_law_base" ["_law_number"] (spF K PBase) f_Lbase fd_Lbase) {f_Lis_even : Addr} {fd_Lis_even : FuncData} (C_Lis_even : Cal P w K mg base 2 "_law_is_even" ["_law_counts", "_law_base_here", "_law_thing"] (spF K PIsEven) f_Lis_even fd_Lis_even) : Cal P w K mg base 4 "law" ["_law_script"] (spF K PLaw) f fd := by
  refine ⟨?_, g, F.kp, bn⟩
  refine okF F sc_law (fun _ _ h => by obtain ⟨n, rfl, _⟩ := h; rfl) fun cdv A outer s H E hr => ⟨_, (pss_cons (ps_set (i := 1) sc_law.nd rfl (by first | exact Or.inl rfl | exact Or.inr rfl) (d_call C_Lbase (hr.mono (by decide)) (pa_cons (d_call C_Lmixed (hr.mono (by decide)) (pa_cons (pv 0) (pa_cons pe_int pa_nil))) pa_nil))) 
      (pss_cons (ps_set (i := 2) sc_law.nd rfl (by first | exact Or.inl rfl | exact Or.inr rfl) (d_call C_Lmixed (hr.mono (by decide)) (pa_cons (pv 0) (pa_cons pe_int pa_nil)))) 
      (pss_cons (ps_set (i := 3) sc_law.nd rfl (by first | exact Or.inl rfl | exact Or.inr rfl) (d_ixT M (pe_tup (pa_cons pe_int (pa_cons pe_int (pa_cons pe_int (pa_cons pe_int pa_nil))))) (pe_op op_mod (pv 2) pe_int))) 
      (pss_cons (ps_set (i := 4) sc_law.nd rfl (by first | exact Or.inl rfl | exact Or.inr rfl) (d_tuple M (pe_lc (own := [("_law_k", 7)]) (g := (gName 7)) (tt := tYes) rfl sc_law.nd (w_rng1 M (pa_cons (pe_op op_add pe_int (pe_op op_mod (pe_op op_fdiv (pv 2) pe_int) pe_int)) pa_nil)) (blkOk_by (own := [("_law_k", 7)]) (N := N_law) (sc := defScope s_law) (by decide +kernel)) (fun _ _ _ _ _ => (pg_name (i := 7) sc_law.nd rfl (by first | exact Or.inl rfl | exact Or.inr rfl))) (fun _ _ _ _ _ => pts_nil) (fun _ _ _ _ _ => (pe_op op_mod (pe_op op_fdiv (d_call C_Ldrawn (hr.mono (by decide)) (pa_cons (pv 2) (pa_cons (pv 7) pa_nil))) pe_int) (pv 3)))))) 
      (pss_cons (ps_set (i := 5) sc_law.nd rfl (by first | exact Or.inl rfl | exact Or.inr rfl) (d_call C_even (hr.mono (by decide)) (pa_cons (pv 4) (pa_cons (pv 1) pa_nil)))) 
      (pss_cons (ps_if (pt_not (pt_val (d_call C_Lis_even (hr.mono (by decide)) (pa_cons (pv 4) (pa_cons (pv 1) (pa_cons (pv 5) pa_nil)))))) (pss_one (ps_ret pe_bl)) pss_nil) 
      (pss_cons (ps_set (i := 6) sc_law.nd rfl (by first | exact Or.inl rfl | exact Or.inr rfl) (pv 5)) 
      (pss_cons (ps_for PassesOwn.never rfl (w_rng1 M (pa_cons (pe_op op_mod (d_call C_Lmixed (hr.mono (by decide)) (pa_cons (pv 0) (pa_cons pe_int pa_nil))) pe_int) pa_nil)) (pg_name (i := 7) sc_law.nd rfl (by first | exact Or.inl rfl | exact Or.inr rfl))
        (pss_cons (ps_set (i := 9) sc_law.nd rfl (by first | exact Or.inl rfl | exact Or.inr rfl) (d_call C_Ldrawn (hr.mono (by decide)) (pa_cons (d_call C_Lmixed (hr.mono (by decide)) (pa_cons (pv 0) (pa_cons pe_int pa_nil))) (pa_cons (pv 7) pa_nil)))) 
        (pss_cons (ps_set (i := 10) sc_law.nd rfl (by first | exact Or.inl rfl | exact Or.inr rfl) (pe_op op_mod (pv 9) (d_len M (pv 4)))) 
        (pss_cons (ps_set (i := 11) sc_law.nd rfl (by first | exact Or.inl rfl | exact Or.inr rfl) (d_ixT M (pv 5) (pv 10))) 
        (pss_cons (ps_set (i := 12) sc_law.nd rfl (by first | exact Or.inl rfl | exact Or.inr rfl) (d_ixL M (pe_lst (pa_cons (pe_op op_add (pv 11) pe_int) (pa_cons (pe_op op_sub (pv 11) pe_int) (pa_cons (pv 11) (pa_cons (pe_op op_add (pv 11) pe_int) (pa_cons pe_non (pa_cons pe_bl pa_nil))))))) (pe_op op_mod (pe_op op_fdiv (pv 9) pe_int) pe_int))) 
        (pss_one (ps_set (i := 6) sc_law.nd rfl (by first | exact Or.inl rfl | exact Or.inr rfl) (d_catT M (d_catT M (d_slT M (pv 6) po_none (po_some (pv 10))) (pe_tup (pa_cons (pv 12) pa_nil))) (d_slT M (pv 6) (po_some (pe_op op_add (pv 10) pe_int)) po_none))))))))) 
      (pss_cons (ps_set (i := 8) sc_law.nd rfl (by first | exact Or.inl rfl | exact Or.inr rfl) (d_call C_is_even (hr.mono (by decide)) (pa_cons (pv 4) (pa_cons (pv 1) (pa_cons (pv 6) pa_nil))))) 
      (pss_one (ps_ret (pe_and (d_isBool M (pv 8)) (pe_one (pe_cmpR op_eq (pv 8) (d_call C_Lis_even (hr.mono (by decide)) (pa_cons (pv 4) (pa_cons (pv 1) (pa_cons (pv 6) pa_nil)))) (nomark _))))))))))))))), ?_⟩
  rintro _ _ ⟨ns, rfl, hns, rfl⟩ b D hR
  generalize hb : baseF (mixF ns 1) = c
  have hc := hb ▸ baseF_b (mixF ns 1)
  have hc2 : 0 < c ∧ c < 1073741824 := by omega
  generalize hn : mixF ns 0 = n
  have hcn := cntN_b n
  have hm := menuI_b (c := 100001) (m := n % 4) (by decide) (by omega) (by omega)
  refine bq_asg (d := .int c) (ev_call (ea_cons (ev_call (ea_cons (ev_var rfl) (ea_cons ev_int ea_nil)) ⟨ns, 1, rfl, by decide, rfl⟩) ea_nil) ⟨_, rfl, by rw [hb]⟩) ?_
  refine bq_asg (d := .int n) (ev_call (ea_cons (ev_var rfl) (ea_cons ev_int ea_nil)) ⟨ns, 0, rfl, by decide, by rw [hn]⟩) ?_
  refine bq_asg (ev_ixT (ev_tup (ea_cons ev_int (ea_cons ev_int (ea_cons ev_int (ea_cons ev_int ea_nil)))) (by decide)) (ev_mod (ev_var rfl) ev_int (by decide)) (menuI_at (by omega) (by omega))) ?_
  refine bq_asg (d := rowD (cntF n)) (Ev.cast (ev_tupL (EvL.v (ds := (List.range (cntN n)).map fun k => .int (drawF n k / 4 % menuI 100001 (n % 4))) ?_)) ?_) ?_
  · exact el_lc0 (xs := List.range (cntN n)) (ei_rngN (ea_cons (Ev.cast (ev_add ev_int (ev_mod (ev_fdiv (ev_var rfl) ev_int (cdiv (by decide))) ev_int (by decide))) (by rw [hcn.2.2])) ea_nil) (by omega)) rfl (by rw [List.length_range]; omega) (fun k => .int (drawF n k / 4 % menuI 100001 (n % 4))) (fun _ _ => eg_name) (by decide)
      (fun k hk => ev_mod (ev_fdiv (ev_call (ea_cons (ev_var rfl) (ea_cons (ev_var rfl) ea_nil)) ⟨_, k, rfl, by have := List.mem_range.mp hk; omega, rfl⟩) ev_int (cdiv (by decide))) (ev_var rfl) (by omega)) fun _ _ => rfl
  · unfold rowD cntF intsD
    rw [List.map_map]
    rfl
  have hlen := cntF_len n
  generalize cntF n = cs at hlen
  have hl1 : cs.length ≤ 1000 := by omega
  refine bq_asg (ev_call (ea_cons (ev_var rfl) (ea_cons (ev_var rfl) ea_nil)) ⟨cs, c, rfl, hl1, hc2, rfl⟩) ?_
  have hfl := evenF_len c 0 cs
  have ok : tf (EvenOk cs c (rowD (evenF c 0 cs))) = true := tf_true (even_ok hc2.1)
  generalize evenF c 0 cs = fs at ok hfl
  have szT : ∀ xs : List Dt, xs.length = cs.length → Sz (.tuple xs) := fun xs h ys e => by
    have e : xs = ys := by injection e
    subst e
    omega
  refine bq_when (et_not (et_B (ev_call (ea_cons (ev_var rfl) (ea_cons (ev_var rfl) (ea_cons (ev_var rfl) ea_nil))) ⟨cs, c, rowD fs, rfl, hl1, hc2, szT _ (by rw [intsD_len, hfl]), (sh_row fs).mono (by decide), imm_row fs, rfl⟩))) (fun h => ?_) (fun _ => ?_)
  · rw [ok] at h
    cases h
  refine bq_asg (ev_var rfl) ?_
  refine bq_forP (ei_rngN (n := (mixF ns 2 % 3).toNat) (ea_cons (Ev.cast (ev_mod (ev_call (ea_cons (ev_var rfl) (ea_cons ev_int ea_nil)) ⟨ns, 2, rfl, by decide, rfl⟩) ev_int (by decide)) (by rw [show (((mixF ns 2 % 3).toNat : Nat) : Int) = mixF ns 2 % 3 by omega])) ea_nil) (by omega))
    (fun i ρ => ∃ xs : List Dt, ρ = [.d (.list (intsD ns)), .d (.int c), .d (.int n), .d (.int (menuI 100001 (n % 4))), .d (rowD cs), .d (rowD fs), .d (.tuple xs), .un, .un, .un, .un, .un, .un] ∧ xs.length = cs.length ∧ ∀ x ∈ xs, Sh 5 x ∧ imm x = true)
    ⟨intsD fs, rfl, by rw [intsD_len, hfl], fun x hx => by obtain ⟨i, _, rfl⟩ := List.mem_map.mp hx; exact ⟨sh_int 5 i, rfl⟩⟩ rfl (fun b1 i y ρ1 le1 hy hp => ?_) (fun ρ1 hp => ?_)
  · obtain ⟨xs, rfl, hxl, hxs⟩ := hp
    obtain ⟨hi, rfl⟩ := rngN_inv hy
    refine ⟨_, _, eg_name, ?_⟩
    refine bq_asg (d := .int (drawF (mixF ns 3) i)) (ev_call (ea_cons (ev_call (ea_cons (ev_var rfl) (ea_cons ev_int ea_nil)) ⟨ns, 3, rfl, by decide, rfl⟩) (ea_cons (ev_var rfl) ea_nil)) ⟨_, i, rfl, by omega, rfl⟩) ?_
    generalize drawF (mixF ns 3) i = m
    have hpos : (0 : Int) < (cs.length : Int) := by omega
    obtain ⟨k, hk, ek⟩ : ∃ k : Nat, k < cs.length ∧ m % (cs.length : Int) = (k : Int) := ⟨(m % (cs.length : Int)).toNat, by have := Int.emod_lt_of_pos m hpos; have := Int.emod_nonneg m (show (cs.length : Int) ≠ 0 by omega); omega, by have := Int.emod_nonneg m (show (cs.length : Int) ≠ 0 by omega); omega⟩
    refine bq_asg (d := .int (k : Int)) (Ev.cast (ev_mod (ev_var rfl) (ev_lenT (ev_var rfl)) (by rw [intsD_len]; exact hpos)) (by rw [intsD_len, ek])) ?_
    have hkf : k < fs.length := by omega
    refine bq_asg (d := .int (fs.getD k 0)) (ev_ixT (ev_var rfl) (ev_var rfl) (intsD_at hkf)) ?_
    generalize fs.getD k 0 = x
    obtain ⟨d, hd, hdm⟩ := six_at (.int (x + 1)) (.int (x - 1)) (.int x) (.int (x + 1)) .none (.bool true) (m := m / 16 % 6) (by omega) (by omega)
    have hd2 : Sh 5 d ∧ imm d = true := by
      simp only [List.mem_cons, List.not_mem_nil, or_false] at hdm
      rcases hdm with rfl | rfl | rfl | rfl | rfl | rfl
      · exact ⟨sh_int 5 _, rfl⟩
      · exact ⟨sh_int 5 _, rfl⟩
      · exact ⟨sh_int 5 _, rfl⟩
      · exact ⟨sh_int 5 _, rfl⟩
      · exact ⟨sh_none 5, rfl⟩
      · exact ⟨sh_bool 5 _, rfl⟩
    refine bq_asg (d := d) (ev_ixL (EvL.v (el_lst (ea_cons (ev_add (ev_var rfl) ev_int) (ea_cons (ev_sub (ev_var rfl) ev_int) (ea_cons (ev_var rfl) (ea_cons (ev_add (ev_var rfl) ev_int) (ea_cons ev_non (ea_cons ev_bl ea_nil)))))) (by show 6 ≤ 100000; decide))) (ev_mod (ev_fdiv (ev_var rfl) ev_int (cdiv (by decide))) ev_int (by decide)) hd) ?_
    have ek1 : (k : Int) + 1 = ((k + 1 : Nat) : Int) := by omega
    refine bk_asg (d := .tuple (xs.take k ++ [d] ++ xs.drop (k + 1))) (ev_catT (ev_catT (Ev.cast (ev_slT (ev_var rfl) eo_none (eo_some (ev_var rfl))) (by rw [cut_lo xs (by omega)])) (ev_tup (ea_cons (ev_var rfl) ea_nil) (by show 1 ≤ 100000; decide)) (by rw [List.length_take]; show _ + 1 ≤ _; omega)) (Ev.cast (ev_slT (ev_var rfl) (eo_some (ev_add (ev_var rfl) ev_int)) eo_none) (by rw [ek1, cut_hi xs (k + 1) (by omega)])) ?_) ?_
    · rw [List.length_append, List.length_take, List.length_drop]
      show _ + 1 + _ ≤ _
      omega
    refine nx_un 7 (nx_un 9 (nx_un 10 (nx_un 11 (nx_un 12 (nx_at ⟨_, rfl, ?_, fun y hy => ?_⟩)))))
    · rw [List.length_append, List.length_append, List.length_take, List.length_drop]
      show _ + 1 + _ = _
      omega
    · rcases List.mem_append.mp hy with hy | hy
      · rcases List.mem_append.mp hy with hy | hy
        · exact hxs y (List.mem_of_mem_take hy)
        · rw [List.mem_singleton.mp hy]
          exact hd2
      · exact hxs y (List.mem_of_mem_drop hy)
  · obtain ⟨xs, rfl, hxl, hxs⟩ := hp
    have hsh : Sh 60 (.tuple xs) := (sh_tup fun d hd => (hxs d hd).1).mono (by decide)
    have him : imm (.tuple xs) = true := immAll_iff.mpr fun d hd => (hxs d hd).2
    refine bq_asg (ev_call (ea_cons (ev_var rfl) (ea_cons (ev_var rfl) (ea_cons (ev_var rfl) ea_nil))) ⟨cs, c, .tuple xs, rfl, hl1, hc2, szT _ hxl, hsh, him, rfl⟩) ?_
    exact bk_ret (Ev.cast (ev_andV (ev_isBool (ev_var rfl)) fun _ => ev_eqB (ev_var rfl) (ev_call (ea_cons (ev_var rfl) (ea_cons (ev_var rfl) (ea_cons (ev_var rfl) ea_nil))) ⟨cs, c, .tuple xs, rfl, hl1, hc2, szT _ hxl, hsh, him, rfl⟩)) (by rw [decide_eq_true rfl]; rfl)) hR rfl
end

theorem all_mk {l : PySem.W.OpenLaw} {w : World} {K : PySem.W.Frag} {h : Heap} {mg : Str → Option Value} {fa : Addr} (X : K.In h) (G : h.Ns mainGlobals mg) (hfa : mg "law" = some (.ref fa))
    {f_put_up : Addr} {od_put_up an_put_up : Option Addr} {sl_put_up : Array (Option Value)} {oc_put_up kV_put_up dc_put_up pm_put_up cd_put_up ct_put_up : Value}
    {f_is_rounded : Addr} {od_is_rounded an_is_rounded : Option Addr} {sl_is_rounded : Array (Option Value)} {oc_is_rounded kV_is_rounded dc_is_rounded pm_is_rounded cd_is_rounded ct_is_rounded : Value}
    {f_is_whole_row : Addr} {od_is_whole_row an_is_whole_row : Option Addr} {sl_is_whole_row : Array (Option Value)} {oc_is_whole_row kV_is_whole_row dc_is_whole_row pm_is_whole_row cd_is_whole_row ct_is_whole_row : Value}
    {f_even : Addr} {od_even an_even : Option Addr} {sl_even : Array (Option Value)} {oc_even kV_even dc_even pm_even cd_even ct_even : Value}
    {f_is_even : Addr} {od_is_even an_is_even : Option Addr} {sl_is_even : Array (Option Value)} {oc_is_even kV_is_even dc_is_even pm_is_even cd_is_even ct_is_even : Value}
    {f_Lcell_at : Addr} {od_Lcell_at an_Lcell_at : Option Addr} {sl_Lcell_at : Array (Option Value)} {oc_Lcell_at kV_Lcell_at dc_Lcell_at pm_Lcell_at cd_Lcell_at ct_Lcell_at : Value}
    {f_Lmixed : Addr} {od_Lmixed an_Lmixed : Option Addr} {sl_Lmixed : Array (Option Value)} {oc_Lmixed kV_Lmixed dc_Lmixed pm_Lmixed cd_Lmixed ct_Lmixed : Value}
    {f_Ldrawn : Addr} {od_Ldrawn an_Ldrawn : Option Addr} {sl_Ldrawn : Array (Option Value)} {oc_Ldrawn kV_Ldrawn dc_Ldrawn pm_Ldrawn cd_Ldrawn ct_Ldrawn : Value}
    {f_Lbase : Addr} {od_Lbase an_Lbase : Option Addr} {sl_Lbase : Array (Option Value)} {oc_Lbase kV_Lbase dc_Lbase pm_Lbase cd_Lbase ct_Lbase : Value}
    {f_Lrounded : Addr} {od_Lrounded an_Lrounded : Option Addr} {sl_Lrounded : Array (Option Value)} {oc_Lrounded kV_Lrounded dc_Lrounded pm_Lrounded cd_Lrounded ct_Lrounded : Value}
    {f_Lis_even : Addr} {od_Lis_even an_Lis_even : Option Addr} {sl_Lis_even : Array (Option Value)} {oc_Lis_even kV_Lis_even dc_Lis_even pm_Lis_even cd_Lis_even ct_Lis_even : Value}
    {f_law : Addr} {od_law an_law : Option Addr} {sl_law : Array (Option Value)} {oc_law kV_law dc_law pm_law cd_law ct_law : Value}
    (a_put_up : PySem.W.nsIn K mainGlobals "put_up" = some (some (.ref f_put_up))) (l_put_up : K.lookup f_put_up = some ⟨oc_put_up, od_put_up, .func (PySem.W.fnOf "put_up" "put_up" (defArgs s_put_up) (defBody s_put_up) (defScope s_put_up) .none kV_put_up dc_put_up pm_put_up an_put_up cd_put_up ct_put_up), sl_put_up⟩) (c_put_up : PySem.W.codeIn K cd_put_up "put_up" = true) (k_put_up : PySem.W.keepIn K (.ref f_put_up) = true)
    (a_is_rounded : PySem.W.nsIn K mainGlobals "is_rounded" = some (some (.ref f_is_rounded))) (l_is_rounded : K.lookup f_is_rounded = some ⟨oc_is_rounded, od_is_rounded, .func (PySem.W.fnOf "is_rounded" "is_rounded" (defArgs s_is_rounded) (defBody s_is_rounded) (defScope s_is_rounded) .none kV_is_rounded dc_is_rounded pm_is_rounded an_is_rounded cd_is_rounded ct_is_rounded), sl_is_rounded⟩) (c_is_rounded : PySem.W.codeIn K cd_is_rounded "is_rounded" = true) (k_is_rounded : PySem.W.keepIn K (.ref f_is_rounded) = true)
    (a_is_whole_row : PySem.W.nsIn K mainGlobals "is_whole_row" = some (some (.ref f_is_whole_row))) (l_is_whole_row : K.lookup f_is_whole_row = some ⟨oc_is_whole_row, od_is_whole_row, .func (PySem.W.fnOf "is_whole_row" "is_whole_row" (defArgs s_is_whole_row) (defBody s_is_whole_row) (defScope s_is_whole_row) .none kV_is_whole_row dc_is_whole_row pm_is_whole_row an_is_whole_row cd_is_whole_row ct_is_whole_row), sl_is_whole_row⟩) (c_is_whole_row : PySem.W.codeIn K cd_is_whole_row "is_whole_row" = true) (k_is_whole_row : PySem.W.keepIn K (.ref f_is_whole_row) = true)
    (a_even : PySem.W.nsIn K mainGlobals "even" = some (some (.ref f_even))) (l_even : K.lookup f_even = some ⟨oc_even, od_even, .func (PySem.W.fnOf "even" "even" (defArgs s_even) (defBody s_even) (defScope s_even) .none kV_even dc_even pm_even an_even cd_even ct_even), sl_even⟩) (c_even : PySem.W.codeIn K cd_even "even" = true) (k_even : PySem.W.keepIn K (.ref f_even) = true)
    (a_is_even : PySem.W.nsIn K mainGlobals "is_even" = some (some (.ref f_is_even))) (l_is_even : K.lookup f_is_even = some ⟨oc_is_even, od_is_even, .func (PySem.W.fnOf "is_even" "is_even" (defArgs s_is_even) (defBody s_is_even) (defScope s_is_even) .none kV_is_even dc_is_even pm_is_even an_is_even cd_is_even ct_is_even), sl_is_even⟩) (c_is_even : PySem.W.codeIn K cd_is_even "is_even" = true) (k_is_even : PySem.W.keepIn K (.ref f_is_even) = true)
    (a_Lcell_at : PySem.W.nsIn K mainGlobals "_law_cell_at" = some (some (.ref f_Lcell_at))) (l_Lcell_at : K.lookup f_Lcell_at = some ⟨oc_Lcell_at, od_Lcell_at, .func (PySem.W.fnOf "_law_cell_at" "_law_cell_at" (defArgs s_Lcell_at) (defBody s_Lcell_at) (defScope s_Lcell_at) .none kV_Lcell_at dc_Lcell_at pm_Lcell_at an_Lcell_at cd_Lcell_at ct_Lcell_at), sl_Lcell_at⟩) (c_Lcell_at : PySem.W.codeIn K cd_Lcell_at "_law_cell_at" = true) (k_Lcell_at : PySem.W.keepIn K (.ref f_Lcell_at) = true)
    (a_Lmixed : PySem.W.nsIn K mainGlobals "_law_mixed" = some (some (.ref f_Lmixed))) (l_Lmixed : K.lookup f_Lmixed = some ⟨oc_Lmixed, od_Lmixed, .func (PySem.W.fnOf "_law_mixed" "_law_mixed" (defArgs s_Lmixed) (defBody s_Lmixed) (defScope s_Lmixed) .none kV_Lmixed dc_Lmixed pm_Lmixed an_Lmixed cd_Lmixed ct_Lmixed), sl_Lmixed⟩) (c_Lmixed : PySem.W.codeIn K cd_Lmixed "_law_mixed" = true) (k_Lmixed : PySem.W.keepIn K (.ref f_Lmixed) = true)
    (a_Ldrawn : PySem.W.nsIn K mainGlobals "_law_drawn" = some (some (.ref f_Ldrawn))) (l_Ldrawn : K.lookup f_Ldrawn = some ⟨oc_Ldrawn, od_Ldrawn, .func (PySem.W.fnOf "_law_drawn" "_law_drawn" (defArgs s_Ldrawn) (defBody s_Ldrawn) (defScope s_Ldrawn) .none kV_Ldrawn dc_Ldrawn pm_Ldrawn an_Ldrawn cd_Ldrawn ct_Ldrawn), sl_Ldrawn⟩) (c_Ldrawn : PySem.W.codeIn K cd_Ldrawn "_law_drawn" = true) (k_Ldrawn : PySem.W.keepIn K (.ref f_Ldrawn) = true)
    (a_Lbase : PySem.W.nsIn K mainGlobals "_law_base" = some (some (.ref f_Lbase))) (l_Lbase : K.lookup f_Lbase = some ⟨oc_Lbase, od_Lbase, .func (PySem.W.fnOf "_law_base" "_law_base" (defArgs s_Lbase) (defBody s_Lbase) (defScope s_Lbase) .none kV_Lbase dc_Lbase pm_Lbase an_Lbase cd_Lbase ct_Lbase), sl_Lbase⟩) (c_Lbase : PySem.W.codeIn K cd_Lbase "_law_base" = true) (k_Lbase : PySem.W.keepIn K (.ref f_Lbase) = true)
    (a_Lrounded : PySem.W.nsIn K mainGlobals "_law_rounded" = some (some (.ref f_Lrounded))) (l_Lrounded : K.lookup f_Lrounded = some ⟨oc_Lrounded, od_Lrounded, .func (PySem.W.fnOf "_law_rounded" "_law_rounded" (defArgs s_Lrounded) (defBody s_Lrounded) (defScope s_Lrounded) .none kV_Lrounded dc_Lrounded pm_Lrounded an_Lrounded cd_Lrounded ct_Lrounded), sl_Lrounded⟩) (c_Lrounded : PySem.W.codeIn K cd_Lrounded "_law_rounded" = true) (k_Lrounded : PySem.W.keepIn K (.ref f_Lrounded) = true)
    (a_Lis_even : PySem.W.nsIn K mainGlobals "_law_is_even" = some (some (.ref f_Lis_even))) (l_Lis_even : K.lookup f_Lis_even = some ⟨oc_Lis_even, od_Lis_even, .func (PySem.W.fnOf "_law_is_even" "_law_is_even" (defArgs s_Lis_even) (defBody s_Lis_even) (defScope s_Lis_even) .none kV_Lis_even dc_Lis_even pm_Lis_even an_Lis_even cd_Lis_even ct_Lis_even), sl_Lis_even⟩) (c_Lis_even : PySem.W.codeIn K cd_Lis_even "_law_is_even" = true) (k_Lis_even : PySem.W.keepIn K (.ref f_Lis_even) = true)
    (a_law : PySem.W.nsIn K mainGlobals "law" = some (some (.ref f_law))) (l_law : K.lookup f_law = some ⟨oc_law, od_law, .func (PySem.W.fnOf "law" "law" (defArgs s_law) (defBody s_law) (defScope s_law) .none kV_law dc_law pm_law an_law cd_law ct_law), sl_law⟩) (c_law : PySem.W.codeIn K cd_law "law" = true) (k_law : PySem.W.keepIn K (.ref f_law) = true)
    (z_len : PySem.W.nsIn K mainGlobals "len" = some none)
    (z_tuple : PySem.W.nsIn K mainGlobals "tuple" = some none)
    (z_list : PySem.W.nsIn K mainGlobals "list" = some none)
    (z_range : PySem.W.nsIn K mainGlobals "range" = some none)
    (z_sum : PySem.W.nsIn K mainGlobals "sum" = some none)
    (z_all : PySem.W.nsIn K mainGlobals "all" = some none)
    (z_isinstance : PySem.W.nsIn K mainGlobals "isinstance" = some none)
    (z_int : PySem.W.nsIn K mainGlobals "int" = some none)
    (z_bool : PySem.W.nsIn K mainGlobals "bool" = some none)
    (z_abs : PySem.W.nsIn K mainGlobals "abs" = some none)
    (z_min : PySem.W.nsIn K mainGlobals "min" = some none)
    (z_max : PySem.W.nsIn K mainGlobals "max" = some none)
    (z_zip : PySem.W.nsIn K mainGlobals "zip" = some none)
    (z_enumerate : PySem.W.nsIn K mainGlobals "enumerate" = some none)
    (z_sorted : PySem.W.nsIn K mainGlobals "sorted" = some none)
    (z_reversed : PySem.W.nsIn K mainGlobals "reversed" = some none)
    (z_str : PySem.W.nsIn K mainGlobals "str" = some none) :
    ∃ fd : FuncData, (∀ (s : Shared) (v : Value), BindsTo s fd ⟨[v], []⟩ [("_law_script", v)]) ∧ ∀ base : Heap, K.In base → base.Ns mainGlobals mg → FnOk l.prog w K mg base CX0 4 fa fd ["_law_script"] (spF K PLaw) := by
  have e := hfa.symm.trans (PySem.W.mg_of X G a_law)
  cases e
  have M : Nam K mg := ⟨PySem.W.mg_none_of X G z_len, PySem.W.mg_none_of X G z_tuple, PySem.W.mg_none_of X G z_list, PySem.W.mg_none_of X G z_range, PySem.W.mg_none_of X G z_sum, PySem.W.mg_none_of X G z_all, PySem.W.mg_none_of X G z_isinstance, PySem.W.mg_none_of X G z_int, PySem.W.mg_none_of X G z_bool, PySem.W.mg_none_of X G z_abs, PySem.W.mg_none_of X G z_min, PySem.W.mg_none_of X G z_max, PySem.W.mg_none_of X G z_zip, PySem.W.mg_none_of X G z_enumerate, PySem.W.mg_none_of X G z_sorted, PySem.W.mg_none_of X G z_reversed, PySem.W.mg_none_of X G z_str⟩
  have F_put_up := fun_mk (st := s_put_up) l_put_up c_put_up k_put_up
  have b_put_up := F_put_up.binds (ps := ["count", "base"]) fun _ _ _ _ _ _ us hl => match us, hl with | [_, _], _ => rfl
  have F_is_rounded := fun_mk (st := s_is_rounded) l_is_rounded c_is_rounded k_is_rounded
  have b_is_rounded := F_is_rounded.binds (ps := ["count", "base", "number"]) fun _ _ _ _ _ _ us hl => match us, hl with | [_, _, _], _ => rfl
  have F_is_whole_row := fun_mk (st := s_is_whole_row) l_is_whole_row c_is_whole_row k_is_whole_row
  have b_is_whole_row := F_is_whole_row.binds (ps := ["thing", "wide"]) fun _ _ _ _ _ _ us hl => match us, hl with | [_, _], _ => rfl
  have F_even := fun_mk (st := s_even) l_even c_even k_even
  have b_even := F_even.binds (ps := ["counts", "base"]) fun _ _ _ _ _ _ us hl => match us, hl with | [_, _], _ => rfl
  have F_is_even := fun_mk (st := s_is_even) l_is_even c_is_even k_is_even
  have b_is_even := F_is_even.binds (ps := ["counts", "base", "thing"]) fun _ _ _ _ _ _ us hl => match us, hl with | [_, _, _], _ => rfl
  have F_Lcell_at := fun_mk (st := s_Lcell_at) l_Lcell_at c_Lcell_at k_Lcell_at
  have b_Lcell_at := F_Lcell_at.binds (ps := ["_law_script", "_law_k"]) fun _ _ _ _ _ _ us hl => match us, hl with | [_, _], _ => rfl
  have F_Lmixed := fun_mk (st := s_Lmixed) l_Lmixed c_Lmixed k_Lmixed
  have b_Lmixed := F_Lmixed.binds (ps := ["_law_script", "_law_k"]) fun _ _ _ _ _ _ us hl => match us, hl with | [_, _], _ => rfl
  have F_Ldrawn := fun_mk (st := s_Ldrawn) l_Ldrawn c_Ldrawn k_Ldrawn
  have b_Ldrawn := F_Ldrawn.binds (ps := ["_law_number", "_law_k"]) fun _ _ _ _ _ _ us hl => match us, hl with | [_, _], _ => rfl
  have F_Lbase := fun_mk (st := s_Lbase) l_Lbase c_Lbase k_Lbase
  have b_Lbase := F_Lbase.binds (ps := ["_law_number"]) fun _ _ _ _ _ _ us hl => match us, hl with | [_], _ => rfl
  have F_Lrounded := fun_mk (st := s_Lrounded) l_Lrounded c_Lrounded k_Lrounded
  have b_Lrounded := F_Lrounded.binds (ps := ["_law_count", "_law_base_here", "_law_number"]) fun _ _ _ _ _ _ us hl => match us, hl with | [_, _, _], _ => rfl
  have F_Lis_even := fun_mk (st := s_Lis_even) l_Lis_even c_Lis_even k_Lis_even
  have b_Lis_even := F_Lis_even.binds (ps := ["_law_counts", "_law_base_here", "_law_thing"]) fun _ _ _ _ _ _ us hl => match us, hl with | [_, _, _], _ => rfl
  have F_law := fun_mk (st := s_law) l_law c_law k_law
  have b_law := F_law.binds (ps := ["_law_script"]) fun _ _ _ _ _ _ us hl => match us, hl with | [_], _ => rfl
  refine ⟨PySem.W.fnOf "law" "law" (defArgs s_law) (defBody s_law) (defScope s_law) .none kV_law dc_law pm_law an_law cd_law ct_law, fun s v => .of_eq rfl, fun base _ _ => ?_⟩
  have C_put_up := cal_put_up (P := l.prog) (w := w) (base := base) F_put_up (PySem.W.mg_of X G a_put_up) b_put_up M
  have C_is_rounded := cal_is_rounded (P := l.prog) (w := w) (base := base) F_is_rounded (PySem.W.mg_of X G a_is_rounded) b_is_rounded M C_put_up
  have C_is_whole_row := cal_is_whole_row (P := l.prog) (w := w) (base := base) F_is_whole_row (PySem.W.mg_of X G a_is_whole_row) b_is_whole_row M
  have C_even := cal_even (P := l.prog) (w := w) (base := base) F_even (PySem.W.mg_of X G a_even) b_even M
  have C_is_even := cal_is_even (P := l.prog) (w := w) (base := base) F_is_even (PySem.W.mg_of X G a_is_even) b_is_even M C_is_rounded C_is_whole_row
  have C_Lcell_at := cal_Lcell_at (P := l.prog) (w := w) (base := base) F_Lcell_at (PySem.W.mg_of X G a_Lcell_at) b_Lcell_at M
  have C_Lmixed := cal_Lmixed (P := l.prog) (w := w) (base := base) F_Lmixed (PySem.W.mg_of X G a_Lmixed) b_Lmixed M C_Lcell_at
  have C_Ldrawn := cal_Ldrawn (P := l.prog) (w := w) (base := base) F_Ldrawn (PySem.W.mg_of X G a_Ldrawn) b_Ldrawn M
  have C_Lbase := cal_Lbase (P := l.prog) (w := w) (base := base) F_Lbase (PySem.W.mg_of X G a_Lbase) b_Lbase M
  have C_Lrounded := cal_Lrounded (P := l.prog) (w := w) (base := base) F_Lrounded (PySem.W.mg_of X G a_Lrounded) b_Lrounded M
  have C_Lis_even := cal_Lis_even (P := l.prog) (w := w) (base := base) F_Lis_even (PySem.W.mg_of X G a_Lis_even) b_Lis_even M C_Lrounded
  have C_law := cal_law (P := l.prog) (w := w) (base := base) F_law (PySem.W.mg_of X G a_law) b_law M C_even C_is_even C_Lmixed C_Ldrawn C_Lbase C_Lis_even
  exact C_law.ok
end FR
open PySem PySem.W PyProof.Rows
set_option maxHeartbeats 0 in
theorem PySem.Challenge.cw_fairround_k30_whole_stretches_holds : PySem.Challenge.rw_fairround_k30_whole_stretches.Holds := by
  w_on; o_law; k_head; (case hw => w_witness2)
  k_fill
  refine L2.walk_of (l := PySem.Challenge.rw_fairround_k30_whole_stretches) (n := 63) (k := 4) (x := "_law_script") (CX := fun _ => L2.CX0) (sp := fun w => FR.spF _ FR.PLaw) rfl (by decide) rfl ⟨rfl, by decide, by decide⟩ (fun w h Y => PySem.W.kIn_of Y) ?F (fun _ _ a ns hl _ hS => FR.law_start hl hS) (fun _ _ _ _ _ h => h)
  case F =>
    intro w mg fa h KX G hmg
    refine' FR.all_mk KX G hmg ?a_put_up ?l_put_up ?c_put_up ?k_put_up ?a_is_rounded ?l_is_rounded ?c_is_rounded ?k_is_rounded ?a_is_whole_row ?l_is_whole_row ?c_is_whole_row ?k_is_whole_row ?a_even ?l_even ?c_even ?k_even ?a_is_even ?l_is_even ?c_is_even ?k_is_even ?a_Lcell_at ?l_Lcell_at ?c_Lcell_at ?k_Lcell_at ?a_Lmixed ?l_Lmixed ?c_Lmixed ?k_Lmixed ?a_Ldrawn ?l_Ldrawn ?c_Ldrawn ?k_Ldrawn ?a_Lbase ?l_Lbase ?c_Lbase ?k_Lbase ?a_Lrounded ?l_Lrounded ?c_Lrounded ?k_Lrounded ?a_Lis_even ?l_Lis_even ?c_Lis_even ?k_Lis_even ?a_law ?l_law ?c_law ?k_law ?z_len ?z_tuple ?z_list ?z_range ?z_sum ?z_all ?z_isinstance ?z_int ?z_bool ?z_abs ?z_min ?z_max ?z_zip ?z_enumerate ?z_sorted ?z_reversed ?z_str
    (case a_put_up => k_is); (case l_put_up => k_is); (case c_put_up => k_is); (case k_put_up => k_is); (case a_is_rounded => k_is); (case l_is_rounded => k_is); (case c_is_rounded => k_is); (case k_is_rounded => k_is); (case a_is_whole_row => k_is); (case l_is_whole_row => k_is); (case c_is_whole_row => k_is); (case k_is_whole_row => k_is); (case a_even => k_is); (case l_even => k_is); (case c_even => k_is); (case k_even => k_is); (case a_is_even => k_is); (case l_is_even => k_is); (case c_is_even => k_is); (case k_is_even => k_is); (case a_Lcell_at => k_is); (case l_Lcell_at => k_is); (case c_Lcell_at => k_is); (case k_Lcell_at => k_is); (case a_Lmixed => k_is); (case l_Lmixed => k_is); (case c_Lmixed => k_is); (case k_Lmixed => k_is); (case a_Ldrawn => k_is); (case l_Ldrawn => k_is); (case c_Ldrawn => k_is); (case k_Ldrawn => k_is); (case a_Lbase => k_is); (case l_Lbase => k_is); (case c_Lbase => k_is); (case k_Lbase => k_is); (case a_Lrounded => k_is); (case l_Lrounded => k_is); (case c_Lrounded => k_is); (case k_Lrounded => k_is); (case a_Lis_even => k_is); (case l_Lis_even => k_is); (case c_Lis_even => k_is); (case k_Lis_even => k_is); (case a_law => k_is); (case l_law => k_is); (case c_law => k_is); (case k_law => k_is); (case z_len => k_is); (case z_tuple => k_is); (case z_list => k_is); (case z_range => k_is); (case z_sum => k_is); (case z_all => k_is); (case z_isinstance => k_is); (case z_int => k_is); (case z_bool => k_is); (case z_abs => k_is); (case z_min => k_is); (case z_max => k_is); (case z_zip => k_is); (case z_enumerate => k_is); (case z_sorted => k_is); (case z_reversed => k_is); (case z_str => k_is)
