import PyProof.Rows.All
import Wide.All
import OpenK.AllK
import Wide.FinOn
import HandS.ForMost
import HandS.WordsExc
import HandS.CallSlots
import HandS.HeadHook2
import HandS.SortOrd
import HandS.SetKeys
import HandS.IsInst
import HandS.Defaults
import HandS.TupAny
import HandS.Wide
import HandS.Text
import PyProof.StrOps2
import HandS.SetTxt0
import HandS.SetFor
import HandS.Strs
import PyProof.Rows.SortShellAny
import HandS.Property
import HandS.OwnEq
import HandS.HeadNt
import HandS.DictComp
import HandS.Star
import KE.SortData
import HandS.Conv
import HandS.Head0
import HandS.Head1
import HandS.Head2
import HandS.HeadEnd
import HandS.HeadHook1
import HandS.HeadWalk
import PySem.Challenge.RW_markshome_k02_net_tells_its_parts
set_option Elab.async false
set_option linter.all false
set_option maxRecDepth 100000
set_option maxHeartbeats 4000000
/-! Py, part A: plain data, ownership, the state. -/
namespace Py
open PySem PySem.Spec PyProof.Rows L2

/-- plain data -/
inductive Dv where
  | non | bl (b : Bool) | int (i : Int) | str (x : Str)
  | lst (xs : List Dv) | tup (xs : List Dv)
  | dic (kvs : List (Key × Dv))
  | ins (c : Str) (fs : List (Str × Dv))
  /-- a list that is only read for a while -/
  | lck (xs : List Dv)
  /-- the law's script: a list that is only walked -/
  | scr (ns : List Int)
/-- who owns it: shared, or a node of one's own with its children's -/
inductive Ow where
  | sh | nd (os : List Ow)
abbrev Pth := List Nat
structure Cl where
  d : Dv
  o : Ow := .sh
abbrev Env := List (Option Cl)

section
variable (K : PySem.W.Frag)
mutual
inductive Rep (G : Hp) : V → Dv → Prop
  | non : Rep G .non .non
  | bl (b : Bool) : Rep G (.bl b) (.bl b)
  | int (i : Int) : Rep G (.int i) (.int i)
  | str (x : Str) : Rep G (.str x) (.str x)
  | lst {a : Addr} {vs : List V} {xs : List Dv} : G a = some (.lst vs) → Reps G vs xs → Rep G (.ref a) (.lst xs)
  | tup {a : Addr} {vs : List V} {xs : List Dv} : SqT K G a vs → Reps G vs xs → Rep G (.ref a) (.tup xs)
  | dic {a : Addr} {kvs : List (Key × V)} {xs : List (Key × Dv)} : G a = some (.dK kvs) → kvs.map (·.1) = xs.map (·.1) → Reps G (kvs.map (·.2)) (xs.map (·.2)) → Rep G (.ref a) (.dic xs)
  | ins {a dx : Addr} {c : Str} {fs : List (Str × V)} {xs : List (Str × Dv)} : G a = some (.ins (He.ga K c) dx fs) → fs.map (·.1) = xs.map (·.1) → Reps G (fs.map (·.2)) (xs.map (·.2)) → Rep G (.ref a) (.ins c xs)
  | lck {a : Addr} {vs : List V} {xs : List Dv} : SqL K G a vs → Reps G vs xs → Rep G (.ref a) (.lck xs)
  | scr {a : Addr} {ns : List Int} : SqL K G a (ns.map V.int) → Rep G (.ref a) (.scr ns)
inductive Reps (G : Hp) : List V → List Dv → Prop
  | nil : Reps G [] []
  | cons {v : V} {d : Dv} {vs : List V} {ds : List Dv} : Rep G v d → Reps G vs ds → Reps G (v :: vs) (d :: ds)
end

/-- what is nobody's own -/
def Gm (own : Addr → Option Pth) (H : Hp) : Hp := fun a => match own a with
  | none => H a
  | some _ => none
mutual
inductive Own (own : Addr → Option Pth) (H : Hp) : V → Dv → Ow → Pth → Prop
  | sh {v : V} {d : Dv} {p : Pth} : Rep K (Gm own H) v d → Own own H v d .sh p
  | lst {a : Addr} {vs : List V} {xs : List Dv} {os : List Ow} {p : Pth} : own a = some p → H a = some (.lst vs) → Owns own H vs xs os p 0 → Own own H (.ref a) (.lst xs) (.nd os) p
  | tup {a : Addr} {vs : List V} {xs : List Dv} {os : List Ow} {p : Pth} : SqT K (Gm own H) a vs → Owns own H vs xs os p 0 → Own own H (.ref a) (.tup xs) (.nd os) p
  | dic {a : Addr} {kvs : List (Key × V)} {xs : List (Key × Dv)} {os : List Ow} {p : Pth} : own a = some p → H a = some (.dK kvs) → kvs.map (·.1) = xs.map (·.1) → Owns own H (kvs.map (·.2)) (xs.map (·.2)) os p 0 → Own own H (.ref a) (.dic xs) (.nd os) p
  | ins {a dx : Addr} {c : Str} {fs : List (Str × V)} {xs : List (Str × Dv)} {os : List Ow} {p : Pth} : own a = some p → H a = some (.ins (He.ga K c) dx fs) → fs.map (·.1) = xs.map (·.1) → Owns own H (fs.map (·.2)) (xs.map (·.2)) os p 0 → Own own H (.ref a) (.ins c xs) (.nd os) p
inductive Owns (own : Addr → Option Pth) (H : Hp) : List V → List Dv → List Ow → Pth → Nat → Prop
  | nil {os : List Ow} {p : Pth} {i : Nat} : Owns own H [] [] os p i
  | cons {v : V} {d : Dv} {vs : List V} {ds : List Dv} {os : List Ow} {p : Pth} {i : Nat} : Own own H v d (os.headD .sh) (p ++ [i]) → Owns own H vs ds os.tail p (i + 1) → Owns own H (v :: vs) (d :: ds) os p i
end
end

section
variable {K : PySem.W.Frag} {G G' H H' : Hp} {own own' : Addr → Option Pth}
theorem sqL_mono (h : ∀ a o, G a = some o → G' a = some o) {a : Addr} {xs : List V} (s : SqL K G a xs) : SqL K G' a xs := Same.seq h s
theorem sqT_mono (h : ∀ a o, G a = some o → G' a = some o) {a : Addr} {xs : List V} (s : SqT K G a xs) : SqT K G' a xs := by
  rcases s with (s | ⟨o, s⟩) | s
  · exact .inl (.inl (h _ _ s))
  · exact .inl (.inr ⟨o, h _ _ s⟩)
  · exact .inr s
theorem Rep.mono (h : ∀ a o, G a = some o → G' a = some o) {v : V} {d : Dv} (r : Rep K G v d) : Rep K G' v d :=
  Rep.rec (motive_1 := fun v d _ => Rep K G' v d) (motive_2 := fun vs ds _ => Reps K G' vs ds)
    .non .bl .int .str (fun s _ k => .lst (h _ _ s) k) (fun s _ k => .tup (sqT_mono h s) k) (fun e m _ k => .dic (h _ _ e) m k) (fun e m _ k => .ins (h _ _ e) m k) (fun e _ k => .lck (sqL_mono h e) k) (fun e => .scr (sqL_mono h e)) .nil (fun _ _ a b => .cons a b) r
theorem Reps.mono (h : ∀ a o, G a = some o → G' a = some o) {v : List V} {d : List Dv} (r : Reps K G v d) : Reps K G' v d :=
  Reps.rec (motive_1 := fun v d _ => Rep K G' v d) (motive_2 := fun vs ds _ => Reps K G' vs ds)
    .non .bl .int .str (fun s _ k => .lst (h _ _ s) k) (fun s _ k => .tup (sqT_mono h s) k) (fun e m _ k => .dic (h _ _ e) m k) (fun e m _ k => .ins (h _ _ e) m k) (fun e _ k => .lck (sqL_mono h e) k) (fun e => .scr (sqL_mono h e)) .nil (fun _ _ a b => .cons a b) r
theorem Reps.length {vs : List V} {ds : List Dv} (r : Reps K G vs ds) : vs.length = ds.length := by
  induction vs generalizing ds with
  | nil => cases r; rfl
  | cons v vs ih => cases r with | cons a b => simp [ih b]
theorem Reps.get {vs : List V} {ds : List Dv} (r : Reps K G vs ds) {i : Nat} {d : Dv} (e : ds[i]? = some d) : ∃ v, vs[i]? = some v ∧ Rep K G v d := by
  induction vs generalizing ds i with
  | nil => cases r; simp at e
  | cons v vs ih =>
    cases r with
    | cons a b =>
      cases i with
      | zero => simp at e; subst e; exact ⟨v, rfl, a⟩
      | succ i => exact ih b (by simpa using e)
theorem Reps.getV {vs : List V} {ds : List Dv} (r : Reps K G vs ds) {i : Nat} {v : V} (e : vs[i]? = some v) : ∃ d, ds[i]? = some d ∧ Rep K G v d := by
  induction vs generalizing ds i with
  | nil => simp at e
  | cons v vs ih =>
    cases r with
    | cons a b =>
      cases i with
      | zero => simp at e; subst e; exact ⟨_, rfl, a⟩
      | succ i => exact ih b (by simpa using e)
theorem Reps.append {vs ws : List V} {ds es : List Dv} (r : Reps K G vs ds) (s : Reps K G ws es) : Reps K G (vs ++ ws) (ds ++ es) := by
  induction vs generalizing ds with
  | nil => cases r; exact s
  | cons v vs ih => cases r with | cons a b => exact .cons a (ih b)
theorem Own.moveA (hG : ∀ a o, Gm own H a = some o → Gm own' H' a = some o) {v : V} {d : Dv} {o : Ow} {p : Pth} (r : Own K own H v d o p) :
    ∀ {p' : Pth}, (∀ a r, own a = some (p ++ r) → own' a = some (p' ++ r) ∧ H' a = H a) → Own K own' H' v d o p' :=
  Own.rec (motive_1 := fun v d o p _ => ∀ {p' : Pth}, (∀ a r, own a = some (p ++ r) → own' a = some (p' ++ r) ∧ H' a = H a) → Own K own' H' v d o p')
    (motive_2 := fun vs ds os p i _ => ∀ {p' : Pth}, (∀ a r, own a = some (p ++ r) → own' a = some (p' ++ r) ∧ H' a = H a) → Owns K own' H' vs ds os p' i)
    (fun r _ _ => .sh (r.mono hG))
    (fun e1 e2 _ k p' h => by
      have h0 := h _ [] (by rw [List.append_nil]; exact e1)
      rw [List.append_nil] at h0
      exact .lst h0.1 (h0.2.trans e2) (k h))
    (fun e _ k p' h => .tup (sqT_mono hG e) (k h))
    (fun e1 e2 m _ k p' h => by
      have h0 := h _ [] (by rw [List.append_nil]; exact e1)
      rw [List.append_nil] at h0
      exact .dic h0.1 (h0.2.trans e2) m (k h))
    (fun e1 e2 m _ k p' h => by
      have h0 := h _ [] (by rw [List.append_nil]; exact e1)
      rw [List.append_nil] at h0
      exact .ins h0.1 (h0.2.trans e2) m (k h))
    (fun _ => .nil)
    (fun {v d vs ds os p i} _ _ k1 k2 p' h => .cons (k1 (p' := p' ++ [i]) fun a r e => by
      have := h a ([i] ++ r) (by rw [← List.append_assoc]; exact e)
      rw [← List.append_assoc] at this
      exact this) (k2 h)) r
theorem Owns.moveA (hG : ∀ a o, Gm own H a = some o → Gm own' H' a = some o) {vs : List V} {ds : List Dv} {os : List Ow} {p : Pth} {i : Nat} (r : Owns K own H vs ds os p i)
    {p' : Pth} (h : ∀ a r, own a = some (p ++ r) → own' a = some (p' ++ r) ∧ H' a = H a) : Owns K own' H' vs ds os p' i := by
  induction vs generalizing ds os i with
  | nil => cases r; exact .nil
  | cons v vs ih =>
    cases r with
    | cons a b =>
      refine .cons (a.moveA hG fun x r e => ?_) (ih b)
      have := h x ([i] ++ r) (by rw [← List.append_assoc]; exact e)
      rw [← List.append_assoc] at this
      exact this
theorem Owns.length {vs : List V} {ds : List Dv} {os : List Ow} {p : Pth} {i : Nat} (r : Owns K own H vs ds os p i) : vs.length = ds.length := by
  induction vs generalizing ds os i with
  | nil => cases r; rfl
  | cons v vs ih => cases r with | cons a b => simp [ih b]

/-! ### what is shared: an owned thing given up -/
/-- all that is below the roots of f is given up -/
def dropW (f : Nat → Nat → Bool) (own : Addr → Option Pth) : Addr → Option Pth := fun a => match own a with
  | some (k :: i :: r) => if f k i = true then none else some (k :: i :: r)
  | x => x
theorem dw_none {f : Nat → Nat → Bool} {a : Addr} (h : own a = none) : dropW f own a = none := by simp [dropW, h]
theorem dw_in {f : Nat → Nat → Bool} {a : Addr} {k i : Nat} {r : Pth} (h : own a = some (k :: i :: r)) (hf : f k i = true) : dropW f own a = none := by simp [dropW, h, hf]
theorem dw_out {f : Nat → Nat → Bool} {a : Addr} {k i : Nat} {r : Pth} (h : own a = some (k :: i :: r)) (hf : f k i = false) : dropW f own a = some (k :: i :: r) := by simp [dropW, h, hf]
theorem dw_some {f : Nat → Nat → Bool} {a : Addr} {k i : Nat} {r : Pth} (h : dropW f own a = some (k :: i :: r)) : own a = some (k :: i :: r) ∧ f k i = false := by
  unfold dropW at h
  split at h
  · rename_i k' i' r' e
    split at h
    · cases h
    · rename_i n
      cases h
      exact ⟨e, by cases hb : f k i with
        | true => exact absurd hb n
        | false => rfl⟩
  · rename_i n
    exact absurd h (n k i r)
theorem dw_some' {f : Nat → Nat → Bool} {a : Addr} {q : Pth} (h : dropW f own a = some q) : own a = some q := by
  unfold dropW at h
  split at h
  · rename_i e
    split at h
    · cases h
    · rw [e]; exact h
  · exact h
theorem Gm_some {a : Addr} {o : HO} (h : Gm own H a = some o) : own a = none ∧ H a = some o := by
  unfold Gm at h
  split at h
  · exact ⟨by assumption, h⟩
  · cases h
theorem Gm_of {a : Addr} {o : HO} (h : own a = none) (e : H a = some o) : Gm own H a = some o := by
  unfold Gm; rw [h]; exact e
theorem Gm_dw (f : Nat → Nat → Bool) : ∀ a o, Gm own H a = some o → Gm (dropW f own) H a = some o := fun a o e => by
  obtain ⟨h1, h2⟩ := Gm_some e
  exact Gm_of (dw_none h1) h2
/-- what was one's own is shared now -/
theorem Own.freezeA (hG : ∀ a o, Gm own H a = some o → Gm own' H' a = some o) {v : V} {d : Dv} {o : Ow} {p : Pth} (r : Own K own H v d o p) :
    (∀ a r, own a = some (p ++ r) → own' a = none ∧ H' a = H a) → Rep K (Gm own' H') v d :=
  Own.rec (motive_1 := fun v d o p _ => (∀ a r, own a = some (p ++ r) → own' a = none ∧ H' a = H a) → Rep K (Gm own' H') v d)
    (motive_2 := fun vs ds os p i _ => (∀ a r, own a = some (p ++ r) → own' a = none ∧ H' a = H a) → Reps K (Gm own' H') vs ds)
    (fun r _ => r.mono hG)
    (fun e1 e2 _ k h => by
      have h0 := h _ [] (by rw [List.append_nil]; exact e1)
      exact .lst (Gm_of h0.1 (h0.2.trans e2)) (k h))
    (fun e _ k h => .tup (sqT_mono hG e) (k h))
    (fun e1 e2 m _ k h => by
      have h0 := h _ [] (by rw [List.append_nil]; exact e1)
      exact .dic (Gm_of h0.1 (h0.2.trans e2)) m (k h))
    (fun e1 e2 m _ k h => by
      have h0 := h _ [] (by rw [List.append_nil]; exact e1)
      exact .ins (Gm_of h0.1 (h0.2.trans e2)) m (k h))
    (fun _ => .nil)
    (fun {v d vs ds os p i} _ _ k1 k2 h => .cons (k1 fun a r e => h a ([i] ++ r) (by rw [← List.append_assoc]; exact e)) (k2 h)) r
end

/-! ### the state of a def -/
/-- the entry: who owned what, the heap, the slots that stay -/
structure Fm where
  own0 : Addr → Option Pth
  H0 : Hp
  fx : List (Nat × V)

structure Frm (F : Fm) (own : Addr → Option Pth) (H : Hp) : Prop where
  /-- what was nobody's, or an outer one's, is kept -/
  keep : ∀ a o, F.H0 a = some o → (∀ r, F.own0 a ≠ some (0 :: r)) → H a = some o
  out : ∀ a r, F.own0 a = some (2 :: r) → own a = some (2 :: r)
  back : ∀ a r, own a = some (2 :: r) → F.own0 a = some (2 :: r)
  new : ∀ a p, own a = some p → F.H0 a = none ∨ ∃ q, F.own0 a = some q
  alive : ∀ a p, own a = some p → ∃ o, H a = some o
  root : ∀ a p, own a = some p → ∃ k i r, p = k :: i :: r
  ent : ∀ a q, F.own0 a = some q → (∃ r, q = 0 :: r) ∨ ∃ r, q = 2 :: r

structure St (K : PySem.W.Frag) (F : Fm) (own : Addr → Option Pth) (σ : L2.St) (env : Env) (ts : List (V × Cl)) (H : Hp) : Prop where
  frm : Frm F own H
  len : env.length = σ.length
  cell : ∀ i c, env[i]? = some (some c) → ∃ v, σ[i]? = some (some v) ∧ Own K own H v c.d c.o [0, i]
  tmp : ∀ k v c, ts[k]? = some (v, c) → Own K own H v c.d c.o [1, k]
  fix : ∀ i v, (i, v) ∈ F.fx → σ[i]? = some (some v)

/-- a value: read where it lies, or made on the way -/
inductive R where
  | pk (i : Nat) | tm (c : Cl)
def push (ts : List (V × Cl)) (v : V) : R → List (V × Cl)
  | .pk _ => ts
  | .tm c => ts ++ [(v, c)]
def look (env : Env) : R → Option Cl
  | .pk i => (env[i]?).join
  | .tm c => some c
/-- an exception: its class, its fields -/
structure Xc where
  c : Str
  fs : List (Str × Dv)

section
variable {K : PySem.W.Frag} {F : Fm} {own own' : Addr → Option Pth} {σ : L2.St} {env : Env} {ts ex : List (V × Cl)} {H H' : Hp}
theorem Own.stay {f : Nat → Nat → Bool} {v : V} {d : Dv} {o : Ow} {k i : Nat} (r : Own K own H v d o [k, i]) (hf : f k i = false) : Own K (dropW f own) H v d o [k, i] :=
  r.moveA (Gm_dw f) fun _ _ e => ⟨dw_out e hf, rfl⟩
theorem Own.gone {f : Nat → Nat → Bool} {v : V} {d : Dv} {o : Ow} {k i : Nat} (r : Own K own H v d o [k, i]) (hf : f k i = true) : Rep K (Gm (dropW f own) H) v d :=
  r.freezeA (Gm_dw f) fun _ _ e => ⟨dw_in e hf, rfl⟩
theorem Frm.dw {f : Nat → Nat → Bool} (x : Frm F own H) (hf : ∀ i, f 2 i = false) : Frm F (dropW f own) H := by
  refine ⟨x.keep, fun a r e => ?_, fun a r e => x.back a r (dw_some' e), fun a p e => x.new a p (dw_some' e), fun a p e => x.alive a p (dw_some' e), fun a p e => x.root a p (dw_some' e), x.ent⟩
  have h1 := x.out a r e
  obtain ⟨k, i, q, e2⟩ := x.root a _ h1
  cases e2
  exact dw_out h1 (hf i)
/-- any new thing that is laid beside -/
theorem Frm.ext (x : Frm F own H) (h : ∀ a o, H a = some o → H' a = some o) : Frm F own H' :=
  ⟨fun a o e n => h a o (x.keep a o e n), x.out, x.back, x.new, fun a p e => let ⟨o, q⟩ := x.alive a p e; ⟨o, h a o q⟩, x.root, x.ent⟩
theorem Frm.fresh (x : Frm F own H) {p : Addr} (h : H p = none) : own p = none := by
  cases e : own p with
  | none => rfl
  | some q =>
    obtain ⟨o, z⟩ := x.alive p q e
    rw [h] at z; cases z
theorem Gm_ext (h : ∀ a o, H a = some o → H' a = some o) : ∀ a o, Gm own H a = some o → Gm own H' a = some o := fun a o e => by
  obtain ⟨h1, h2⟩ := Gm_some e
  exact Gm_of h1 (h a o h2)
theorem Own.ext (al : ∀ a p, own a = some p → ∃ o, H a = some o) (h : ∀ a o, H a = some o → H' a = some o) {v : V} {d : Dv} {o : Ow} {p : Pth} (r : Own K own H v d o p) : Own K own H' v d o p :=
  r.moveA (Gm_ext h) fun a r e => ⟨e, by
    obtain ⟨o, z⟩ := al a _ e
    rw [z, h a o z]⟩
theorem St.ext (s : St K F own σ env ts H) (h : ∀ a o, H a = some o → H' a = some o) : St K F own σ env ts H' :=
  ⟨s.frm.ext h, s.len, fun i c e => let ⟨v, h1, h2⟩ := s.cell i c e; ⟨v, h1, h2.ext s.frm.alive h⟩, fun k v c e => (s.tmp k v c e).ext s.frm.alive h, s.fix⟩
theorem St.push_sh {v : V} {d : Dv} (s : St K F own σ env ts H) (r : Rep K (Gm own H) v d) : St K F own σ env (ts ++ [(v, ⟨d, .sh⟩)]) H := by
  refine ⟨s.frm, s.len, s.cell, fun k w c e => ?_, s.fix⟩
  rcases Nat.lt_trichotomy k ts.length with h | h | h
  · rw [List.getElem?_append_left h] at e
    exact s.tmp k w c e
  · subst h
    rw [List.getElem?_append_right (Nat.le_refl _)] at e
    simp at e
    obtain ⟨rfl, rfl⟩ := e
    exact .sh r
  · rw [List.getElem?_eq_none (by simp; omega)] at e
    cases e
/-- the temporaries from the n-th on are forgotten -/
theorem St.cut (n : Nat) (s : St K F own σ env ts H) : St K F (dropW (fun k i => k == 1 && decide (n ≤ i)) own) σ env (ts.take n) H := by
  refine ⟨s.frm.dw fun i => rfl, s.len, fun i c e => ?_, fun k v c e => ?_, s.fix⟩
  · obtain ⟨v, h1, h2⟩ := s.cell i c e
    exact ⟨v, h1, h2.stay rfl⟩
  · have hk : k < n := by
      rcases Nat.lt_or_ge k n with h | h
      · exact h
      · rw [List.getElem?_eq_none (by rw [List.length_take]; omega)] at e; cases e
    rw [List.getElem?_take_of_lt hk] at e
    refine (s.tmp k v c e).stay ?_
    have : decide (n ≤ k) = false := decide_eq_false (by omega)
    rw [this]; rfl
theorem St.cut_app (s : St K F own σ env (ts ++ ex) H) : St K F (dropW (fun k i => k == 1 && decide (ts.length ≤ i)) own) σ env ts H := by
  have h := s.cut ts.length
  rw [List.take_left] at h
  exact h
/-- a cell is given up: all may share it -/
def frz (env : Env) (i : Nat) : Env := match env[i]? with
  | some (some c) => env.set i (some ⟨c.d, .sh⟩)
  | _ => env
theorem St.frz (i : Nat) (s : St K F own σ env ts H) : St K F (dropW (fun k j => k == 0 && j == i) own) σ (frz env i) ts H := by
  have hc : ∀ j c, env[j]? = some (some c) → j ≠ i → ∃ v, σ[j]? = some (some v) ∧ Own K (dropW (fun k j => k == 0 && j == i) own) H v c.d c.o [0, j] := fun j c e n => by
    obtain ⟨v, h1, h2⟩ := s.cell j c e
    exact ⟨v, h1, h2.stay (by simp [n])⟩
  refine ⟨s.frm.dw fun i => rfl, ?_, fun j c e => ?_, fun k v c e => (s.tmp k v c e).stay rfl, s.fix⟩
  · unfold Py.frz
    split
    · rw [List.length_set]; exact s.len
    · exact s.len
  · unfold Py.frz at e
    split at e
    · rename_i c' e'
      by_cases h : j = i
      · subst h
        have hl : j < env.length := (List.getElem?_eq_some_iff.mp e').1
        rw [List.getElem?_set_self hl] at e
        simp at e
        subst e
        obtain ⟨v, h1, h2⟩ := s.cell j c' e'
        exact ⟨v, h1, .sh (h2.gone (by simp))⟩
      · rw [List.getElem?_set_ne (Ne.symm h)] at e
        exact hc j c e h
    · by_cases h : j = i
      · subst h
        rename_i n
        exact absurd e (by intro z; exact n _ z)
      · exact hc j c e h
/-- where a result's value lies: a temporary from the n-th on -/
inductive At (σ : L2.St) (n : Nat) (ts : List (V × Cl)) : R → V → Prop
  | pk {i : Nat} {v : V} : σ[i]? = some (some v) → At σ n ts (.pk i) v
  | tm {k : Nat} {v : V} {c : Cl} : n ≤ k → ts[k]? = some (v, c) → At σ n ts (.tm c) v
theorem At.more {n : Nat} {r : R} {v : V} (a : At σ n ts r v) : At σ n (ts ++ ex) r v := by
  cases a with
  | pk h => exact .pk h
  | tm h0 h => exact .tm h0 (by rw [List.getElem?_append_left (List.getElem?_eq_some_iff.mp h).1]; exact h)
theorem At.less {n m : Nat} {r : R} {v : V} (a : At σ n ts r v) (h : m ≤ n) : At σ m ts r v := by
  cases a with
  | pk h => exact .pk h
  | tm h0 e => exact .tm (Nat.le_trans h h0) e
theorem At.pushR {n : Nat} {r r' : R} {v v' : V} (a : At σ n ts r v) : At σ n (Py.push ts v' r') r v := by
  cases r' with
  | pk i => exact a
  | tm c => exact a.more
theorem At.last {v : V} {c : Cl} : At σ ts.length (Py.push ts v (.tm c)) (.tm c) v := .tm (k := ts.length) (Nat.le_refl _) (by unfold Py.push; rw [List.getElem?_append_right (Nat.le_refl _)]; simp)
theorem len_push {v : V} {r : R} : ts.length ≤ (push ts v r).length := by
  cases r with
  | pk i => exact Nat.le_refl _
  | tm c => unfold push; rw [List.length_append]; exact Nat.le_add_right _ _
theorem push_app (ts : List (V × Cl)) (v : V) (r : R) : ∃ ex, push ts v r = ts ++ ex := by
  cases r with
  | pk i => exact ⟨[], (List.append_nil _).symm⟩
  | tm c => exact ⟨_, rfl⟩
theorem env_some {i : Nat} {c : Cl} (e : (env[i]?).join = some c) : env[i]? = some (some c) := by
  cases q : env[i]? with
  | none => rw [q] at e; cases e
  | some x => rw [q] at e; cases x with
    | none => cases e
    | some y => cases e; rfl
theorem St.at {n : Nat} {r : R} {v : V} (s : St K F own σ env ts H) (a : At σ n ts r v) {c : Cl} (e : look env r = some c) : ∃ k i, Own K own H v c.d c.o [k, i] := by
  cases a with
  | pk h =>
    obtain ⟨w, h1, h2⟩ := s.cell _ c (env_some e)
    rw [h] at h1
    cases h1
    exact ⟨_, _, h2⟩
  | tm h0 h =>
    cases (Option.some.inj e)
    exact ⟨_, _, s.tmp _ v _ h⟩
/-- a result as it is read when the temporaries are given up -/
def lookS (env : Env) : R → Option Cl
  | .pk i => (env[i]?).join
  | .tm c => some ⟨c.d, .sh⟩
theorem St.atS {r : R} {v : V} {n : Nat} (s : St K F own σ env ts H) (a : At σ n ts r v) {c : Cl} (e : lookS env r = some c) : ∃ k i, Own K (dropW (fun k i => k == 1 && decide (n ≤ i)) own) H v c.d c.o [k, i] := by
  cases a with
  | pk h =>
    obtain ⟨w, h1, h2⟩ := s.cell _ c (env_some e)
    rw [h] at h1
    cases h1
    exact ⟨_, _, h2.stay rfl⟩
  | tm h0 h =>
    rename_i k c'
    have e' : c = ⟨c'.d, .sh⟩ := (Option.some.inj e).symm
    subst e'
    exact ⟨1, k, .sh ((s.tmp k v c' h).gone (by simp [h0]))⟩
/-- a new temporary is made, its root p0 -/
structure NewT (K : PySem.W.Frag) (p0 : Pth) (own : Addr → Option Pth) (H : Hp) (own' : Addr → Option Pth) (H' : Hp) (z : V) (c : Cl) : Prop where
  ext : ∀ a o, H a = some o → H' a = some o
  old : ∀ a q, own a = some q → own' a = some q
  new : ∀ a q, own' a = some q → own a = some q ∨ (H a = none ∧ ∃ r, q = p0 ++ r)
  alive : ∀ a q, own' a = some q → ∃ o, H' a = some o
  it : Own K own' H' z c.d c.o p0
theorem NewT.gm {p0 : Pth} {z : V} {c : Cl} (n : NewT K p0 own H own' H' z c) : ∀ a o, Gm own H a = some o → Gm own' H' a = some o := fun a o e => by
  obtain ⟨h1, h2⟩ := Gm_some e
  refine Gm_of ?_ (n.ext a o h2)
  cases q : own' a with
  | none => rfl
  | some p =>
    rcases n.new a p q with h | ⟨h, _⟩
    · rw [h1] at h; cases h
    · rw [h2] at h; cases h
theorem St.newT {z : V} {c : Cl} (s : St K F own σ env ts H) (n : NewT K [1, ts.length] own H own' H' z c) : St K F own' σ env (ts ++ [(z, c)]) H' := by
  have mv : ∀ {v : V} {d : Dv} {o : Ow} {p : Pth}, Own K own H v d o p → Own K own' H' v d o p := fun r => r.moveA n.gm fun a r e => ⟨n.old a _ e, by
    obtain ⟨o, q⟩ := s.frm.alive a _ e
    rw [q, n.ext a o q]⟩
  refine ⟨⟨fun a o e h => n.ext a o (s.frm.keep a o e h), fun a r e => n.old a _ (s.frm.out a r e), fun a r e => ?_, fun a p e => ?_, n.alive, fun a p e => ?_, s.frm.ent⟩, s.len, fun i c e => ?_, fun k w c' e => ?_, s.fix⟩
  · rcases n.new a _ e with h | ⟨h, r', h2⟩
    · exact s.frm.back a r h
    · cases h2
  · rcases n.new a _ e with h | ⟨h, r', h2⟩
    · exact s.frm.new a p h
    · cases q : F.H0 a with
      | none => exact .inl rfl
      | some o =>
        cases q2 : F.own0 a with
        | some z => exact .inr ⟨z, rfl⟩
        | none =>
          rw [s.frm.keep a o q fun r z => by rw [q2] at z; cases z] at h
          cases h
  · rcases n.new a _ e with h | ⟨h, r', h2⟩
    · exact s.frm.root a p h
    · exact ⟨1, ts.length, r', h2⟩
  · obtain ⟨v, h1, h2⟩ := s.cell i c e
    exact ⟨v, h1, mv h2⟩
  · rcases Nat.lt_trichotomy k ts.length with h | h | h
    · rw [List.getElem?_append_left h] at e
      exact mv (s.tmp k w c' e)
    · subst h
      rw [List.getElem?_append_right (Nat.le_refl _)] at e
      simp at e
      obtain ⟨rfl, rfl⟩ := e
      exact n.it
    · rw [List.getElem?_eq_none (by simp; omega)] at e
      cases e
theorem St.uncut {r : R} {v : V} (s : St K F own σ env (push ts v r) H) : ∃ own', St K F own' σ env ts H ∧ ∀ a, own a = none → own' a = none := by
  cases r with
  | pk i => exact ⟨own, s, fun _ h => h⟩
  | tm c => exact ⟨_, s.cut_app, fun _ h => dw_none h⟩
/-- a value without places: the same everywhere -/
def Dv.scal : Dv → Bool
  | .non => true
  | .bl _ => true
  | .int _ => true
  | .str _ => true
  | _ => false
theorem Own.int {v : V} {i : Int} {o : Ow} {p : Pth} (r : Own K own H v (.int i) o p) : v = .int i := by
  cases r with | sh r => cases r; rfl
theorem Own.str {v : V} {x : Str} {o : Ow} {p : Pth} (r : Own K own H v (.str x) o p) : v = .str x := by
  cases r with | sh r => cases r; rfl
theorem Own.bl {v : V} {b : Bool} {o : Ow} {p : Pth} (r : Own K own H v (.bl b) o p) : v = .bl b := by
  cases r with | sh r => cases r; rfl
theorem Own.non {v : V} {o : Ow} {p : Pth} (r : Own K own H v .non o p) : v = .non := by
  cases r with | sh r => cases r; rfl
/-- a list: it lies in the heap -/
theorem Own.lstV {v : V} {xs : List Dv} {o : Ow} {p : Pth} (r : Own K own H v (.lst xs) o p) : ∃ a vs, v = .ref a ∧ H a = some (.lst vs) ∧ vs.length = xs.length := by
  cases r with
  | sh r => cases r with | lst e q => exact ⟨_, _, rfl, (Gm_some e).2, q.length⟩
  | lst e1 e2 q => exact ⟨_, _, rfl, e2, q.length⟩
theorem Gm_le : ∀ a o, Gm own H a = some o → H a = some o := fun _ _ e => (Gm_some e).2
theorem Own.tupV {v : V} {xs : List Dv} {o : Ow} {p : Pth} (r : Own K own H v (.tup xs) o p) : ∃ a vs, v = .ref a ∧ SqT K H a vs ∧ vs.length = xs.length := by
  cases r with
  | sh r => cases r with | tup e q => exact ⟨_, _, rfl, sqT_mono Gm_le e, q.length⟩
  | tup e1 q => exact ⟨_, _, rfl, sqT_mono Gm_le e1, q.length⟩
/-- no node of one's own within -/
def Ow.flat : Ow → Bool
  | .sh => true
  | .nd [] => true
  | _ => false
theorem Owns.reps {vs : List V} {ds : List Dv} {p : Pth} {i : Nat} (r : Owns K own H vs ds [] p i) : Reps K (Gm own H) vs ds := by
  induction vs generalizing ds i with
  | nil => cases r; exact .nil
  | cons v vs ih =>
    cases r with
    | cons a b =>
      cases a with
      | sh a => exact .cons a (ih b)
theorem Reps.owns {vs : List V} {ds : List Dv} {p : Pth} {i : Nat} (r : Reps K (Gm own H) vs ds) : Owns K own H vs ds [] p i := by
  induction vs generalizing ds i with
  | nil => cases r; exact .nil
  | cons v vs ih => cases r with | cons a b => exact .cons (.sh a) (ih b)
theorem Own.lstF {v : V} {xs : List Dv} {o : Ow} {p : Pth} (r : Own K own H v (.lst xs) o p) (f : o.flat = true) : ∃ a vs, v = .ref a ∧ H a = some (.lst vs) ∧ Reps K (Gm own H) vs xs := by
  cases r with
  | sh r => cases r with | lst e q => exact ⟨_, _, rfl, (Gm_some e).2, q⟩
  | lst e1 e2 q =>
    rename_i os
    cases os with
    | nil => exact ⟨_, _, rfl, e2, q.reps⟩
    | cons a b => cases f
theorem Own.lckF {v : V} {xs : List Dv} {o : Ow} {p : Pth} (r : Own K own H v (.lck xs) o p) : ∃ a vs, v = .ref a ∧ SqL K H a vs ∧ Reps K (Gm own H) vs xs := by
  cases r with
  | sh r => cases r with | lck e q => exact ⟨_, _, rfl, sqL_mono Gm_le e, q⟩
theorem Own.tupF {v : V} {xs : List Dv} {o : Ow} {p : Pth} (r : Own K own H v (.tup xs) o p) (f : o.flat = true) : ∃ a vs, v = .ref a ∧ SqT K (Gm own H) a vs ∧ Reps K (Gm own H) vs xs := by
  cases r with
  | sh r => cases r with | tup e q => exact ⟨_, _, rfl, e, q⟩
  | tup e1 q =>
    rename_i os
    cases os with
    | nil => exact ⟨_, _, rfl, e1, q.reps⟩
    | cons a b => cases f
end

/-! ### weakest preconditions on environments -/
abbrev XQ := Xc → Env → Prop
abbrev WE := Env → (R → Env → Prop) → XQ → Prop
abbrev WT := Env → (Bool → Env → Prop) → XQ → Prop
abbrev WA := Env → (List R → Env → Prop) → XQ → Prop
/-- how an exception lies -/
def XRep (K : PySem.W.Frag) (own : Addr → Option Pth) (H : Hp) (x : Xc) (cls : Value) (d : Option Addr) : Prop :=
  cls = .ref (He.ga K x.c) ∧ ∃ dd fs, d = some dd ∧ own dd = none ∧ H dd = some (.xd fs) ∧ fs.map (·.1) = x.fs.map (·.1) ∧ Reps K (Gm own H) (fs.map (·.2)) (x.fs.map (·.2))
def pushes (ts : List (V × Cl)) : List V → List R → List (V × Cl)
  | v :: vs, r :: rs => pushes (push ts v r) vs rs
  | _, _ => ts
section
variable (K : PySem.W.Frag) (Fx : List Nat) (Wo : WX)
/-- what is wanted of an exception -/
abbrev XOk (F : Fm) (σ : L2.St) (ts : List (V × Cl)) (Ep : XQ) : Prop := ∀ x env' own' cls d H', Ep x env' → St K F own' σ env' ts H' → XRep K own' H' x cls d → Wo cls d σ H'
def tW (W : WE) : TE := fun σ H Q => ∃ (F : Fm) (own : Addr → Option Pth) (env : Env) (ts : List (V × Cl)) (Qp : R → Env → Prop) (Ep : XQ), F.fx.map (·.1) = Fx ∧ St K F own σ env ts H ∧ W env Qp Ep ∧
  (∀ v H' own' r env', Qp r env' → St K F own' σ env' (push ts v r) H' → At σ ts.length (push ts v r) r v → Q v H') ∧ XOk K Wo F σ ts Ep
def tWT (W : WT) : TT := fun σ H Q => ∃ (F : Fm) (own : Addr → Option Pth) (env : Env) (ts : List (V × Cl)) (Qp : Bool → Env → Prop) (Ep : XQ), F.fx.map (·.1) = Fx ∧ St K F own σ env ts H ∧ W env Qp Ep ∧
  (∀ b H' own' env', Qp b env' → St K F own' σ env' ts H' → Q b H') ∧ XOk K Wo F σ ts Ep
def tWA (W : WA) : TA := fun σ H Q => ∃ (F : Fm) (own : Addr → Option Pth) (env : Env) (ts : List (V × Cl)) (Qp : List R → Env → Prop) (Ep : XQ), F.fx.map (·.1) = Fx ∧ St K F own σ env ts H ∧ W env Qp Ep ∧
  (∀ vs H' own' rs env', Qp rs env' → St K F own' σ env' (pushes ts vs rs) H' → Paired (At σ ts.length (pushes ts vs rs)) rs vs → Q vs H') ∧ XOk K Wo F σ ts Ep
end
end Py
set_option Elab.async false
set_option linter.all false
set_option maxRecDepth 100000
set_option maxHeartbeats 4000000
/-! Py, part B: expressions. -/
namespace Py
open PySem PySem.Spec PyProof.Rows L2

section
variable {X : Cx} {e : Expr} {t t' : TE}
theorem PE.imp (h : ∀ σ H Q, t' σ H Q → t σ H Q) (p : PE X e t) : PE X e t' := ⟨fun pins s σ H Q I q => p.run pins s σ H Q I (h _ _ _ q)⟩
theorem PT.imp {t t' : TT} (h : ∀ σ H Q, t' σ H Q → t σ H Q) (p : PT X e t) : PT X e t' := ⟨fun pins s σ H Q I q => p.run pins s σ H Q I (h _ _ _ q)⟩
theorem PW.imp {t t' : TT} (h : ∀ σ H Q, t' σ H Q → t σ H Q) (p : PW X e t) : PW X e t' := ⟨fun wh pins s σ H Q I q => p.run wh pins s σ H Q I (h _ _ _ q)⟩
theorem PA.imp {es : List Expr} {t t' : TA} (h : ∀ σ H Q, t' σ H Q → t σ H Q) (p : PA X es t) : PA X es t' := ⟨fun pos pins s σ H Q I q => p.run pos pins s σ H Q I (h _ _ _ q)⟩
end

/-! ### results of operations -/
section
variable {K : PySem.W.Frag} {own : Addr → Option Pth} {H : Hp} {p0 : Pth}
/-- what is wanted behind an operation that makes a temporary -/
abbrev Fin (K : PySem.W.Frag) (p0 : Pth) (own : Addr → Option Pth) (H : Hp) (k : Cl → Prop) (Q : VK) : Prop := ∀ z c own' H', k c → NewT K p0 own H own' H' z c → Q z H'
abbrev Alive (own : Addr → Option Pth) (H : Hp) : Prop := ∀ a q, own a = some q → ∃ o, H a = some o
theorem NewT.sh (al : Alive own H) {z : V} {d : Dv} (r : Rep K (Gm own H) z d) : NewT K p0 own H own H z ⟨d, .sh⟩ :=
  ⟨fun _ _ e => e, fun _ _ e => e, fun _ _ e => .inl e, al, .sh r⟩
theorem Fin.sh (al : Alive own H) {k : Cl → Prop} {Q : VK} (f : Fin K p0 own H k Q) {z : V} {d : Dv} (h : k ⟨d, .sh⟩) (r : Rep K (Gm own H) z d) : Q z H := f z _ own H h (NewT.sh al r)
theorem Fin.int (al : Alive own H) {k : Cl → Prop} {Q : VK} (f : Fin K p0 own H k Q) {i : Int} (h : k ⟨.int i, .sh⟩) : Q (.int i) H := f.sh al h (.int i)
theorem Fin.bl (al : Alive own H) {k : Cl → Prop} {Q : VK} (f : Fin K p0 own H k Q) {i : Bool} (h : k ⟨.bl i, .sh⟩) : Q (.bl i) H := f.sh al h (.bl i)
theorem Fin.str (al : Alive own H) {k : Cl → Prop} {Q : VK} (f : Fin K p0 own H k Q) {i : Str} (h : k ⟨.str i, .sh⟩) : Q (.str i) H := f.sh al h (.str i)
theorem Fin.non (al : Alive own H) {k : Cl → Prop} {Q : VK} (f : Fin K p0 own H k Q) (h : k ⟨.non, .sh⟩) : Q .non H := f.sh al h .non
def setO (own : Addr → Option Pth) (p : Addr) (q : Pth) : Addr → Option Pth := fun a => if a = p then some q else own a
theorem setO_same {p : Addr} {q : Pth} : setO own p q p = some q := by simp [setO]
theorem setO_ne {p a : Addr} {q : Pth} (h : a ≠ p) : setO own p q a = own a := by simp [setO, h]
theorem fresh_own (al : Alive own H) {p : Addr} (h : H p = none) : own p = none := by
  cases e : own p with
  | none => rfl
  | some q =>
    obtain ⟨o, z⟩ := al p q e
    rw [h] at z; cases z
theorem Same_upd {p : Addr} {o : HO} (h : H p = none) : ∀ a u, H a = some u → upd H p o a = some u := fun a u e => by
  rw [upd_ne (ne_of_none e h)]; exact e
theorem Gm_upd_new {p : Addr} {o : HO} (h : H p = none) : ∀ a u, Gm own H a = some u → Gm own (upd H p o) a = some u := Gm_ext (Same_upd h)
theorem Gm_set_new {p : Addr} {o : HO} {q : Pth} (h : H p = none) : ∀ a u, Gm own H a = some u → Gm (setO own p q) (upd H p o) a = some u := fun a u e => by
  obtain ⟨h1, h2⟩ := Gm_some e
  have n : a ≠ p := ne_of_none h2 h
  exact Gm_of (by rw [setO_ne n]; exact h1) (by rw [upd_ne n]; exact h2)
/-- a new object of one's own, its parts shared -/
theorem NewT.mk_own (al : Alive own H) {p : Addr} {o : HO} {d : Dv} (hp : H p = none) (it : Own K (setO own p p0) (upd H p o) (.ref p) d (.nd []) p0) : NewT K p0 own H (setO own p p0) (upd H p o) (.ref p) ⟨d, .nd []⟩ := by
  have hn := fresh_own al hp
  refine ⟨Same_upd hp, fun a q e => ?_, fun a q e => ?_, fun a q e => ?_, it⟩
  · rw [setO_ne (by intro z; subst z; rw [hn] at e; cases e)]; exact e
  · by_cases h : a = p
    · subst h
      rw [setO_same] at e
      cases e
      exact .inr ⟨hp, [], (List.append_nil _).symm⟩
    · rw [setO_ne h] at e; exact .inl e
  · by_cases h : a = p
    · subst h; exact ⟨o, upd_same⟩
    · rw [setO_ne h] at e
      obtain ⟨u, z⟩ := al a q e
      exact ⟨u, by rw [upd_ne h]; exact z⟩
theorem NewT.lst (al : Alive own H) {p : Addr} {vs : List V} {ds : List Dv} (hp : H p = none) (r : Reps K (Gm own H) vs ds) : NewT K p0 own H (setO own p p0) (upd H p (.lst vs)) (.ref p) ⟨.lst ds, .nd []⟩ :=
  NewT.mk_own al hp (.lst setO_same upd_same (r.mono (Gm_set_new hp)).owns)
theorem Fin.lst (al : Alive own H) {k : Cl → Prop} {Q : VK} (f : Fin K p0 own H k Q) {vs : List V} {ds : List Dv} (h : k ⟨.lst ds, .nd []⟩) (r : Reps K (Gm own H) vs ds) {p : Addr} (hp : H p = none) : Q (.ref p) (upd H p (.lst vs)) :=
  f _ _ _ _ h (NewT.lst al hp r)
theorem NewT.tup (al : Alive own H) {p : Addr} {vs : List V} {ds : List Dv} (hp : H p = none) (r : Reps K (Gm own H) vs ds) : NewT K p0 own H own (upd H p (.tup vs)) (.ref p) ⟨.tup ds, .sh⟩ := by
  have hn := fresh_own al hp
  refine ⟨Same_upd hp, fun a q e => e, fun a q e => .inl e, fun a q e => ?_, .sh (.tup (SqT.of (Gm_of hn upd_same)) (r.mono (Gm_upd_new hp)))⟩
  obtain ⟨u, z⟩ := al a q e
  exact ⟨u, Same_upd hp _ _ z⟩
theorem Fin.tup (al : Alive own H) {k : Cl → Prop} {Q : VK} (f : Fin K p0 own H k Q) {vs : List V} {ds : List Dv} (h : k ⟨.tup ds, .sh⟩) (r : Reps K (Gm own H) vs ds) {p : Addr} (hp : H p = none) : Q (.ref p) (upd H p (.tup vs)) :=
  f _ _ _ _ h (NewT.tup al hp r)
end

/-- the meaning of a two-place, a one-place operation, a call, over data -/
abbrev G2 := Cl → Cl → (Cl → Prop) → Prop
abbrev G1 := Cl → (Cl → Prop) → Prop
abbrev GN := List Cl → (Cl → Prop) → Prop
def Sem2 (K : PySem.W.Frag) (r : R2) (g : G2) : Prop := ∀ (p0 : Pth) (own : Addr → Option Pth) (H : Hp) (x y : V) (a b : Cl) (p q : Pth) (k : Cl → Prop) (Q : VK), Alive own H → Own K own H x a.d a.o p → Own K own H y b.d b.o q → g a b k → Fin K p0 own H k Q → r x y H Q
def Sem1 (K : PySem.W.Frag) (r : V → Hp → VK → Prop) (g : G1) : Prop := ∀ (p0 : Pth) (own : Addr → Option Pth) (H : Hp) (x : V) (a : Cl) (p : Pth) (k : Cl → Prop) (Q : VK), Alive own H → Own K own H x a.d a.o p → g a k → Fin K p0 own H k Q → r x H Q
def SemN (K : PySem.W.Frag) (r : List V → Hp → VK → Prop) (g : GN) : Prop := ∀ (p0 : Pth) (own : Addr → Option Pth) (H : Hp) (xs : List V) (as : List Cl) (k : Cl → Prop) (Q : VK), Alive own H → Paired (fun x (a : Cl) => ∃ p, Own K own H x a.d a.o p) xs as → g as k → Fin K p0 own H k Q → r xs H Q

def on1 (a : Option Cl) (k : Cl → Prop) : Prop := match a with
  | some a => k a
  | none => False
theorem on1_of {a : Option Cl} {k : Cl → Prop} (h : on1 a k) : ∃ c, a = some c ∧ k c := by
  cases a with
  | none => exact h.elim
  | some c => exact ⟨c, rfl, h⟩
def looksS (env : Env) : List R → Option (List Cl)
  | [] => some []
  | r :: rs => (lookS env r).bind fun c => (looksS env rs).map (c :: ·)
def onN (a : Option (List Cl)) (k : List Cl → Prop) : Prop := match a with
  | some a => k a
  | none => False
theorem onN_of {a : Option (List Cl)} {k : List Cl → Prop} (h : onN a k) : ∃ c, a = some c ∧ k c := by
  cases a with
  | none => exact h.elim
  | some c => exact ⟨c, rfl, h⟩

/-! ### readings -/
def wVar (i : Nat) : WE := fun env Q _ => (env[i]?).join.isSome = true ∧ Q (.pk i) env
def wC (d : Dv) : WE := fun env Q _ => Q (.tm ⟨d, .sh⟩) env
def w2 (g : G2) (wa wb : WE) : WE := fun env Q E => wa env (fun ra e1 => wb e1 (fun rb e2 => on1 (lookS e2 ra) fun a => on1 (lookS e2 rb) fun b => g a b fun c => Q (.tm c) e2) E) E
def w1 (g : G1) (wa : WE) : WE := fun env Q E => wa env (fun ra e1 => on1 (lookS e1 ra) fun a => g a fun c => Q (.tm c) e1) E
def wN (g : GN) (wa : WA) : WE := fun env Q E => wa env (fun rs e1 => onN (looksS e1 rs) fun as => g as fun c => Q (.tm c) e1) E
def waNil : WA := fun env Q _ => Q [] env
def waCons (w : WE) (ws : WA) : WA := fun env Q E => w env (fun r e1 => ws e1 (fun rs e2 => Q (r :: rs) e2) E) E

section
variable {X : Cx} {Fx : List Nat} {Wo : WX} {pos : Pos}
theorem pe_Wvar (i : Nat) {x : Str} (hN : X.N[i]? = some x := by rfl) (hv : Vis X.env.scope x := by first | exact Or.inl rfl | exact Or.inr (Or.inl rfl) | exact Or.inr (Or.inr rfl)) (hd : (x == ("__debug__" : Str)) = false := by decide)
    (hcd : (x == ("__classdict__" : Str)) = false := by decide) : PE X (.Name x pos) (tW X.K Fx Wo (wVar i)) :=
  PE.imp (fun σ H Q h => by
    obtain ⟨F, own, env, ts, Qp, Ep, hf, st, ⟨w1, w2⟩, hq, hx⟩ := h
    obtain ⟨c, ec⟩ := Option.isSome_iff_exists.mp w1
    obtain ⟨v, h1, _⟩ := st.cell i c (env_some ec)
    exact ⟨v, h1, hq v H own (.pk i) env w2 st (.pk h1)⟩) (pv i hN hv hd hcd)
theorem tc_W {v : V} {d : Dv} (hr : ∀ G, Rep X.K G v d) : ∀ σ H Q, tW X.K Fx Wo (wC d) σ H Q → tC v σ H Q := fun σ H Q h => by
  obtain ⟨F, own, env, ts, Qp, Ep, hf, st, w, hq, hx⟩ := h
  exact hq v H own (.tm ⟨d, .sh⟩) env w (st.push_sh (hr _)) .last
theorem pe_Wint {i j} : PE X (.Constant (.int i) j pos) (tW X.K Fx Wo (wC (.int i))) := PE.imp (tc_W fun _ => .int i) pe_int
theorem pe_Wbl {i j} : PE X (.Constant (.bool i) j pos) (tW X.K Fx Wo (wC (.bl i))) := PE.imp (tc_W fun _ => .bl i) pe_bl
theorem pe_Wnon {j} : PE X (.Constant .none j pos) (tW X.K Fx Wo (wC .non)) := PE.imp (tc_W fun _ => .non) pe_non
theorem pe_Wstr {i j} : PE X (.Constant (.str i) j pos) (tW X.K Fx Wo (wC (.str i))) := PE.imp (tc_W fun _ => .str i) pe_str
/-- the end of an operation -/
theorem fin_W {F : Fm} {own : Addr → Option Pth} {σ : L2.St} {env : Env} {ts : List (V × Cl)} {H : Hp} {Qp : R → Env → Prop} {Q : VK} (st : St X.K F own σ env ts H) (hq : ∀ v H' own' r env', Qp r env' → St X.K F own' σ env' (push ts v r) H' → At σ ts.length (push ts v r) r v → Q v H') :
    Fin X.K [1, ts.length] own H (fun c => Qp (.tm c) env) Q := fun z c own' H' h n => hq z H' own' (.tm c) env h (st.newT n) .last
theorem w2_run {r : R2} {g : G2} (hs : Sem2 X.K r g) {wa wb : WE} : ∀ σ H Q, tW X.K Fx Wo (w2 g wa wb) σ H Q → tOp r (tW X.K Fx Wo wa) (tW X.K Fx Wo wb) σ H Q := fun σ H Q h => by
  obtain ⟨F, own, env, ts, Qp, Ep, hf, st, w, hq, hx⟩ := h
  refine ⟨F, own, env, ts, _, Ep, hf, st, w, fun x H1 own1 ra e1 w1 st1 a1 => ?_, hx⟩
  obtain ⟨ex1, ee1⟩ := push_app ts x ra
  refine ⟨F, own1, e1, _, _, Ep, hf, st1, w1, fun y H2 own2 rb e2 w2 st2 a2 => ?_, fun x' env' own' cls d H' ep st' xr => ?_⟩
  · obtain ⟨a, ea, w3⟩ := on1_of w2
    obtain ⟨b, eb, w4⟩ := on1_of w3
    have a1' : At σ ts.length (push (push ts x ra) y rb) ra x := a1.pushR
    have a2' : At σ ts.length (push (push ts x ra) y rb) rb y := a2.less len_push
    obtain ⟨_, _, o1⟩ := st2.atS a1' ea
    obtain ⟨_, _, o2⟩ := st2.atS a2' eb
    obtain ⟨ex2, ee2⟩ := push_app (push ts x ra) y rb
    rw [ee2, ee1, List.append_assoc] at st2
    have st3 := st2.cut_app
    exact hs _ _ _ _ _ _ _ _ _ _ _ st3.frm.alive o1 o2 w4 (fin_W st3 hq)
  · rw [ee1] at st'
    obtain ⟨cl, dd, fs, h1, h2, h3, h4, h5⟩ := xr
    exact hx x' env' _ cls d H' ep st'.cut_app ⟨cl, dd, fs, h1, dw_none h2, h3, h4, h5.mono (Gm_dw _)⟩
theorem w1_run {r : V → Hp → VK → Prop} {g : G1} (hs : Sem1 X.K r g) {wa : WE} : ∀ σ H Q, tW X.K Fx Wo (w1 g wa) σ H Q → tUn r (tW X.K Fx Wo wa) σ H Q := fun σ H Q h => by
  obtain ⟨F, own, env, ts, Qp, Ep, hf, st, w, hq, hx⟩ := h
  refine ⟨F, own, env, ts, _, Ep, hf, st, w, fun x H1 own1 ra e1 w1 st1 a1 => ?_, hx⟩
  obtain ⟨a, ea, w3⟩ := on1_of w1
  obtain ⟨_, _, o1⟩ := st1.atS a1 ea
  obtain ⟨ex1, ee1⟩ := push_app ts x ra
  rw [ee1] at st1
  have st3 := st1.cut_app
  exact hs _ _ _ _ _ _ _ _ st3.frm.alive o1 w3 (fin_W st3 hq)
theorem xok_cut {F : Fm} {σ : L2.St} {ts ex : List (V × Cl)} {Ep : XQ} (hx : XOk X.K Wo F σ ts Ep) : XOk X.K Wo F σ (ts ++ ex) Ep := fun x' env' own' cls d H' ep st' xr => by
  obtain ⟨cl, dd, fs, h1, h2, h3, h4, h5⟩ := xr
  exact hx x' env' _ cls d H' ep st'.cut_app ⟨cl, dd, fs, h1, dw_none h2, h3, h4, h5.mono (Gm_dw _)⟩
theorem xok_push {F : Fm} {σ : L2.St} {ts : List (V × Cl)} {Ep : XQ} (hx : XOk X.K Wo F σ ts Ep) (v : V) (r : R) : XOk X.K Wo F σ (push ts v r) Ep := by
  obtain ⟨ex1, ee1⟩ := push_app ts v r
  rw [ee1]
  exact xok_cut hx
theorem pushes_app : ∀ (vs : List V) (rs : List R) (ts : List (V × Cl)), ∃ ex, pushes ts vs rs = ts ++ ex
  | [], _, ts => ⟨[], by unfold pushes; rw [List.append_nil]⟩
  | _ :: _, [], ts => ⟨[], by unfold pushes; rw [List.append_nil]⟩
  | v :: vs, r :: rs, ts => by
    obtain ⟨ex1, e1⟩ := push_app ts v r
    obtain ⟨ex2, e2⟩ := pushes_app vs rs (push ts v r)
    exact ⟨ex1 ++ ex2, by unfold pushes; rw [e2, e1, List.append_assoc]⟩
theorem pa_Wnil : PA X [] (tWA X.K Fx Wo waNil) := PA.imp (fun σ H Q h => by
  obtain ⟨F, own, env, ts, Qp, Ep, hf, st, w, hq, hx⟩ := h
  exact hq [] H own [] env w st .nil) pa_nil
theorem pa_Wcons {e : Expr} {es : List Expr} {w : WE} {ws : WA} (ha : PE X e (tW X.K Fx Wo w)) (hr : PA X es (tWA X.K Fx Wo ws)) (hs : starEach (e :: es) X.env = (false, eval e X.env) :: starEach es X.env := by rfl) :
    PA X (e :: es) (tWA X.K Fx Wo (waCons w ws)) := PA.imp (fun σ H Q h => by
  obtain ⟨F, own, env, ts, Qp, Ep, hf, st, w, hq, hx⟩ := h
  refine ⟨F, own, env, ts, _, Ep, hf, st, w, fun x H1 own1 ra e1 w1 st1 a1 => ?_, hx⟩
  refine ⟨F, own1, e1, _, _, Ep, hf, st1, w1, fun vs H2 own2 rs e2 w2 st2 a2 => ?_, xok_push hx _ _⟩
  refine hq (x :: vs) H2 own2 (ra :: rs) e2 w2 st2 (.cons ?_ (Paired.mapP a2 fun r v h => h.less len_push))
  obtain ⟨ex, ee⟩ := pushes_app vs rs (push ts x ra)
  show At σ ts.length (pushes (push ts x ra) vs rs) ra x
  rw [ee]
  exact a1.more) (pa_cons ha hr hs)
theorem looks_own {F : Fm} {own : Addr → Option Pth} {σ : L2.St} {env : Env} {ts : List (V × Cl)} {H : Hp} {n : Nat} (st : St X.K F own σ env ts H) : ∀ {rs : List R} {vs : List V} {as : List Cl}, Paired (At σ n ts) rs vs → looksS env rs = some as →
    Paired (fun x (a : Cl) => ∃ p, Own X.K (dropW (fun k i => k == 1 && decide (n ≤ i)) own) H x a.d a.o p) vs as
  | [], _, as, .nil, e => by cases (Option.some.inj e); exact .nil
  | r :: rs, _, as, .cons a t, e => by
    unfold looksS at e
    cases h1 : lookS env r with
    | none => rw [h1] at e; cases e
    | some c =>
      cases h2 : looksS env rs with
      | none => rw [h1, h2] at e; cases e
      | some cs =>
        rw [h1, h2] at e
        cases (Option.some.inj e)
        obtain ⟨_, _, o⟩ := st.atS a h1
        exact .cons ⟨_, o⟩ (looks_own st t h2)
theorem wN_run {r : List V → Hp → VK → Prop} {g : GN} (hs : SemN X.K r g) {wa : WA} : ∀ σ H Q, tW X.K Fx Wo (wN g wa) σ H Q → tCB r (tWA X.K Fx Wo wa) σ H Q := fun σ H Q h => by
  obtain ⟨F, own, env, ts, Qp, Ep, hf, st, w, hq, hx⟩ := h
  refine ⟨F, own, env, ts, _, Ep, hf, st, w, fun vs H1 own1 rs e1 w1 st1 a1 => ?_, hx⟩
  obtain ⟨as, ea, w3⟩ := onN_of w1
  have o1 := looks_own st1 a1 ea
  obtain ⟨ex1, ee1⟩ := pushes_app vs rs ts
  rw [ee1] at st1
  have st3 := st1.cut_app
  exact hs _ _ _ _ _ _ _ st3.frm.alive o1 w3 (fin_W st3 hq)

/-! ### the forms -/
theorem pe_Wop {op : Operator} {r : R2} {g : G2} {a b : Expr} {wa wb : WE} (ho : OpR X (binaryOp op) r) (hs : Sem2 X.K r g) (ha : PE X a (tW X.K Fx Wo wa)) (hb : PE X b (tW X.K Fx Wo wb)) : PE X (.BinOp a op b pos) (tW X.K Fx Wo (w2 g wa wb)) :=
  PE.imp (w2_run hs) (pe_op ho ha hb)
theorem pe_Wun {op : UnaryOp} {r : V → Hp → VK → Prop} {g : G1} {a : Expr} {wa : WE} (ho : UnR X (unaryOp op) r) (hs : Sem1 X.K r g) (ha : PE X a (tW X.K Fx Wo wa)) : PE X (.UnaryOp op a pos) (tW X.K Fx Wo (w1 g wa)) :=
  PE.imp (w1_run hs) (pe_un ho ha)
theorem pe_Wcmp {op : CmpOp} {r : R2} {g : G2} {a b : Expr} {wa wb : WE} (ho : OpR X (compareOp op) r) (hs : Sem2 X.K r g) (ha : PE X a (tW X.K Fx Wo wa)) (hb : PE X b (tW X.K Fx Wo wb)) (hm : behindInMarks op b = false) : PE X (.Compare a [op] [b] pos) (tW X.K Fx Wo (w2 g wa wb)) :=
  PE.imp (w2_run hs) (pe_cmpR ho ha hb hm)
theorem pe_Wix {r : R2} {g : G2} {a b : Expr} {wa wb : WE} (ho : IxR X r) (hs : Sem2 X.K r g) (ha : PE X a (tW X.K Fx Wo wa)) (hb : PE X b (tW X.K Fx Wo wb)) (hp : PlainIx b) : PE X (.Subscript a b pos) (tW X.K Fx Wo (w2 g wa wb)) :=
  PE.imp (w2_run hs) (pe_ix ho ha hb hp)
end
end Py
set_option Elab.async false
set_option linter.all false
set_option maxRecDepth 100000
set_option maxHeartbeats 4000000
/-! Py, part C: relabelling, tests, statements. -/
namespace Py
open PySem PySem.Spec PyProof.Rows L2

/-! ### roots renamed -/
def mapW (g : Nat → Nat → Option Pth) (own : Addr → Option Pth) : Addr → Option Pth := fun a => match own a with
  | some (k :: i :: r) => (g k i).map (· ++ r)
  | x => x
section
variable {K : PySem.W.Frag} {F : Fm} {own own' : Addr → Option Pth} {σ : L2.St} {env : Env} {ts ex : List (V × Cl)} {H H' : Hp} {g : Nat → Nat → Option Pth}
theorem mw_none {a : Addr} (h : own a = none) : mapW g own a = none := by simp [mapW, h]
theorem mw_of {a : Addr} {k i : Nat} {r q : Pth} (h : own a = some (k :: i :: r)) (hg : g k i = some q) : mapW g own a = some (q ++ r) := by simp [mapW, h, hg]
theorem mw_off {a : Addr} {k i : Nat} {r : Pth} (h : own a = some (k :: i :: r)) (hg : g k i = none) : mapW g own a = none := by simp [mapW, h, hg]
theorem mw_some {a : Addr} {q : Pth} (hr : ∀ a p, own a = some p → ∃ k i r, p = k :: i :: r) (h : mapW g own a = some q) : ∃ k i r q0, own a = some (k :: i :: r) ∧ g k i = some q0 ∧ q = q0 ++ r := by
  cases e : own a with
  | none => rw [mw_none e] at h; cases h
  | some p =>
    obtain ⟨k, i, r, rfl⟩ := hr a p e
    cases eg : g k i with
    | none => rw [mw_off e eg] at h; cases h
    | some q0 =>
      rw [mw_of e eg] at h
      exact ⟨k, i, r, q0, rfl, eg, (Option.some.inj h).symm⟩
theorem Gm_mw (g : Nat → Nat → Option Pth) : ∀ a o, Gm own H a = some o → Gm (mapW g own) H a = some o := fun a o e => by
  obtain ⟨h1, h2⟩ := Gm_some e
  exact Gm_of (mw_none h1) h2
theorem Own.mw {v : V} {d : Dv} {o : Ow} {k i : Nat} {q : Pth} (r : Own K own H v d o [k, i]) (hg : g k i = some q) : Own K (mapW g own) H v d o q :=
  r.moveA (Gm_mw g) fun _ _ e => ⟨mw_of e hg, rfl⟩
theorem Own.mwGone {v : V} {d : Dv} {o : Ow} {k i : Nat} (r : Own K own H v d o [k, i]) (hg : g k i = none) : Rep K (Gm (mapW g own) H) v d :=
  r.freezeA (Gm_mw g) fun _ _ e => ⟨mw_off e hg, rfl⟩
/-- roots of the state's own stay roots of its own -/
structure GOk (g : Nat → Nat → Option Pth) : Prop where
  out : ∀ i, g 2 i = some [2, i]
  own : ∀ k i q, g k i = some q → ∃ k' i' r, q = k' :: i' :: r ∧ (k' = 2 → k = 2)
theorem Frm.mw (x : Frm F own H) (hg : GOk g) : Frm F (mapW g own) H := by
  have sm := fun a q h => mw_some (g := g) (a := a) (q := q) x.root h
  refine ⟨x.keep, fun a r e => ?_, fun a r e => ?_, fun a p e => ?_, fun a p e => ?_, fun a p e => ?_, x.ent⟩
  · have h1 := x.out a r e
    obtain ⟨k, i, q, e2⟩ := x.root a _ h1
    cases e2
    exact mw_of h1 (hg.out i)
  · obtain ⟨k, i, r', q0, h1, h2, h3⟩ := sm a _ e
    obtain ⟨k', i', r2, h4, h5⟩ := hg.own _ _ _ h2
    subst h4
    have h6 : (2 : Nat) = k' := (List.cons.inj h3).1
    have h7 : k = 2 := h5 h6.symm
    subst h7
    rw [hg.out] at h2
    cases h2
    cases h3
    exact x.back a _ h1
  · obtain ⟨k, i, r', q0, h1, _, _⟩ := sm a _ e
    exact x.new a _ h1
  · obtain ⟨k, i, r', q0, h1, _, _⟩ := sm a _ e
    exact x.alive a _ h1
  · obtain ⟨k, i, r', q0, h1, h2, h3⟩ := sm a _ e
    obtain ⟨k', i', r2, h4, h5⟩ := hg.own _ _ _ h2
    subst h4
    exact ⟨k', i', r2 ++ r', h3⟩

/-! ### a value stored in a slot -/
def Ow.isSh : Ow → Bool
  | .sh => true
  | _ => false
def asg (env : Env) (i : Nat) : R → Option Env
  | .tm c => some (env.set i (some c))
  | .pk j => ((env[j]?).join).map fun c => (frz env j).set i (some ⟨c.d, .sh⟩)
theorem St.set_sh {i : Nat} {v : V} {d : Dv} (s : St K F own σ env ts H) (r : Rep K (Gm own H) v d) (hi : i ∉ F.fx.map (·.1)) :
    St K F (dropW (fun k j => k == 0 && j == i) own) (σ.set i (some v)) (env.set i (some ⟨d, .sh⟩)) ts H := by
  refine ⟨s.frm.dw fun i => rfl, by rw [List.length_set, List.length_set]; exact s.len, fun j c e => ?_, fun k v c e => (s.tmp k v c e).stay rfl, fun j w hj => ?_⟩
  · by_cases h : j = i
    · subst h
      have hl : j < env.length := by have := (List.getElem?_eq_some_iff.mp e).1; rw [List.length_set] at this; exact this
      rw [List.getElem?_set_self hl] at e
      simp at e
      subst e
      exact ⟨v, List.getElem?_set_self (by rw [← s.len]; exact hl), .sh (r.mono (Gm_dw _))⟩
    · rw [List.getElem?_set_ne (Ne.symm h)] at e
      obtain ⟨w, h1, h2⟩ := s.cell j c e
      exact ⟨w, by rw [List.getElem?_set_ne (Ne.symm h)]; exact h1, h2.stay (by simp [h])⟩
  · have h : i ≠ j := fun z => hi (by subst z; exact List.mem_map.mpr ⟨_, hj, rfl⟩)
    rw [List.getElem?_set_ne h]
    exact s.fix j w hj
theorem St.set_tm {i : Nat} {v : V} {c : Cl} (s : St K F own σ env (ts ++ [(v, c)]) H) (hi : i ∉ F.fx.map (·.1)) :
    St K F (mapW (fun k j => if k = 0 ∧ j = i then none else if k = 1 ∧ j = ts.length then some [0, i] else some [k, j]) own) (σ.set i (some v)) (env.set i (some c)) ts H := by
  have ok : GOk (fun k j => if k = 0 ∧ j = i then none else if k = 1 ∧ j = ts.length then some [0, i] else some [k, j]) := by
    refine ⟨fun j => by simp, fun k j q h => ?_⟩
    split at h
    · cases h
    · split at h
      · cases h; exact ⟨0, i, [], rfl, fun z => by cases z⟩
      · cases h; exact ⟨k, j, [], rfl, fun z => z⟩
  refine ⟨s.frm.mw ok, by rw [List.length_set, List.length_set]; exact s.len, fun j c' e => ?_, fun k w c' e => ?_, fun j w hj => ?_⟩
  · by_cases h : j = i
    · subst h
      have hl : j < env.length := by have := (List.getElem?_eq_some_iff.mp e).1; rw [List.length_set] at this; exact this
      rw [List.getElem?_set_self hl] at e
      simp at e
      subst e
      refine ⟨v, List.getElem?_set_self (by rw [← s.len]; exact hl), (s.tmp ts.length v c (by rw [List.getElem?_append_right (Nat.le_refl _)]; simp)).mw ?_⟩
      simp
    · rw [List.getElem?_set_ne (Ne.symm h)] at e
      obtain ⟨w, h1, h2⟩ := s.cell j c' e
      exact ⟨w, by rw [List.getElem?_set_ne (Ne.symm h)]; exact h1, h2.mw (by simp [h])⟩
  · have hk : k < ts.length := (List.getElem?_eq_some_iff.mp e).1
    exact (s.tmp k w c' (by rw [List.getElem?_append_left hk]; exact e)).mw (by
      have hne : k ≠ ts.length := Nat.ne_of_lt hk
      simp [hne])
  · have h : i ≠ j := fun z => hi (by subst z; exact List.mem_map.mpr ⟨_, hj, rfl⟩)
    rw [List.getElem?_set_ne h]
    exact s.fix j w hj
theorem St.rep_frz {j : Nat} {v : V} {c : Cl} (s : St K F own σ env ts H) (h : σ[j]? = some (some v)) (e : (env[j]?).join = some c) : Rep K (Gm (dropW (fun k i => k == 0 && i == j) own) H) v c.d := by
  obtain ⟨w, h1, h2⟩ := s.cell j c (env_some e)
  rw [h] at h1; cases h1
  exact h2.gone (by simp)
theorem St.asg {i : Nat} {v : V} {r : R} {env' : Env} (s : St K F own σ env (push ts v r) H) (a : At σ ts.length (push ts v r) r v) (hi : i ∉ F.fx.map (·.1)) (h : Py.asg env i r = some env') :
    ∃ own', St K F own' (σ.set i (some v)) env' ts H := by
  cases r with
  | tm c =>
    cases (Option.some.inj h)
    exact ⟨_, s.set_tm hi⟩
  | pk j =>
    have h' : ((env[j]?).join).map (fun c => (Py.frz env j).set i (some ⟨c.d, .sh⟩)) = some env' := h
    cases e : (env[j]?).join with
    | none => rw [e] at h'; cases h'
    | some c =>
      rw [e] at h'
      cases (Option.some.inj h')
      have hσ : σ[j]? = some (some v) := by cases a with | pk z => exact z
      exact ⟨_, (s.frz j).set_sh (St.rep_frz s hσ e) hi⟩
end

/-! ### tests -/
def onBl (a : Option Cl) (k : Bool → Prop) : Prop := match a with
  | some ⟨.bl b, _⟩ => k b
  | _ => False
theorem onBl_of {a : Option Cl} {k : Bool → Prop} (h : onBl a k) : ∃ b o, a = some ⟨.bl b, o⟩ ∧ k b := by
  unfold onBl at h
  split at h
  · exact ⟨_, _, rfl, h⟩
  · exact h.elim
def wTB (w : WE) : WT := fun env Q E => w env (fun r e1 => onBl (lookS e1 r) fun b => Q b e1) E
def wAndT (t u : WT) : WT := fun env Q E => t env (fun c e1 => if c = true then u e1 Q E else Q false e1) E
def wOrT (t u : WT) : WT := fun env Q E => t env (fun c e1 => if c = true then Q true e1 else u e1 Q E) E
def wNotT (t : WT) : WT := fun env Q E => t env (fun c e1 => Q (!c) e1) E
def wAndV (wa wb : WE) : WE := fun env Q E => wa env (fun r e1 => onBl (lookS e1 r) fun c => if c = true then wb e1 Q E else Q (.tm ⟨.bl false, .sh⟩) e1) E
def wOrV (wa wb : WE) : WE := fun env Q E => wa env (fun r e1 => onBl (lookS e1 r) fun c => if c = true then Q (.tm ⟨.bl true, .sh⟩) e1 else wb e1 Q E) E
def wNotV (wa : WE) : WE := fun env Q E => wa env (fun r e1 => onBl (lookS e1 r) fun c => Q (.tm ⟨.bl (!c), .sh⟩) e1) E
def wIfE (t : WT) (wa wb : WE) : WE := fun env Q E => t env (fun c e1 => if c = true then wa e1 Q E else wb e1 Q E) E
section
variable {X : Cx} {Fx : List Nat} {Wo : WX} {pos : Pos}
theorem wTB_run {w : WE} : ∀ σ H Q, tWT X.K Fx Wo (wTB w) σ H Q → tB (tW X.K Fx Wo w) σ H Q := fun σ H Q h => by
  obtain ⟨F, own, env, ts, Qp, Ep, hf, st, w, hq, hx⟩ := h
  refine ⟨F, own, env, ts, _, Ep, hf, st, w, fun x H1 own1 ra e1 w1 st1 a1 => ?_, hx⟩
  obtain ⟨b, o, ea, w3⟩ := onBl_of w1
  obtain ⟨_, _, o1⟩ := st1.atS a1 ea
  obtain ⟨ex1, ee1⟩ := push_app ts x ra
  rw [ee1] at st1
  exact ⟨b, o1.bl, hq _ _ _ _ w3 st1.cut_app⟩
theorem pt_W {e : Expr} {w : WE} (h : PE X e (tW X.K Fx Wo w)) (he : ∀ whole, isTrue e X.env whole = (do let v ← whole; standAt e.pos; holding [v] (truthy v)) := by intro _; rfl) : PT X e (tWT X.K Fx Wo (wTB w)) := PT.imp wTB_run (pt_val h he)
theorem and_run {t u : WT} : ∀ σ H Q, tWT X.K Fx Wo (wAndT t u) σ H Q → tAnd (tWT X.K Fx Wo t) (tWT X.K Fx Wo u) σ H Q := fun σ H Q h => by
  obtain ⟨F, own, env, ts, Qp, Ep, hf, st, w, hq, hx⟩ := h
  refine ⟨F, own, env, ts, _, Ep, hf, st, w, fun c H1 own1 e1 w1 st1 => ?_, hx⟩
  cases c with
  | true => exact ⟨F, own1, e1, ts, Qp, Ep, hf, st1, w1, hq, hx⟩
  | false => exact hq _ _ _ _ w1 st1
theorem or_run {t u : WT} : ∀ σ H Q, tWT X.K Fx Wo (wOrT t u) σ H Q → tOr (tWT X.K Fx Wo t) (tWT X.K Fx Wo u) σ H Q := fun σ H Q h => by
  obtain ⟨F, own, env, ts, Qp, Ep, hf, st, w, hq, hx⟩ := h
  refine ⟨F, own, env, ts, _, Ep, hf, st, w, fun c H1 own1 e1 w1 st1 => ?_, hx⟩
  cases c with
  | true => exact hq _ _ _ _ w1 st1
  | false => exact ⟨F, own1, e1, ts, Qp, Ep, hf, st1, w1, hq, hx⟩
theorem not_run {t : WT} : ∀ σ H Q, tWT X.K Fx Wo (wNotT t) σ H Q → tNot (tWT X.K Fx Wo t) σ H Q := fun σ H Q h => by
  obtain ⟨F, own, env, ts, Qp, Ep, hf, st, w, hq, hx⟩ := h
  exact ⟨F, own, env, ts, _, Ep, hf, st, w, fun c H1 own1 e1 w1 st1 => hq _ _ _ _ w1 st1, hx⟩
theorem pw_Wand1 {a : Expr} {t : WT} (ha : PT X a (tWT X.K Fx Wo t)) : PW X (.BoolOp .And [a] pos) (tWT X.K Fx Wo t) := pw_and1 ha
theorem pw_Wor1 {a : Expr} {t : WT} (ha : PT X a (tWT X.K Fx Wo t)) : PW X (.BoolOp .Or [a] pos) (tWT X.K Fx Wo t) := pw_or1 ha
theorem pw_Wand {a b : Expr} {rest : List Expr} {t u : WT} (ha : PT X a (tWT X.K Fx Wo t)) (hb : PW X (.BoolOp .And (b :: rest) pos) (tWT X.K Fx Wo u)) : PW X (.BoolOp .And (a :: b :: rest) pos) (tWT X.K Fx Wo (wAndT t u)) := PW.imp and_run (pw_and ha hb)
theorem pw_Wor {a b : Expr} {rest : List Expr} {t u : WT} (ha : PT X a (tWT X.K Fx Wo t)) (hb : PW X (.BoolOp .Or (b :: rest) pos) (tWT X.K Fx Wo u)) : PW X (.BoolOp .Or (a :: b :: rest) pos) (tWT X.K Fx Wo (wOrT t u)) := PW.imp or_run (pw_or ha hb)
theorem pt_Wnot {a : Expr} {t : WT} (ha : PT X a (tWT X.K Fx Wo t)) : PT X (.UnaryOp .Not a pos) (tWT X.K Fx Wo (wNotT t)) := PT.imp not_run (pt_not ha)
theorem andV_run {wa wb : WE} : ∀ σ H Q, tW X.K Fx Wo (wAndV wa wb) σ H Q → tAndV (tW X.K Fx Wo wa) (tW X.K Fx Wo wb) σ H Q := fun σ H Q h => by
  obtain ⟨F, own, env, ts, Qp, Ep, hf, st, w, hq, hx⟩ := h
  refine ⟨F, own, env, ts, _, Ep, hf, st, w, fun x H1 own1 ra e1 w1 st1 a1 => ?_, hx⟩
  obtain ⟨b, o, ea, w3⟩ := onBl_of w1
  obtain ⟨_, _, o1⟩ := st1.atS a1 ea
  obtain ⟨ex1, ee1⟩ := push_app ts x ra
  rw [ee1] at st1
  refine ⟨b, o1.bl, ?_⟩
  cases b with
  | true => exact ⟨F, _, e1, ts, Qp, Ep, hf, st1.cut_app, w3, hq, hx⟩
  | false => exact hq _ _ _ (.tm ⟨.bl false, .sh⟩) _ w3 (st1.cut_app.push_sh (.bl false)) .last
theorem orV_run {wa wb : WE} : ∀ σ H Q, tW X.K Fx Wo (wOrV wa wb) σ H Q → tOrV (tW X.K Fx Wo wa) (tW X.K Fx Wo wb) σ H Q := fun σ H Q h => by
  obtain ⟨F, own, env, ts, Qp, Ep, hf, st, w, hq, hx⟩ := h
  refine ⟨F, own, env, ts, _, Ep, hf, st, w, fun x H1 own1 ra e1 w1 st1 a1 => ?_, hx⟩
  obtain ⟨b, o, ea, w3⟩ := onBl_of w1
  obtain ⟨_, _, o1⟩ := st1.atS a1 ea
  obtain ⟨ex1, ee1⟩ := push_app ts x ra
  rw [ee1] at st1
  refine ⟨b, o1.bl, ?_⟩
  cases b with
  | true => exact hq _ _ _ (.tm ⟨.bl true, .sh⟩) _ w3 (st1.cut_app.push_sh (.bl true)) .last
  | false => exact ⟨F, _, e1, ts, Qp, Ep, hf, st1.cut_app, w3, hq, hx⟩
theorem notV_run {wa : WE} : ∀ σ H Q, tW X.K Fx Wo (wNotV wa) σ H Q → tNotV (tW X.K Fx Wo wa) σ H Q := fun σ H Q h => by
  obtain ⟨F, own, env, ts, Qp, Ep, hf, st, w, hq, hx⟩ := h
  refine ⟨F, own, env, ts, _, Ep, hf, st, w, fun x H1 own1 ra e1 w1 st1 a1 => ?_, hx⟩
  obtain ⟨b, o, ea, w3⟩ := onBl_of w1
  obtain ⟨_, _, o1⟩ := st1.atS a1 ea
  obtain ⟨ex1, ee1⟩ := push_app ts x ra
  rw [ee1] at st1
  exact ⟨b, o1.bl, hq _ _ _ (.tm ⟨.bl (!b), .sh⟩) _ w3 (st1.cut_app.push_sh (.bl _)) .last⟩
theorem ifE_run {t : WT} {wa wb : WE} : ∀ σ H Q, tW X.K Fx Wo (wIfE t wa wb) σ H Q → tIf (tWT X.K Fx Wo t) (tW X.K Fx Wo wa) (tW X.K Fx Wo wb) σ H Q := fun σ H Q h => by
  obtain ⟨F, own, env, ts, Qp, Ep, hf, st, w, hq, hx⟩ := h
  refine ⟨F, own, env, ts, _, Ep, hf, st, w, fun c H1 own1 e1 w1 st1 => ?_, hx⟩
  cases c with
  | true => exact ⟨F, own1, e1, ts, Qp, Ep, hf, st1, w1, hq, hx⟩
  | false => exact ⟨F, own1, e1, ts, Qp, Ep, hf, st1, w1, hq, hx⟩
theorem pe_Wone {a : Expr} {op} {w : WE} (ha : PE X a (tW X.K Fx Wo w)) : PE X (.BoolOp op [a] pos) (tW X.K Fx Wo w) := pe_one ha
theorem pe_Wand {a b : Expr} {rest : List Expr} {wa wb : WE} (ha : PE X a (tW X.K Fx Wo wa)) (hb : PE X (.BoolOp .And (b :: rest) pos) (tW X.K Fx Wo wb)) : PE X (.BoolOp .And (a :: b :: rest) pos) (tW X.K Fx Wo (wAndV wa wb)) := PE.imp andV_run (pe_and ha hb)
theorem pe_Wor {a b : Expr} {rest : List Expr} {wa wb : WE} (ha : PE X a (tW X.K Fx Wo wa)) (hb : PE X (.BoolOp .Or (b :: rest) pos) (tW X.K Fx Wo wb)) : PE X (.BoolOp .Or (a :: b :: rest) pos) (tW X.K Fx Wo (wOrV wa wb)) := PE.imp orV_run (pe_or ha hb)
theorem pe_Wnot {a : Expr} {wa : WE} (ha : PE X a (tW X.K Fx Wo wa)) : PE X (.UnaryOp .Not a pos) (tW X.K Fx Wo (wNotV wa)) := PE.imp notV_run (pe_not ha)
theorem pe_WifE {c a b : Expr} {t : WT} {wa wb : WE} (hc : PT X c (tWT X.K Fx Wo t)) (ha : PE X a (tW X.K Fx Wo wa)) (hb : PE X b (tW X.K Fx Wo wb)) : PE X (.IfExp c a b pos) (tW X.K Fx Wo (wIfE t wa wb)) := PE.imp ifE_run (pe_ifExp hc ha hb)
end

/-! ### statements -/
structure WD where
  nx : Env → Prop
  rt : R → Env → Prop
  bk : Env → Prop := fun _ => False
  ct : Env → Prop := fun _ => False
  ex : XQ := fun _ _ => False
abbrev WS := WD → Env → Prop
section
variable (K : PySem.W.Frag) (Fx : List Nat) (Wo : WX)
structure SOk (F : Fm) (ts : List (V × Cl)) (D : Ends) (W : WD) : Prop where
  nx : ∀ σ env own H, W.nx env → St K F own σ env ts H → D.nx σ H
  rt : ∀ σ v H own r env, W.rt r env → St K F own σ env (push ts v r) H → At σ ts.length (push ts v r) r v → D.rt v H
  bk : ∀ σ env own H, W.bk env → St K F own σ env ts H → D.bk σ H
  ct : ∀ σ env own H, W.ct env → St K F own σ env ts H → D.ct σ H
  ex : ∀ σ, XOk K Wo F σ ts W.ex
def tWS (W : WS) : TS := fun D σ H => ∃ (F : Fm) (own : Addr → Option Pth) (env : Env) (ts : List (V × Cl)) (E : WD), F.fx.map (·.1) = Fx ∧ St K F own σ env ts H ∧ W E env ∧ SOk K Wo F ts D E
end
def wNext : WS := fun D env => D.nx env
def wSeq (a b : WS) : WS := fun D env => a { D with nx := b D } env
def wBrk : WS := fun D env => D.bk env
def wCnt : WS := fun D env => D.ct env
def wDrop (w : WE) : WS := fun D env => w env (fun _ e1 => D.nx e1) D.ex
def onE (a : Option Env) (k : Env → Prop) : Prop := match a with
  | some a => k a
  | none => False
theorem onE_of {a : Option Env} {k : Env → Prop} (h : onE a k) : ∃ c, a = some c ∧ k c := by
  cases a with
  | none => exact h.elim
  | some c => exact ⟨c, rfl, h⟩
def wAsg (i : Nat) (w : WE) : WS := fun D env => w env (fun r e1 => onE (asg e1 i r) D.nx) D.ex
def wRet (w : WE) : WS := fun D env => w env D.rt D.ex
def wRetN : WS := fun D env => D.rt (.tm ⟨.non, .sh⟩) env
def wIf (t : WT) (a b : WS) : WS := fun D env => t env (fun c e1 => if c = true then a D e1 else b D e1) D.ex
section
variable {X : Cx} {Fx : List Nat} {Wo : WX} {pos : Pos}
theorem PS.imp {st : Stmt} {t t' : TS} (h : ∀ D σ H, t' D σ H → t D σ H) (p : PS X st t) : PS X st t' := ⟨fun pins s σ H D I q => p.run pins s σ H D I (h _ _ _ q)⟩
theorem PSs.imp {st : List Stmt} {t t' : TS} (h : ∀ D σ H, t' D σ H → t D σ H) (p : PSs X st t) : PSs X st t' := ⟨fun pins s σ H D I q => p.run pins s σ H D I (h _ _ _ q)⟩
theorem next_run : ∀ D σ H, tWS X.K Fx Wo wNext D σ H → tNext D σ H := fun D σ H h => by
  obtain ⟨F, own, env, ts, E, hf, st, w, ok⟩ := h
  exact ok.nx _ _ _ _ w st
theorem seq_run {a b : WS} : ∀ D σ H, tWS X.K Fx Wo (wSeq a b) D σ H → tSeq (tWS X.K Fx Wo a) (tWS X.K Fx Wo b) D σ H := fun D σ H h => by
  obtain ⟨F, own, env, ts, E, hf, st, w, ok⟩ := h
  exact ⟨F, own, env, ts, { E with nx := b E }, hf, st, w, ⟨fun σ1 e1 own1 H1 w1 st1 => ⟨F, own1, e1, ts, E, hf, st1, w1, ok⟩, ok.rt, ok.bk, ok.ct, ok.ex⟩⟩
theorem pss_Wnil : PSs X [] (tWS X.K Fx Wo wNext) := PSs.imp next_run pss_nil
theorem pss_Wcons {st : Stmt} {rest : List Stmt} {a b : WS} (h1 : PS X st (tWS X.K Fx Wo a)) (h2 : PSs X rest (tWS X.K Fx Wo b)) : PSs X (st :: rest) (tWS X.K Fx Wo (wSeq a b)) := PSs.imp seq_run (pss_cons h1 h2)
theorem pss_Wone {st : Stmt} {a : WS} (h1 : PS X st (tWS X.K Fx Wo a)) : PSs X [st] (tWS X.K Fx Wo a) := pss_one h1
theorem ps_Wbreak : PS X (.Break pos) (tWS X.K Fx Wo wBrk) := PS.imp (fun D σ H h => by
  obtain ⟨F, own, env, ts, E, hf, st, w, ok⟩ := h
  exact ok.bk _ _ _ _ w st) ps_break
theorem ps_Wcont : PS X (.Continue pos) (tWS X.K Fx Wo wCnt) := PS.imp (fun D σ H h => by
  obtain ⟨F, own, env, ts, E, hf, st, w, ok⟩ := h
  exact ok.ct _ _ _ _ w st) ps_continue
theorem ps_Wpass : PS X (.Pass pos) (tWS X.K Fx Wo wNext) := PS.imp next_run ps_pass
theorem ps_Wdoc {x j pos'} : PS X (.Expr (.Constant (.str x) j pos) pos') (tWS X.K Fx Wo wNext) := PS.imp next_run ps_doc
theorem st_uncut {F : Fm} {own : Addr → Option Pth} {σ : L2.St} {env : Env} {ts : List (V × Cl)} {H : Hp} {v : V} {r : R} (st : St X.K F own σ env (push ts v r) H) : ∃ own', St X.K F own' σ env ts H := by
  cases r with
  | pk i => exact ⟨own, st⟩
  | tm c => exact ⟨_, st.cut_app⟩
theorem ps_Wexpr {e : Expr} {w : WE} (he : PE X e (tW X.K Fx Wo w)) (hs : swapsWith e none pos.line X.env = pure false := by rfl) : PS X (.Expr e pos) (tWS X.K Fx Wo (wDrop w)) := PS.imp (fun D σ H h => by
  obtain ⟨F, own, env, ts, E, hf, st, w, ok⟩ := h
  refine ⟨F, own, env, ts, _, E.ex, hf, st, w, fun v H1 own1 r e1 w1 st1 a1 => ?_, ok.ex σ⟩
  obtain ⟨own2, st2⟩ := st_uncut st1
  exact ok.nx _ _ _ _ w1 st2) (ps_expr he hs)
theorem asg_run {i : Nat} {w : WE} (hi : i ∉ Fx) : ∀ D σ H, tWS X.K Fx Wo (wAsg i w) D σ H → tAsg (tW X.K Fx Wo w) (gName i) D σ H := fun D σ H h => by
  obtain ⟨F, own, env, ts, E, hf, st, w, ok⟩ := h
  refine ⟨F, own, env, ts, _, E.ex, hf, st, w, fun v H1 own1 r e1 w1 st1 a1 => ?_, ok.ex σ⟩
  obtain ⟨e2, ee, w2⟩ := onE_of w1
  obtain ⟨own2, st2⟩ := st1.asg a1 (by rw [hf]; exact hi) ee
  exact ok.nx _ _ _ _ w2 st2
theorem ps_Wset {i : Nat} {x : Str} {e : Expr} {w : WE} {pos' : Pos} (hi' : i ∉ Fx) (hN : X.N.Nodup) (hi : X.N[i]? = some x) (hx : Loc X.env.scope x) (he : PE X e (tW X.K Fx Wo w)) (hs : swapsWith e (some (.Name x pos')) pos.line X.env = pure false := by rfl) (hf : X.fn x = true ∨ X.env.scope.names.lookup x = some .local := by first | exact .inl rfl | exact .inr rfl | assumption) :
    PS X (.Assign [.Name x pos'] e pos) (tWS X.K Fx Wo (wAsg i w)) := PS.imp (asg_run hi') (ps_set hN hi hx he hs hf)
theorem ps_Wret {e : Expr} {w : WE} (he : PE X e (tW X.K Fx Wo w)) : PS X (.Return (some e) pos) (tWS X.K Fx Wo (wRet w)) := PS.imp (fun D σ H h => by
  obtain ⟨F, own, env, ts, E, hf, st, w, ok⟩ := h
  exact ⟨F, own, env, ts, _, E.ex, hf, st, w, fun v H1 own1 r e1 w1 st1 a1 => ok.rt _ _ _ _ _ _ w1 st1 a1, ok.ex σ⟩) (ps_ret he)
theorem ps_WretN : PS X (.Return none pos) (tWS X.K Fx Wo wRetN) := PS.imp (fun D σ H h => by
  obtain ⟨F, own, env, ts, E, hf, st, w, ok⟩ := h
  exact ok.rt _ _ _ _ _ _ w (st.push_sh .non) .last) ps_retN
theorem if_run {t : WT} {a b : WS} : ∀ D σ H, tWS X.K Fx Wo (wIf t a b) D σ H → tIfS (tWT X.K Fx Wo t) (tWS X.K Fx Wo a) (tWS X.K Fx Wo b) D σ H := fun D σ H h => by
  obtain ⟨F, own, env, ts, E, hf, st, w, ok⟩ := h
  refine ⟨F, own, env, ts, _, E.ex, hf, st, w, fun c H1 own1 e1 w1 st1 => ?_, ok.ex σ⟩
  cases c with
  | true => exact ⟨F, own1, e1, ts, E, hf, st1, w1, ok⟩
  | false => exact ⟨F, own1, e1, ts, E, hf, st1, w1, ok⟩
theorem ps_Wif {c : Expr} {a b : List Stmt} {t : WT} {wa wb : WS} (hc : PT X c (tWT X.K Fx Wo t)) (ha : PSs X a (tWS X.K Fx Wo wa)) (hb : PSs X b (tWS X.K Fx Wo wb)) : PS X (.If c a b pos) (tWS X.K Fx Wo (wIf t wa wb)) := PS.imp if_run (ps_if hc ha hb)
end
end Py
set_option Elab.async false
set_option linter.all false
set_option maxRecDepth 100000
set_option maxHeartbeats 4000000
/-! Py, part D: defs and calls. -/
namespace Py
open PySem PySem.Spec PyProof.Rows L2

/-- what a def does, over cells: the arguments; the wish of the result and of the arguments behind; the wish of an exception -/
abbrev SF := List Cl → (Cl → List Cl → Prop) → (Xc → List Cl → Prop) → Prop
/-- the arguments' cells lie at their roots -/
abbrev ArgsAt (K : PySem.W.Frag) (own : Addr → Option Pth) (H : Hp) (vs : List V) (cs : List Cl) : Prop := ∀ (j : Nat) (v : V) (c : Cl), vs[j]? = some v → cs[j]? = some c → Own K own H v c.d c.o [0, j]
/-- the heap at a call -/
structure Ent (own : Addr → Option Pth) (H : Hp) : Prop where
  alive : ∀ a p, own a = some p → ∃ o, H a = some o
  root : ∀ a p, own a = some p → ∃ k i r, p = k :: i :: r
  ent : ∀ a q, own a = some q → (∃ r, q = 0 :: r) ∨ ∃ r, q = 2 :: r
def spW (K : PySem.W.Frag) (S : SF) : Sp := fun vs H Q E => ∃ (own : Addr → Option Pth) (cs : List Cl) (Qp : Cl → List Cl → Prop) (Ep : Xc → List Cl → Prop), Ent own H ∧ ArgsAt K own H vs cs ∧ vs.length = cs.length ∧ S cs Qp Ep ∧
  (∀ z H' own' c cs', Qp c cs' → Frm ⟨own, H, []⟩ own' H' → cs'.length = cs.length → ArgsAt K own' H' vs cs' → Own K own' H' z c.d c.o [1, 0] → Q z H') ∧
  (∀ x cs' own' cls d H', Ep x cs' → Frm ⟨own, H, []⟩ own' H' → cs'.length = cs.length → ArgsAt K own' H' vs cs' → XRep K own' H' x cls d → E cls d H')

/-! ### roots of the arguments -/
def roots : Nat → List R → List (Nat × Nat)
  | _, [] => []
  | n, .pk i :: rs => (0, i) :: roots n rs
  | n, .tm _ :: rs => (1, n) :: roots (n + 1) rs
def ixL : List (Nat × Nat) → Nat × Nat → Option Nat
  | [], _ => none
  | x :: xs, y => if x = y then some 0 else (ixL xs y).map (· + 1)
theorem ixL_some : ∀ {L : List (Nat × Nat)} {y : Nat × Nat} {j : Nat}, ixL L y = some j → L[j]? = some y
  | [], _, _, h => by cases h
  | x :: xs, y, j, h => by
    unfold ixL at h
    split at h
    · cases h; rename_i e; rw [e]; rfl
    · cases q : ixL xs y with
      | none => rw [q] at h; cases h
      | some k =>
        rw [q] at h
        cases (Option.some.inj h)
        simpa using ixL_some q
theorem ixL_first : ∀ {L : List (Nat × Nat)} {y : Nat × Nat} {j : Nat}, L[j]? = some y → (∀ i, i < j → L[i]? ≠ some y) → ixL L y = some j
  | [], _, _, h, _ => by simp at h
  | x :: xs, y, 0, h, _ => by
    simp at h
    unfold ixL
    rw [if_pos h]
  | x :: xs, y, j + 1, h, f => by
    unfold ixL
    rw [if_neg (fun e => f 0 (Nat.succ_pos _) (by simp [e])), ixL_first (j := j) (by simpa using h) fun i hi => by
      have := f (i + 1) (by omega)
      simpa using this]
    rfl
theorem ixL_none {L : List (Nat × Nat)} {y : Nat × Nat} (h : ∀ j : Nat, L[j]? ≠ some y) : ixL L y = none := by
  cases q : ixL L y with
  | none => rfl
  | some j => exact absurd (ixL_some q) (h j)
theorem roots_len : ∀ (n : Nat) (rs : List R), (roots n rs).length = rs.length
  | _, [] => rfl
  | n, .pk i :: rs => by simp [roots, roots_len n rs]
  | n, .tm _ :: rs => by simp [roots, roots_len (n + 1) rs]
theorem roots_pk : ∀ {rs : List R} {n j i : Nat}, rs[j]? = some (.pk i) → (roots n rs)[j]? = some (0, i)
  | [], _, _, _, h => by simp at h
  | .pk i' :: rs, n, 0, i, h => by simp at h; subst h; rfl
  | .tm _ :: rs, n, 0, i, h => by simp at h
  | .pk i' :: rs, n, j + 1, i, h => by simpa [roots] using roots_pk (n := n) (by simpa using h)
  | .tm _ :: rs, n, j + 1, i, h => by simpa [roots] using roots_pk (n := n + 1) (by simpa using h)
theorem roots_zero : ∀ {rs : List R} {n j i : Nat}, (roots n rs)[j]? = some (0, i) → rs[j]? = some (.pk i)
  | [], _, _, _, h => by simp [roots] at h
  | .pk i' :: rs, n, 0, i, h => by simp [roots] at h; subst h; rfl
  | .tm _ :: rs, n, 0, i, h => by simp [roots] at h
  | .pk i' :: rs, n, j + 1, i, h => by simpa using roots_zero (n := n) (by simpa [roots] using h)
  | .tm _ :: rs, n, j + 1, i, h => by simpa using roots_zero (n := n + 1) (by simpa [roots] using h)
theorem roots_tm : ∀ {rs : List R} {n j k i : Nat}, (roots n rs)[j]? = some (k, i) → k ≠ 0 → k = 1 ∧ n ≤ i
  | [], _, _, _, _, h, _ => by simp [roots] at h
  | .pk i' :: rs, n, 0, k, i, h, hk => by simp [roots] at h; exact absurd h.1.symm hk
  | .tm _ :: rs, n, 0, k, i, h, hk => by simp [roots] at h; exact ⟨h.1.symm, Nat.le_of_eq h.2⟩
  | .pk i' :: rs, n, j + 1, k, i, h, hk => roots_tm (n := n) (by simpa [roots] using h) hk
  | .tm _ :: rs, n, j + 1, k, i, h, hk => by
    have := roots_tm (n := n + 1) (rs := rs) (j := j) (by simpa [roots] using h) hk
    exact ⟨this.1, by omega⟩
theorem roots_inj : ∀ {rs : List R} {n j j' k i : Nat}, (roots n rs)[j]? = some (k, i) → (roots n rs)[j']? = some (k, i) → k ≠ 0 → j = j'
  | [], _, _, _, _, _, h, _, _ => by simp [roots] at h
  | .pk i' :: rs, n, 0, j', k, i, h, _, hk => by simp [roots] at h; exact absurd h.1.symm hk
  | .pk i' :: rs, n, j + 1, 0, k, i, _, h, hk => by simp [roots] at h; exact absurd h.1.symm hk
  | .pk i' :: rs, n, j + 1, j' + 1, k, i, h, h', hk => congrArg (· + 1) (roots_inj (n := n) (rs := rs) (j := j) (j' := j') (k := k) (i := i) (by simpa [roots] using h) (by simpa [roots] using h') hk)
  | .tm _ :: rs, n, 0, 0, k, i, h, h', hk => rfl
  | .tm _ :: rs, n, 0, j' + 1, k, i, h, h', hk => by
    have h1 := (roots_tm (n := n + 1) (rs := rs) (j := j') (by simpa [roots] using h') hk).2
    simp [roots] at h
    omega
  | .tm _ :: rs, n, j + 1, 0, k, i, h, h', hk => by
    have h1 := (roots_tm (n := n + 1) (rs := rs) (j := j) (by simpa [roots] using h) hk).2
    simp [roots] at h'
    omega
  | .tm _ :: rs, n, j + 1, j' + 1, k, i, h, h', hk => congrArg (· + 1) (roots_inj (n := n + 1) (rs := rs) (j := j) (j' := j') (k := k) (i := i) (by simpa [roots] using h) (by simpa [roots] using h') hk)
/-- an own cell is lent once -/
def dupOk : List Nat → List R → List Cl → Bool
  | s, .pk i :: rs, c :: cs => (c.o.isSh || !s.contains i) && dupOk (i :: s) rs cs
  | s, .tm _ :: rs, _ :: cs => dupOk s rs cs
  | _, _, _ => true
theorem isSh_eq {o : Ow} (h : o.isSh = true) : o = .sh := by cases o with
  | sh => rfl
  | nd os => cases h
theorem dup_seen : ∀ {s : List Nat} {rs : List R} {cs : List Cl} {j i : Nat} {c : Cl}, dupOk s rs cs = true → rs[j]? = some (.pk i) → cs[j]? = some c → i ∈ s → c.o = .sh
  | s, [], _, _, _, _, _, h, _, _ => by simp at h
  | s, r :: rs, [], _, _, _, _, _, h, _ => by simp at h
  | s, .pk i' :: rs, c' :: cs, 0, i, c, hd, h, hc, hs => by
    simp at h hc
    subst h hc
    unfold dupOk at hd
    simp only [Bool.and_eq_true, Bool.or_eq_true] at hd
    rcases hd.1 with e | e
    · exact isSh_eq e
    · simp [hs] at e
  | s, .tm _ :: rs, c' :: cs, 0, i, c, hd, h, hc, hs => by simp at h
  | s, .pk i' :: rs, c' :: cs, j + 1, i, c, hd, h, hc, hs => by
    unfold dupOk at hd
    simp only [Bool.and_eq_true] at hd
    exact dup_seen hd.2 (by simpa using h) (by simpa using hc) (List.mem_cons_of_mem _ hs)
  | s, .tm _ :: rs, c' :: cs, j + 1, i, c, hd, h, hc, hs => dup_seen (rs := rs) (cs := cs) (j := j) (by unfold dupOk at hd; exact hd) (by simpa using h) (by simpa using hc) hs
theorem dup_two : ∀ {s : List Nat} {rs : List R} {cs : List Cl} {j' j i : Nat} {c : Cl}, dupOk s rs cs = true → j' < j → rs[j']? = some (.pk i) → rs[j]? = some (.pk i) → cs[j]? = some c → c.o = .sh
  | s, [], _, _, _, _, _, _, _, h, _, _ => by simp at h
  | s, r :: rs, [], _, _, _, _, _, _, _, _, h => by simp at h
  | s, r :: rs, c' :: cs, j', 0, i, c, _, hl, _, _, _ => by omega
  | s, .pk i' :: rs, c' :: cs, 0, j + 1, i, c, hd, hl, h', h, hc => by
    simp at h'
    subst h'
    unfold dupOk at hd
    simp only [Bool.and_eq_true] at hd
    exact dup_seen hd.2 (by simpa using h) (by simpa using hc) List.mem_cons_self
  | s, .tm _ :: rs, c' :: cs, 0, j + 1, i, c, hd, hl, h', h, hc => by simp at h'
  | s, .pk i' :: rs, c' :: cs, j' + 1, j + 1, i, c, hd, hl, h', h, hc => by
    unfold dupOk at hd
    simp only [Bool.and_eq_true] at hd
    exact dup_two (j' := j') (j := j) (i := i) hd.2 (by omega) (by simpa using h') (by simpa using h) (by simpa using hc)
  | s, .tm _ :: rs, c' :: cs, j' + 1, j + 1, i, c, hd, hl, h', h, hc => dup_two (rs := rs) (cs := cs) (j' := j') (j := j) (by unfold dupOk at hd; exact hd) (by omega) (by simpa using h') (by simpa using h) (by simpa using hc)
def looks (env : Env) : List R → Option (List Cl)
  | [] => some []
  | r :: rs => (look env r).bind fun c => (looks env rs).map (c :: ·)
theorem looks_get : ∀ {env : Env} {rs : List R} {cs : List Cl}, looks env rs = some cs → rs.length = cs.length ∧ ∀ (j : Nat) (r : R), rs[j]? = some r → ∃ c, cs[j]? = some c ∧ look env r = some c
  | env, [], cs, h => by cases (Option.some.inj h); exact ⟨rfl, fun j r h => by simp at h⟩
  | env, r :: rs, cs, h => by
    unfold looks at h
    cases h1 : look env r with
    | none => rw [h1] at h; cases h
    | some c =>
      cases h2 : looks env rs with
      | none => rw [h1, h2] at h; cases h
      | some cs' =>
        rw [h1, h2] at h
        cases (Option.some.inj h)
        obtain ⟨k1, k2⟩ := looks_get h2
        refine ⟨by simp [k1], fun j r' hj => ?_⟩
        cases j with
        | zero => simp at hj; subst hj; exact ⟨c, rfl, h1⟩
        | succ j => obtain ⟨c', e1, e2⟩ := k2 j r' (by simpa using hj); exact ⟨c', by simpa using e1, e2⟩
/-- the cells that were lent come back -/
def lendBack : List R → List Cl → List Cl → Env → Env
  | .pk i :: rs, c :: cs, c' :: cs', env => lendBack rs cs cs' (if c.o.isSh = true then env else env.set i (some c'))
  | .tm _ :: rs, _ :: cs, _ :: cs', env => lendBack rs cs cs' env
  | _, _, _, env => env
theorem lend_len : ∀ (rs : List R) (cs cs' : List Cl) (env : Env), (lendBack rs cs cs' env).length = env.length
  | [], _, _, env => by unfold lendBack; rfl
  | .pk i :: rs, [], _, env => by unfold lendBack; rfl
  | .pk i :: rs, c :: cs, [], env => by unfold lendBack; rfl
  | .pk i :: rs, c :: cs, c' :: cs', env => by
    unfold lendBack
    rw [lend_len rs cs cs']
    split
    · rfl
    · rw [List.length_set]
  | .tm _ :: rs, [], _, env => by unfold lendBack; rfl
  | .tm _ :: rs, c :: cs, [], env => by unfold lendBack; rfl
  | .tm _ :: rs, c :: cs, c' :: cs', env => by unfold lendBack; exact lend_len rs cs cs' env
theorem lend_get : ∀ {rs : List R} {cs cs' : List Cl} {env : Env} {i : Nat} {x : Cl}, rs.length = cs.length → cs'.length = cs.length → (lendBack rs cs cs' env)[i]? = some (some x) →
    (∃ (j : Nat) (c : Cl), rs[j]? = some (.pk i) ∧ cs[j]? = some c ∧ c.o.isSh = false ∧ cs'[j]? = some x) ∨ (env[i]? = some (some x) ∧ ∀ (j : Nat) (c : Cl), rs[j]? = some (.pk i) → cs[j]? = some c → c.o.isSh = true)
  | [], cs, cs', env, i, x, _, _, h => .inr ⟨by unfold lendBack at h; exact h, fun j c h => by simp at h⟩
  | r :: rs, [], cs', env, i, x, h, _, _ => by simp at h
  | r :: rs, c :: cs, [], env, i, x, _, h, _ => by simp at h
  | .tm _ :: rs, c :: cs, c' :: cs', env, i, x, h1, h2, h => by
    unfold lendBack at h
    rcases lend_get (by simpa using h1) (by simpa using h2) h with ⟨j, d, a1, a2, a3, a4⟩ | ⟨a1, a2⟩
    · exact .inl ⟨j + 1, d, by simpa using a1, by simpa using a2, a3, by simpa using a4⟩
    · refine .inr ⟨a1, fun j d b1 b2 => ?_⟩
      cases j with
      | zero => simp at b1
      | succ j => exact a2 j d (by simpa using b1) (by simpa using b2)
  | .pk i' :: rs, c :: cs, c' :: cs', env, i, x, h1, h2, h => by
    unfold lendBack at h
    rcases lend_get (by simpa using h1) (by simpa using h2) h with ⟨j, d, a1, a2, a3, a4⟩ | ⟨a1, a2⟩
    · exact .inl ⟨j + 1, d, by simpa using a1, by simpa using a2, a3, by simpa using a4⟩
    · have rest : ∀ (hsh : i' = i → c.o.isSh = true) (j : Nat) (d : Cl), (R.pk i' :: rs)[j]? = some (.pk i) → (c :: cs)[j]? = some d → d.o.isSh = true := fun hsh j d b1 b2 => by
        cases j with
        | zero => simp at b1 b2; subst b2; exact hsh b1
        | succ j => exact a2 j d (by simpa using b1) (by simpa using b2)
      by_cases hs : c.o.isSh = true
      · rw [if_pos hs] at a1
        exact .inr ⟨a1, rest fun _ => hs⟩
      · rw [if_neg hs] at a1
        by_cases hi : i' = i
        · subst hi
          have hl : i' < env.length := by have := (List.getElem?_eq_some_iff.mp a1).1; rw [List.length_set] at this; exact this
          rw [List.getElem?_set_self hl] at a1
          simp at a1
          exact .inl ⟨0, c, rfl, rfl, by cases q : c.o.isSh with
            | true => exact absurd q hs
            | false => rfl, by simp [a1]⟩
        · rw [List.getElem?_set_ne hi] at a1
          exact .inr ⟨a1, rest fun z => absurd z hi⟩

def fwd (L : List (Nat × Nat)) (k i : Nat) : Option Pth := match ixL L (k, i) with
  | some j => some [0, j]
  | none => some [2, k, i]
def bwd (L : List (Nat × Nat)) (n k i : Nat) : Option Pth :=
  if k = 0 then (match L[i]? with
    | some (0, i') => some [0, i']
    | _ => none)
  else if k = 1 then (if i = 0 then some [1, n] else none)
  else if k = 2 then some [i] else none
section
variable {K : PySem.W.Frag} {F : Fm} {own own' : Addr → Option Pth} {σ : L2.St} {env : Env} {ts : List (V × Cl)} {H H' : Hp}
theorem pushes_get : ∀ {rs : List R} {vs : List V} {ts : List (V × Cl)} {j : Nat} {c : Cl} {v : V}, rs[j]? = some (.tm c) → vs[j]? = some v → ∃ i, (roots ts.length rs)[j]? = some (1, i) ∧ (pushes ts vs rs)[i]? = some (v, c)
  | [], _, _, _, _, _, h, _ => by simp at h
  | r :: rs, [], _, _, _, _, _, h => by simp at h
  | .tm c' :: rs, v' :: vs, ts, 0, c, v, h, hv => by
    simp at h hv
    subst h hv
    refine ⟨ts.length, rfl, ?_⟩
    show (pushes (push ts v' (.tm c')) vs rs)[ts.length]? = _
    obtain ⟨ex, e⟩ := pushes_app vs rs (push ts v' (.tm c'))
    rw [e]
    unfold push
    rw [List.getElem?_append_left (by simp), List.getElem?_append_right (Nat.le_refl _)]
    simp
  | .pk i :: rs, v' :: vs, ts, 0, c, v, h, hv => by simp at h
  | .tm c' :: rs, v' :: vs, ts, j + 1, c, v, h, hv => by
    obtain ⟨i, h1, h2⟩ := pushes_get (rs := rs) (vs := vs) (ts := push ts v' (.tm c')) (j := j) (by simpa using h) (by simpa using hv)
    refine ⟨i, ?_, h2⟩
    have e : (push ts v' (.tm c')).length = ts.length + 1 := by unfold push; simp
    rw [e] at h1
    simpa [roots] using h1
  | .pk i' :: rs, v' :: vs, ts, j + 1, c, v, h, hv => by
    obtain ⟨i, h1, h2⟩ := pushes_get (rs := rs) (vs := vs) (ts := push ts v' (.pk i')) (j := j) (by simpa using h) (by simpa using hv)
    exact ⟨i, by simpa [roots, push] using h1, h2⟩
theorem paired_get {α β : Type} {P : α → β → Prop} {xs : List α} {ys : List β} (p : Paired P xs ys) {j : Nat} {x : α} {y : β} (hx : xs[j]? = some x) (hy : ys[j]? = some y) : P x y := by
  induction p generalizing j with
  | nil => simp at hx
  | cons h t ih =>
    cases j with
    | zero => simp at hx hy; subst hx hy; exact h
    | succ j => exact ih (by simpa using hx) (by simpa using hy)
/-- where an argument's root lies in the caller -/
theorem arg_root {rs : List R} {vs : List V} {cs : List Cl} (st : St K F own σ env (pushes ts vs rs) H) (ats : Paired (At σ ts.length (pushes ts vs rs)) rs vs) (hl : looks env rs = some cs) {j : Nat} {v : V} {c : Cl} (hv : vs[j]? = some v) (hc : cs[j]? = some c) :
    ∃ k i, (roots ts.length rs)[j]? = some (k, i) ∧ Own K own H v c.d c.o [k, i] ∧ (k = 0 → rs[j]? = some (.pk i) ∧ σ[i]? = some (some v) ∧ env[i]? = some (some c)) := by
  obtain ⟨l1, l2⟩ := looks_get hl
  have hj : j < rs.length := by rw [l1]; exact (List.getElem?_eq_some_iff.mp hc).1
  have hr : rs[j]? = some rs[j] := List.getElem?_eq_getElem hj
  obtain ⟨c', e1, e2⟩ := l2 j _ hr
  rw [hc] at e1
  cases e1
  have a := paired_get ats hr hv
  generalize rs[j] = r at hr e2 a
  cases r with
  | pk i =>
    have h1 := env_some (env := env) (i := i) e2
    have h0 : σ[i]? = some (some v) := by cases a with | pk z => exact z
    obtain ⟨w, h2, h3⟩ := st.cell i c h1
    rw [h0] at h2
    cases h2
    exact ⟨0, i, roots_pk hr, h3, fun _ => ⟨hr, h0, h1⟩⟩
  | tm c' =>
    cases (Option.some.inj e2)
    obtain ⟨i, h1, h2⟩ := pushes_get (ts := ts) hr hv
    exact ⟨1, i, h1, st.tmp i v c h2, fun z => by cases z⟩
theorem fwd_root {L : List (Nat × Nat)} (hr : ∀ a p, own a = some p → ∃ k i r, p = k :: i :: r) {a : Addr} {q : Pth} (h : mapW (fwd L) own a = some q) :
    ∃ k i r, own a = some (k :: i :: r) ∧ ((∃ j, ixL L (k, i) = some j ∧ q = 0 :: j :: r) ∨ (ixL L (k, i) = none ∧ q = 2 :: k :: i :: r)) := by
  obtain ⟨k, i, r, q0, h1, h2, h3⟩ := mw_some hr h
  refine ⟨k, i, r, h1, ?_⟩
  unfold fwd at h2
  split at h2
  · rename_i j e; cases h2; exact .inl ⟨j, e, h3⟩
  · rename_i e; cases h2; exact .inr ⟨e, h3⟩
/-- the heap as the callee meets it -/
theorem St.ent (L : List (Nat × Nat)) (st : St K F own σ env ts H) : Ent (mapW (fwd L) own) H := by
  refine ⟨fun a p e => ?_, fun a p e => ?_, fun a p e => ?_⟩ <;> obtain ⟨k, i, r, h1, h2⟩ := fwd_root st.frm.root e
  · exact st.frm.alive a _ h1
  · rcases h2 with ⟨j, _, rfl⟩ | ⟨_, rfl⟩
    · exact ⟨_, _, _, rfl⟩
    · exact ⟨_, _, _, rfl⟩
  · rcases h2 with ⟨j, _, rfl⟩ | ⟨_, rfl⟩
    · exact .inl ⟨_, rfl⟩
    · exact .inr ⟨_, rfl⟩
theorem St.args {rs : List R} {vs : List V} {cs : List Cl} (st : St K F own σ env (pushes ts vs rs) H) (ats : Paired (At σ ts.length (pushes ts vs rs)) rs vs) (hl : looks env rs = some cs) (hd : dupOk [] rs cs = true) :
    ArgsAt K (mapW (fwd (roots ts.length rs)) own) H vs cs := fun j v c hv hc => by
  obtain ⟨k, i, h1, h2, h3⟩ := arg_root st ats hl hv hc
  obtain ⟨d, o⟩ := c
  cases o with
  | sh =>
    have h2' : Own K own H v d .sh [k, i] := h2
    show Own K _ H v d .sh [0, j]
    cases h2' with
    | sh r => exact .sh (r.mono (Gm_mw _))
  | nd os =>
    have hs : (⟨d, .nd os⟩ : Cl).o = .nd os := rfl
    refine h2.mw ?_
    have e : ixL (roots ts.length rs) (k, i) = some j := ixL_first h1 fun j' hj' z => by
      by_cases hk : k = 0
      · subst hk
        have z1 := (h3 rfl).1
        have z2 := roots_zero z
        have := dup_two hd hj' z2 z1 hc
        rw [hs] at this; cases this
      · have := roots_inj h1 z hk
        omega
    unfold fwd
    rw [e]
theorem gm_call {L : List (Nat × Nat)} {n : Nat} (hr : ∀ a p, own a = some p → ∃ k i r, p = k :: i :: r) (f : Frm ⟨mapW (fwd L) own, H, []⟩ own' H') : ∀ a o, Gm own H a = some o → Gm (mapW (bwd L n) own') H' a = some o := fun a o e => by
  obtain ⟨h1, h2⟩ := Gm_some e
  have h3 := f.keep a o h2 fun r z => by
    have z' : mapW (fwd L) own a = some (0 :: r) := z
    rw [mw_none h1] at z'; cases z'
  refine Gm_of (mw_none ?_) h3
  cases q : own' a with
  | none => rfl
  | some p =>
    rcases f.new a p q with z | ⟨z, z2⟩
    · have z : H a = none := z
      rw [h2] at z; cases z
    · have z' : mapW (fwd L) own a = some z := z2
      rw [mw_none h1] at z'; cases z'
/-- an outer root comes back as it was -/
theorem out_call {L : List (Nat × Nat)} {n k i : Nat} (f : Frm ⟨mapW (fwd L) own, H, []⟩ own' H') (hn : ixL L (k, i) = none) (al : ∀ a p, own a = some p → ∃ o, H a = some o) : ∀ (a : Addr) (r : Pth), own a = some (k :: i :: r) → mapW (bwd L n) own' a = some (k :: i :: r) ∧ H' a = H a := fun a r e => by
  have h0 : mapW (fwd L) own a = some (2 :: k :: i :: r) := mw_of (q := [2, k, i]) e (by unfold fwd; rw [hn])
  have h1 := f.out a _ h0
  refine ⟨mw_of (q := [k]) h1 (by unfold bwd; simp), ?_⟩
  obtain ⟨o, ho⟩ := al a _ e
  rw [ho]
  exact f.keep a o ho fun r z => by
    have z' : mapW (fwd L) own a = some (0 :: r) := z
    rw [h0] at z'; cases z'
theorem frm_call {L : List (Nat × Nat)} {n : Nat} (x : Frm F own H) (f : Frm ⟨mapW (fwd L) own, H, []⟩ own' H') (hL : ∀ (j k i : Nat), L[j]? = some (k, i) → k = 0 ∨ k = 1) : Frm F (mapW (bwd L n) own') H' := by
  have hin : ∀ i, ixL L (2, i) = none := fun i => ixL_none fun j z => by rcases hL j 2 i z with h | h <;> cases h
  have bs : ∀ a q, mapW (bwd L n) own' a = some q → ∃ p, own' a = some p ∧ ((∃ j i r, p = 0 :: j :: r ∧ L[j]? = some (0, i) ∧ q = 0 :: i :: r) ∨ (∃ r, p = 1 :: 0 :: r ∧ q = 1 :: n :: r) ∨ ∃ i r, p = 2 :: i :: r ∧ q = i :: r) := fun a q h => by
    obtain ⟨k, i, r, q0, h1, h2, h3⟩ := mw_some f.root h
    refine ⟨_, h1, ?_⟩
    unfold bwd at h2
    split at h2
    · rename_i hk
      subst hk
      split at h2
      · rename_i i' e; cases h2; exact .inl ⟨i, i', r, rfl, e, h3⟩
      · cases h2
    · split at h2
      · rename_i hk
        subst hk
        split at h2
        · rename_i hi; subst hi; cases h2; exact .inr (.inl ⟨r, rfl, h3⟩)
        · cases h2
      · split at h2
        · rename_i hk; subst hk; cases h2; exact .inr (.inr ⟨i, r, rfl, h3⟩)
        · cases h2
  have fresh : ∀ a, H a = none → F.H0 a = none ∨ ∃ q, F.own0 a = some q := fun a h => by
    cases q : F.H0 a with
    | none => exact .inl rfl
    | some o =>
      cases q2 : F.own0 a with
      | some z => exact .inr ⟨z, rfl⟩
      | none =>
        rw [x.keep a o q fun r z => by rw [q2] at z; cases z] at h
        cases h
  have back2 : ∀ a i r, own' a = some (2 :: i :: r) → own a = some (i :: r) := fun a i r h => by
    have h1 : mapW (fwd L) own a = some (2 :: i :: r) := f.back a _ h
    obtain ⟨k, i', r', h2, h3⟩ := fwd_root x.root h1
    rcases h3 with ⟨j, _, z⟩ | ⟨_, z⟩
    · cases z
    · cases z; exact h2
  refine ⟨fun a o e h => ?_, fun a r e => ?_, fun a r e => ?_, fun a p e => ?_, fun a p e => ?_, fun a p e => ?_, x.ent⟩
  · have h1 := x.keep a o e h
    refine f.keep a o h1 fun r z => ?_
    have z' : mapW (fwd L) own a = some (0 :: r) := z
    obtain ⟨k, i, r', h2, h3⟩ := fwd_root x.root z'
    rcases h3 with ⟨j, h4, _⟩ | ⟨_, h4⟩
    · have h5 := hL j k i (ixL_some h4)
      rcases x.new a _ h2 with h6 | ⟨q, h6⟩
      · rw [e] at h6; cases h6
      · rcases x.ent a q h6 with ⟨r2, rfl⟩ | ⟨r2, rfl⟩
        · exact h r2 h6
        · have h7 := x.out a r2 h6
          rw [h2] at h7
          cases h7
          rcases h5 with h5 | h5 <;> cases h5
    · cases h4
  · have h1 := x.out a r e
    obtain ⟨k, i, r', h2⟩ := x.root a _ h1
    cases h2
    exact (out_call f (hin i) x.alive a _ h1).1
  · obtain ⟨p, h1, h2⟩ := bs a _ e
    rcases h2 with ⟨j, i, r', _, _, h3⟩ | ⟨r', _, h3⟩ | ⟨i, r', h3, h4⟩
    · cases h3
    · cases h3
    · cases h4
      subst h3
      exact x.back a _ (back2 a _ _ h1)
  · obtain ⟨p', h1, _⟩ := bs a _ e
    rcases f.new a _ h1 with z | ⟨z, z2⟩
    · exact fresh a z
    · have z' : mapW (fwd L) own a = some z := z2
      obtain ⟨k, i, r', h2, _⟩ := fwd_root x.root z'
      exact x.new a _ h2
  · obtain ⟨p', h1, _⟩ := bs a _ e
    exact f.alive a _ h1
  · obtain ⟨p', h1, h2⟩ := bs a _ e
    rcases h2 with ⟨j, i, r', _, _, h3⟩ | ⟨r', _, h3⟩ | ⟨i, r', h3, h4⟩
    · exact ⟨_, _, _, h3⟩
    · exact ⟨_, _, _, h3⟩
    · subst h3 h4
      exact x.root a _ (back2 a _ _ h1)
/-- behind a call: the state, without the result -/
theorem St.call {rs : List R} {vs : List V} {cs cs' : List Cl} (st : St K F own σ env (pushes ts vs rs) H) (ats : Paired (At σ ts.length (pushes ts vs rs)) rs vs) (hl : looks env rs = some cs)
    (f : Frm ⟨mapW (fwd (roots ts.length rs)) own, H, []⟩ own' H') (hlen : cs'.length = cs.length) (ha : ArgsAt K own' H' vs cs') :
    St K F (mapW (bwd (roots ts.length rs) ts.length) own') σ (lendBack rs cs cs' env) ts H' := by
  obtain ⟨l1, l2⟩ := looks_get hl
  have hL : ∀ (j k i : Nat), (roots ts.length rs)[j]? = some (k, i) → k = 0 ∨ k = 1 := fun j k i h => by
    by_cases hk : k = 0
    · exact .inl hk
    · exact .inr (roots_tm h hk).1
  have vl : rs.length = vs.length := Paired.length ats
  refine ⟨frm_call st.frm f hL, by rw [lend_len]; exact st.len, fun i c e => ?_, fun k w c e => ?_, st.fix⟩
  · rcases lend_get l1 hlen e with ⟨j, c0, h1, h2, h3, h4⟩ | ⟨h1, h2⟩
    · have hj : j < vs.length := by rw [← vl]; exact (List.getElem?_eq_some_iff.mp h1).1
      have hv : vs[j]? = some vs[j] := List.getElem?_eq_getElem hj
      obtain ⟨k, i', r1, r2, r3⟩ := arg_root st ats hl hv h2
      have r4 := roots_pk (n := ts.length) h1
      rw [r4] at r1
      cases r1
      refine ⟨vs[j], (r3 rfl).2.1, (ha j _ c hv h4).mw ?_⟩
      unfold bwd
      rw [if_pos rfl, r4]
      all_goals rfl
    · obtain ⟨v, h3, h4⟩ := st.cell i c h1
      refine ⟨v, h3, ?_⟩
      cases q : ixL (roots ts.length rs) (0, i) with
      | none => exact h4.moveA (gm_call st.frm.root f) (out_call f q st.frm.alive)
      | some j =>
        have r1 := roots_zero (ixL_some q)
        obtain ⟨c0, e1, e2⟩ := l2 j _ r1
        have e3 : c0 = c := by
          have := env_some (env := env) (i := i) e2
          rw [h1] at this
          cases this
          rfl
        subst e3
        have hsh := isSh_eq (h2 j c0 r1 e1)
        obtain ⟨d0, o0⟩ := c0
        have hsh' : o0 = .sh := hsh
        subst hsh'
        have h4' : Own K own H v d0 .sh [0, i] := h4
        show Own K _ H' v d0 .sh [0, i]
        cases h4' with
        | sh r => exact .sh (r.mono (gm_call st.frm.root f))
  · have hk : k < ts.length := (List.getElem?_eq_some_iff.mp e).1
    obtain ⟨ex, ee⟩ := pushes_app vs rs ts
    have h1 := st.tmp k w c (by rw [ee, List.getElem?_append_left hk]; exact e)
    refine h1.moveA (gm_call st.frm.root f) (out_call f (ixL_none fun j z => ?_) st.frm.alive)
    have := (roots_tm z (by decide)).2
    omega
end
end Py
set_option Elab.async false
set_option linter.all false
set_option maxRecDepth 100000
set_option maxHeartbeats 4000000
/-! Py, part E: a call's rule, a def's rule. -/
namespace Py
open PySem PySem.Spec PyProof.Rows L2

/-- f(..) by what f does; dcs: the defaults that fill up -/
def wCall (S : SF) (dcs : List Cl) (wa : WA) : WE := fun env Q E => wa env (fun rs e1 => onN (looks e1 rs) fun cs => dupOk [] rs cs = true ∧
  S (cs ++ dcs) (fun c cs' => Q (.tm c) (lendBack rs cs (cs'.take cs.length) e1)) (fun x cs' => E x (lendBack rs cs (cs'.take cs.length) e1))) E
abbrev DfAt (K : PySem.W.Frag) (dvs : List V) (dcs : List Cl) : Prop := Paired (fun v (c : Cl) => c.o = .sh ∧ ∀ G, Rep K G v c.d) dvs dcs
section
variable {X : Cx} {Fx : List Nat} {Wo : WX} {pos : Pos}
theorem xrep_mono {K : PySem.W.Frag} {own own' : Addr → Option Pth} {H : Hp} {x : Xc} {cls : Value} {d : Option Addr} (h : ∀ a, own a = none → own' a = none) (r : XRep K own H x cls d) : XRep K own' H x cls d := by
  obtain ⟨cl, dd, fs, h1, h2, h3, h4, h5⟩ := r
  exact ⟨cl, dd, fs, h1, h _ h2, h3, h4, h5.mono fun a o e => let ⟨e1, e2⟩ := Gm_some e; Gm_of (h a e1) e2⟩
theorem args_app {K : PySem.W.Frag} {own : Addr → Option Pth} {H : Hp} {vs dvs : List V} {cs dcs : List Cl} (h : ArgsAt K own H vs cs) (hl : vs.length = cs.length) (hd : DfAt K dvs dcs) : ArgsAt K own H (vs ++ dvs) (cs ++ dcs) := fun j v c hv hc => by
  rcases Nat.lt_or_ge j vs.length with hj | hj
  · rw [List.getElem?_append_left hj] at hv
    rw [List.getElem?_append_left (by omega)] at hc
    exact h j v c hv hc
  · rw [List.getElem?_append_right hj] at hv
    rw [List.getElem?_append_right (by omega)] at hc
    rw [hl] at hv
    have := paired_get hd hv hc
    obtain ⟨d, o⟩ := c
    obtain ⟨e, r⟩ := this
    have e' : o = .sh := e
    subst e'
    exact .sh (r _)
theorem call_run {S : SF} {dvs : List V} {dcs : List Cl} {wa : WA} (hd : DfAt X.K dvs dcs) : ∀ σ H Q, tW X.K Fx Wo (wCall S dcs wa) σ H Q → tCallSD (spW X.K S) dvs (fun σ cls d H => Wo cls d σ H) (tWA X.K Fx Wo wa) σ H Q := fun σ H Q h => by
  obtain ⟨F, own, env, ts, Qp, Ep, hf, st, w, hq, hx⟩ := h
  refine ⟨F, own, env, ts, _, Ep, hf, st, w, fun vs H1 own1 rs e1 w1 st1 a1 => ?_, hx⟩
  obtain ⟨cs, ec, hdup, w2⟩ := onN_of w1
  obtain ⟨l1, _⟩ := looks_get ec
  have hvl : vs.length = cs.length := by rw [← l1]; exact (Paired.length a1).symm
  have hlen : (vs ++ dvs).length = (cs ++ dcs).length := by rw [List.length_append, List.length_append, hvl, Paired.length hd]
  have cut : ∀ {own' : Addr → Option Pth} {H' : Hp} {cs' : List Cl}, cs'.length = (cs ++ dcs).length → ArgsAt X.K own' H' (vs ++ dvs) cs' → (cs'.take cs.length).length = cs.length ∧ ArgsAt X.K own' H' vs (cs'.take cs.length) := fun {own' H' cs'} hl ha => by
    rw [List.length_append] at hl
    refine ⟨by rw [List.length_take]; omega, fun j v c hv hc => ?_⟩
    have hj : j < vs.length := (List.getElem?_eq_some_iff.mp hv).1
    refine ha j v c (by rw [List.getElem?_append_left hj]; exact hv) ?_
    rw [List.getElem?_take_of_lt (by omega)] at hc
    exact hc
  refine ⟨mapW (fwd (roots ts.length rs)) own1, cs ++ dcs, _, _, st1.ent _, args_app (st1.args a1 ec hdup) hvl hd, hlen, w2, fun z H' own' c cs' q f hl ha it => ?_, fun x cs' own' cls d H' q f hl ha xr => ?_⟩
  · obtain ⟨k1, k2⟩ := cut hl ha
    have st2 := st1.call a1 ec f k1 k2
    have it2 : Own X.K (mapW (bwd (roots ts.length rs) ts.length) own') H' z c.d c.o [1, ts.length] := it.mw (by unfold bwd; simp)
    refine hq z H' _ (.tm c) _ q ⟨st2.frm, st2.len, st2.cell, fun k w c' e => ?_, st2.fix⟩ .last
    have e : (ts ++ [(z, c)])[k]? = some (w, c') := e
    rcases Nat.lt_trichotomy k ts.length with h | h | h
    · rw [List.getElem?_append_left h] at e
      exact st2.tmp k w c' e
    · subst h
      rw [List.getElem?_append_right (Nat.le_refl _)] at e
      simp at e
      obtain ⟨rfl, rfl⟩ := e
      exact it2
    · rw [List.getElem?_eq_none (by simp; omega)] at e
      cases e
  · obtain ⟨k1, k2⟩ := cut hl ha
    exact hx x _ _ cls d H' q (st1.call a1 ec f k1 k2) (xrep_mono (fun a e => mw_none e) xr)
theorem pe_Wcall {k : Nat} {f : Addr} {fd : FuncData} {ps : List Str} {S : SF} {dvs : List V} {dcs : List Cl} {ds : List Value} {x : Str} {p : Pos} {e : Expr} {es : List Expr} {wa : WA} (F : FnOk X.prog X.w X.K X.mg X.base (L2.CX X.prog X.w) k f fd ps (spW X.K S)) (hr : Room k X.A) (tk : Takes X Wo) (hg : Gl X x) (hm : X.mg x = some (.ref f)) (hk : PySem.W.keepIn X.K (.ref f) = true)
    (hb : Binds X.K fd ps ds) (hd : Vals dvs ds) (hc : DfAt X.K dvs dcs) (ha : PA X (e :: es) (tWA X.K Fx Wo wa)) (hdb : (x == ("__debug__" : Str)) = false := by decide) (he : starEach (e :: es) X.env = (false, eval e X.env) :: starEach es X.env := by rfl) (hpl : (backTo pos (starEach es X.env)).any (·.1) = false := by rfl) :
    PE X (.Call (.Name x p) (e :: es) [] pos) (tW X.K Fx Wo (wCall S dcs wa)) := PE.imp (call_run hc) (pe_callSD F hr hg hm hk hb hd (fun σ => passAt tk σ) ha hdb he hpl)
end

/-! ### a def -/
/-- the parameters' cells at the entry: one that is stored again is shared -/
def ent0 (Fx : List Nat) : Nat → List Cl → Env
  | _, [] => []
  | j, c :: cs => some (if Fx.contains j then c else ⟨c.d, .sh⟩) :: ent0 Fx (j + 1) cs
def env0 (Fx : List Nat) (n : Nat) (cs : List Cl) : Env := ent0 Fx 0 cs ++ List.replicate (n - cs.length) none
/-- .. and at the end -/
def outs (Fx : List Nat) : Nat → List Cl → Env → Option (List Cl)
  | _, [], _ => some []
  | j, c :: cs, env => (if Fx.contains j then (env[j]?).join else some ⟨c.d, .sh⟩).bind fun c' => (outs Fx (j + 1) cs env).map (c' :: ·)
def retK (Fx : List Nat) (cs : List Cl) (Q : Cl → List Cl → Prop) (r : R) (env : Env) : Prop := match r with
  | .tm c => onN (outs Fx 0 cs env) (Q c)
  | .pk i => on1 (env[i]?).join fun c => if Fx.contains i then onN (outs Fx 0 cs (frz env i)) (Q ⟨c.d, .sh⟩) else onN (outs Fx 0 cs env) (Q c)
def fnWD (Fx : List Nat) (cs : List Cl) (Q : Cl → List Cl → Prop) (E : Xc → List Cl → Prop) : WD where
  nx := fun env => onN (outs Fx 0 cs env) (Q ⟨.non, .sh⟩)
  rt := retK Fx cs Q
  ex := fun x env => onN (outs Fx 0 cs env) (E x)
theorem ent0_get (Fx : List Nat) : ∀ {cs : List Cl} {j i : Nat} {c : Cl}, (ent0 Fx j cs)[i]? = some (some c) → ∃ c0, cs[i]? = some c0 ∧ c = if Fx.contains (j + i) then c0 else ⟨c0.d, .sh⟩
  | [], j, i, c, h => by simp [ent0] at h
  | c0 :: cs, j, 0, c, h => by simp [ent0] at h; exact ⟨c0, rfl, by simp [h]⟩
  | c0 :: cs, j, i + 1, c, h => by
    obtain ⟨c1, h1, h2⟩ := ent0_get Fx (cs := cs) (j := j + 1) (i := i) (by simpa [ent0] using h)
    exact ⟨c1, by simpa using h1, by rw [h2, show j + 1 + i = j + (i + 1) by omega]⟩
theorem ent0_len (Fx : List Nat) : ∀ (cs : List Cl) (j : Nat), (ent0 Fx j cs).length = cs.length
  | [], j => rfl
  | c :: cs, j => by simp [ent0, ent0_len Fx cs (j + 1)]
theorem outs_get (Fx : List Nat) : ∀ {cs : List Cl} {j : Nat} {env : Env} {cs' : List Cl}, outs Fx j cs env = some cs' → cs'.length = cs.length ∧ ∀ (i : Nat) (c' : Cl), cs'[i]? = some c' → (Fx.contains (j + i) = true ∧ env[j + i]? = some (some c')) ∨ (Fx.contains (j + i) = false ∧ ∃ c, cs[i]? = some c ∧ c' = ⟨c.d, .sh⟩)
  | [], j, env, cs', h => by cases (Option.some.inj h); exact ⟨rfl, fun i c' h => by simp at h⟩
  | c :: cs, j, env, cs', h => by
    unfold outs at h
    cases h1 : (if Fx.contains j then (env[j]?).join else some ⟨c.d, .sh⟩) with
    | none => rw [h1] at h; cases h
    | some c1 =>
      cases h2 : outs Fx (j + 1) cs env with
      | none => rw [h1, h2] at h; cases h
      | some cs1 =>
        rw [h1, h2] at h
        cases (Option.some.inj h)
        obtain ⟨k1, k2⟩ := outs_get Fx h2
        refine ⟨by simp [k1], fun i c' hi => ?_⟩
        cases i with
        | zero =>
          simp at hi
          subst hi
          by_cases hF : Fx.contains j = true
          · rw [if_pos hF] at h1
            exact .inl ⟨hF, env_some h1⟩
          · rw [if_neg hF] at h1
            have hF' : Fx.contains j = false := by cases q : Fx.contains j with
              | true => exact absurd q hF
              | false => rfl
            exact .inr ⟨hF', c, rfl, (Option.some.inj h1).symm⟩
        | succ i =>
          have := k2 i c' (by simpa using hi)
          rw [show j + 1 + i = j + (i + 1) by omega] at this
          simpa using this
section
variable {K : PySem.W.Frag} {own own1 : Addr → Option Pth} {H H1 : Hp} {σ1 : L2.St} {env1 : Env} {ts : List (V × Cl)} {vs : List V} {cs cs' : List Cl} {Fx : List Nat}
/-- the frame of a def that is entered -/
def fm0 (Fx : List Nat) (own : Addr → Option Pth) (H : Hp) (vs : List V) : Fm := ⟨dropW (fun k i => k == 0 && !Fx.contains i) own, H, Fx.map fun i => (i, vs.getD i .non)⟩
theorem fm0_fx : (fm0 Fx own H vs).fx.map (·.1) = Fx := by
  show (Fx.map fun i => (i, vs.getD i .non)).map (·.1) = Fx
  rw [List.map_map]
  exact List.map_id Fx
theorem st0 (N : List Str) (en : Ent own H) (ha : ArgsAt K own H vs cs) (hl : vs.length = cs.length) (hN : cs.length ≤ N.length) (hFx : ∀ i ∈ Fx, i < cs.length) : St K (fm0 Fx own H vs) (dropW (fun k i => k == 0 && !Fx.contains i) own) (L2.start N vs) (env0 Fx N.length cs) [] H := by
  refine ⟨⟨fun a o e _ => e, fun a r e => e, fun a r e => e, fun a p e => .inr ⟨p, e⟩, fun a p e => en.alive a p (dw_some' e), fun a p e => en.root a p (dw_some' e), fun a p e => en.ent a p (dw_some' e)⟩, ?_, fun i c e => ?_, fun k v c e => by simp at e, fun i v hi => ?_⟩
  · unfold env0 L2.start
    rw [List.length_append, List.length_append, ent0_len, List.length_map, List.length_replicate, List.length_replicate]
    omega
  · unfold env0 at e
    have hi : i < (ent0 Fx 0 cs).length := by
      rcases Nat.lt_or_ge i (ent0 Fx 0 cs).length with h | h
      · exact h
      · rw [List.getElem?_append_right h] at e
        have := (List.getElem?_eq_some_iff.mp e).2
        simp at this
    rw [List.getElem?_append_left hi] at e
    obtain ⟨c0, h1, h2⟩ := ent0_get Fx e
    rw [Nat.zero_add] at h2
    rw [ent0_len] at hi
    have hv : vs[i]? = some vs[i] := List.getElem?_eq_getElem (by omega)
    refine ⟨vs[i], ?_, ?_⟩
    · unfold L2.start
      rw [List.getElem?_append_left (by rw [List.length_map]; omega), List.getElem?_map, hv]
      rfl
    · have o := ha i _ _ hv h1
      by_cases hF : Fx.contains i = true
      · rw [if_pos hF] at h2
        subst h2
        exact o.stay (by rw [hF]; rfl)
      · rw [if_neg hF] at h2
        subst h2
        have hF' : Fx.contains i = false := by cases q : Fx.contains i with
          | true => exact absurd q hF
          | false => rfl
        exact .sh (o.gone (by rw [hF']; rfl))
  · have hm : (i, v) ∈ Fx.map fun i => (i, vs.getD i .non) := hi
    obtain ⟨j, hj, e⟩ := List.mem_map.mp hm
    cases e
    have hlt : i < vs.length := by rw [hl]; exact hFx i hj
    unfold L2.start
    rw [List.getElem?_append_left (by rw [List.length_map]; exact hlt), List.getElem?_map, List.getElem?_eq_getElem hlt, List.getD_eq_getElem?_getD, List.getElem?_eq_getElem hlt]
    rfl
theorem frm_in {own' : Addr → Option Pth} (x : Frm (fm0 Fx own H vs) own' H1) (en : Ent own H) : Frm ⟨own, H, []⟩ own' H1 := by
  refine ⟨fun a o e h => x.keep a o e fun r z => h r (dw_some' z), fun a r e => ?_, fun a r e => dw_some' (x.back a r e), fun a p e => ?_, x.alive, x.root, en.ent⟩
  · have e' : own a = some (2 :: r) := e
    obtain ⟨k, i, q, e2⟩ := en.root a _ e'
    cases e2
    exact x.out a _ (dw_out e' rfl)
  · rcases x.new a p e with h | ⟨q, h⟩
    · exact .inl h
    · exact .inr ⟨q, dw_some' h⟩
/-- a parameter that was given up at the entry -/
theorem gm_frm {F : Fm} {own' : Addr → Option Pth} (x : Frm F own' H1) : ∀ a o, Gm F.own0 F.H0 a = some o → Gm own' H1 a = some o := fun a o e => by
  obtain ⟨h1, h2⟩ := Gm_some e
  refine Gm_of ?_ (x.keep a o h2 fun r z => by rw [h1] at z; cases z)
  cases q : own' a with
  | none => rfl
  | some p =>
    rcases x.new a p q with z | ⟨z, z2⟩
    · rw [h2] at z; cases z
    · rw [h1] at z2; cases z2
theorem exit_core (en : Ent own H) (ha : ArgsAt K own H vs cs) (hl : vs.length = cs.length) (hFx : ∀ i ∈ Fx, i < cs.length) (st : St K (fm0 Fx own H vs) own1 σ1 env1 ts H1) (ho : outs Fx 0 cs env1 = some cs') {kr ir : Nat} (hk : kr ≠ 2) (hr : ¬ (kr = 0 ∧ Fx.contains ir = true)) :
    ∃ own', Frm ⟨own, H, []⟩ own' H1 ∧ cs'.length = cs.length ∧ ArgsAt K own' H1 vs cs' ∧ (∀ z (c : Cl), Own K own1 H1 z c.d c.o [kr, ir] → Own K own' H1 z c.d c.o [1, 0]) ∧ (∀ a, own1 a = none → own' a = none) := by
  obtain ⟨o1, o2⟩ := outs_get Fx ho
  have ok : GOk (fun k i => if k = kr ∧ i = ir then some [1, 0] else if k = 0 ∧ Fx.contains i = true then some [0, i] else if k = 2 then some [2, i] else none) := by
    refine ⟨fun i => ?_, fun k i q h => ?_⟩
    · show (if 2 = kr ∧ i = ir then some [1, 0] else if (2 : Nat) = 0 ∧ Fx.contains i = true then some [0, i] else if (2 : Nat) = 2 then some [2, i] else none) = some [2, i]
      rw [if_neg (fun z => hk z.1.symm), if_neg (fun z => absurd z.1 (by decide)), if_pos rfl]
    · split at h
      · cases h; exact ⟨1, 0, [], rfl, fun z => by cases z⟩
      · split at h
        · cases h; exact ⟨0, i, [], rfl, fun z => by cases z⟩
        · split at h
          · rename_i e; cases h; exact ⟨2, i, [], rfl, fun _ => e⟩
          · cases h
  have fr := st.frm.mw ok
  refine ⟨_, frm_in fr en, o1, fun j v c' hv hc => ?_, fun z c h => h.mw (by simp), fun a e => mw_none e⟩
  have := o2 j c' hc
  rw [Nat.zero_add] at this
  rcases this with ⟨h1, h2⟩ | ⟨h1, c, h2, h3⟩
  · obtain ⟨w, h3, h4⟩ := st.cell j c' h2
    have hj : j < vs.length := (List.getElem?_eq_some_iff.mp hv).1
    have hm : (j, v) ∈ (fm0 Fx own H vs).fx := by
      refine List.mem_map.mpr ⟨j, by simpa using h1, ?_⟩
      rw [List.getD_eq_getElem?_getD, hv]
      rfl
    have h5 := st.fix j v hm
    rw [h5] at h3
    cases h3
    refine h4.mw ?_
    show (if 0 = kr ∧ j = ir then some [1, 0] else if (0 : Nat) = 0 ∧ Fx.contains j = true then some [0, j] else if (0 : Nat) = 2 then some [2, j] else none) = some [0, j]
    rw [if_neg (fun z => hr ⟨z.1.symm, by rw [← z.2]; exact h1⟩), if_pos ⟨rfl, h1⟩]
  · subst h3
    refine .sh ?_
    have o := (ha j v c hv h2).gone (f := fun k i => k == 0 && !Fx.contains i) (by rw [h1]; rfl)
    exact o.mono (gm_frm fr)
end
section
variable {P : Program} {w : World} {K : PySem.W.Frag} {mg : Str → Option Value} {base : Heap} {x qual : Str} {params : Arguments} {body : List Stmt} {scope : Scope} {dvs : List V} {kws : List (Str × V)} {f : Addr} {fd : FuncData}
/-- THE RULE for a def: its body over the context that it runs in, and the plain law of what that body does -/
theorem fn_W {N ps : List Str} {k : Nat} {S : SF} {Fx : List Nat} {W : WS} (F : FunD K x qual params body scope dvs kws f fd) (Sc : FnScope N ps scope) (hFx : ∀ i ∈ Fx, i < ps.length)
    (hbody : ∀ (cdv : Value) (A : Around) (outer : List PySem.Env) (s : Shared) (H : Hp) (E : XK), Room k (A.deeper (envOfC qual scope s.heap.objs.size f cdv)) →
      Takes (cxOf (L2.CX P w) P w K mg base N qual scope f cdv A outer s H E) (fun cls d _ H => E cls d H) →
      PSs (cxOf (L2.CX P w) P w K mg base N qual scope f cdv A outer s H E) body (tWS K Fx (fun cls d _ H => E cls d H) W))
    (hpure : ∀ cs Q E, S cs Q E → cs.length = ps.length ∧ W (fnWD Fx cs Q E) (env0 Fx N.length cs)) : FnOk P w K mg base (L2.CX P w) (k + 1) f fd ps (spW K S) := by
  refine F.ok Sc (fun vs H Q E h => ?_) (fun cdv A outer s H vs Q E hr h => ⟨_, hbody cdv A outer s H E hr (takes_of rfl rfl rfl rfl), ?_⟩)
  · obtain ⟨own, cs, Qp, Ep, _, _, h3, h4, _⟩ := h
    rw [h3]
    exact (hpure cs Qp Ep h4).1
  · obtain ⟨own, cs, Qp, Ep, en, ha, hl, hS, hq, hx⟩ := h
    obtain ⟨hc, hw⟩ := hpure cs Qp Ep hS
    have hFx' : ∀ i ∈ Fx, i < cs.length := fun i hi => by rw [hc]; exact hFx i hi
    have hN : cs.length ≤ N.length := by
      have := congrArg List.length Sc.pre
      rw [List.length_take] at this
      omega
    refine ⟨fm0 Fx own H vs, _, _, [], fnWD Fx cs Qp Ep, fm0_fx, st0 N en ha hl hN hFx', hw, ⟨fun σ env own1 H1 wn st => ?_, fun σ v H1 own1 r env wr st at_ => ?_, fun σ env own1 H1 z _ => z.elim, fun σ env own1 H1 z _ => z.elim, fun σ x env own1 cls d H1 wx st xr => ?_⟩⟩
    · obtain ⟨cs', e1, q⟩ := onN_of wn
      obtain ⟨own', f1, f2, f3, f4, _⟩ := exit_core en ha hl hFx' st e1 (kr := 1) (ir := 0) (by decide) (by simp)
      exact hq _ H1 own' ⟨.non, .sh⟩ cs' q f1 f2 f3 (f4 _ ⟨.non, .sh⟩ (.sh .non))
    · cases r with
      | tm c =>
        obtain ⟨cs', e1, q⟩ := onN_of wr
        obtain ⟨own', f1, f2, f3, f4, _⟩ := exit_core en ha hl hFx' st e1 (kr := 1) (ir := 0) (by decide) (by simp)
        exact hq v H1 own' c cs' q f1 f2 f3 (f4 _ c (st.tmp 0 v c rfl))
      | pk i =>
        obtain ⟨c, e0, wr⟩ := on1_of wr
        have hσ : σ[i]? = some (some v) := by cases at_ with | pk z => exact z
        by_cases hi : Fx.contains i = true
        · rw [if_pos hi] at wr
          obtain ⟨cs', e1, q⟩ := onN_of wr
          have st' : St K (fm0 Fx own H vs) own1 σ env [] H1 := st
          have rp := St.rep_frz st' hσ e0
          obtain ⟨own', f1, f2, f3, f4, _⟩ := exit_core en ha hl hFx' (st'.frz i) e1 (kr := 1) (ir := 0) (by decide) (by simp)
          exact hq v H1 own' ⟨c.d, .sh⟩ cs' q f1 f2 f3 (f4 _ ⟨c.d, .sh⟩ (.sh rp))
        · rw [if_neg hi] at wr
          obtain ⟨cs', e1, q⟩ := onN_of wr
          obtain ⟨w', h1, h2⟩ := st.cell i c (env_some e0)
          rw [hσ] at h1
          cases h1
          obtain ⟨own', f1, f2, f3, f4, _⟩ := exit_core en ha hl hFx' (show St K (fm0 Fx own H vs) own1 σ env [] H1 from st) e1 (kr := 0) (ir := i) (by decide) (fun z => hi z.2)
          exact hq v H1 own' c cs' q f1 f2 f3 (f4 _ c h2)
    · obtain ⟨cs', e1, q⟩ := onN_of wx
      obtain ⟨own', f1, f2, f3, _, f5⟩ := exit_core en ha hl hFx' st e1 (kr := 1) (ir := 0) (by decide) (by simp)
      exact hx x cs' own' cls d H1 q f1 f2 f3 (xrep_mono f5 xr)
end
end Py
set_option Elab.async false
set_option linter.all false
set_option maxRecDepth 100000
set_option maxHeartbeats 4000000
/-! Py, part F: displays, lists that change, loops, comprehensions. -/
namespace Py
open PySem PySem.Spec PyProof.Rows L2

/-! ### lists of one's own, by places -/
section
variable {K : PySem.W.Frag} {F : Fm} {own own' : Addr → Option Pth} {σ : L2.St} {env : Env} {ts ex : List (V × Cl)} {H H' : Hp} {g : Nat → Nat → Option Pth}
theorem Owns.get : ∀ {vs : List V} {ds : List Dv} {os : List Ow} {p : Pth} {i : Nat}, Owns K own H vs ds os p i → ∀ {j : Nat} {v : V} {d : Dv}, vs[j]? = some v → ds[j]? = some d → Own K own H v d ((os[j]?).getD Ow.sh) (p ++ [i + j])
  | [], ds, os, p, i, _, j, v, d, hv, _ => by simp at hv
  | w :: vs, ds, os, p, i, r, j, v, d, hv, hd => by
    cases r with
    | cons a b =>
      cases j with
      | zero =>
        simp at hv hd
        subst hv hd
        cases os with
        | nil => exact a
        | cons o os => exact a
      | succ j =>
        have := Owns.get b (j := j) (by simpa using hv) (by simpa using hd)
        rw [show i + 1 + j = i + (j + 1) by omega] at this
        cases os with
        | nil => simpa using this
        | cons o os => simpa using this
theorem Owns.of_get : ∀ {vs : List V} {ds : List Dv} {os : List Ow} {p : Pth} {i : Nat}, vs.length = ds.length → (∀ (j : Nat) (v : V) (d : Dv), vs[j]? = some v → ds[j]? = some d → Own K own H v d ((os[j]?).getD Ow.sh) (p ++ [i + j])) → Owns K own H vs ds os p i
  | [], [], os, p, i, _, _ => .nil
  | [], d :: ds, os, p, i, h, _ => by simp at h
  | v :: vs, [], os, p, i, h, _ => by simp at h
  | v :: vs, d :: ds, os, p, i, h, f => by
    have h0 := f 0 v d rfl rfl
    refine .cons ?_ (Owns.of_get (by simpa using h) fun j w e hw he => ?_)
    · cases os with
      | nil => exact h0
      | cons o os => exact h0
    · have := f (j + 1) w e (by simpa using hw) (by simpa using he)
      rw [show i + (j + 1) = i + 1 + j by omega] at this
      cases os with
      | nil => simpa using this
      | cons o os => simpa using this
/-- all shared: none is told -/
def nrm (os : List Ow) : List Ow := if os.all Ow.isSh = true then [] else os
theorem nrm_get (os : List Ow) (j : Nat) : ((nrm os)[j]?).getD Ow.sh = (os[j]?).getD Ow.sh := by
  unfold nrm
  split
  · rename_i h
    cases e : os[j]? with
    | none => simp
    | some o =>
      have := List.all_eq_true.mp h o (List.mem_of_getElem? e)
      simp [isSh_eq this]
  · rfl
def appO (os : List Ow) (n : Nat) (o : Ow) : List Ow := match os, o with
  | [], .sh => []
  | os, o => (os ++ List.replicate (n - os.length) Ow.sh).take n ++ [o]
theorem appO_get (os : List Ow) (n : Nat) (o : Ow) : (∀ j, j < n → ((appO os n o)[j]?).getD Ow.sh = (os[j]?).getD Ow.sh) ∧ ((appO os n o)[n]?).getD Ow.sh = o := by
  unfold appO
  split
  · exact ⟨fun j _ => by simp, by simp⟩
  · have hl : ((os ++ List.replicate (n - os.length) Ow.sh).take n).length = n := by
      rw [List.length_take, List.length_append, List.length_replicate]; omega
    refine ⟨fun j hj => ?_, ?_⟩
    · rw [List.getElem?_append_left (by omega), List.getElem?_take_of_lt hj]
      rcases Nat.lt_or_ge j os.length with h | h
      · rw [List.getElem?_append_left h]
      · rw [List.getElem?_append_right h, List.getElem?_eq_none h]
        cases e : (List.replicate (n - os.length) Ow.sh)[j - os.length]? with
        | none => rfl
        | some x => have := List.mem_of_getElem? e; rw [List.mem_replicate] at this; rw [this.2]; rfl
    · rw [List.getElem?_append_right (by omega), hl, Nat.sub_self]
      rfl
theorem Owns.moveC (hG : ∀ a o, Gm own H a = some o → Gm own' H' a = some o) {p p' : Pth} (h : ∀ (a : Addr) (j : Nat) (r : Pth), own a = some (p ++ j :: r) → own' a = some (p' ++ j :: r) ∧ H' a = H a) : ∀ {vs : List V} {ds : List Dv} {os : List Ow} {i : Nat}, Owns K own H vs ds os p i → Owns K own' H' vs ds os p' i
  | [], _, _, _, r => by cases r; exact .nil
  | v :: vs, _, _, i, r => by
    cases r with
    | cons a b =>
      refine .cons (a.moveA hG fun x r e => ?_) (Owns.moveC hG h b)
      have := h x i r (by rw [List.append_assoc] at e; exact e)
      rw [List.append_assoc]
      exact this
/-- an object of one's own changes: the others stay -/
theorem Own.upd_other {a : Addr} {o' : HO} {kr ir k i : Nat} {v : V} {d : Dv} {o : Ow} (ha : own a = some [kr, ir]) (hne : ¬ (k = kr ∧ i = ir)) (hg : g k i = some [k, i]) (r : Own K own H v d o [k, i]) : Own K (mapW g own) (upd H a o') v d o [k, i] := by
  refine r.moveA (fun b u e => ?_) fun b r e => ⟨mw_of e hg, ?_⟩
  · obtain ⟨h1, h2⟩ := Gm_some e
    have hb : b ≠ a := fun z => by subst z; rw [ha] at h1; cases h1
    exact Gm_of (mw_none h1) (by rw [upd_ne hb]; exact h2)
  · have hb : b ≠ a := fun z => by
      subst z
      rw [ha] at e
      have e1 := (List.cons.inj (Option.some.inj e)).1
      have e2 := (List.cons.inj (List.cons.inj (Option.some.inj e)).2).1
      exact hne ⟨e1.symm, e2.symm⟩
    rw [upd_ne hb]
theorem Gm_upd_own {a : Addr} {o' : HO} {q : Pth} (ha : own a = some q) (hh : ∀ b, own b = none → own' b = none) : ∀ b u, Gm own H b = some u → Gm own' (upd H a o') b = some u := fun b u e => by
  obtain ⟨h1, h2⟩ := Gm_some e
  have hb : b ≠ a := fun z => by subst z; rw [ha] at h1; cases h1
  exact Gm_of (hh b h1) (by rw [upd_ne hb]; exact h2)
theorem Frm.upd {a : Addr} {o' : HO} {kr : Nat} {r : Pth} (x : Frm F own H) (ha : own a = some (kr :: r)) (hk : kr ≠ 2) : Frm F own (upd H a o') := by
  refine ⟨fun b o e h => ?_, x.out, x.back, x.new, fun b p e => ?_, x.root, x.ent⟩
  · have hb : b ≠ a := fun z => by
      subst z
      rcases x.new b _ ha with z | ⟨q, z⟩
      · rw [e] at z; cases z
      · rcases x.ent b q z with ⟨r, rfl⟩ | ⟨r', rfl⟩
        · exact h r z
        · have := x.out b r' z
          rw [ha] at this
          cases this
          exact hk rfl
    rw [upd_ne hb]
    exact x.keep b o e h
  · by_cases hb : b = a
    · subst hb; exact ⟨o', upd_same⟩
    · obtain ⟨u, z⟩ := x.alive b p e
      exact ⟨u, by rw [upd_ne hb]; exact z⟩
/-- the last temporary goes into the place j of a list of one's own -/
def gIn (n : Nat) (p : Pth) (k i : Nat) : Option Pth := if k = 1 ∧ i = n then some p else some [k, i]
theorem gIn_ok (n : Nat) (kr ir j : Nat) (hk : kr ≠ 2) : GOk (gIn n [kr, ir, j]) := by
  refine ⟨fun i => by unfold gIn; rw [if_neg (fun z => absurd z.1 (by decide))], fun k i q h => ?_⟩
  unfold gIn at h
  split at h
  · cases h; exact ⟨kr, ir, [j], rfl, fun z => absurd z hk⟩
  · cases h; exact ⟨k, i, [], rfl, fun z => z⟩
theorem gIn_ne {n : Nat} {p : Pth} {k i : Nat} (h : ¬ (k = 1 ∧ i = n)) : gIn n p k i = some [k, i] := by unfold gIn; rw [if_neg h]
theorem app_own {a : Addr} {kr ir n : Nat} {vs : List V} {xs : List Dv} {os : List Ow} {v : V} {c : Cl} (ha : own a = some [kr, ir]) (hkr : ¬ (kr = 1 ∧ ir = n)) (r : Owns K own H vs xs os [kr, ir] 0) (rt : ∀ a p, own a = some p → ∃ k i r, p = k :: i :: r) (it : Own K own H v c.d c.o [1, n]) :
    Own K (mapW (gIn n [kr, ir, vs.length]) own) (upd H a (.lst (vs ++ [v]))) (.ref a) (.lst (xs ++ [c.d])) (.nd (appO os vs.length c.o)) [kr, ir] := by
  have hl := r.length
  have hgm : ∀ b u, Gm own H b = some u → Gm (mapW (gIn n [kr, ir, vs.length]) own) (upd H a (.lst (vs ++ [v]))) b = some u := Gm_upd_own ha fun b e => mw_none e
  refine .lst ?_ upd_same (Owns.of_get (by simp [hl]) fun j w d hw hd => ?_)
  · have := mw_of (g := gIn n [kr, ir, vs.length]) (r := []) ha (gIn_ne hkr)
    exact this
  · rw [Nat.zero_add]
    have neq : ∀ {b : Addr} {q : Pth}, own b = some q → q ≠ [kr, ir] → b ≠ a := fun {b q} e h z => by
      subst z
      rw [ha] at e
      exact h (Option.some.inj e).symm
    rcases Nat.lt_or_ge j vs.length with hj | hj
    · rw [List.getElem?_append_left hj] at hw
      rw [List.getElem?_append_left (by omega)] at hd
      rw [(appO_get os vs.length c.o).1 j hj]
      have h1 := r.get hw hd
      rw [Nat.zero_add] at h1
      refine h1.moveA hgm fun b q e => ⟨?_, ?_⟩
      · exact mw_of (g := gIn n [kr, ir, vs.length]) (k := kr) (i := ir) (r := j :: q) (q := [kr, ir]) e (gIn_ne hkr)
      · rw [upd_ne (neq e (by simp))]
    · have e0 : j = vs.length := by
        have := (List.getElem?_eq_some_iff.mp hw).1
        simp at this
        omega
      subst e0
      rw [List.getElem?_append_right (Nat.le_refl _)] at hw
      rw [List.getElem?_append_right (by omega), hl] at hd
      simp at hw hd
      subst hw hd
      rw [(appO_get os vs.length c.o).2]
      refine it.moveA hgm fun b q e => ⟨?_, ?_⟩
      · exact mw_of (g := gIn n [kr, ir, vs.length]) (k := 1) (i := n) (r := q) (q := [kr, ir, vs.length]) e (by unfold gIn; rw [if_pos ⟨rfl, rfl⟩])
      · rw [upd_ne (neq e (fun z => by
          have e1 := (List.cons.inj z).1
          have e2 := (List.cons.inj (List.cons.inj z).2).1
          exact hkr ⟨e1.symm, e2.symm⟩))]
/-- x.append(v): a cell's list -/
theorem St.app_cell {i : Nat} {a : Addr} {v : V} {c : Cl} {xs : List Dv} {os : List Ow} (st : St K F own σ env (ts ++ [(v, c)]) H) (e : (env[i]?).join = some ⟨.lst xs, .nd os⟩) (hσ : σ[i]? = some (some (.ref a))) :
    ∃ vs, H a = some (.lst vs) ∧ vs.length = xs.length ∧ St K F (mapW (gIn ts.length [0, i, vs.length]) own) σ (env.set i (some ⟨.lst (xs ++ [c.d]), .nd (appO os xs.length c.o)⟩)) ts (upd H a (.lst (vs ++ [v]))) := by
  obtain ⟨w, h1, h2⟩ := st.cell i _ (env_some e)
  rw [hσ] at h1
  cases h1
  have h2' : Own K own H (.ref a) (.lst xs) (.nd os) [0, i] := h2
  cases h2' with
  | lst e1 e2 q =>
    rename_i vs
    have hl := q.length
    refine ⟨vs, e2, hl, ?_⟩
    have it := st.tmp ts.length v c (by rw [List.getElem?_append_right (Nat.le_refl _)]; simp)
    have ap := app_own e1 (by simp) q st.frm.root it
    rw [hl] at ap ⊢
    have fr : Frm F (mapW (gIn ts.length [0, i, xs.length]) own) (upd H a (.lst (vs ++ [v]))) := by
      refine (st.frm.mw (gIn_ok _ 0 i _ (by decide))).upd (kr := 0) (r := [i]) ?_ (by decide)
      exact mw_of (g := gIn ts.length [0, i, xs.length]) (r := []) e1 (gIn_ne (by simp))
    refine ⟨fr, by rw [List.length_set]; exact st.len, fun j c' ej => ?_, fun k w c' ek => ?_, st.fix⟩
    · by_cases h : j = i
      · subst h
        have hlt : j < env.length := by have := (List.getElem?_eq_some_iff.mp ej).1; rw [List.length_set] at this; exact this
        rw [List.getElem?_set_self hlt] at ej
        simp at ej
        subst ej
        exact ⟨_, hσ, ap⟩
      · rw [List.getElem?_set_ne (Ne.symm h)] at ej
        obtain ⟨w, h3, h4⟩ := st.cell j c' ej
        exact ⟨w, h3, h4.upd_other e1 (by simp [h]) (gIn_ne (by simp))⟩
    · have hk : k < ts.length := (List.getElem?_eq_some_iff.mp ek).1
      have := st.tmp k w c' (by rw [List.getElem?_append_left hk]; exact ek)
      exact this.upd_other e1 (by simp) (gIn_ne (by omega))
/-- .. a temporary's list (a comprehension's) -/
theorem St.app_tmp {a : Addr} {v : V} {c : Cl} {xs : List Dv} {os : List Ow} (st : St K F own σ env ((ts ++ [(.ref a, ⟨.lst xs, .nd os⟩)]) ++ [(v, c)]) H) :
    ∃ vs, H a = some (.lst vs) ∧ vs.length = xs.length ∧ St K F (mapW (gIn (ts.length + 1) [1, ts.length, vs.length]) own) σ env (ts ++ [(.ref a, ⟨.lst (xs ++ [c.d]), .nd (appO os xs.length c.o)⟩)]) (upd H a (.lst (vs ++ [v]))) := by
  have h2 : Own K own H (.ref a) (.lst xs) (.nd os) [1, ts.length] := st.tmp ts.length (.ref a) ⟨.lst xs, .nd os⟩ (by rw [List.append_assoc, List.getElem?_append_right (Nat.le_refl _)]; simp)
  cases h2 with
  | lst e1 e2 q =>
    rename_i vs
    have hl := q.length
    refine ⟨vs, e2, hl, ?_⟩
    have it := st.tmp (ts.length + 1) v c (by rw [List.getElem?_append_right (by simp)]; simp)
    have ap := app_own e1 (by simp) q st.frm.root it
    rw [hl] at ap ⊢
    have fr : Frm F (mapW (gIn (ts.length + 1) [1, ts.length, xs.length]) own) (upd H a (.lst (vs ++ [v]))) := by
      refine (st.frm.mw (gIn_ok _ 1 ts.length _ (by decide))).upd (kr := 1) (r := [ts.length]) ?_ (by decide)
      exact mw_of (g := gIn (ts.length + 1) [1, ts.length, xs.length]) (r := []) e1 (gIn_ne (by simp))
    refine ⟨fr, st.len, fun j c' ej => ?_, fun k w c' ek => ?_, st.fix⟩
    · obtain ⟨w, h3, h4⟩ := st.cell j c' ej
      exact ⟨w, h3, h4.upd_other e1 (by simp) (gIn_ne (by simp))⟩
    · rcases Nat.lt_trichotomy k ts.length with h | h | h
      · rw [List.getElem?_append_left h] at ek
        have := st.tmp k w c' (by rw [List.append_assoc, List.getElem?_append_left h]; exact ek)
        exact this.upd_other e1 (by omega) (gIn_ne (by omega))
      · subst h
        rw [List.getElem?_append_right (Nat.le_refl _)] at ek
        simp at ek
        obtain ⟨rfl, rfl⟩ := ek
        exact ap
      · rw [List.getElem?_eq_none (by simp; omega)] at ek
        cases ek
/-- a cell's list is stored anew, its items shared -/
theorem St.set_lst {i : Nat} {a : Addr} {xs ys : List Dv} {ws : List V} (st : St K F own σ env ts H) (e : (env[i]?).join = some ⟨.lst xs, .nd []⟩) (hσ : σ[i]? = some (some (.ref a))) (r : Reps K (Gm own H) ws ys) :
    St K F own σ (env.set i (some ⟨.lst ys, .nd []⟩)) ts (upd H a (.lst ws)) := by
  obtain ⟨w, h1, h2⟩ := st.cell i _ (env_some e)
  rw [hσ] at h1
  cases h1
  have h2' : Own K own H (.ref a) (.lst xs) (.nd []) [0, i] := h2
  cases h2' with
  | lst e1 e2 q =>
    have idg : mapW (fun k i => some [k, i]) own = own := by
      funext b
      cases eb : own b with
      | none => exact mw_none eb
      | some p =>
        obtain ⟨k, j, r, rfl⟩ := st.frm.root b p eb
        exact mw_of (g := fun k i => some [k, i]) (q := [k, j]) eb rfl
    have oth : ∀ {v : V} {d : Dv} {o : Ow} {k j : Nat}, ¬ (k = 0 ∧ j = i) → Own K own H v d o [k, j] → Own K own (upd H a (.lst ws)) v d o [k, j] := fun {v d o k j} hne r => by
      have := r.upd_other (g := fun k i => some [k, i]) (o' := .lst ws) e1 hne rfl
      rw [idg] at this
      exact this
    refine ⟨st.frm.upd e1 (by decide), by rw [List.length_set]; exact st.len, fun j c' ej => ?_, fun k w c' ek => oth (by simp) (st.tmp k w c' ek), st.fix⟩
    by_cases h : j = i
    · subst h
      have hlt : j < env.length := by have := (List.getElem?_eq_some_iff.mp ej).1; rw [List.length_set] at this; exact this
      rw [List.getElem?_set_self hlt] at ej
      simp at ej
      subst ej
      exact ⟨_, hσ, .lst e1 upd_same (r.mono (Gm_upd_own e1 fun b z => z)).owns⟩
    · rw [List.getElem?_set_ne (Ne.symm h)] at ej
      obtain ⟨w, h3, h4⟩ := st.cell j c' ej
      exact ⟨w, h3, oth (by simp [h]) h4⟩
/-- the cell's list as it lies, flat -/
theorem St.lst_cell {i : Nat} {xs : List Dv} {os : List Ow} (st : St K F own σ env ts H) (e : (env[i]?).join = some ⟨.lst xs, .nd os⟩) : ∃ a vs, σ[i]? = some (some (.ref a)) ∧ H a = some (.lst vs) ∧ vs.length = xs.length ∧ (os = [] → Reps K (Gm own H) vs xs) := by
  obtain ⟨w, h1, h2⟩ := st.cell i _ (env_some e)
  have h2' : Own K own H w (.lst xs) (.nd os) [0, i] := h2
  cases h2' with
  | lst e1 e2 q => exact ⟨_, _, h1, e2, q.length, fun z => by subst z; exact q.reps⟩
end

/-! ### a name's value as a temporary -/
def wFz (w : WE) : WE := fun env Q E => w env (fun r e1 => match r with
  | .tm c => Q (.tm c) e1
  | .pk i => on1 (e1[i]?).join fun c => Q (.tm ⟨c.d, .sh⟩) (frz e1 i)) E
section
variable {X : Cx} {Fx : List Nat} {Wo : WX} {pos : Pos}
theorem fz_run {w : WE} : ∀ σ H Q, tW X.K Fx Wo (wFz w) σ H Q → tW X.K Fx Wo w σ H Q := fun σ H Q h => by
  obtain ⟨F, own, env, ts, Qp, Ep, hf, st, w, hq, hx⟩ := h
  refine ⟨F, own, env, ts, _, Ep, hf, st, w, fun v H1 own1 r e1 w1 st1 a1 => ?_, hx⟩
  cases r with
  | tm c => exact hq _ _ _ _ _ w1 st1 a1
  | pk i =>
    obtain ⟨c, ec, w2⟩ := on1_of w1
    have hσ : σ[i]? = some (some v) := by cases a1 with | pk z => exact z
    have st1' : St X.K F own1 σ e1 ts H1 := st1
    exact hq v H1 _ (.tm ⟨c.d, .sh⟩) _ w2 ((st1'.frz i).push_sh (St.rep_frz st1' hσ ec)) .last
theorem PE.fz {e : Expr} {w : WE} (h : PE X e (tW X.K Fx Wo w)) : PE X e (tW X.K Fx Wo (wFz w)) := PE.imp fz_run h

/-- .. its own parts shared, too -/
def wSh (w : WE) : WE := fun env Q E => w env (fun r e1 => match r with
  | .tm c => Q (.tm ⟨c.d, .sh⟩) e1
  | .pk i => on1 (e1[i]?).join fun c => Q (.tm ⟨c.d, .sh⟩) (frz e1 i)) E
theorem sh_run {w : WE} : ∀ σ H Q, tW X.K Fx Wo (wSh w) σ H Q → tW X.K Fx Wo w σ H Q := fun σ H Q h => by
  obtain ⟨F, own, env, ts, Qp, Ep, hf, st, w, hq, hx⟩ := h
  refine ⟨F, own, env, ts, _, Ep, hf, st, w, fun v H1 own1 r e1 w1 st1 a1 => ?_, hx⟩
  cases r with
  | tm c =>
    have st1' : St X.K F own1 σ e1 (ts ++ [(v, c)]) H1 := st1
    have o1 := st1'.tmp ts.length v c (by rw [List.getElem?_append_right (Nat.le_refl _)]; simp)
    exact hq v H1 _ (.tm ⟨c.d, .sh⟩) _ w1 (st1'.cut_app.push_sh (o1.gone (by simp))) .last
  | pk i =>
    obtain ⟨c, ec, w2⟩ := on1_of w1
    have hσ : σ[i]? = some (some v) := by cases a1 with | pk z => exact z
    have st1' : St X.K F own1 σ e1 ts H1 := st1
    exact hq v H1 _ (.tm ⟨c.d, .sh⟩) _ w2 ((st1'.frz i).push_sh (St.rep_frz st1' hσ ec)) .last
theorem PE.sh {e : Expr} {w : WE} (h : PE X e (tW X.K Fx Wo w)) : PE X e (tW X.K Fx Wo (wSh w)) := PE.imp sh_run h

/-! ### displays -/
def tms : List R → Option (List Cl)
  | [] => some []
  | .tm c :: rs => (tms rs).map (c :: ·)
  | .pk _ :: _ => none
def wLst (wa : WA) : WE := fun env Q E => wa env (fun rs e1 => onN (tms rs) fun cs => cs.length ≤ 100000 ∧ Q (.tm ⟨.lst (cs.map (·.d)), .nd (nrm (cs.map (·.o)))⟩) e1) E
def wTup (wa : WA) : WE := fun env Q E => wa env (fun rs e1 => onN (tms rs) fun cs => cs.length ≤ 100000 ∧ Q (.tm ⟨.tup (cs.map (·.d)), if (cs.map (·.o)).all Ow.isSh = true then .sh else .nd (cs.map (·.o))⟩) e1) E
theorem tms_pushes : ∀ {rs : List R} {cs : List Cl} {vs : List V} {n : Nat} {ts : List (V × Cl)} {σ : L2.St} {ts' : List (V × Cl)}, tms rs = some cs → Paired (At σ n ts') rs vs → vs.length = cs.length ∧ pushes ts vs rs = ts ++ vs.zip cs
  | [], cs, vs, n, ts, σ, ts', h, p => by
    cases (Option.some.inj h)
    cases p
    exact ⟨rfl, by unfold pushes; simp⟩
  | .pk i :: rs, cs, vs, n, ts, σ, ts', h, p => by cases h
  | .tm c :: rs, cs, vs, n, ts, σ, ts', h, p => by
    unfold tms at h
    cases h2 : tms rs with
    | none => rw [h2] at h; cases h
    | some cs' =>
      rw [h2] at h
      cases (Option.some.inj h)
      cases p with
      | cons a t =>
        rename_i v vs
        obtain ⟨k1, k2⟩ := tms_pushes (ts := push ts v (.tm c)) h2 t
        refine ⟨by simp [k1], ?_⟩
        show pushes (push ts v (.tm c)) vs rs = _
        rw [k2]
        unfold push
        simp
/-- the temporaries from n on become the parts of a new one -/
def gDsp (n : Nat) (k i : Nat) : Option Pth := if k = 1 ∧ n ≤ i then some [1, n, i - n] else some [k, i]
theorem gDsp_ok (n : Nat) : GOk (gDsp n) := by
  refine ⟨fun i => by unfold gDsp; rw [if_neg (fun z => absurd z.1 (by decide))], fun k i q h => ?_⟩
  unfold gDsp at h
  split at h
  · cases h; exact ⟨1, n, [i - n], rfl, fun z => by cases z⟩
  · cases h; exact ⟨k, i, [], rfl, fun z => z⟩
theorem dsp_parts {K : PySem.W.Frag} {F : Fm} {own own' : Addr → Option Pth} {σ : L2.St} {env : Env} {ts : List (V × Cl)} {H H' : Hp} {vs : List V} {cs : List Cl} (st : St K F own σ env (ts ++ vs.zip cs) H) (hl : vs.length = cs.length)
    (hG : ∀ a o, Gm (mapW (gDsp ts.length) own) H a = some o → Gm own' H' a = some o) (hm : ∀ a q, mapW (gDsp ts.length) own a = some q → own' a = some q ∧ H' a = H a) (os : List Ow) (ho : ∀ j : Nat, (os[j]?).getD Ow.sh = ((cs.map (·.o))[j]?).getD Ow.sh) :
    Owns K own' H' vs (cs.map (·.d)) os [1, ts.length] 0 := by
  refine Owns.of_get (by rw [List.length_map]; exact hl) fun j v d hv hd => ?_
  rw [Nat.zero_add, ho]
  rw [List.getElem?_map] at hd ⊢
  cases hc : cs[j]? with
  | none => rw [hc] at hd; cases hd
  | some c =>
    rw [hc] at hd
    cases (Option.some.inj hd)
    have h1 := st.tmp (ts.length + j) v c (by
      rw [List.getElem?_append_right (Nat.le_add_right _ _), Nat.add_sub_cancel_left, List.getElem?_zip_eq_some]
      exact ⟨hv, hc⟩)
    have h2 := h1.mw (g := gDsp ts.length) (q := [1, ts.length, j]) (by unfold gDsp; rw [if_pos ⟨rfl, Nat.le_add_right _ _⟩, Nat.add_sub_cancel_left])
    exact h2.moveA hG fun a r e => hm a _ e
theorem st_dsp {K : PySem.W.Frag} {F : Fm} {own : Addr → Option Pth} {σ : L2.St} {env : Env} {ts ex : List (V × Cl)} {H : Hp} (st : St K F own σ env (ts ++ ex) H) : St K F (mapW (gDsp ts.length) own) σ env ts H := by
  refine ⟨st.frm.mw (gDsp_ok _), st.len, fun i c e => ?_, fun k v c e => ?_, st.fix⟩
  · obtain ⟨v, h1, h2⟩ := st.cell i c e
    exact ⟨v, h1, h2.mw (by unfold gDsp; rw [if_neg (fun z => absurd z.1 (by decide))])⟩
  · have hk : k < ts.length := (List.getElem?_eq_some_iff.mp e).1
    refine (st.tmp k v c (by rw [List.getElem?_append_left hk]; exact e)).mw ?_
    unfold gDsp
    rw [if_neg (by omega)]
theorem setO_old {own : Addr → Option Pth} {H : Hp} (al : Alive own H) {p : Addr} {o : HO} {q : Pth} (hp : H p = none) : (∀ a r, own a = some r → setO own p q a = some r ∧ upd H p o a = H a) := fun a r e => by
  have hn := fresh_own al hp
  have ne : a ≠ p := fun z => by subst z; rw [hn] at e; cases e
  exact ⟨by rw [setO_ne ne]; exact e, by rw [upd_ne ne]⟩
theorem lst_run {wa : WA} : ∀ σ H Q, tW X.K Fx Wo (wLst wa) σ H Q → tLst (tWA X.K Fx Wo wa) σ H Q := fun σ H Q h => by
  obtain ⟨F, own, env, ts, Qp, Ep, hf, st, w, hq, hx⟩ := h
  refine ⟨F, own, env, ts, _, Ep, hf, st, w, fun vs H1 own1 rs e1 w1 st1 a1 => ?_, hx⟩
  obtain ⟨cs, ec, hlen, w2⟩ := onN_of w1
  obtain ⟨k1, k2⟩ := tms_pushes (ts := ts) ec a1
  rw [k2] at st1
  have st2 := st_dsp st1
  refine ⟨by rw [k1]; exact Nat.le_trans hlen (by decide), fun p hp => ?_⟩
  have al := st2.frm.alive
  refine fin_W st2 hq (.ref p) _ (setO (mapW (gDsp ts.length) own1) p [1, ts.length]) _ w2 ?_
  have own2 := setO_old (q := [1, ts.length]) (o := .lst vs) al hp
  have parts := dsp_parts st1 k1 (own' := setO (mapW (gDsp ts.length) own1) p [1, ts.length]) (H' := upd H1 p (.lst vs)) (Gm_set_new hp) own2 (nrm (cs.map (·.o))) (nrm_get _)
  refine ⟨Same_upd hp, fun a q e => (own2 a q e).1, fun a q e => ?_, fun a q e => ?_, .lst setO_same upd_same parts⟩
  · by_cases h : a = p
    · subst h; rw [setO_same] at e; cases e; exact .inr ⟨hp, [], rfl⟩
    · rw [setO_ne h] at e; exact .inl e
  · by_cases h : a = p
    · subst h; exact ⟨_, upd_same⟩
    · rw [setO_ne h] at e
      obtain ⟨u, z⟩ := al a q e
      exact ⟨u, by rw [upd_ne h]; exact z⟩
theorem pe_Wlst {es : List Expr} {wa : WA} (h : PA X es (tWA X.K Fx Wo wa)) : PE X (.List es pos) (tW X.K Fx Wo (wLst wa)) := PE.imp lst_run (pe_lst h)
theorem owns_sh {K : PySem.W.Frag} {own : Addr → Option Pth} {H : Hp} {os : List Ow} (ha : os.all Ow.isSh = true) {p : Pth} {i : Nat} : ∀ {vs : List V} {ds : List Dv}, Owns K own H vs ds os p i → Reps K (Gm own H) vs ds := fun {vs ds} r => by
  have : Owns K own H vs ds [] p i := Owns.of_get r.length fun j v d hv hd => by
    have h := r.get hv hd
    cases e : os[j]? with
    | none => rw [e] at h; simpa using h
    | some o =>
      rw [e] at h
      have := isSh_eq (List.all_eq_true.mp ha o (List.mem_of_getElem? e))
      subst this
      simpa using h
  exact this.reps
theorem tup_run {wa : WA} : ∀ σ H Q, tW X.K Fx Wo (wTup wa) σ H Q → tTup (tWA X.K Fx Wo wa) σ H Q := fun σ H Q h => by
  obtain ⟨F, own, env, ts, Qp, Ep, hf, st, w, hq, hx⟩ := h
  refine ⟨F, own, env, ts, _, Ep, hf, st, w, fun vs H1 own1 rs e1 w1 st1 a1 => ?_, hx⟩
  obtain ⟨cs, ec, hlen, w2⟩ := onN_of w1
  obtain ⟨k1, k2⟩ := tms_pushes (ts := ts) ec a1
  rw [k2] at st1
  have st2 := st_dsp st1
  refine ⟨by rw [k1]; exact Nat.le_trans hlen (by decide), fun p hp => ?_⟩
  have al := st2.frm.alive
  have hn := fresh_own al hp
  refine fin_W st2 hq (.ref p) _ (mapW (gDsp ts.length) own1) _ w2 ?_
  have gm : ∀ a o, Gm (mapW (gDsp ts.length) own1) H1 a = some o → Gm (mapW (gDsp ts.length) own1) (upd H1 p (.tup vs)) a = some o := Gm_upd_new hp
  have keep : ∀ a q, mapW (gDsp ts.length) own1 a = some q → mapW (gDsp ts.length) own1 a = some q ∧ upd H1 p (.tup vs) a = H1 a := fun a q e => ⟨e, by rw [upd_ne (fun z => by subst z; rw [hn] at e; cases e)]⟩
  have parts := dsp_parts st1 k1 gm keep (cs.map (·.o)) (fun _ => rfl)
  have tp : SqT X.K (Gm (mapW (gDsp ts.length) own1) (upd H1 p (.tup vs))) p vs := SqT.of (Gm_of hn upd_same)
  refine ⟨Same_upd hp, fun a q e => e, fun a q e => .inl e, fun a q e => ?_, ?_⟩
  · obtain ⟨u, z⟩ := al a q e
    exact ⟨u, Same_upd hp _ _ z⟩
  · show Own X.K _ _ _ (.tup (cs.map (·.d))) (if (cs.map (·.o)).all Ow.isSh = true then .sh else .nd (cs.map (·.o))) _
    by_cases ha : (cs.map (·.o)).all Ow.isSh = true
    · rw [if_pos ha]
      exact .sh (.tup tp (owns_sh ha parts))
    · rw [if_neg ha]
      exact .tup tp parts
theorem pe_Wtup {es : List Expr} {wa : WA} {x1} (h : PA X es (tWA X.K Fx Wo wa)) : PE X (.Tuple es x1 pos) (tW X.K Fx Wo (wTup wa)) := PE.imp tup_run (pe_tup h)
end
end Py
set_option Elab.async false
set_option linter.all false
set_option maxRecDepth 100000
set_option maxHeartbeats 4000000
/-! Py, part G: iterables, loops, comprehensions, lists that change. -/
namespace Py
open PySem PySem.Spec PyProof.Rows L2

/-! ### targets -/
abbrev WTg := Cl → Env → (Env → Prop) → Prop
def tgN (i : Nat) : WTg := fun c e k => k (e.set i (some c))
/-- a target's reading at a new temporary; js: the slots that it stores -/
def TgOk (K : PySem.W.Frag) (Fx : List Nat) (g : TG) (W : WTg) (js : List Nat) : Prop := ∀ (F : Fm) (own : Addr → Option Pth) (σ : L2.St) (env : Env) (ts : List (V × Cl)) (H : Hp) (v : V) (c : Cl) (k : Env → Prop) (Q : L2.St → Hp → Prop), F.fx.map (·.1) = Fx → St K F own σ env (ts ++ [(v, c)]) H → W c env k →
  (∀ σ' own' env', k env' → St K F own' σ' env' ts H → (∀ j, j ∉ js → σ'[j]? = σ[j]?) → σ'.length = σ.length → Q σ' H) → g v σ H Q
theorem tg_name {K : PySem.W.Frag} {Fx : List Nat} {i : Nat} (hi : i ∉ Fx) : TgOk K Fx (gName i) (tgN i) [i] := fun F own σ env ts H v c k Q hf st w q =>
  q _ _ _ w (st.set_tm (by rw [hf]; exact hi)) (fun j hj => List.getElem?_set_ne (fun z => hj (by simp [z]))) (by rw [List.length_set])

/-! ### iterables -/
/-- at each place the iterator J gives the item told, as a new value -/
def ItAt (K : PySem.W.Frag) (J : It) (own : Addr → Option Pth) (H : Hp) (its : List Dv) : Prop := ∀ i : Nat, (∀ d, its[i]? = some d → J.go i H ∧ ∀ x H', J.yld i H x H' → ∀ p0, ∃ own', NewT K p0 own H own' H' x ⟨d, .sh⟩) ∧ (its.length ≤ i → J.stop i H)
abbrev WIt := Env → (List Dv → (Env → Prop) → Env → Prop) → XQ → Prop
def tWI (K : PySem.W.Frag) (Fx : List Nat) (Wo : WX) (W : WIt) : TI := fun σ H R => ∃ (F : Fm) (own : Addr → Option Pth) (env : Env) (ts : List (V × Cl)) (Qp : List Dv → (Env → Prop) → Env → Prop) (Ep : XQ), F.fx.map (·.1) = Fx ∧ St K F own σ env ts H ∧ W env Qp Ep ∧
  (∀ J H' own' env' ex its Ci, Qp its Ci env' → St K F own' σ env' (ts ++ ex) H' → (∀ σ2 env2 own2 ex2 H2, St K F own2 σ2 env2 (ts ++ ex ++ ex2) H2 → Ci env2 → ItAt K J own2 H2 its) → R J H') ∧ XOk K Wo F σ ts Ep
def onSeq (d : Dv) (k : List Dv → Prop) : Prop := match d with
  | .lst xs => k xs
  | .tup xs => k xs
  | .lck xs => k xs
  | .scr ns => k (ns.map Dv.int)
  | _ => False
/-- an expression whose value is walked: a list, a tuple (given up) -/
def onTm (r : R) (k : Cl → Prop) : Prop := match r with
  | .tm c => k c
  | .pk _ => False
def wItE (w : WE) : WIt := fun env Q E => wFz w env (fun r e1 => onTm r fun c => onSeq c.d fun xs => c.o.flat = true ∧ Q xs (fun _ => True) e1) E
/-- a parameter that is walked: it stays the caller's -/
def wItP (i : Nat) : WIt := fun env Q E => on1 (env[i]?).join fun c => onSeq c.d fun xs => c.o.flat = true ∧ Q xs (fun e => (e[i]?).join = some c) env
/-- a text's signs -/
def wItS (w : WE) : WIt := fun env Q E => w env (fun r e1 => on1 (lookS e1 r) fun c => match c.d with
  | .str z => Q (z.cps.toList.map fun k => .str ⟨#[k]⟩) (fun _ => True) e1
  | _ => False) E
def rngD (lo : Int) (n : Nat) : List Dv := (List.range n).map fun i => .int (lo + (i : Nat))
def wItR (wa : WA) : WIt := fun env Q E => wa env (fun rs e1 => onN (looksS e1 rs) fun cs => match cs with
  | [⟨.int j, _⟩] => -(2 ^ 62) ≤ j ∧ j < 2 ^ 62 ∧ Q (rngD 0 j.toNat) (fun _ => True) e1
  | [⟨.int i, _⟩, ⟨.int j, _⟩] => (-(2 ^ 62) ≤ i ∧ i < 2 ^ 62 ∧ -(2 ^ 62) ≤ j ∧ j < 2 ^ 62) ∧ Q (rngD i (j - i).toNat) (fun _ => True) e1
  | _ => False) E
/-- the temporaries between are given up, the last one stays -/
theorem st_mid {K : PySem.W.Frag} {F : Fm} {own : Addr → Option Pth} {σ : L2.St} {env : Env} {ts ex : List (V × Cl)} {H : Hp} {v : V} {c : Cl} (st : St K F own σ env ((ts ++ ex) ++ [(v, c)]) H) : ∃ own', St K F own' σ env (ts ++ [(v, c)]) H := by
  have ok : GOk (fun k i => if k = 1 ∧ i = (ts ++ ex).length then some [1, ts.length] else if k = 1 ∧ ts.length ≤ i then none else some [k, i]) := by
    refine ⟨fun i => by simp, fun k i q h => ?_⟩
    split at h
    · cases h; exact ⟨1, _, [], rfl, fun z => by cases z⟩
    · split at h
      · cases h
      · cases h; exact ⟨k, i, [], rfl, fun z => z⟩
  refine ⟨_, st.frm.mw ok, st.len, fun i c' e => ?_, fun k w c' e => ?_, st.fix⟩
  · obtain ⟨v, h1, h2⟩ := st.cell i c' e
    exact ⟨v, h1, h2.mw (by simp)⟩
  · rcases Nat.lt_trichotomy k ts.length with h | h | h
    · rw [List.getElem?_append_left h] at e
      refine (st.tmp k w c' (by rw [List.append_assoc, List.getElem?_append_left h]; exact e)).mw ?_
      have h1 : ¬ (1 = 1 ∧ k = (ts ++ ex).length) := by rw [List.length_append]; omega
      have h2 : ¬ (1 = 1 ∧ ts.length ≤ k) := by omega
      rw [if_neg h1, if_neg h2]
    · subst h
      rw [List.getElem?_append_right (Nat.le_refl _)] at e
      simp at e
      obtain ⟨rfl, rfl⟩ := e
      refine (st.tmp (ts ++ ex).length v c (by rw [List.getElem?_append_right (Nat.le_refl _)]; simp)).mw ?_
      rw [if_pos ⟨rfl, rfl⟩]
    · rw [List.getElem?_eq_none (by simp; omega)] at e
      cases e
section
variable {X : Cx} {Fx : List Nat} {Wo : WX} {pos : Pos} {tg : Expr}
theorem PI.imp {e : Expr} {t t' : TI} (h : ∀ σ H Q, t' σ H Q → t σ H Q) (p : PI X tg e t) : PI X tg e t' := ⟨fun pins s σ H Q I q => p.run pins s σ H Q I (h _ _ _ q)⟩
/-- a list or a tuple -/
def iSeq (K : PySem.W.Frag) (tl : TE) : TI := fun σ H R => tl σ H fun x H1 => ∃ a, x = .ref a ∧ (((∃ xs, SqL K H1 a xs) ∧ R (Itl K a) H1) ∨ ((∃ xs, SqT K H1 a xs) ∧ R (Itt K a) H1))
theorem pi_seq {l : Expr} {tl : TE} (hl : PE X l tl) : PI X tg l (iSeq X.K tl) := by
  refine ⟨fun pins s σ H R I h => ?_⟩
  refine thn (hl.run pins s σ H _ I h) fun v s1 ⟨x, H1, I1, r1, q1⟩ => ?_
  obtain ⟨a, e, q1⟩ := q1
  subst e
  cases r1
  rcases q1 with ⟨⟨xs, hq⟩, q⟩ | ⟨⟨xs, hq⟩, q⟩
  · obtain ⟨its, rv, p, hz⟩ := I1.list hq
    refine wpAny_pyIter_list p.isList ?_
    refine ⟨s1.heap.objs.size, [s1.heap.objs.size], _, _, H1, rfl, I1.kept (t' := s1.toks) fun b o e => Heap.get?_push_of_some _ e, turn_list a _, ⟨_, Heap.get?_push_size _ rfl, rfl, rfl⟩, fun b hb => ?_, q⟩
    have e : b = s1.heap.objs.size := by simpa using hb
    subst e
    exact I1.fpOk (Nat.le_refl _) (I1.hok.fresh (Nat.le_refl _))
  · obtain ⟨its, rv, p, hz⟩ := I1.tuple hq
    refine wpAny_pyIter_tuple (show s1.heap.IsTuple a its.toArray from p) ?_
    refine ⟨s1.heap.objs.size, [s1.heap.objs.size], _, _, H1, rfl, I1.kept (t' := s1.toks) fun b o e => Heap.get?_push_of_some _ e, turn_tuple a _, ⟨_, Heap.get?_push_size _ rfl, rfl, rfl⟩, fun b hb => ?_, q⟩
    have e : b = s1.heap.objs.size := by simpa using hb
    subst e
    exact I1.fpOk (Nat.le_refl _) (I1.hok.fresh (Nat.le_refl _))
theorem reps_ints {K : PySem.W.Frag} {G : Hp} (ns : List Int) : Reps K G (ns.map V.int) (ns.map Dv.int) := by
  induction ns with
  | nil => exact .nil
  | cons n ns ih => exact .cons (.int n) ih
theorem itAt_lst' {K : PySem.W.Frag} {own : Addr → Option Pth} {H : Hp} {a : Addr} {vs : List V} {xs : List Dv} (al : Alive own H) (e : SqL K H a vs) (r : Reps K (Gm own H) vs xs) : ItAt K (Itl K a) own H xs := fun i => by
  refine ⟨fun d hd => ?_, fun hi => ⟨vs, e, by rw [r.length]; exact hi⟩⟩
  obtain ⟨v, hv, rv⟩ := r.get hd
  refine ⟨⟨vs, v, e, hv⟩, fun x H' y p0 => ?_⟩
  obtain ⟨rfl, y⟩ := y
  have := y vs e
  rw [hv] at this
  cases this
  exact ⟨own, NewT.sh al rv⟩
theorem itAt_tup {K : PySem.W.Frag} {own : Addr → Option Pth} {H : Hp} {a : Addr} {vs : List V} {xs : List Dv} (al : Alive own H) (e : SqT K H a vs) (r : Reps K (Gm own H) vs xs) : ItAt K (Itt K a) own H xs := fun i => by
  refine ⟨fun d hd => ?_, fun hi => ⟨vs, e, by rw [r.length]; exact hi⟩⟩
  obtain ⟨v, hv, rv⟩ := r.get hd
  refine ⟨⟨vs, v, e, hv⟩, fun x H' y p0 => ?_⟩
  obtain ⟨rfl, y⟩ := y
  have := y vs e
  rw [hv] at this
  cases this
  exact ⟨own, NewT.sh al rv⟩
/-- a flat list or tuple as it is walked -/
theorem seq_at {K : PySem.W.Frag} {own : Addr → Option Pth} {H : Hp} {v : V} {d : Dv} {o : Ow} {p : Pth} {xs : List Dv} (al : Alive own H) (r : Own K own H v d o p) (f : o.flat = true) (hd : (d = .lst xs ∨ d = .lck xs ∨ ∃ ns, d = .scr ns ∧ xs = ns.map Dv.int) ∨ d = .tup xs) :
    ∃ a, v = .ref a ∧ (((d = .lst xs ∨ d = .lck xs ∨ ∃ ns, d = .scr ns ∧ xs = ns.map Dv.int) ∧ (∃ vs, SqL K H a vs) ∧ ItAt K (Itl K a) own H xs) ∨ (d = .tup xs ∧ (∃ vs, SqT K H a vs) ∧ ItAt K (Itt K a) own H xs)) := by
  rcases hd with (rfl | rfl | ⟨ns, rfl, rfl⟩) | rfl
  · obtain ⟨a, vs, rfl, e, rs⟩ := r.lstF f
    exact ⟨a, rfl, .inl ⟨.inl rfl, ⟨vs, SqL.of e⟩, itAt_lst' al (SqL.of e) rs⟩⟩
  · obtain ⟨a, vs, rfl, e, rs⟩ := r.lckF
    exact ⟨a, rfl, .inl ⟨.inr (.inl rfl), ⟨vs, e⟩, itAt_lst' al e rs⟩⟩
  · cases r with
    | sh r => cases r with
      | scr e => exact ⟨_, rfl, .inl ⟨.inr (.inr ⟨ns, rfl, rfl⟩), ⟨_, sqL_mono Gm_le e⟩, itAt_lst' al (sqL_mono Gm_le e) (reps_ints ns)⟩⟩
  · obtain ⟨a, vs, rfl, e, rs⟩ := r.tupF f
    exact ⟨a, rfl, .inr ⟨rfl, ⟨vs, sqT_mono Gm_le e⟩, itAt_tup al (sqT_mono Gm_le e) rs⟩⟩
theorem onSeq_of {d : Dv} {k : List Dv → Prop} (h : onSeq d k) : ∃ xs, ((d = .lst xs ∨ d = .lck xs ∨ ∃ ns, d = .scr ns ∧ xs = ns.map Dv.int) ∨ d = .tup xs) ∧ k xs := by
  unfold onSeq at h
  split at h
  · exact ⟨_, .inl (.inl rfl), h⟩
  · exact ⟨_, .inr rfl, h⟩
  · exact ⟨_, .inl (.inr (.inl rfl)), h⟩
  · exact ⟨_, .inl (.inr (.inr ⟨_, rfl, rfl⟩)), h⟩
  · exact h.elim
theorem itE_run {w : WE} : ∀ σ H R, tWI X.K Fx Wo (wItE w) σ H R → iSeq X.K (tW X.K Fx Wo w) σ H R := fun σ H R h => by
  obtain ⟨F, own, env, ts, Qp, Ep, hf, st, w, hq, hx⟩ := h
  refine fz_run σ H _ ⟨F, own, env, ts, _, Ep, hf, st, w, fun v H1 own1 r e1 w1 st1 a1 => ?_, hx⟩
  cases r with
  | pk i => exact w1.elim
  | tm c =>
    obtain ⟨xs, hd, hfl, w3⟩ := onSeq_of w1
    have hat : ∀ σ2 env2 own2 ex2 H2, St X.K F own2 σ2 env2 (ts ++ [(v, c)] ++ ex2) H2 → ∃ k i, Own X.K own2 H2 v c.d c.o [k, i] := fun σ2 env2 own2 ex2 H2 st2 =>
      ⟨1, ts.length, st2.tmp ts.length v c (by rw [List.append_assoc, List.getElem?_append_right (Nat.le_refl _)]; simp)⟩
    have st1' : St X.K F own1 σ e1 (ts ++ [(v, c)]) H1 := st1
    obtain ⟨k, i, o1⟩ := hat σ e1 own1 [] H1 (by rw [List.append_nil]; exact st1')
    obtain ⟨a, rfl, h2⟩ := seq_at st1.frm.alive o1 hfl hd
    refine ⟨a, rfl, ?_⟩
    rcases h2 with ⟨ed, h3, h4⟩ | ⟨ed, h3, h4⟩
    · refine .inl ⟨h3, hq _ H1 own1 e1 [(.ref a, c)] xs _ w3 st1' fun σ2 env2 own2 ex2 H2 st2 _ => ?_⟩
      obtain ⟨k2, i2, o2⟩ := hat σ2 env2 own2 ex2 H2 st2
      obtain ⟨a', ea, h5⟩ := seq_at st2.frm.alive o2 hfl (.inl ed)
      cases ea
      rcases h5 with ⟨_, _, h6⟩ | ⟨ez, _, _⟩
      · exact h6
      · rcases ed with ed | ed | ⟨ns, ed, _⟩ <;> (rw [ed] at ez; cases ez)
    · refine .inr ⟨h3, hq _ H1 own1 e1 [(.ref a, c)] xs _ w3 st1' fun σ2 env2 own2 ex2 H2 st2 _ => ?_⟩
      obtain ⟨k2, i2, o2⟩ := hat σ2 env2 own2 ex2 H2 st2
      obtain ⟨a', ea, h5⟩ := seq_at st2.frm.alive o2 hfl (.inr ed)
      cases ea
      rcases h5 with ⟨ez, _, _⟩ | ⟨_, _, h6⟩
      · rcases ez with ez | ez | ⟨ns, ez, _⟩ <;> (rw [ed] at ez; cases ez)
      · exact h6
theorem itP_run {i : Nat} (hi : i ∈ Fx) : ∀ σ H R, tWI X.K Fx Wo (wItP i) σ H R → iSeq X.K (tVar i) σ H R := fun σ H R h => by
  obtain ⟨F, own, env, ts, Qp, Ep, hf, st, w, hq, hx⟩ := h
  obtain ⟨c, ec, w2⟩ := on1_of w
  obtain ⟨xs, hd, hfl, w3⟩ := onSeq_of w2
  obtain ⟨v, hσ, o1⟩ := st.cell i c (env_some ec)
  have hfix : ∃ v', (i, v') ∈ F.fx := by
    rw [← hf] at hi
    obtain ⟨q, h1, h2⟩ := List.mem_map.mp hi
    exact ⟨q.2, by rw [← h2]; exact h1⟩
  obtain ⟨v', hm⟩ := hfix
  have hv : v' = v := by
    have := st.fix i v' hm
    rw [hσ] at this
    cases this
    rfl
  subst hv
  have hat : ∀ σ2 env2 own2 ex2 H2, St X.K F own2 σ2 env2 (ts ++ [] ++ ex2) H2 → (env2[i]?).join = some c → ∃ k i, Own X.K own2 H2 v' c.d c.o [k, i] := fun σ2 env2 own2 ex2 H2 st2 e2 => by
    obtain ⟨w, h1, h2⟩ := st2.cell i c (env_some e2)
    rw [st2.fix i v' hm] at h1
    cases h1
    exact ⟨_, _, h2⟩
  refine ⟨v', hσ, ?_⟩
  obtain ⟨a, rfl, h2⟩ := seq_at st.frm.alive o1 hfl hd
  refine ⟨a, rfl, ?_⟩
  have st' : St X.K F own σ env (ts ++ []) H := by rw [List.append_nil]; exact st
  rcases h2 with ⟨ed, h3, h4⟩ | ⟨ed, h3, h4⟩
  · refine .inl ⟨h3, hq _ H own env [] xs _ w3 st' fun σ2 env2 own2 ex2 H2 st2 e2 => ?_⟩
    obtain ⟨k2, i2, o2⟩ := hat σ2 env2 own2 ex2 H2 st2 e2
    obtain ⟨a', ea, h5⟩ := seq_at st2.frm.alive o2 hfl (.inl ed)
    cases ea
    rcases h5 with ⟨_, _, h6⟩ | ⟨ez, _, _⟩
    · exact h6
    · rcases ed with ed | ed | ⟨ns, ed, _⟩ <;> (rw [ed] at ez; cases ez)
  · refine .inr ⟨h3, hq _ H own env [] xs _ w3 st' fun σ2 env2 own2 ex2 H2 st2 e2 => ?_⟩
    obtain ⟨k2, i2, o2⟩ := hat σ2 env2 own2 ex2 H2 st2 e2
    obtain ⟨a', ea, h5⟩ := seq_at st2.frm.alive o2 hfl (.inr ed)
    cases ea
    rcases h5 with ⟨ez, _, _⟩ | ⟨_, _, h6⟩
    · rcases ez with ez | ez | ⟨ns, ez, _⟩ <;> (rw [ed] at ez; cases ez)
    · exact h6
theorem rngD_get (lo : Int) (n i : Nat) : (rngD lo n)[i]? = if i < n then some (.int (lo + (i : Nat))) else none := by
  unfold rngD
  rw [List.getElem?_map]
  by_cases h : i < n
  · rw [List.getElem?_range h, if_pos h]; rfl
  · rw [List.getElem?_eq_none (by simpa using h), if_neg h]; rfl
theorem itAt_rng {K : PySem.W.Frag} {own : Addr → Option Pth} {H : Hp} {lo : Int} {n : Nat} (al : Alive own H) : ItAt K (Itr lo n) own H (rngD lo n) := fun i => by
  refine ⟨fun d hd => ?_, fun hi => (show n ≤ i by simpa [rngD] using hi)⟩
  rw [rngD_get] at hd
  split at hd
  · rename_i h
    cases hd
    refine ⟨h, fun x H' y p0 => ?_⟩
    obtain ⟨rfl, rfl⟩ := y
    exact ⟨own, NewT.sh al (.int _)⟩
  · cases hd
theorem paired_one {α β : Type} {P : α → β → Prop} {xs : List α} {y : β} (p : Paired P xs [y]) : ∃ x, xs = [x] ∧ P x y := by
  cases p with | cons a t => cases t; exact ⟨_, rfl, a⟩
theorem paired_two {α β : Type} {P : α → β → Prop} {xs : List α} {y z : β} (p : Paired P xs [y, z]) : ∃ x w, xs = [x, w] ∧ P x y ∧ P w z := by
  cases p with | cons a t => cases t with | cons b u => cases u; exact ⟨_, _, rfl, a, b⟩
theorem itR1_run {wa : WA} : ∀ σ H R, tWI X.K Fx Wo (fun env Q E => wa env (fun rs e1 => onN (looksS e1 rs) fun cs => match cs with
    | [⟨.int j, _⟩] => -(2 ^ 62) ≤ j ∧ j < 2 ^ 62 ∧ Q (rngD 0 j.toNat) (fun _ => True) e1
    | _ => False) E) σ H R → iRng1 (tWA X.K Fx Wo wa) σ H R := fun σ H R h => by
  obtain ⟨F, own, env, ts, Qp, Ep, hf, st, w, hq, hx⟩ := h
  refine ⟨F, own, env, ts, _, Ep, hf, st, w, fun vs H1 own1 rs e1 w1 st1 a1 => ?_, hx⟩
  obtain ⟨cs, ec, w2⟩ := onN_of w1
  have o1 := looks_own st1 a1 ec
  split at w2
  · rename_i j oj
    obtain ⟨x, rfl, p, h1⟩ := paired_one o1
    have hx := h1.int
    subst hx
    obtain ⟨h2, h3, h4⟩ := w2
    obtain ⟨ex1, ee1⟩ := pushes_app [V.int j] rs ts
    rw [ee1] at st1
    exact ⟨j, rfl, h2, h3, hq _ H1 _ e1 [] _ _ h4 (by rw [List.append_nil]; exact st1.cut_app) fun σ2 env2 own2 ex2 H2 st2 _ => itAt_rng st2.frm.alive⟩
  · exact w2.elim
theorem itR2_run {wa : WA} : ∀ σ H R, tWI X.K Fx Wo (fun env Q E => wa env (fun rs e1 => onN (looksS e1 rs) fun cs => match cs with
    | [⟨.int i, _⟩, ⟨.int j, _⟩] => (-(2 ^ 62) ≤ i ∧ i < 2 ^ 62 ∧ -(2 ^ 62) ≤ j ∧ j < 2 ^ 62) ∧ Q (rngD i (j - i).toNat) (fun _ => True) e1
    | _ => False) E) σ H R → iRng2 (tWA X.K Fx Wo wa) σ H R := fun σ H R h => by
  obtain ⟨F, own, env, ts, Qp, Ep, hf, st, w, hq, hx⟩ := h
  refine ⟨F, own, env, ts, _, Ep, hf, st, w, fun vs H1 own1 rs e1 w1 st1 a1 => ?_, hx⟩
  obtain ⟨cs, ec, w2⟩ := onN_of w1
  have o1 := looks_own st1 a1 ec
  split at w2
  · rename_i i oi j oj
    obtain ⟨x, y, rfl, ⟨p, h1⟩, ⟨p', h1'⟩⟩ := paired_two o1
    have hx := h1.int
    have hy := h1'.int
    subst hx hy
    obtain ⟨h2, h4⟩ := w2
    obtain ⟨ex1, ee1⟩ := pushes_app [V.int i, V.int j] rs ts
    rw [ee1] at st1
    exact ⟨i, j, rfl, h2, hq _ H1 _ e1 [] _ _ h4 (by rw [List.append_nil]; exact st1.cut_app) fun σ2 env2 own2 ex2 H2 st2 _ => itAt_rng st2.frm.alive⟩
  · exact w2.elim

/-! ### for -/
def wFor (wi : WIt) (tg : WTg) (body : WS) : WS := fun D env => wi env (fun its Ci e1 => ∃ Pv : Nat → Env → Prop, Pv 0 e1 ∧ (∀ i e, Pv i e → Ci e) ∧
  (∀ i d e, its[i]? = some d → Pv i e → tg ⟨d, .sh⟩ e fun e2 => body { D with nx := Pv (i + 1), ct := Pv (i + 1), bk := D.nx } e2) ∧ ∀ e, Pv its.length e → D.nx e) D.ex
theorem for_run {wi : WIt} {tg : WTg} {body : WS} {ti : TI} {g : TG} {js : List Nat} (hi : ∀ σ H R, tWI X.K Fx Wo wi σ H R → ti σ H R) (hg : TgOk X.K Fx g tg js) : ∀ D σ H, tWS X.K Fx Wo (wFor wi tg body) D σ H → tFor ti g (tWS X.K Fx Wo body) D σ H := fun D σ H h => by
  obtain ⟨F, own, env, ts, E, hf, st, w, ok⟩ := h
  refine hi σ H _ ⟨F, own, env, ts, _, E.ex, hf, st, w, fun J H1 own1 e1 ex its Ci w1 st1 hat => ?_, ok.ex σ⟩
  obtain ⟨Pv, p0, pc, pt, pe⟩ := w1
  have cut : ∀ {own2 : Addr → Option Pth} {σ2 : L2.St} {e2 : Env} {H2 : Hp}, St X.K F own2 σ2 e2 (ts ++ ex) H2 → ∃ own3, St X.K F own3 σ2 e2 ts H2 ∧ ∀ a, own2 a = none → own3 a = none := fun st2 => ⟨_, st2.cut_app, fun _ z => dw_none z⟩
  refine ⟨fun i m σ2 H2 => m = its.length - i ∧ i ≤ its.length ∧ ∃ own2 e2, Pv i e2 ∧ St X.K F own2 σ2 e2 (ts ++ ex) H2, ⟨its.length, by simp, Nat.zero_le _, own1, e1, p0, st1⟩, ?_⟩
  rintro i m σ2 H2 ⟨rfl, hile, own2, e2, pv, st2⟩
  have it2 := hat σ2 e2 own2 [] H2 (by rw [List.append_nil]; exact st2) (pc i e2 pv) i
  by_cases hlt : i < its.length
  · obtain ⟨d, hd⟩ : ∃ d, its[i]? = some d := ⟨_, List.getElem?_eq_getElem hlt⟩
    obtain ⟨go, yl⟩ := it2.1 d hd
    refine .inr ⟨go, fun σ3 H3 => ∃ own3 e3, Pv (i + 1) e3 ∧ St X.K F own3 σ3 e3 (ts ++ ex) H3, fun σ3 H3 ⟨own3, e3, p3, st3⟩ => ⟨its.length - (i + 1), by omega, rfl, hlt, own3, e3, p3, st3⟩, fun x H3 y => ?_⟩
    obtain ⟨own3, nt⟩ := yl x H3 y [1, (ts ++ ex).length]
    have st3 := st2.newT nt
    refine hg F own3 σ2 e2 (ts ++ ex) H3 x ⟨d, .sh⟩ _ _ hf st3 (pt i d e2 hd pv) fun σ4 own4 e4 w4 st4 _ _ => ?_
    refine ⟨F, own4, e4, ts ++ ex, _, hf, st4, w4, ⟨fun σ5 e5 own5 H5 p5 st5 => ⟨own5, e5, p5, st5⟩, fun σ5 v H5 own5 r e5 wr st5 a5 => ?_, fun σ5 e5 own5 H5 p5 st5 => ?_, fun σ5 e5 own5 H5 p5 st5 => ⟨own5, e5, p5, st5⟩, fun σ5 => xok_cut (ok.ex σ5)⟩⟩
    · cases r with
      | pk j => 
        obtain ⟨own6, st6, _⟩ := cut (show St X.K F own5 σ5 e5 (ts ++ ex) H5 from st5)
        exact ok.rt σ5 v H5 own6 (.pk j) e5 wr st6 (by cases a5 with | pk z => exact .pk z)
      | tm c =>
        have st5' : St X.K F own5 σ5 e5 ((ts ++ ex) ++ [(v, c)]) H5 := st5
        obtain ⟨own6, st6⟩ := st_mid st5'
        exact ok.rt σ5 v H5 own6 (.tm c) e5 wr st6 .last
    · obtain ⟨own6, st6, _⟩ := cut st5
      exact ok.nx σ5 e5 own6 H5 p5 st6
  · have e : i = its.length := by omega
    subst e
    obtain ⟨own6, st6, _⟩ := cut st2
    exact .inl ⟨it2.2 (Nat.le_refl _), ok.nx _ _ _ _ (pe e2 pv) st6⟩
end
end Py
set_option Elab.async false
set_option linter.all false
set_option maxRecDepth 100000
set_option maxHeartbeats 4000000
/-! Py, part H: comprehensions, lists that change, forms of loops. -/
namespace Py
open PySem PySem.Spec PyProof.Rows L2

theorem nrm_app (os : List Ow) (o : Ow) : appO (nrm os) os.length o = nrm (os ++ [o]) := by
  unfold nrm
  rw [List.all_append]
  cases ha : os.all Ow.isSh with
  | true =>
    rw [if_pos rfl]
    cases o with
    | sh => rfl
    | nd q =>
      have e : (true && [Ow.nd q].all Ow.isSh) = false := rfl
      rw [e, if_neg Bool.false_ne_true]
      show ([] ++ List.replicate (os.length - 0) Ow.sh).take os.length ++ [Ow.nd q] = os ++ [Ow.nd q]
      congr 1
      rw [List.nil_append, Nat.sub_zero, List.take_of_length_le (by simp)]
      refine List.ext_getElem (by simp) fun i h1 h2 => ?_
      rw [List.getElem_replicate]
      exact (isSh_eq (List.all_eq_true.mp ha _ (List.getElem_mem h2))).symm
  | false =>
    rw [Bool.false_and, if_neg Bool.false_ne_true, if_neg Bool.false_ne_true]
    have ne : os ≠ [] := fun z => by subst z; cases ha
    have e : appO os os.length o = (os ++ List.replicate (os.length - os.length) Ow.sh).take os.length ++ [o] := by
      unfold appO
      split
      · exact absurd rfl ne
      · rfl
    rw [e, Nat.sub_self]
    simp

/-! ### slots forgotten, and told again -/
def wipeE (env : Env) : List Nat → Env
  | [] => env
  | v :: vs => (wipeE env vs).set v none
def scalC (env : Env) (v : Nat) : Option Cl := match (env[v]?).join with
  | some c => if c.d.scal = true then some ⟨c.d, .sh⟩ else none
  | none => none
def restE (e0 : Env) : List Nat → Env → Env
  | [], e => e
  | v :: vs, e => (restE e0 vs e).set v (scalC e0 v)
theorem wipeE_len (env : Env) : ∀ vs, (wipeE env vs).length = env.length
  | [] => rfl
  | v :: vs => by unfold wipeE; rw [List.length_set, wipeE_len env vs]
theorem restE_len (e0 e : Env) : ∀ vs, (restE e0 vs e).length = e.length
  | [] => rfl
  | v :: vs => by unfold restE; rw [List.length_set, restE_len e0 e vs]
theorem wipeE_get {env : Env} {i : Nat} {c : Cl} : ∀ {vs : List Nat}, (wipeE env vs)[i]? = some (some c) → env[i]? = some (some c) ∧ i ∉ vs
  | [], h => ⟨h, by simp⟩
  | v :: vs, h => by
    unfold wipeE at h
    by_cases hi : v = i
    · subst hi
      by_cases hv : v < (wipeE env vs).length
      · rw [List.getElem?_set_self hv] at h; cases h
      · rw [List.getElem?_eq_none (by simpa using hv)] at h; cases h
    · rw [List.getElem?_set_ne hi] at h
      obtain ⟨h1, h2⟩ := wipeE_get h
      exact ⟨h1, by simp only [List.mem_cons, not_or]; exact ⟨fun e => hi e.symm, h2⟩⟩
theorem restE_get {e0 e : Env} {i : Nat} {c : Cl} : ∀ {vs : List Nat}, (restE e0 vs e)[i]? = some (some c) → (i ∈ vs ∧ scalC e0 i = some c) ∨ (i ∉ vs ∧ e[i]? = some (some c))
  | [], h => .inr ⟨by simp, h⟩
  | v :: vs, h => by
    unfold restE at h
    by_cases hi : v = i
    · subst hi
      by_cases hv : v < (restE e0 vs e).length
      · rw [List.getElem?_set_self hv] at h
        exact .inl ⟨List.mem_cons_self, Option.some.inj h⟩
      · rw [List.getElem?_eq_none (by simpa using hv)] at h; cases h
    · rw [List.getElem?_set_ne hi] at h
      rcases restE_get h with ⟨h1, h2⟩ | ⟨h1, h2⟩
      · exact .inl ⟨List.mem_cons_of_mem _ h1, h2⟩
      · exact .inr ⟨by simp only [List.mem_cons, not_or]; exact ⟨fun e => hi e.symm, h1⟩, h2⟩
theorem wipe_ext {σ σ' : L2.St} (hl : σ'.length = σ.length) : ∀ {vs : List Nat}, (∀ j : Nat, j ∉ vs → σ'[j]? = σ[j]?) → wipe σ' vs = wipe σ vs := by
  intro vs h
  refine List.ext_getElem? fun j => ?_
  by_cases hj : j ∈ vs
  · have aux : ∀ (τ : L2.St) (ws : List Nat), j ∈ ws → (wipe τ ws)[j]? = if j < τ.length then some none else none := fun τ ws => by
      induction ws with
      | nil => intro z; cases z
      | cons w ws ih =>
        intro z
        unfold wipe
        by_cases e : w = j
        · subst e
          by_cases hlt : w < τ.length
          · rw [if_pos hlt, List.getElem?_set_self (by rw [wipe_length]; exact hlt)]
          · rw [if_neg hlt, List.getElem?_eq_none (by rw [List.length_set, wipe_length]; omega)]
        · rw [List.getElem?_set_ne e]
          rcases List.mem_cons.mp z with z | z
          · exact absurd z.symm e
          · exact ih z
    rw [aux _ _ hj, aux _ _ hj, hl]
  · rw [wipe_out hj, wipe_out hj, h j hj]
section
variable {K : PySem.W.Frag} {F : Fm} {own own' : Addr → Option Pth} {σ : L2.St} {env : Env} {ts ex : List (V × Cl)} {H H' : Hp}
theorem St.wipe {vs : List Nat} (st : St K F own σ env ts H) (hv : ∀ v ∈ vs, v ∉ F.fx.map (·.1)) : St K F own (L2.wipe σ vs) (wipeE env vs) ts H := by
  refine ⟨st.frm, by rw [wipeE_len, wipe_length]; exact st.len, fun i c e => ?_, st.tmp, fun i v hi => ?_⟩
  · obtain ⟨h1, h2⟩ := wipeE_get e
    obtain ⟨v, h3, h4⟩ := st.cell i c h1
    exact ⟨v, by rw [wipe_out h2]; exact h3, h4⟩
  · have h2 : i ∉ vs := fun z => hv i z (List.mem_map.mpr ⟨_, hi, rfl⟩)
    rw [wipe_out h2]
    exact st.fix i v hi
theorem Own.scalV {own2 : Addr → Option Pth} {H2 : Hp} {v : V} {d : Dv} {o : Ow} {p q : Pth} (r : Own K own H v d o p) (h : d.scal = true) : Own K own2 H2 v d .sh q := by
  cases d with
  | non => rw [r.non]; exact .sh .non
  | bl b => rw [r.bl]; exact .sh (.bl b)
  | int i => rw [r.int]; exact .sh (.int i)
  | str x => rw [r.str]; exact .sh (.str x)
  | lst xs => cases h
  | tup xs => cases h
  | dic xs => cases h
  | ins c fs => cases h
  | lck xs => cases h
  | scr ns => cases h
theorem St.rest {own2 : Addr → Option Pth} {e2 : Env} {ts2 : List (V × Cl)} {H2 : Hp} {vs : List Nat} (st : St K F own σ env ts H) (st2 : St K F own2 (L2.wipe σ vs) e2 ts2 H2) (hv : ∀ v ∈ vs, v ∉ F.fx.map (·.1)) : St K F own2 σ (restE env vs e2) ts2 H2 := by
  refine ⟨st2.frm, by rw [restE_len, st2.len, wipe_length], fun i c e => ?_, st2.tmp, st.fix⟩
  rcases restE_get e with ⟨h1, h2⟩ | ⟨h1, h2⟩
  · unfold scalC at h2
    split at h2
    · rename_i c' e'
      split at h2
      · rename_i hs
        cases h2
        obtain ⟨v, h3, h4⟩ := st.cell i c' (env_some e')
        exact ⟨v, h3, h4.scalV hs⟩
      · cases h2
    · cases h2
  · obtain ⟨v, h3, h4⟩ := st2.cell i c h2
    rw [wipe_out h1] at h3
    exact ⟨v, h3, h4⟩
end

/-! ### comprehensions -/
abbrev NoX : XQ := fun _ _ => False
abbrev NoW : WX := fun _ _ _ _ => False
def wYes : WT := fun env Q _ => Q true env
def lcB (tg : WTg) (t : WT) (w : WE) (vs : List Nat) (its : List Dv) (Ci : Env → Prop) (e1 : Env) (Q : R → Env → Prop) : Prop := ∃ Pv : Nat → List Cl → Env → Prop, Pv 0 [] (wipeE e1 vs) ∧ (∀ i acc e, Pv i acc e → Ci e ∧ acc.length ≤ 100000) ∧
  (∀ i d acc e, its[i]? = some d → Pv i acc e → tg ⟨d, .sh⟩ e fun e2 => t e2 (fun b e3 => if b = true then w e3 (fun r e4 => onTm r fun c => Pv (i + 1) (acc ++ [c]) (wipeE e4 vs)) NoX else Pv (i + 1) acc (wipeE e3 vs)) NoX) ∧
  ∀ acc e, Pv its.length acc e → Q (.tm ⟨.lst (acc.map (·.d)), .nd (nrm (acc.map (·.o)))⟩) (restE e1 vs e)
def wLc (wi : WIt) (tg : WTg) (t : WT) (w : WE) (vs : List Nat) : WE := fun env Q E => wi env (fun its Ci e1 => lcB tg t w vs its Ci e1 Q) E
/-- .. its items shared -/
def lcBS (tg : WTg) (t : WT) (w : WE) (vs : List Nat) (its : List Dv) (Ci : Env → Prop) (e1 : Env) (Q : R → Env → Prop) : Prop := ∃ Pv : Nat → List Dv → Env → Prop, Pv 0 [] (wipeE e1 vs) ∧ (∀ i acc e, Pv i acc e → Ci e ∧ acc.length ≤ 100000) ∧
    (∀ i d acc e, its[i]? = some d → Pv i acc e → ∀ (N : Cl → Env → Prop) (N0 : Env → Prop), (∀ d' e', Pv (i + 1) (acc ++ [d']) (wipeE e' vs) → N ⟨d', .sh⟩ e') → (∀ e', Pv (i + 1) acc (wipeE e' vs) → N0 e') → tg ⟨d, .sh⟩ e fun e2 => t e2 (fun b e3 => if b = true then wSh w e3 (fun r e4 => onTm r fun c => N c e4) NoX else N0 e3) NoX) ∧
    ∀ acc e, Pv its.length acc e → Q (.tm ⟨.lst acc, .nd []⟩) (restE e1 vs e)
def wLcS (wi : WIt) (tg : WTg) (t : WT) (w : WE) (vs : List Nat) : WE := fun env Q E => wi env (fun its Ci e1 => lcBS tg t w vs its Ci e1 Q) E
/-- a comprehension whose items are shared: the continuation told abstractly -/
theorem lcS {its : List Dv} {Ci : Env → Prop} {e1 : Env} {tg : WTg} {t : WT} {w : WE} {vs : List Nat} {Q : R → Env → Prop} (h : lcBS tg t w vs its Ci e1 Q) : lcB tg t (wSh w) vs its Ci e1 Q := by
  obtain ⟨Pv, h0, hc, hs, hd⟩ := h
  refine ⟨fun i acc e => (∀ c ∈ acc, c.o = .sh) ∧ Pv i (acc.map (·.d)) e, ⟨fun c hc => (nomatch hc), h0⟩, fun i acc e ⟨_, p⟩ => by have := hc i _ e p; rw [List.length_map] at this; exact this, fun i d acc e hd ⟨ha, p⟩ => ?_, fun acc e ⟨ha, p⟩ => ?_⟩
  · refine hs i d (acc.map (·.d)) e hd p _ _ (fun d' e' p' => ⟨fun c hc => ?_, ?_⟩) fun e' p' => ⟨ha, p'⟩
    · rcases List.mem_append.mp hc with z | z
      · exact ha c z
      · cases List.mem_singleton.mp z; rfl
    · rw [List.map_append]; exact p'
  · have e1 : nrm (acc.map (·.o)) = [] := by
      unfold nrm
      rw [if_pos (List.all_eq_true.mpr fun o ho => by
        obtain ⟨c, hc, rfl⟩ := List.mem_map.mp ho
        rw [ha c hc]; rfl)]
    rw [e1]
    exact hd _ e p
section
variable {X : Cx} {Fx : List Nat} {Wo : WX} {pos : Pos}
theorem xok_no {F : Fm} {σ : L2.St} {ts : List (V × Cl)} : XOk X.K NoW F σ ts NoX := fun _ _ _ _ _ _ h _ _ => h.elim
theorem lc_runG {B : List Dv → (Env → Prop) → Env → (R → Env → Prop) → Prop} {wi : WIt} {tg : WTg} {t : WT} {w : WE} {vs js : List Nat} {ti : TI} {g : TG} (hB : ∀ its Ci e1 Q, B its Ci e1 Q → lcB tg t w vs its Ci e1 Q) (hi : ∀ σ H R, tWI X.K Fx Wo wi σ H R → ti σ H R) (hg : TgOk X.K Fx g tg js) (hj : ∀ j ∈ js, j ∈ vs) (hv : ∀ v ∈ vs, v ∉ Fx) :
    ∀ σ H Q, tW X.K Fx Wo (fun env Q E => wi env (fun its Ci e1 => B its Ci e1 Q) E) σ H Q → tLc ti g (tWT X.K Fx NoW t) (tW X.K Fx NoW w) vs σ H Q := fun σ H Q h => by
  obtain ⟨F, own, env, ts, Qp, Ep, hf, st, w', hq, hx⟩ := h
  refine hi σ H _ ⟨F, own, env, ts, _, Ep, hf, st, w', fun J H1 own1 e1 ex its Ci w1 st1 hat => ?_, hx⟩
  obtain ⟨Pv, p0, pc, pt, pe⟩ := hB _ _ _ _ w1
  intro D hD
  have hv' : ∀ v ∈ vs, v ∉ F.fx.map (·.1) := by rw [hf]; exact hv
  -- the new list
  have nt : NewT X.K [1, (ts ++ ex).length] own1 H1 (setO own1 D [1, (ts ++ ex).length]) (upd H1 D (.lst [])) (.ref D) ⟨.lst [], .nd []⟩ := NewT.lst st1.frm.alive hD .nil
  have st2 := (st1.newT nt).wipe hv'
  refine ⟨fun i m H2 => m = its.length - i ∧ i ≤ its.length ∧ ∃ own2 e2 acc, Pv i acc e2 ∧ St X.K F own2 (L2.wipe σ vs) e2 ((ts ++ ex) ++ [(.ref D, ⟨.lst (acc.map (·.d)), .nd (nrm (acc.map (·.o)))⟩)]) H2,
    ⟨its.length, by simp, Nat.zero_le _, _, _, [], p0, st2⟩, ?_⟩
  rintro i m H2 ⟨rfl, hile, own2, e2, acc, pv, st3⟩
  obtain ⟨ci, hacc⟩ := pc i acc e2 pv
  have it2 := hat _ e2 own2 _ H2 st3 ci i
  by_cases hlt : i < its.length
  · obtain ⟨d, hd⟩ : ∃ d, its[i]? = some d := ⟨_, List.getElem?_eq_getElem hlt⟩
    obtain ⟨go, yl⟩ := it2.1 d hd
    refine .inr ⟨go, fun H3 => ∃ own3 e3 acc3, Pv (i + 1) acc3 e3 ∧ St X.K F own3 (L2.wipe σ vs) e3 ((ts ++ ex) ++ [(.ref D, ⟨.lst (acc3.map (·.d)), .nd (nrm (acc3.map (·.o)))⟩)]) H3, fun H3 ⟨own3, e3, acc3, p3, s3⟩ => ⟨its.length - (i + 1), by omega, rfl, hlt, own3, e3, acc3, p3, s3⟩, fun x H3 y => ?_⟩
    obtain ⟨own3, nt3⟩ := yl x H3 y [1, ((ts ++ ex) ++ [(V.ref D, (⟨.lst (acc.map (·.d)), .nd (nrm (acc.map (·.o)))⟩ : Cl))]).length]
    have st4 := st3.newT nt3
    refine hg F own3 _ e2 _ H3 x ⟨d, .sh⟩ _ _ hf st4 (pt i d acc e2 hd pv) fun σ4 own4 e4 w4 st5 hσ4 hlen => ?_
    have hw : L2.wipe σ4 vs = L2.wipe σ vs := by
      rw [wipe_ext (σ := L2.wipe σ vs) hlen fun j hj' => hσ4 j fun z => hj' (hj j z)]
      exact wipe_ext (by rw [wipe_length]) fun j hj' => wipe_out hj'
    refine ⟨hw, F, own4, e4, _, _, NoX, hf, st5, w4, fun b H5 own5 e5 w5 st6 => ?_, xok_no⟩
    cases b with
    | true =>
      rw [if_pos rfl] at w5
      refine ⟨F, own5, e5, _, _, NoX, hf, st6, w5, fun yv H6 own6 r e6 w6 st7 a7 => ?_, xok_no⟩
      cases r with
      | pk j => exact w6.elim
      | tm c =>
        have st7' : St X.K F own6 σ4 e6 (((ts ++ ex) ++ [(.ref D, ⟨.lst (acc.map (·.d)), .nd (nrm (acc.map (·.o)))⟩)]) ++ [(yv, c)]) H6 := st7
        obtain ⟨vs6, h1, h2, h3⟩ := st7'.app_tmp
        have h3 := h3.wipe (vs := vs) hv'
        rw [hw] at h3
        have e1 : (acc ++ [c]).map (fun x => x.d) = acc.map (fun x => x.d) ++ [c.d] := by simp
        have e2 : nrm ((acc ++ [c]).map fun x => x.o) = appO (nrm (acc.map fun x => x.o)) (acc.map fun x => x.d).length c.o := by
          rw [List.map_append]
          have := nrm_app (acc.map fun x => x.o) c.o
          rw [List.length_map] at this ⊢
          exact this.symm
        rw [← e1, ← e2] at h3
        exact ⟨vs6, h1, by rw [h2, List.length_map]; exact Nat.lt_of_le_of_lt hacc (by decide), _, wipeE e6 vs, acc ++ [c], w6, h3⟩
    | false =>
      rw [if_neg Bool.false_ne_true] at w5
      have h3 := st6.wipe (vs := vs) hv'
      rw [hw] at h3
      exact ⟨_, wipeE e5 vs, acc, w5, h3⟩
  · have e : i = its.length := by omega
    subst e
    refine .inl ⟨it2.2 (Nat.le_refl _), ?_⟩
    obtain ⟨own6, st6⟩ := st_mid st3
    exact hq _ H2 own6 (.tm _) _ (pe acc e2 pv) (st1.rest st6 hv') .last
theorem lc_run {wi : WIt} {tg : WTg} {t : WT} {w : WE} {vs js : List Nat} {ti : TI} {g : TG} (hi : ∀ σ H R, tWI X.K Fx Wo wi σ H R → ti σ H R) (hg : TgOk X.K Fx g tg js) (hj : ∀ j ∈ js, j ∈ vs) (hv : ∀ v ∈ vs, v ∉ Fx) :
    ∀ σ H Q, tW X.K Fx Wo (wLc wi tg t w vs) σ H Q → tLc ti g (tWT X.K Fx NoW t) (tW X.K Fx NoW w) vs σ H Q := lc_runG (fun _ _ _ _ h => h) hi hg hj hv
theorem lcS_run {wi : WIt} {tg : WTg} {t : WT} {w : WE} {vs js : List Nat} {ti : TI} {g : TG} (hi : ∀ σ H R, tWI X.K Fx Wo wi σ H R → ti σ H R) (hg : TgOk X.K Fx g tg js) (hj : ∀ j ∈ js, j ∈ vs) (hv : ∀ v ∈ vs, v ∉ Fx) :
    ∀ σ H Q, tW X.K Fx Wo (wLcS wi tg t w vs) σ H Q → tLc ti g (tWT X.K Fx NoW t) (tW X.K Fx NoW (wSh w)) vs σ H Q := lc_runG (fun _ _ _ _ h => lcS h) hi hg hj hv
end
end Py
set_option Elab.async false
set_option linter.all false
set_option maxRecDepth 100000
set_option maxHeartbeats 4000000
/-! Py, part I: what the operations do. -/
namespace Py
open PySem PySem.Spec PyProof.Rows L2

section
variable {K : PySem.W.Frag} {X : Cx}
/-! ### ints, texts, lists: + - * // % ** -/
def gAdd : G2 := fun a b k => match a, b with
  | ⟨.int i, _⟩, ⟨.int j, _⟩ => k ⟨.int (i + j), .sh⟩
  | ⟨.str x, _⟩, ⟨.str y, _⟩ => x.length + y.length ≤ 1000000 ∧ k ⟨.str (x ++ y), .sh⟩
  | ⟨.lst xs, oa⟩, ⟨.lst ys, ob⟩ => oa.flat = true ∧ ob.flat = true ∧ xs.length + ys.length ≤ 100000 ∧ k ⟨.lst (xs ++ ys), .nd []⟩
  | _, _ => False
def rAddP : R2 := fun x y H Q => (∃ i j, x = .int i ∧ y = .int j ∧ Q (.int (i + j)) H) ∨ (∃ i j, x = .str i ∧ y = .str j ∧ i.length + j.length ≤ sizeLine ∧ Q (.str (i ++ j)) H) ∨ rCat x y H Q
theorem op_Wadd : OpR X (binaryOp .Add) rAddP := op_add.or (op_add_str.or op_cat)
theorem s_add : Sem2 K rAddP gAdd := fun p0 own H x y a b p q k Q al ha hb hg fin => by
  unfold gAdd at hg
  split at hg
  · rw [ha.int, hb.int]; exact .inl ⟨_, _, rfl, rfl, fin.int al hg⟩
  · rw [ha.str, hb.str]; exact .inr (.inl ⟨_, _, rfl, rfl, Nat.le_trans hg.1 (by decide), fin.str al hg.2⟩)
  · obtain ⟨h1, h2, h3, h4⟩ := hg
    obtain ⟨l, vs, rfl, e1, r1⟩ := ha.lstF h1
    obtain ⟨m, ws, rfl, e2, r2⟩ := hb.lstF h2
    exact .inr (.inr ⟨l, m, vs, ws, rfl, rfl, e1, e2, by rw [r1.length, r2.length]; exact Nat.le_trans h3 (by decide), fun z hz => fin.lst al h4 (r1.append r2) hz⟩)
  · exact hg.elim
def gMinus : G2 := fun a b k => match a, b with
  | ⟨.int i, _⟩, ⟨.int j, _⟩ => k ⟨.int (i - j), .sh⟩
  | _, _ => False
theorem s_sub : Sem2 K (rI0 fun i j => .int (i - j)) gMinus := fun p0 own H x y a b p q k Q al ha hb hg fin => by
  unfold gMinus at hg
  split at hg
  · rw [ha.int, hb.int]; exact ⟨_, _, rfl, rfl, fin.int al hg⟩
  · exact hg.elim
/-- factors that fit -/
def mulOk (i j : Int) : Prop := CMul i j ∨ CMulW i j
@[irreducible] def repS (x : Str) (n : Int) : Str := ⟨((List.replicate n.toNat x.cps.toList).flatten).toArray⟩
def gMul : G2 := fun a b k => match a, b with
  | ⟨.int i, _⟩, ⟨.int j, _⟩ => mulOk i j ∧ k ⟨.int (i * j), .sh⟩
  | ⟨.lst xs, oa⟩, ⟨.int n, _⟩ => oa.flat = true ∧ -(2 ^ 63) ≤ n ∧ n < 2 ^ 63 ∧ xs.length * n.toNat ≤ 100000 ∧ k ⟨.lst (List.replicate n.toNat xs).flatten, .nd []⟩
  | ⟨.str x, _⟩, ⟨.int n, _⟩ => (2 ≤ n ∧ n ≤ 1000000) ∧ 1 ≤ x.length ∧ x.length * n.toNat ≤ 1000000 ∧ k ⟨.str (repS x n), .sh⟩
  | _, _ => False
theorem foldl_repN (x : List Nat) : ∀ (k : Nat) (acc : List Nat), List.foldl (fun x1 x2 => x1 ++ x2) acc.toArray (List.replicate k x.toArray) = (acc ++ (List.replicate k x).flatten).toArray
  | 0, acc => by simp
  | k + 1, acc => by
    have e : acc.toArray ++ x.toArray = (acc ++ x).toArray := by simp
    have e2 : (acc ++ x) ++ (List.replicate k x).flatten = acc ++ (List.replicate (k + 1) x).flatten := by
      rw [List.replicate_succ, List.flatten_cons, List.append_assoc]
    rw [← e2, ← foldl_repN x k (acc ++ x), ← e, List.replicate_succ, List.foldl_cons]
def rMulS : R2 := fun x y H Q => ∃ i n, x = .str i ∧ y = .int n ∧ (2 ≤ n ∧ n ≤ 1000000) ∧ 1 ≤ i.length ∧ i.length * n.toNat ≤ 1000000 ∧ Q (.str (repS i n)) H
theorem op_strMul {X : Cx} : OpR X (binaryOp .Mult) rMulS := by
  intro pins s σ H x y v u Q I rx ry h
  obtain ⟨i, n, rfl, rfl, hn, hl, hz, q⟩ := h
  obtain ⟨t, rfl⟩ := rx
  obtain ⟨t', rfl⟩ := ry
  have h1 : ¬ n < 1 := by omega
  have h2 : (n == 1 || i.length == 0) = false := by
    have a : (n == 1) = false := beq_eq_false_iff_ne.mpr (by omega)
    have b : (i.length == 0) = false := beq_eq_false_iff_ne.mpr (by omega)
    rw [a, b]; rfl
  have hs : (List.replicate n.toNat i.cps).foldl (· ++ ·) #[] = (repS i n).cps := by
    have := foldl_repN i.cps.toList n.toNat []
    simpa [repS] using this
  refine P.mul_str ?_ (fun _ _ => ?_) (fun _ _ => ?_) ?_
  · rw [decide_eq_false (by omega), decide_eq_false (by omega)]; rfl
  · intro hgt
    have hge : (2 ^ 63 - 1 : Int) / n ≥ 1000000 := by
      have := Int.le_ediv_of_mul_le (a := 1000000) (b := 2 ^ 63 - 1) (c := n) (by omega) (by omega)
      omega
    have : i.length ≤ 1000000 := by
      have : i.length * 1 ≤ i.length * n.toNat := Nat.mul_le_mul_left _ (by omega)
      omega
    omega
  · exact decide_eq_false (by
      have : (1000000 : Nat) ≤ sizeLine := by decide
      omega)
  · rw [if_neg h1, if_neg (by rw [h2]; decide), hs]
    refine ⟨?_, ⟨.str (repS i n), H, I.tok _, ⟨_, rfl⟩, q⟩⟩
    have e : (repS i n).length = n.toNat * i.length := by
      unfold repS
      show ((List.replicate n.toNat i.cps.toList).flatten).toArray.size = _
      rw [List.size_toArray, List.length_flatten, List.map_replicate, List.sum_replicate_nat]
      rfl
    show (repS i n).length ≤ sizeLine
    rw [e, Nat.mul_comm]
    exact Nat.le_trans hz (by decide)
def rMulP : R2 := fun x y H Q => (∃ i j, x = .int i ∧ y = .int j ∧ CMul i j ∧ Q (.int (i * j)) H) ∨ (∃ i j, x = .int i ∧ y = .int j ∧ CMulW i j ∧ Q (.int (i * j)) H) ∨ rMulS x y H Q ∨ rRep x y H Q
theorem op_Wmul : OpR X (binaryOp .Mult) rMulP := op_mul.or (op_mulW.or (op_strMul.or op_rep))
theorem Reps.rep {G : Hp} {vs : List V} {ds : List Dv} (r : Reps K G vs ds) : ∀ n : Nat, Reps K G (List.replicate n vs).flatten (List.replicate n ds).flatten
  | 0 => .nil
  | n + 1 => by
    rw [List.replicate_succ, List.replicate_succ, List.flatten_cons, List.flatten_cons]
    exact r.append (Reps.rep r n)
theorem s_mul : Sem2 K rMulP gMul := fun p0 own H x y a b p q k Q al ha hb hg fin => by
  unfold gMul at hg
  split at hg
  · rw [ha.int, hb.int]
    obtain ⟨h1, h2⟩ := hg
    rcases h1 with h1 | h1
    · exact .inl ⟨_, _, rfl, rfl, h1, fin.int al h2⟩
    · exact .inr (.inl ⟨_, _, rfl, rfl, h1, fin.int al h2⟩)
  · obtain ⟨h1, h2, h3, h4, h5⟩ := hg
    obtain ⟨l, vs, rfl, e1, r1⟩ := ha.lstF h1
    rw [hb.int]
    exact .inr (.inr (.inr ⟨l, _, vs, rfl, rfl, e1, h2, h3, by rw [r1.length]; exact Nat.le_trans h4 (by decide), fun z hz => fin.lst al h5 (r1.rep _) hz⟩))
  · obtain ⟨h1, h2, h3, h4⟩ := hg
    rw [ha.str, hb.int]
    exact .inr (.inr (.inl ⟨_, _, rfl, rfl, h1, h2, h3, fin.str al h4⟩))
  · exact hg.elim
def gFdiv : G2 := fun a b k => match a, b with
  | ⟨.int i, _⟩, ⟨.int j, _⟩ => 0 < j ∧ j.natAbs < 2 ^ 8000 ∧ k ⟨.int (i / j), .sh⟩
  | _, _ => False
theorem s_fdiv : Sem2 K (rI CDivW fun i j => .int (i / j)) gFdiv := fun p0 own H x y a b p q k Q al ha hb hg fin => by
  unfold gFdiv at hg
  split at hg
  · rw [ha.int, hb.int]; exact ⟨_, _, rfl, rfl, wide_div hg.1 hg.2.1 (by decide) (by decide), fin.int al hg.2.2⟩
  · exact hg.elim
def gMod : G2 := fun a b k => match a, b with
  | ⟨.int i, _⟩, ⟨.int j, _⟩ => 0 < j ∧ k ⟨.int (i % j), .sh⟩
  | _, _ => False
theorem s_mod : Sem2 K (rI (fun _ j => 0 < j) fun i j => .int (i % j)) gMod := fun p0 own H x y a b p q k Q al ha hb hg fin => by
  unfold gMod at hg
  split at hg
  · rw [ha.int, hb.int]; exact ⟨_, _, rfl, rfl, hg.1, fin.int al hg.2⟩
  · exact hg.elim
def gPow : G2 := fun a b k => match a, b with
  | ⟨.int i, _⟩, ⟨.int j, _⟩ => 0 ≤ j ∧ j ≤ 1000000 ∧ i.natAbs < 2 ^ 64 ∧ k ⟨.int (i ^ j.toNat), .sh⟩
  | _, _ => False
theorem s_pow : Sem2 K (rI CPow fun i j => .int (i ^ j.toNat)) gPow := fun p0 own H x y a b p q k Q al ha hb hg fin => by
  unfold gPow at hg
  split at hg
  · rw [ha.int, hb.int]; exact ⟨_, _, rfl, rfl, ⟨hg.1, hg.2.1, hg.2.2.1⟩, fin.int al hg.2.2.2⟩
  · exact hg.elim
def gNeg : G1 := fun a k => match a with
  | ⟨.int i, _⟩ => k ⟨.int (-i), .sh⟩
  | _ => False
theorem s_neg : Sem1 K (rU fun i => .int (-i)) gNeg := fun p0 own H x a p k Q al ha hg fin => by
  unfold gNeg at hg
  split at hg
  · rw [ha.int]; exact ⟨_, rfl, fin.int al hg⟩
  · exact hg.elim

/-! ### comparisons -/
def strLt (x y : Str) : Bool := decide (x.cps.toList < y.cps.toList)
def gLt : G2 := fun a b k => match a, b with
  | ⟨.int i, _⟩, ⟨.int j, _⟩ => k ⟨.bl (decide (i < j)), .sh⟩
  | ⟨.str x, _⟩, ⟨.str y, _⟩ => k ⟨.bl (strLt x y), .sh⟩
  | _, _ => False
def gLe : G2 := fun a b k => match a, b with
  | ⟨.int i, _⟩, ⟨.int j, _⟩ => k ⟨.bl (decide (i ≤ j)), .sh⟩
  | ⟨.str x, _⟩, ⟨.str y, _⟩ => k ⟨.bl (!strLt y x), .sh⟩
  | _, _ => False
def gGt : G2 := fun a b k => match a, b with
  | ⟨.int i, _⟩, ⟨.int j, _⟩ => k ⟨.bl (decide (j < i)), .sh⟩
  | ⟨.str x, _⟩, ⟨.str y, _⟩ => k ⟨.bl (strLt y x), .sh⟩
  | _, _ => False
def gGe : G2 := fun a b k => match a, b with
  | ⟨.int i, _⟩, ⟨.int j, _⟩ => k ⟨.bl (decide (j ≤ i)), .sh⟩
  | ⟨.str x, _⟩, ⟨.str y, _⟩ => k ⟨.bl (!strLt x y), .sh⟩
  | _, _ => False
def rCmpP (f : Int → Int → Bool) (g : Str → Str → Bool) : R2 := fun x y H Q => (∃ i j, x = .int i ∧ y = .int j ∧ Q (.bl (f i j)) H) ∨ (∃ i j, x = .str i ∧ y = .str j ∧ Q (.bl (g i j)) H)
theorem op_Wlt : OpR X (compareOp .Lt) (rCmpP (fun i j => decide (i < j)) fun x y => strLt x y) := op_lt.or op_lt_str
theorem op_Wle : OpR X (compareOp .LtE) (rCmpP (fun i j => decide (i ≤ j)) fun x y => !strLt y x) := op_le.or op_le_str
theorem op_Wgt : OpR X (compareOp .Gt) (rCmpP (fun i j => decide (j < i)) fun x y => strLt y x) := op_gt.or op_gt_str
theorem op_Wge : OpR X (compareOp .GtE) (rCmpP (fun i j => decide (j ≤ i)) fun x y => !strLt x y) := op_ge.or op_ge_str
theorem s_lt : Sem2 K (rCmpP (fun i j => decide (i < j)) fun x y => strLt x y) gLt := fun p0 own H x y a b p q k Q al ha hb hg fin => by
  unfold gLt at hg
  split at hg
  · rw [ha.int, hb.int]; exact .inl ⟨_, _, rfl, rfl, fin.bl al hg⟩
  · rw [ha.str, hb.str]; exact .inr ⟨_, _, rfl, rfl, fin.bl al hg⟩
  · exact hg.elim
theorem s_le : Sem2 K (rCmpP (fun i j => decide (i ≤ j)) fun x y => !strLt y x) gLe := fun p0 own H x y a b p q k Q al ha hb hg fin => by
  unfold gLe at hg
  split at hg
  · rw [ha.int, hb.int]; exact .inl ⟨_, _, rfl, rfl, fin.bl al hg⟩
  · rw [ha.str, hb.str]; exact .inr ⟨_, _, rfl, rfl, fin.bl al hg⟩
  · exact hg.elim
theorem s_gt : Sem2 K (rCmpP (fun i j => decide (j < i)) fun x y => strLt y x) gGt := fun p0 own H x y a b p q k Q al ha hb hg fin => by
  unfold gGt at hg
  split at hg
  · rw [ha.int, hb.int]; exact .inl ⟨_, _, rfl, rfl, fin.bl al hg⟩
  · rw [ha.str, hb.str]; exact .inr ⟨_, _, rfl, rfl, fin.bl al hg⟩
  · exact hg.elim
theorem s_ge : Sem2 K (rCmpP (fun i j => decide (j ≤ i)) fun x y => !strLt x y) gGe := fun p0 own H x y a b p q k Q al ha hb hg fin => by
  unfold gGe at hg
  split at hg
  · rw [ha.int, hb.int]; exact .inl ⟨_, _, rfl, rfl, fin.bl al hg⟩
  · rw [ha.str, hb.str]; exact .inr ⟨_, _, rfl, rfl, fin.bl al hg⟩
  · exact hg.elim
/-- == of flat things (a bool is no int here) -/
def eqS : Dv → Dv → Option Bool
  | .int i, .int j => some (decide (i = j))
  | .str x, .str y => some (decide (x = y))
  | .bl x, .bl y => some (decide (x = y))
  | .non, .non => some true
  | .non, .int _ => some false | .int _, .non => some false | .non, .bl _ => some false | .bl _, .non => some false | .non, .str _ => some false | .str _, .non => some false
  | .int _, .str _ => some false | .str _, .int _ => some false | .bl _, .str _ => some false | .str _, .bl _ => some false
  | _, _ => none
def onB (o : Option Bool) (k : Bool → Prop) : Prop := match o with
  | some b => k b
  | none => False
def gEqS : G2 := fun a b k => onB (eqS a.d b.d) fun c => k ⟨.bl c, .sh⟩
def gNeS : G2 := fun a b k => onB (eqS a.d b.d) fun c => k ⟨.bl (!c), .sh⟩
theorem eqS_V {own : Addr → Option Pth} {H : Hp} {x y : V} {d e : Dv} {o o' : Ow} {p q : Pth} {c : Bool} (ha : Own K own H x d o p) (hb : Own K own H y e o' q) (h : eqS d e = some c) : scal x y = true ∧ decide (x = y) = c := by
  unfold eqS at h
  split at h <;> first
    | (cases h; done)
    | (cases h
       first
         | (rw [ha.int, hb.int]; exact ⟨rfl, by simp⟩)
         | (rw [ha.str, hb.str]; exact ⟨rfl, by simp⟩)
         | (rw [ha.bl, hb.bl]; exact ⟨rfl, by simp⟩)
         | (rw [ha.non, hb.non]; exact ⟨rfl, by simp⟩)
         | (rw [ha.non, hb.int]; exact ⟨rfl, by simp⟩)
         | (rw [ha.int, hb.non]; exact ⟨rfl, by simp⟩)
         | (rw [ha.non, hb.bl]; exact ⟨rfl, by simp⟩)
         | (rw [ha.bl, hb.non]; exact ⟨rfl, by simp⟩)
         | (rw [ha.non, hb.str]; exact ⟨rfl, by simp⟩)
         | (rw [ha.str, hb.non]; exact ⟨rfl, by simp⟩)
         | (rw [ha.int, hb.str]; exact ⟨rfl, by simp⟩)
         | (rw [ha.str, hb.int]; exact ⟨rfl, by simp⟩)
         | (rw [ha.bl, hb.str]; exact ⟨rfl, by simp⟩)
         | (rw [ha.str, hb.bl]; exact ⟨rfl, by simp⟩))
theorem onB_of {o : Option Bool} {k : Bool → Prop} (h : onB o k) : ∃ c, o = some c ∧ k c := by
  cases o with
  | none => exact h.elim
  | some c => exact ⟨c, rfl, h⟩
theorem s_eqS : Sem2 K rEq gEqS := fun p0 own H x y a b p q k Q al ha hb hg fin => by
  obtain ⟨c, e, h⟩ := onB_of hg
  obtain ⟨h1, h2⟩ := eqS_V ha hb e
  exact ⟨h1, by rw [h2]; exact fin.bl al h⟩
theorem s_neS : Sem2 K rNe gNeS := fun p0 own H x y a b p q k Q al ha hb hg fin => by
  obtain ⟨c, e, h⟩ := onB_of hg
  obtain ⟨h1, h2⟩ := eqS_V ha hb e
  exact ⟨h1, by rw [h2]; exact fin.bl al h⟩
def Dv.isNon : Dv → Bool
  | .non => true
  | _ => false
theorem isNon_V {own : Addr → Option Pth} {H : Hp} {x : V} {d : Dv} {o : Ow} {p : Pth} (ha : Own K own H x d o p) : decide (x = .non) = d.isNon := by
  cases d with
  | non => rw [ha.non]; rfl
  | bl b => rw [ha.bl]; rfl
  | int i => rw [ha.int]; rfl
  | str s => rw [ha.str]; rfl
  | lst xs => obtain ⟨a, vs, rfl, _⟩ := ha.lstV; rfl
  | tup xs => obtain ⟨a, vs, rfl, _⟩ := ha.tupV; rfl
  | dic xs => cases ha with
    | sh r => cases r; rfl
    | dic _ _ _ _ => rfl
  | ins c fs => cases ha with
    | sh r => cases r; rfl
    | ins _ _ _ _ => rfl
  | lck xs => cases ha with
    | sh r => cases r; rfl
  | scr ns => cases ha with
    | sh r => cases r; rfl
def gIs : G2 := fun a b k => match b with
  | ⟨.non, _⟩ => k ⟨.bl a.d.isNon, .sh⟩
  | _ => False
def gIsNot : G2 := fun a b k => match b with
  | ⟨.non, _⟩ => k ⟨.bl (!a.d.isNon), .sh⟩
  | _ => False
theorem s_is : Sem2 K (fun x y H Q => y = .non ∧ Q (.bl (decide (x = .non))) H) gIs := fun p0 own H x y a b p q k Q al ha hb hg fin => by
  unfold gIs at hg
  split at hg
  · exact ⟨hb.non, by rw [isNon_V ha]; exact fin.bl al hg⟩
  · exact hg.elim
theorem s_isnot : Sem2 K (fun x y H Q => y = .non ∧ Q (.bl (!decide (x = .non))) H) gIsNot := fun p0 own H x y a b p q k Q al ha hb hg fin => by
  unfold gIsNot at hg
  split at hg
  · exact ⟨hb.non, by rw [isNon_V ha]; exact fin.bl al hg⟩
  · exact hg.elim
/-! ### in -/
theorem one_sign {x : Str} (h : x.cps.size = 1) : x = ⟨#[x.cps.getD 0 0]⟩ := by
  obtain ⟨⟨l⟩⟩ := x
  cases l with
  | nil => cases h
  | cons c l => cases l with
    | nil => rfl
    | cons d l => simp at h
def eqD : Dv → Dv → Bool
  | .non, .non => true
  | .bl a, .bl b => a == b
  | .bl a, .int b => (if a then 1 else 0) == b
  | .int a, .bl b => a == (if b then 1 else 0)
  | .int a, .int b => a == b
  | .str a, .str b => a == b
  | _, _ => false
theorem rep_flat {G : Hp} {v : V} {d : Dv} (r : Rep K G v d) : flatV v = d.scal := by cases r <;> rfl
theorem rep_eq {G : Hp} {v w : V} {d e : Dv} (r : Rep K G v d) (s : Rep K G w e) (h1 : d.scal = true) (h2 : e.scal = true) : eqV v w = eqD d e := by
  cases r <;> cases s <;> first | rfl | (cases h1; done) | (cases h2; done)
def Dv.flat (d : Dv) : Bool := d.scal
theorem reps_flat {G : Hp} {vs : List V} {ds : List Dv} (r : Reps K G vs ds) : vs.all flatV = ds.all Dv.scal := by
  induction vs generalizing ds with
  | nil => cases r; rfl
  | cons v vs ih => cases r with | cons a b => rw [List.all_cons, List.all_cons, rep_flat a, ih b]
theorem reps_in {G : Hp} {v : V} {d : Dv} (r : Rep K G v d) (h : d.scal = true) {vs : List V} {ds : List Dv} (rs : Reps K G vs ds) (hs : ds.all Dv.scal = true) : inV v vs = ds.any fun e => eqD e d := by
  unfold inV
  induction vs generalizing ds with
  | nil => cases rs; rfl
  | cons w vs ih =>
    cases rs with
    | cons a b =>
      rw [List.all_cons, Bool.and_eq_true] at hs
      rw [List.any_cons, List.any_cons, ih b hs.2, rep_eq a r hs.1 h]
def gMem : G2 := fun a b k => match a, b with
  | a, ⟨.lst xs, ob⟩ => ob.flat = true ∧ a.d.scal = true ∧ xs.all Dv.scal = true ∧ k ⟨.bl (xs.any fun e => eqD e a.d), .sh⟩
  | a, ⟨.tup xs, ob⟩ => ob.flat = true ∧ a.d.scal = true ∧ xs.all Dv.scal = true ∧ k ⟨.bl (xs.any fun e => eqD e a.d), .sh⟩
  | a, ⟨.lck xs, _⟩ => a.d.scal = true ∧ xs.all Dv.scal = true ∧ k ⟨.bl (xs.any fun e => eqD e a.d), .sh⟩
  | ⟨.str x, _⟩, ⟨.str z, _⟩ => x.cps.size = 1 ∧ k ⟨.bl (decide (x.cps.getD 0 0 ∈ z.cps.toList)), .sh⟩
  | _, _ => False
def gNMem : G2 := fun a b k => match a, b with
  | a, ⟨.lst xs, ob⟩ => ob.flat = true ∧ a.d.scal = true ∧ xs.all Dv.scal = true ∧ k ⟨.bl (!xs.any fun e => eqD e a.d), .sh⟩
  | a, ⟨.tup xs, ob⟩ => ob.flat = true ∧ a.d.scal = true ∧ xs.all Dv.scal = true ∧ k ⟨.bl (!xs.any fun e => eqD e a.d), .sh⟩
  | a, ⟨.lck xs, _⟩ => a.d.scal = true ∧ xs.all Dv.scal = true ∧ k ⟨.bl (!xs.any fun e => eqD e a.d), .sh⟩
  | ⟨.str x, _⟩, ⟨.str z, _⟩ => x.cps.size = 1 ∧ k ⟨.bl (!decide (x.cps.getD 0 0 ∈ z.cps.toList)), .sh⟩
  | _, _ => False
def rInP (K : PySem.W.Frag) (neg : Bool) : R2 := fun x y H Q => rIn K neg x y H Q ∨ (∃ (c : Nat) (z : Str), x = .str ⟨#[c]⟩ ∧ y = .str z ∧ Q (.bl (if neg then !decide (c ∈ z.cps.toList) else decide (c ∈ z.cps.toList))) H)
theorem op_Win : OpR X (compareOp .In) (rInP X.K false) := op_in_seq.or op_in_sign
theorem op_WnotIn : OpR X (compareOp .NotIn) (rInP X.K true) := op_notIn_seq.or op_notIn_sign
theorem Own.repS {own : Addr → Option Pth} {H : Hp} {v : V} {d : Dv} {o : Ow} {p : Pth} (r : Own K own H v d o p) (h : d.scal = true) {G : Hp} : Rep K G v d := by
  cases d with
  | non => rw [r.non]; exact .non
  | bl b => rw [r.bl]; exact .bl b
  | int i => rw [r.int]; exact .int i
  | str x => rw [r.str]; exact .str x
  | lst xs => cases h
  | tup xs => cases h
  | dic xs => cases h
  | ins c fs => cases h
  | lck xs => cases h
  | scr ns => cases h
theorem s_in : Sem2 K (rInP K false) gMem := fun p0 own H x y a b p q k Q al ha hb hg fin => by
  unfold gMem at hg
  split at hg
  · obtain ⟨h1, h2, h3, h4⟩ := hg
    obtain ⟨l, vs, rfl, e, r⟩ := hb.lstF h1
    refine .inl ⟨l, vs, rfl, .inl (SqL.of e), by rw [rep_flat (ha.repS h2 (G := Gm own H))]; exact h2, by rw [reps_flat r]; exact h3, ?_⟩
    rw [if_neg Bool.false_ne_true, reps_in (ha.repS h2) h2 r h3]
    exact fin.bl al h4
  · obtain ⟨h1, h2, h3, h4⟩ := hg
    obtain ⟨l, vs, rfl, e, r⟩ := hb.tupF h1
    refine .inl ⟨l, vs, rfl, .inr (sqT_mono Gm_le e), by rw [rep_flat (ha.repS h2 (G := Gm own H))]; exact h2, by rw [reps_flat r]; exact h3, ?_⟩
    rw [if_neg Bool.false_ne_true, reps_in (ha.repS h2) h2 r h3]
    exact fin.bl al h4
  · obtain ⟨h2, h3, h4⟩ := hg
    obtain ⟨l, vs, rfl, e, r⟩ := hb.lckF
    refine .inl ⟨l, vs, rfl, .inl e, by rw [rep_flat (ha.repS h2 (G := Gm own H))]; exact h2, by rw [reps_flat r]; exact h3, ?_⟩
    rw [if_neg Bool.false_ne_true, reps_in (ha.repS h2) h2 r h3]
    exact fin.bl al h4
  · rw [ha.str, hb.str]
    obtain ⟨h1, h2⟩ := hg
    exact .inr ⟨_, _, congrArg V.str (one_sign h1), rfl, fin.bl al h2⟩
  · exact hg.elim
theorem s_notIn : Sem2 K (rInP K true) gNMem := fun p0 own H x y a b p q k Q al ha hb hg fin => by
  unfold gNMem at hg
  split at hg
  · obtain ⟨h1, h2, h3, h4⟩ := hg
    obtain ⟨l, vs, rfl, e, r⟩ := hb.lstF h1
    refine .inl ⟨l, vs, rfl, .inl (SqL.of e), by rw [rep_flat (ha.repS h2 (G := Gm own H))]; exact h2, by rw [reps_flat r]; exact h3, ?_⟩
    rw [if_pos rfl, reps_in (ha.repS h2) h2 r h3]
    exact fin.bl al h4
  · obtain ⟨h1, h2, h3, h4⟩ := hg
    obtain ⟨l, vs, rfl, e, r⟩ := hb.tupF h1
    refine .inl ⟨l, vs, rfl, .inr (sqT_mono Gm_le e), by rw [rep_flat (ha.repS h2 (G := Gm own H))]; exact h2, by rw [reps_flat r]; exact h3, ?_⟩
    rw [if_pos rfl, reps_in (ha.repS h2) h2 r h3]
    exact fin.bl al h4
  · obtain ⟨h2, h3, h4⟩ := hg
    obtain ⟨l, vs, rfl, e, r⟩ := hb.lckF
    refine .inl ⟨l, vs, rfl, .inl e, by rw [rep_flat (ha.repS h2 (G := Gm own H))]; exact h2, by rw [reps_flat r]; exact h3, ?_⟩
    rw [if_pos rfl, reps_in (ha.repS h2) h2 r h3]
    exact fin.bl al h4
  · rw [ha.str, hb.str]
    obtain ⟨h1, h2⟩ := hg
    exact .inr ⟨_, _, congrArg V.str (one_sign h1), rfl, fin.bl al h2⟩
  · exact hg.elim
/-! ### items, slices -/
def gIx : G2 := fun a b k => match a, b with
  | ⟨.lst xs, oa⟩, ⟨.int i, _⟩ => oa.flat = true ∧ ∃ d, atI xs i = some d ∧ k ⟨d, .sh⟩
  | ⟨.tup xs, oa⟩, ⟨.int i, _⟩ => oa.flat = true ∧ ∃ d, atI xs i = some d ∧ k ⟨d, .sh⟩
  | ⟨.lck xs, _⟩, ⟨.int i, _⟩ => True ∧ ∃ d, atI xs i = some d ∧ k ⟨d, .sh⟩
  | ⟨.str z, _⟩, ⟨.int i, _⟩ => z.length ≤ 1000000 ∧ ∃ c, atI z.cps.toList i = some c ∧ k ⟨.str ⟨#[c]⟩, .sh⟩
  | _, _ => False
theorem atI_len {α β : Type} {xs : List α} {ys : List β} (h : xs.length = ys.length) {i : Int} {y : β} (e : atI ys i = some y) : ∃ j, ixN ys.length i = some j ∧ ixN xs.length i = some j ∧ ys[j]? = some y := by
  unfold atI at e
  cases q : ixN ys.length i with
  | none => rw [q] at e; cases e
  | some j => rw [q] at e; exact ⟨j, rfl, by rw [h]; exact q, e⟩
theorem reps_at {G : Hp} {vs : List V} {ds : List Dv} (r : Reps K G vs ds) {i : Int} {d : Dv} (e : atI ds i = some d) : ∃ v, atI vs i = some v ∧ Rep K G v d := by
  obtain ⟨j, _, h2, h3⟩ := atI_len r.length e
  obtain ⟨v, hv, rv⟩ := r.get h3
  exact ⟨v, by unfold atI; rw [h2]; exact hv, rv⟩
theorem on1_map {α : Type} {f : α → Cl} {o : Option α} {k : Cl → Prop} (h : on1 (o.map f) k) : ∃ x, o = some x ∧ k (f x) := by
  cases o with
  | none => exact h.elim
  | some x => exact ⟨x, rfl, h⟩
theorem s_ix : Sem2 K (rIx K) gIx := fun p0 own H x y a b p q k Q al ha hb hg fin => by
  unfold gIx at hg
  split at hg
  · obtain ⟨h1, d, e, h3⟩ := hg
    obtain ⟨l, vs, rfl, el, r⟩ := ha.lstF h1
    obtain ⟨v, ev, rv⟩ := reps_at r e
    rw [hb.int]
    exact .inl ⟨l, vs, _, v, rfl, rfl, SqL.of el, ev, fin.sh al h3 rv⟩
  · obtain ⟨h1, d, e, h3⟩ := hg
    obtain ⟨l, vs, rfl, el, r⟩ := ha.tupF h1
    obtain ⟨v, ev, rv⟩ := reps_at r e
    rw [hb.int]
    exact .inr (.inl ⟨l, vs, _, v, rfl, rfl, sqT_mono Gm_le el, ev, fin.sh al h3 rv⟩)
  · obtain ⟨_, d, e, h3⟩ := hg
    obtain ⟨l, vs, rfl, el, r⟩ := ha.lckF
    obtain ⟨v, ev, rv⟩ := reps_at r e
    rw [hb.int]
    exact .inl ⟨l, vs, _, v, rfl, rfl, el, ev, fin.sh al h3 rv⟩
  · obtain ⟨h1, d, e, h3⟩ := hg
    rw [ha.str, hb.int]
    exact .inr (.inr ⟨_, _, d, rfl, rfl, Nat.le_trans h1 (by decide), e, fin.str al h3⟩)
  · exact hg.elim
def cutD (xs : List Dv) (lo hi : Option Int) : List Dv := (xs.drop (HT.sIx xs.length 0 lo)).take (HT.sIx xs.length xs.length hi - HT.sIx xs.length 0 lo)
theorem Reps.drop {G : Hp} {vs : List V} {ds : List Dv} (r : Reps K G vs ds) : ∀ n, Reps K G (vs.drop n) (ds.drop n) := by
  intro n
  induction n generalizing vs ds with
  | zero => exact r
  | succ n ih =>
    cases r with
    | nil => exact .nil
    | cons a b => exact ih b
theorem Reps.take {G : Hp} {vs : List V} {ds : List Dv} (r : Reps K G vs ds) : ∀ n, Reps K G (vs.take n) (ds.take n) := by
  intro n
  induction n generalizing vs ds with
  | zero => exact .nil
  | succ n ih =>
    cases r with
    | nil => exact .nil
    | cons a b => exact .cons a (ih b)
theorem Reps.cut {G : Hp} {vs : List V} {ds : List Dv} (r : Reps K G vs ds) (lo hi : Option Int) : Reps K G (cutV vs lo hi) (cutD ds lo hi) := by
  unfold cutV cutD
  rw [r.length]
  exact (r.drop _).take _
/-- a slice, its parts known -/
def gSl : Cl → Option Int → Option Int → (Cl → Prop) → Prop := fun a lo hi k => match a with
  | ⟨.lst xs, oa⟩ => oa.flat = true ∧ k ⟨.lst (cutD xs lo hi), .nd []⟩
  | ⟨.lck xs, _⟩ => True ∧ k ⟨.lst (cutD xs lo hi), .nd []⟩
  | ⟨.tup xs, oa⟩ => oa.flat = true ∧ k ⟨.tup (cutD xs lo hi), .sh⟩
  | ⟨.str z, _⟩ => z.length ≤ 1000000 ∧ k ⟨.str (cutS z lo hi), .sh⟩
  | _ => False
def rSlP (K : PySem.W.Frag) : V → Option Int → Option Int → Hp → VK → Prop := fun x lo hi H Q => rSlL K x lo hi H Q ∨ (rSlA K x lo hi H Q ∨ rSlS x lo hi H Q)
theorem sl_W : SlR X (rSlP X.K) := sl_list.or (sl_tupA.or sl_str)
theorem s_sl {p0 : Pth} {own : Addr → Option Pth} {H : Hp} {x : V} {a : Cl} {p : Pth} {lo hi : Option Int} {k : Cl → Prop} {Q : VK} (al : Alive own H) (ha : Own K own H x a.d a.o p) (hg : gSl a lo hi k) (fin : Fin K p0 own H k Q) : rSlP K x lo hi H Q := by
  unfold gSl at hg
  split at hg
  · obtain ⟨h1, h2⟩ := hg
    obtain ⟨l, vs, rfl, el, r⟩ := ha.lstF h1
    exact .inl ⟨l, vs, rfl, SqL.of el, fun z hz => fin.lst al h2 (r.cut lo hi) hz⟩
  · obtain ⟨_, h2⟩ := hg
    obtain ⟨l, vs, rfl, el, r⟩ := ha.lckF
    exact .inl ⟨l, vs, rfl, el, fun z hz => fin.lst al h2 (r.cut lo hi) hz⟩
  · rename_i xs _
    obtain ⟨h1, h2⟩ := hg
    obtain ⟨l, vs, rfl, el, r⟩ := ha.tupF h1
    exact .inr (.inl ⟨l, vs, rfl, sqT_mono Gm_le el, fun hw => by
      have e : cutD xs lo hi = xs := by
        unfold cutD
        rw [← r.length, hw.1, hw.2, r.length, List.drop_zero, Nat.sub_zero, List.take_length]
      rw [e] at h2
      exact fin.sh al h2 (.tup el r), fun _ z hz => fin.tup al h2 (r.cut lo hi) hz⟩)
  · obtain ⟨h1, h2⟩ := hg
    rw [ha.str]
    exact .inr (.inr ⟨_, rfl, Nat.le_trans h1 (by decide), fin.str al h2⟩)
  · exact hg.elim
end
/-- a part of a slice -/
abbrev WO := Env → (Option Int → Env → Prop) → XQ → Prop
def wNoPart : WO := fun env Q _ => Q none env
def onInt (a : Option Cl) (k : Int → Prop) : Prop := match a with
  | some ⟨.int i, _⟩ => k i
  | _ => False
theorem onInt_of {a : Option Cl} {k : Int → Prop} (h : onInt a k) : ∃ b o, a = some ⟨.int b, o⟩ ∧ k b := by
  unfold onInt at h
  split at h
  · exact ⟨_, _, rfl, h⟩
  · exact h.elim
def wPart (w : WE) : WO := fun env Q E => w env (fun r e1 => onInt (lookS e1 r) fun i => Q (some i) e1) E
def wSl (w : WE) (wl wh : WO) : WE := fun env Q E => w env (fun r e1 => wl e1 (fun lo e2 => wh e2 (fun hi e3 => on1 (lookS e3 r) fun a => gSl a lo hi fun c => Q (.tm c) e3) E) E) E
section
variable {X : Cx} {Fx : List Nat} {Wo : WX} {pos : Pos}
def tWO (K : PySem.W.Frag) (Fx : List Nat) (Wo : WX) (W : WO) : TO := fun σ H Q => ∃ (F : Fm) (own : Addr → Option Pth) (env : Env) (ts : List (V × Cl)) (Qp : Option Int → Env → Prop) (Ep : XQ), F.fx.map (·.1) = Fx ∧ St K F own σ env ts H ∧ W env Qp Ep ∧
  (∀ b H' own' env', Qp b env' → St K F own' σ env' ts H' → Q b H') ∧ XOk K Wo F σ ts Ep
theorem PO.imp {e : Option Expr} {t t' : TO} (h : ∀ σ H Q, t' σ H Q → t σ H Q) (p : PO X e t) : PO X e t' := ⟨fun pins s σ H Q I q => p.run pins s σ H Q I (h _ _ _ q)⟩
theorem po_Wnone : PO X none (tWO X.K Fx Wo wNoPart) := PO.imp (fun σ H Q h => by
  obtain ⟨F, own, env, ts, Qp, Ep, hf, st, w, hq, hx⟩ := h
  exact hq _ _ _ _ w st) po_none
theorem po_Wsome {e : Expr} {w : WE} (he : PE X e (tW X.K Fx Wo w)) : PO X (some e) (tWO X.K Fx Wo (wPart w)) := PO.imp (fun σ H Q h => by
  obtain ⟨F, own, env, ts, Qp, Ep, hf, st, w, hq, hx⟩ := h
  refine ⟨F, own, env, ts, _, Ep, hf, st, w, fun x H1 own1 ra e1 w1 st1 a1 => ?_, hx⟩
  obtain ⟨b, o, ea, w3⟩ := onInt_of w1
  obtain ⟨_, _, o1⟩ := st1.atS a1 ea
  obtain ⟨ex1, ee1⟩ := push_app ts x ra
  rw [ee1] at st1
  exact ⟨b, o1.int, hq _ _ _ _ w3 st1.cut_app⟩) (po_some he)
theorem pe_Wsl {e : Expr} {lo hi : Option Expr} {w : WE} {wl wh : WO} {p2 : Pos} (he : PE X e (tW X.K Fx Wo w)) (hl : PO X lo (tWO X.K Fx Wo wl)) (hh : PO X hi (tWO X.K Fx Wo wh)) : PE X (.Subscript e (.Slice lo hi none p2) pos) (tW X.K Fx Wo (wSl w wl wh)) := PE.imp (fun σ H Q h => by
  obtain ⟨F, own, env, ts, Qp, Ep, hf, st, w, hq, hx⟩ := h
  refine ⟨F, own, env, ts, _, Ep, hf, st, w, fun x H1 own1 r e1 w1 st1 a1 => ?_, hx⟩
  refine ⟨F, own1, e1, _, _, Ep, hf, st1, w1, fun l H2 own2 e2 w2 st2 => ?_, xok_push hx _ _⟩
  refine ⟨F, own2, e2, _, _, Ep, hf, st2, w2, fun u H3 own3 e3 w3 st3 => ?_, xok_push hx _ _⟩
  obtain ⟨a, ea, w4⟩ := on1_of w3
  obtain ⟨_, _, o1⟩ := st3.atS a1 ea
  obtain ⟨ex1, ee1⟩ := push_app ts x r
  rw [ee1] at st3
  have st4 := st3.cut_app
  exact s_sl st4.frm.alive o1 w4 (fin_W st4 hq)) (pe_slice sl_W he hl hh)
end
end Py
set_option Elab.async false
set_option linter.all false
set_option maxRecDepth 100000
set_option maxHeartbeats 4000000
/-! Py, part J: built-in calls, methods, stores. -/
namespace Py
open PySem PySem.Spec PyProof.Rows L2

section
variable {K : PySem.W.Frag} {X : Cx}
/-! ### built-in calls -/
def gLen : GN := fun as k => match as with
  | [⟨.lst xs, _⟩] => k ⟨.int (xs.length : Nat), .sh⟩
  | [⟨.tup xs, _⟩] => k ⟨.int (xs.length : Nat), .sh⟩
  | [⟨.lck xs, _⟩] => k ⟨.int (xs.length : Nat), .sh⟩
  | [⟨.str z, _⟩] => z.length ≤ 1000000 ∧ k ⟨.int (z.length : Nat), .sh⟩
  | _ => False
theorem s_len : SemN K (fun xs H Q => ∃ x n, xs = [x] ∧ LenV K x H n ∧ Q (.int (n : Nat)) H) gLen := fun p0 own H xs as k Q al ha hg fin => by
  unfold gLen at hg
  split at hg
  · obtain ⟨x, rfl, p, h⟩ := paired_one ha
    obtain ⟨a, vs, rfl, e, l⟩ := h.lstV
    exact ⟨_, _, rfl, .inl ⟨vs, SqL.of e, rfl⟩, by rw [l]; exact fin.int al hg⟩
  · obtain ⟨x, rfl, p, h⟩ := paired_one ha
    obtain ⟨a, vs, rfl, e, l⟩ := h.tupV
    exact ⟨_, _, rfl, .inr ⟨vs, e, rfl⟩, by rw [l]; exact fin.int al hg⟩
  · obtain ⟨x, rfl, p, h⟩ := paired_one ha
    obtain ⟨a, vs, rfl, e, r⟩ := h.lckF
    exact ⟨_, _, rfl, .inl ⟨vs, e, rfl⟩, by rw [r.length]; exact fin.int al hg⟩
  · obtain ⟨x, rfl, p, h⟩ := paired_one ha
    rw [h.str]
    exact ⟨_, _, rfl, ⟨Nat.le_trans hg.1 (by decide), rfl⟩, fin.int al hg.2⟩
  · exact hg.elim
def gInt : GN := fun as k => match as with
  | [⟨.int i, _⟩] => k ⟨.int i, .sh⟩
  | [⟨.bl b, _⟩] => k ⟨.int (if b then 1 else 0), .sh⟩
  | _ => False
theorem s_int : SemN K (fun xs H Q => (∃ i, xs = [.int i] ∧ Q (.int i) H) ∨ ∃ k, xs = [.bl k] ∧ Q (.int (if k then 1 else 0)) H) gInt := fun p0 own H xs as k Q al ha hg fin => by
  unfold gInt at hg
  split at hg
  · obtain ⟨x, rfl, p, h⟩ := paired_one ha
    rw [h.int]
    exact .inl ⟨_, rfl, fin.int al hg⟩
  · obtain ⟨x, rfl, p, h⟩ := paired_one ha
    rw [h.bl]
    exact .inr ⟨_, rfl, fin.int al hg⟩
  · exact hg.elim
def gBool : GN := fun as k => match as with
  | [⟨.int i, _⟩] => k ⟨.bl (i != 0), .sh⟩
  | [⟨.bl b, _⟩] => k ⟨.bl b, .sh⟩
  | _ => False
theorem s_bool : SemN K (fun xs H Q => (∃ i, xs = [.int i] ∧ Q (.bl (i != 0)) H) ∨ ∃ k, xs = [.bl k] ∧ Q (.bl k) H) gBool := fun p0 own H xs as k Q al ha hg fin => by
  unfold gBool at hg
  split at hg
  · obtain ⟨x, rfl, p, h⟩ := paired_one ha
    rw [h.int]
    exact .inl ⟨_, rfl, fin.bl al hg⟩
  · obtain ⟨x, rfl, p, h⟩ := paired_one ha
    rw [h.bl]
    exact .inr ⟨_, rfl, fin.bl al hg⟩
  · exact hg.elim
def gStrI : GN := fun as k => match as with
  | [⟨.int i, _⟩] => i.natAbs < 2 ^ 1900 ∧ k ⟨.str (toString i), .sh⟩
  | _ => False
theorem s_strI : SemN K (fun xs H Q => ∃ i, xs = [.int i] ∧ i.natAbs.log2 < 1920 ∧ Q (.str (toString i)) H) gStrI := fun p0 own H xs as k Q al ha hg fin => by
  unfold gStrI at hg
  split at hg
  · obtain ⟨x, rfl, p, h⟩ := paired_one ha
    rw [h.int]
    exact ⟨_, rfl, Nat.lt_of_lt_of_le (PySem.Flt.log2_lt_of (by decide) hg.1) (by decide), fin.str al hg.2⟩
  · exact hg.elim
def gMax2 : GN := fun as k => match as with
  | [⟨.int i, _⟩, ⟨.int j, _⟩] => k ⟨.int (max i j), .sh⟩
  | _ => False
def gMin2 : GN := fun as k => match as with
  | [⟨.int i, _⟩, ⟨.int j, _⟩] => k ⟨.int (min i j), .sh⟩
  | _ => False
theorem s_max2 : SemN K (fun xs H Q => ∃ i j, xs = [.int i, .int j] ∧ Q (.int (if j > i then j else i)) H) gMax2 := fun p0 own H xs as k Q al ha hg fin => by
  unfold gMax2 at hg
  split at hg
  · obtain ⟨x, y, rfl, ⟨p, h⟩, ⟨p', h'⟩⟩ := paired_two ha
    rw [h.int, h'.int]
    rename_i i _ j _
    refine ⟨i, j, rfl, ?_⟩
    have e : (if j > i then j else i) = max i j := by split <;> omega
    rw [e]
    exact fin.int al hg
  · exact hg.elim
theorem s_min2 : SemN K (fun xs H Q => ∃ i j, xs = [.int i, .int j] ∧ Q (.int (if j < i then j else i)) H) gMin2 := fun p0 own H xs as k Q al ha hg fin => by
  unfold gMin2 at hg
  split at hg
  · obtain ⟨x, y, rfl, ⟨p, h⟩, ⟨p', h'⟩⟩ := paired_two ha
    rw [h.int, h'.int]
    rename_i i _ j _
    refine ⟨i, j, rfl, ?_⟩
    have e : (if j < i then j else i) = min i j := by split <;> omega
    rw [e]
    exact fin.int al hg
  · exact hg.elim
def gList : GN := fun as k => match as with
  | [⟨.lst xs, o⟩] => o.flat = true ∧ k ⟨.lst xs, .nd []⟩
  | [⟨.tup xs, o⟩] => o.flat = true ∧ k ⟨.lst xs, .nd []⟩
  | [⟨.lck xs, _⟩] => True ∧ k ⟨.lst xs, .nd []⟩
  | _ => False
theorem s_list : SemN K (fun xs H Q => ∃ p ys, xs = [.ref p] ∧ (SqL K H p ys ∨ SqT K H p ys) ∧ ∀ l, H l = none → Q (.ref l) (upd H l (.lst ys))) gList := fun p0 own H xs as k Q al ha hg fin => by
  unfold gList at hg
  split at hg
  · obtain ⟨x, rfl, p, h⟩ := paired_one ha
    obtain ⟨a, vs, rfl, e, r⟩ := h.lstF hg.1
    exact ⟨a, vs, rfl, .inl (SqL.of e), fun l hl => fin.lst al hg.2 r hl⟩
  · obtain ⟨x, rfl, p, h⟩ := paired_one ha
    obtain ⟨a, vs, rfl, e, r⟩ := h.tupF hg.1
    exact ⟨a, vs, rfl, .inr (sqT_mono Gm_le e), fun l hl => fin.lst al hg.2 r hl⟩
  · obtain ⟨x, rfl, p, h⟩ := paired_one ha
    obtain ⟨a, vs, rfl, e, r⟩ := h.lckF
    exact ⟨a, vs, rfl, .inl e, fun l hl => fin.lst al hg.2 r hl⟩
  · exact hg.elim
def gTuple : GN := fun as k => match as with
  | [⟨.lst xs, o⟩] => o.flat = true ∧ k ⟨.tup xs, .sh⟩
  | [⟨.tup xs, o⟩] => o.flat = true ∧ k ⟨.tup xs, .sh⟩
  | [⟨.lck xs, _⟩] => True ∧ k ⟨.tup xs, .sh⟩
  | _ => False
theorem s_tuple : SemN K (fun xs H Q => ∃ p ys, xs = [.ref p] ∧ ((SqL K H p ys ∧ ∀ l, H l = none → Q (.ref l) (upd H l (.tup ys))) ∨ (SqT K H p ys ∧ Q (.ref p) H))) gTuple := fun p0 own H xs as k Q al ha hg fin => by
  unfold gTuple at hg
  split at hg
  · obtain ⟨x, rfl, p, h⟩ := paired_one ha
    obtain ⟨a, vs, rfl, e, r⟩ := h.lstF hg.1
    exact ⟨a, vs, rfl, .inl ⟨SqL.of e, fun l hl => fin.tup al hg.2 r hl⟩⟩
  · obtain ⟨x, rfl, p, h⟩ := paired_one ha
    obtain ⟨a, vs, rfl, e, r⟩ := h.tupF hg.1
    exact ⟨a, vs, rfl, .inr ⟨sqT_mono Gm_le e, fin.sh al hg.2 (.tup e r)⟩⟩
  · obtain ⟨x, rfl, p, h⟩ := paired_one ha
    obtain ⟨a, vs, rfl, e, r⟩ := h.lckF
    exact ⟨a, vs, rfl, .inl ⟨e, fun l hl => fin.tup al hg.2 r hl⟩⟩
  · exact hg.elim
def bools : List Dv → Option (List Bool)
  | [] => some []
  | .bl b :: ds => (bools ds).map (b :: ·)
  | _ => none
theorem bools_V {G : Hp} : ∀ {vs : List V} {ds : List Dv} {bs : List Bool}, Reps K G vs ds → bools ds = some bs → vs = bs.map V.bl
  | [], _, _, .nil, e => by cases (Option.some.inj e); rfl
  | v :: vs, d :: ds, bs, .cons a b, e => by
    cases d with
    | bl c =>
      unfold bools at e
      cases h : bools ds with
      | none => rw [h] at e; cases e
      | some cs =>
        rw [h] at e
        cases (Option.some.inj e)
        cases a
        rw [bools_V b h]
        rfl
    | _ => cases e
def gAll : GN := fun as k => match as with
  | [⟨.lst xs, o⟩] => o.flat = true ∧ ∃ bs, bools xs = some bs ∧ k ⟨.bl (bs.all id), .sh⟩
  | _ => False
def gAny : GN := fun as k => match as with
  | [⟨.lst xs, o⟩] => o.flat = true ∧ ∃ bs, bools xs = some bs ∧ k ⟨.bl (bs.any id), .sh⟩
  | _ => False
theorem s_all : SemN K (rAll K) gAll := fun p0 own H xs as k Q al ha hg fin => by
  unfold gAll at hg
  split at hg
  · obtain ⟨x, rfl, p, h⟩ := paired_one ha
    obtain ⟨h1, bs, h2, h3⟩ := hg
    obtain ⟨a, vs, rfl, e, r⟩ := h.lstF h1
    refine ⟨a, bs, rfl, ?_, fin.bl al h3⟩
    rw [← bools_V r h2]
    exact SqL.of e
  · exact hg.elim
theorem s_any : SemN K (rAny K) gAny := fun p0 own H xs as k Q al ha hg fin => by
  unfold gAny at hg
  split at hg
  · obtain ⟨x, rfl, p, h⟩ := paired_one ha
    obtain ⟨h1, bs, h2, h3⟩ := hg
    obtain ⟨a, vs, rfl, e, r⟩ := h.lstF h1
    refine ⟨a, bs, rfl, ?_, fin.bl al h3⟩
    rw [← bools_V r h2]
    exact SqL.of e
  · exact hg.elim
def texts : List Dv → Option (List Str)
  | [] => some []
  | .str b :: ds => (texts ds).map (b :: ·)
  | _ => none
theorem texts_V {G : Hp} : ∀ {vs : List V} {ds : List Dv} {bs : List Str}, Reps K G vs ds → texts ds = some bs → vs = bs.map V.str
  | [], _, _, .nil, e => by cases (Option.some.inj e); rfl
  | v :: vs, d :: ds, bs, .cons a b, e => by
    cases d with
    | str c =>
      unfold texts at e
      cases h : texts ds with
      | none => rw [h] at e; cases e
      | some cs =>
        rw [h] at e
        cases (Option.some.inj e)
        cases a
        rw [texts_V b h]
        rfl
    | _ => cases e
theorem texts_map (ss : List Str) : texts (ss.map Dv.str) = some ss := by
  induction ss with
  | nil => rfl
  | cons s ss ih => rw [List.map_cons]; unfold texts; rw [ih]; rfl
theorem bools_map (ss : List Bool) : bools (ss.map Dv.bl) = some ss := by
  induction ss with
  | nil => rfl
  | cons s ss ih => rw [List.map_cons]; unfold bools; rw [ih]; rfl
theorem reps_texts {G : Hp} (ss : List Str) : Reps K G (ss.map V.str) (ss.map Dv.str) := by
  induction ss with
  | nil => exact .nil
  | cons s ss ih => exact .cons (.str s) ih

/-! ### methods of texts -/
abbrev GM := Cl → GN
def SemM (K : PySem.W.Frag) (T : String) (r : V → List V → Hp → VK → Prop) (g : GM) : Prop := ∀ (p0 : Pth) (own : Addr → Option Pth) (H : Hp) (x : V) (a : Cl) (p : Pth) (xs : List V) (as : List Cl) (k : Cl → Prop) (Q : VK), Alive own H → Own K own H x a.d a.o p → Paired (fun x (a : Cl) => ∃ p, Own K own H x a.d a.o p) xs as → g a as k → Fin K p0 own H k Q → r x xs H Q
def Dv.tyIs (T : String) : Dv → Bool
  | .str _ => T == "str"
  | _ => false
end
def wM (T : String) (g : GM) (w : WE) (wa : WA) : WE := fun env Q E => w env (fun r e1 => on1 (look e1 r) fun a => a.d.tyIs T = true ∧ wa e1 (fun rs e2 => on1 (lookS e2 r) fun a => onN (looksS e2 rs) fun as => g a as fun c => Q (.tm c) e2) E) E
section
variable {X : Cx} {Fx : List Nat} {Wo : WX} {pos : Pos}
theorem tyIs_V {K : PySem.W.Frag} {own : Addr → Option Pth} {H : Hp} {x : V} {d : Dv} {o : Ow} {p : Pth} {T : String} (r : Own K own H x d o p) (h : d.tyIs T = true) : tyV K T x H := by
  cases d with
  | str z => rw [r.str]; exact beq_iff_eq.mp h
  | _ => cases h
theorem wM_run {T : String} {r : V → List V → Hp → VK → Prop} {g : GM} (hs : SemM X.K T r g) {w : WE} {wa : WA} : ∀ σ H Q, tW X.K Fx Wo (wM T g w wa) σ H Q → tBM X.K T r (tW X.K Fx Wo w) (tWA X.K Fx Wo wa) σ H Q := fun σ H Q h => by
  obtain ⟨F, own, env, ts, Qp, Ep, hf, st, w, hq, hx⟩ := h
  refine ⟨F, own, env, ts, _, Ep, hf, st, w, fun x H1 own1 ra e1 w1 st1 a1 => ?_, hx⟩
  obtain ⟨a, ea, ht, w2⟩ := on1_of w1
  obtain ⟨_, _, o1⟩ := st1.at a1 ea
  refine ⟨tyIs_V o1 ht, F, own1, e1, _, _, Ep, hf, st1, w2, fun vs H2 own2 rs e2 w3 st2 a2 => ?_, xok_push hx _ _⟩
  obtain ⟨a', ea', w4⟩ := on1_of w3
  obtain ⟨as, eas, w5⟩ := onN_of w4
  obtain ⟨ex1, ee1⟩ := push_app ts x ra
  obtain ⟨ex2, ee2⟩ := pushes_app vs rs (push ts x ra)
  have a1' : At σ ts.length (pushes (push ts x ra) vs rs) ra x := by rw [ee2]; exact a1.more
  obtain ⟨_, _, o2⟩ := st2.atS a1' ea'
  have o3 := looks_own st2 (Paired.mapP a2 fun r v h => h.less len_push) eas
  rw [ee2, ee1, List.append_assoc] at st2
  have st3 := st2.cut_app
  exact hs _ _ _ _ _ _ _ _ _ _ st3.frm.alive o2 o3 w5 (fin_W st3 hq)
theorem wM0_run {T : String} {r : V → List V → Hp → VK → Prop} {g : GM} (hs : SemM X.K T r g) {w : WE} : ∀ σ H Q, tW X.K Fx Wo (wM T g w waNil) σ H Q → tBM0 X.K T r (tW X.K Fx Wo w) σ H Q := fun σ H Q h => by
  obtain ⟨F, own, env, ts, Qp, Ep, hf, st, w, hq, hx⟩ := h
  refine ⟨F, own, env, ts, _, Ep, hf, st, w, fun x H1 own1 ra e1 w1 st1 a1 => ?_, hx⟩
  obtain ⟨a, ea, ht, w2⟩ := on1_of w1
  obtain ⟨_, _, o1⟩ := st1.at a1 ea
  obtain ⟨a', ea', w4⟩ := on1_of w2
  obtain ⟨ex1, ee1⟩ := push_app ts x ra
  obtain ⟨_, _, o2⟩ := st1.atS a1 ea'
  rw [ee1] at st1
  have st3 := st1.cut_app
  exact ⟨tyIs_V o1 ht, hs _ _ _ _ _ _ _ _ _ _ st3.frm.alive o2 .nil w4 (fin_W st3 hq)⟩
def gJoin : GM := fun a as k => match a, as with
  | ⟨.str z, _⟩, [⟨.lst xs, o⟩] => o.flat = true ∧ ∃ ss, texts xs = some ss ∧ (ss.map (·.length)).sum + ss.length * z.length ≤ 1000000 ∧ k ⟨.str (Txt.join z ss), .sh⟩
  | _, _ => False
theorem s_join {K : PySem.W.Frag} : SemM K "str" (fun x xs H Q => ∃ (a : Str) (p : Addr) (ys : List Str), x = .str a ∧ xs = [.ref p] ∧ (SqL K H p (ys.map V.str) ∨ SqT K H p (ys.map V.str)) ∧ (ys.map (·.length)).sum + ys.length * a.length ≤ 16777216 ∧ Q (.str (Txt.join a ys)) H) gJoin := fun p0 own H x a p xs as k Q al ha hs hg fin => by
  unfold gJoin at hg
  split at hg
  · obtain ⟨y, rfl, p, h⟩ := paired_one hs
    obtain ⟨h1, ss, h2, h3, h4⟩ := hg
    obtain ⟨l, vs, rfl, e, r⟩ := h.lstF h1
    rw [ha.str]
    refine ⟨_, l, ss, rfl, rfl, .inl ?_, by omega, fin.str al h4⟩
    rw [← texts_V r h2]
    exact SqL.of e
  · exact hg.elim

/-! ### a name's list that changes -/
def isLst (env : Env) (i : Nat) : Bool := match (env[i]?).join with
  | some ⟨.lst _, _⟩ => true
  | _ => false
def onOL (c : Option Cl) (k : List Dv → List Ow → Prop) : Prop := match c with
  | some ⟨.lst xs, .nd os⟩ => k xs os
  | _ => False
theorem onOL_of {c : Option Cl} {k : List Dv → List Ow → Prop} (h : onOL c k) : ∃ xs os, c = some ⟨.lst xs, .nd os⟩ ∧ k xs os := by
  unfold onOL at h
  split at h
  · exact ⟨_, _, rfl, h⟩
  · exact h.elim
theorem isLst_V {F : Fm} {own : Addr → Option Pth} {σ : L2.St} {env : Env} {ts : List (V × Cl)} {H : Hp} {i : Nat} (st : St X.K F own σ env ts H) (h : isLst env i = true) : ∃ a, σ[i]? = some (some (.ref a)) ∧ tyV X.K "list" (.ref a) H := by
  unfold isLst at h
  split at h
  · rename_i xs o e
    obtain ⟨v, h1, h2⟩ := st.cell i _ (env_some e)
    obtain ⟨a, vs, rfl, e2, _⟩ := h2.lstV
    exact ⟨a, h1, .inl ⟨rfl, vs, SqL.of e2⟩⟩
  · cases h
def wApp (i : Nat) (w : WE) : WE := fun env Q E => isLst env i = true ∧ w env (fun r e1 => onTm r fun c => onOL (e1[i]?).join fun xs os => xs.length ≤ 100000 ∧ Q (.tm ⟨.non, .sh⟩) (e1.set i (some ⟨.lst (xs ++ [c.d]), .nd (appO os xs.length c.o)⟩))) E
theorem app_run {i : Nat} {w : WE} : ∀ σ H Q, tW X.K Fx Wo (wApp i w) σ H Q → tBM X.K "list" rAppend (tVar i) (tCons (tW X.K Fx Wo w) tNil) σ H Q := fun σ H Q h => by
  obtain ⟨F, own, env, ts, Qp, Ep, hf, st, ⟨wl, w⟩, hq, hx⟩ := h
  obtain ⟨a, hσ, hty⟩ := isLst_V st wl
  refine ⟨_, hσ, hty, ?_⟩
  refine ⟨F, own, env, ts, _, Ep, hf, st, w, fun v H1 own1 r e1 w1 st1 a1 => ?_, hx⟩
  cases r with
  | pk j => exact w1.elim
  | tm c =>
    obtain ⟨xs, os, ec, hl, w2⟩ := onOL_of w1
    have st1' : St X.K F own1 σ e1 (ts ++ [(v, c)]) H1 := st1
    obtain ⟨vs, h1, h2, h3⟩ := st1'.app_cell ec hσ
    exact ⟨a, vs, v, rfl, rfl, h1, by rw [h2]; exact Nat.lt_of_le_of_lt hl (by decide), hq .non _ _ (.tm ⟨.non, .sh⟩) _ w2 (h3.push_sh .non) .last⟩
def wPop (i : Nat) : WE := fun env Q E => onOL (env[i]?).join fun xs os => os = [] ∧ on1 (xs.getLast?.map fun d => ⟨d, .sh⟩) fun c => Q (.tm c) (env.set i (some ⟨.lst xs.dropLast, .nd []⟩))
theorem reps_dropLast {K : PySem.W.Frag} {G : Hp} {vs : List V} {ds : List Dv} (r : Reps K G vs ds) : Reps K G vs.dropLast ds.dropLast := by
  rw [List.dropLast_eq_take, List.dropLast_eq_take, r.length]
  exact r.take _
theorem reps_gm {K : PySem.W.Frag} {own : Addr → Option Pth} {H : Hp} {a : Addr} {o : HO} {q : Pth} (ha : own a = some q) {v : V} {d : Dv} (r : Rep K (Gm own H) v d) : Rep K (Gm own (upd H a o)) v d := r.mono (Gm_upd_own ha fun _ z => z)
theorem own_cell {F : Fm} {own : Addr → Option Pth} {σ : L2.St} {env : Env} {ts : List (V × Cl)} {H : Hp} {i : Nat} {a : Addr} {xs : List Dv} {os : List Ow} (st : St X.K F own σ env ts H) (e : (env[i]?).join = some ⟨.lst xs, .nd os⟩) (hσ : σ[i]? = some (some (.ref a))) : own a = some [0, i] := by
  obtain ⟨w, h1, h2⟩ := st.cell i _ (env_some e)
  rw [hσ] at h1
  cases h1
  have h2' : Own X.K own H (.ref a) (.lst xs) (.nd os) [0, i] := h2
  cases h2' with
  | lst e1 _ _ => exact e1
theorem pop_run {i : Nat} : ∀ σ H Q, tW X.K Fx Wo (wPop i) σ H Q → tBM0 X.K "list" rPop (tVar i) σ H Q := fun σ H Q h => by
  obtain ⟨F, own, env, ts, Qp, Ep, hf, st, w, hq, hx⟩ := h
  obtain ⟨xs, os, ec, ho, w2⟩ := onOL_of w
  subst ho
  obtain ⟨d, ed, w3⟩ := on1_map w2
  obtain ⟨a, vs, hσ, ha, hl, hr⟩ := st.lst_cell ec
  have rs := hr rfl
  have oa := own_cell st ec hσ
  have e1 : xs[xs.length - 1]? = some d := by rw [← List.getLast?_eq_getElem?]; exact ed
  obtain ⟨v, hv, rv⟩ := rs.get e1
  refine ⟨_, hσ, .inl ⟨rfl, vs, SqL.of ha⟩, a, vs, v, rfl, rfl, ha, by rw [hl]; exact hv, ?_⟩
  have st2 := st.set_lst ec hσ (reps_dropLast rs)
  exact hq v _ _ (.tm ⟨d, .sh⟩) _ w3 (st2.push_sh (reps_gm oa rv)) .last
def wPopAt (i : Nat) (w : WE) : WE := fun env Q E => isLst env i = true ∧ w env (fun r e1 => onInt (lookS e1 r) fun n => onOL (e1[i]?).join fun xs os => os = [] ∧ -(2 ^ 63) ≤ n ∧ n < 2 ^ 63 ∧ ∃ j d, ixN xs.length n = some j ∧ xs[j]? = some d ∧ Q (.tm ⟨d, .sh⟩) (e1.set i (some ⟨.lst (xs.eraseIdx j), .nd []⟩))) E
theorem reps_erase {K : PySem.W.Frag} {G : Hp} {vs : List V} {ds : List Dv} (r : Reps K G vs ds) (j : Nat) : Reps K G (vs.eraseIdx j) (ds.eraseIdx j) := by
  rw [List.eraseIdx_eq_take_drop_succ, List.eraseIdx_eq_take_drop_succ]
  exact (r.take _).append (r.drop _)
theorem popAt_run {i : Nat} {w : WE} : ∀ σ H Q, tW X.K Fx Wo (wPopAt i w) σ H Q → tBM X.K "list" rPopAt (tVar i) (tCons (tW X.K Fx Wo w) tNil) σ H Q := fun σ H Q h => by
  obtain ⟨F, own, env, ts, Qp, Ep, hf, st, ⟨wl, w⟩, hq, hx⟩ := h
  obtain ⟨a, hσ, hty⟩ := isLst_V st wl
  refine ⟨_, hσ, hty, F, own, env, ts, _, Ep, hf, st, w, fun v H1 own1 r e1 w1 st1 a1 => ?_, hx⟩
  obtain ⟨n, o, en, w2⟩ := onInt_of w1
  obtain ⟨_, _, on⟩ := st1.atS a1 en
  obtain ⟨xs, os, ec, ho, b1, b2, j, d, hj, hd, w3⟩ := onOL_of w2
  subst ho
  obtain ⟨ex1, ee1⟩ := push_app ts v r
  rw [ee1] at st1
  have st2 := st1.cut_app
  obtain ⟨a', vs, hσ', ha, hl, hr⟩ := st2.lst_cell ec
  rw [hσ] at hσ'
  cases hσ'
  have rs := hr rfl
  have oa := own_cell st2 ec hσ
  obtain ⟨u, hu, ru⟩ := rs.get hd
  have st3 := st2.set_lst ec hσ (reps_erase rs j)
  exact ⟨a, vs, n, j, u, rfl, by rw [on.int], ha, b1, b2, by rw [hl]; exact (ixN_seq hj).1, hu, hq u _ _ (.tm ⟨d, .sh⟩) _ w3 (st3.push_sh (reps_gm oa ru)) .last⟩
/-- xs[i] = e, xs a name's own flat list -/
def wSetI (i : Nat) (wi wv : WE) : WS := fun D env => wv env (fun r e1 => onTm r fun c => c.o.isSh = true ∧ (∃ y, (e1[i]?).join = some y) ∧ wi e1 (fun ri e2 => onInt (lookS e2 ri) fun n => onOL (e2[i]?).join fun xs os => os = [] ∧ ∃ j, ixN xs.length n = some j ∧ D.nx (e2.set i (some ⟨.lst (xs.set j c.d), .nd []⟩))) D.ex) D.ex
theorem Reps.set {K : PySem.W.Frag} {G : Hp} {v : V} {d : Dv} (r : Rep K G v d) {vs : List V} {ds : List Dv} (rs : Reps K G vs ds) (j : Nat) : Reps K G (vs.set j v) (ds.set j d) := by
  induction vs generalizing ds j with
  | nil => cases rs; exact .nil
  | cons w vs ih =>
    cases rs with
    | cons a b =>
      cases j with
      | zero => exact .cons r b
      | succ j => exact .cons a (ih b j)
theorem setI_run {i : Nat} {wi wv : WE} : ∀ D σ H, tWS X.K Fx Wo (wSetI i wi wv) D σ H → tAsg (tW X.K Fx Wo wv) (gSub (tVar i) (tW X.K Fx Wo wi) rSetL) D σ H := fun D σ H h => by
  obtain ⟨F, own, env, ts, E, hf, st, w, ok⟩ := h
  refine ⟨F, own, env, ts, _, E.ex, hf, st, w, fun v H1 own1 r e1 w1 st1 a1 => ?_, ok.ex σ⟩
  cases r with
  | pk j => exact w1.elim
  | tm c =>
    obtain ⟨hsh, ⟨y, ey⟩, w2⟩ := w1
    have st1' : St X.K F own1 σ e1 (ts ++ [(v, c)]) H1 := st1
    obtain ⟨vy, hσ, _⟩ := st1'.cell i y (env_some ey)
    refine ⟨vy, hσ, F, own1, e1, _, _, E.ex, hf, st1', w2, fun vi H2 own2 ri e2 w3 st2 a2 => ?_, xok_cut (ok.ex σ)⟩
    obtain ⟨n, o, en, w4⟩ := onInt_of w3
    obtain ⟨_, _, on⟩ := st2.atS a2 en
    obtain ⟨xs, os, ec, ho, j, hj, w5⟩ := onOL_of w4
    subst ho
    obtain ⟨ex1, ee1⟩ := push_app (ts ++ [(v, c)]) vi ri
    rw [ee1] at st2
    have st3 := st2.cut_app
    obtain ⟨a, vs, hσ', ha, hl, hr⟩ := st3.lst_cell ec
    rw [hσ] at hσ'
    cases hσ'
    have ot := st3.tmp ts.length v c (by rw [List.getElem?_append_right (Nat.le_refl _)]; simp)
    have rv : Rep X.K (Gm (dropW (fun k i => k == 1 && decide ((ts ++ [(v, c)]).length ≤ i)) own2) H2) v c.d := by
      obtain ⟨d, o⟩ := c
      have : o = .sh := isSh_eq hsh
      subst this
      cases ot with
      | sh r => exact r
    have st4 := st3.set_lst ec hσ ((hr rfl).set rv j)
    refine ⟨a, vs, n, j, rfl, on.int, ha, by rw [hl]; exact hj, ?_⟩
    exact ok.nx _ _ _ _ w5 st4.cut_app
def wClear (i : Nat) : WE := fun env Q E => onOL (env[i]?).join fun xs os => os = [] ∧ Q (.tm ⟨.non, .sh⟩) (env.set i (some ⟨.lst [], .nd []⟩))
theorem clear_run {i : Nat} : ∀ σ H Q, tW X.K Fx Wo (wClear i) σ H Q → tBM0 X.K "list" rClear (tVar i) σ H Q := fun σ H Q h => by
  obtain ⟨F, own, env, ts, Qp, Ep, hf, st, w, hq, hx⟩ := h
  obtain ⟨xs, os, ec, ho, w2⟩ := onOL_of w
  subst ho
  obtain ⟨a, vs, hσ, ha, hl, hr⟩ := st.lst_cell ec
  have st2 := st.set_lst (ys := []) ec hσ .nil
  exact ⟨_, hσ, .inl ⟨rfl, vs, SqL.of ha⟩, a, vs, rfl, rfl, ha, hq .non _ _ (.tm ⟨.non, .sh⟩) _ w2 (st2.push_sh .non) .last⟩
end
end Py
set_option Elab.async false
set_option linter.all false
set_option maxRecDepth 100000
set_option maxHeartbeats 4000000
/-! Py, part K: the defs of a text, as they are found and called; forms in short. -/
namespace Py
open PySem PySem.Spec PyProof.Rows L2

structure Tx (fa : List He.Fa) (fn : List He.DefD) (K : PySem.W.Frag) (mg : Str → Option Value) : Prop where
  c : He.SaysD fa fn K
  mgf : ∀ (i : Nat) (x : Str), fa[i]? = some (.glo x) → mg x = some (.ref (He.ga K x))
  mgn : ∀ (i : Nat) (x : Str), fa[i]? = some (.free x) → mg x = none
  mgi : ∀ (i : Nat) (x : Str) (z : Int), fa[i]? = some (.int x z) → ∃ t, mg x = some (.int z t)
  mgs : ∀ (i : Nat) (x z : Str), fa[i]? = some (.str x z) → ∃ t, mg x = some (.str z t)
theorem Tx.of {fa : List He.Fa} {fn : List He.DefD} {K : PySem.W.Frag} {mg : Str → Option Value} {h : Heap} (X : K.In h) (G : h.Ns mainGlobals mg) (c : He.SaysD fa fn K) : Tx fa fn K mg :=
  ⟨c, fun i x e => He.glo_ok X G (c.fact i e), fun i x e => He.free_ok X G (c.fact i e), fun i x z e => He.int_ok X G (c.fact i e), fun i x z e => He.str_ok X G (c.fact i e)⟩
/-- a def of the text's top that keeps its promise S, at most by level k -/
structure Fo (P : Program) (w : World) (K : PySem.W.Frag) (mg : Str → Option Value) (base : Heap) (x : Str) (k : Nat) (ps : List Str) (dcs : List Cl) (S : SF) : Prop where
  ex : ∃ (f : Addr) (fd : FuncData) (dvs : List V) (ds : List Value), mg x = some (.ref f) ∧ PySem.W.keepIn K (.ref f) = true ∧ Vals dvs ds ∧ Binds K fd ps ds ∧ DfAt K dvs dcs ∧ FnOk P w K mg base (L2.CX P w) k f fd ps (spW K S)
def wSeqC (a b : WS) : WS := fun D env => ∃ Mid : Env → Prop, a { D with nx := Mid } env ∧ ∀ e, Mid e → b D e
section
variable {X : Cx} {Fx : List Nat} {Wo : WX} {pos : Pos}
theorem pe_Wcal {k : Nat} {ps : List Str} {S : SF} {dcs : List Cl} {x : Str} {p : Pos} {e : Expr} {es : List Expr} {wa : WA} (G : Fo X.prog X.w X.K X.mg X.base x k ps dcs S) (hr : Room k X.A) (tk : Takes X Wo) (hg : Gl X x)
    (ha : PA X (e :: es) (tWA X.K Fx Wo wa)) (hdb : (x == ("__debug__" : Str)) = false := by decide) (he : starEach (e :: es) X.env = (false, eval e X.env) :: starEach es X.env := by rfl) (hpl : (backTo pos (starEach es X.env)).any (·.1) = false := by rfl) :
    PE X (.Call (.Name x p) (e :: es) [] pos) (tW X.K Fx Wo (wCall S dcs wa)) := by
  obtain ⟨f, fd, dvs, ds, h1, h2, h3, h4, h5, h6⟩ := G.ex
  exact pe_Wcall h6 hr tk hg h1 h2 h4 h3 h5 ha hdb he hpl
theorem pe_Wglob {x : Str} {d : Dv} {v : V} (h : ∃ u, X.mg x = some u ∧ RelV v u) (hr : ∀ G, Rep X.K G v d) (hg : Gl X x) (hd : (x == ("__debug__" : Str)) = false := by decide) : PE X (.Name x pos) (tW X.K Fx Wo (wC d)) := by
  obtain ⟨u, h1, h2⟩ := h
  exact PE.imp (tc_W hr) (pe_glob hg h1 h2 hd)
theorem pe_WgI {fa : List He.Fa} {fn : List He.DefD} {x : Str} {z : Int} (T : Tx fa fn X.K X.mg) (i : Nat) (h : fa[i]? = some (.int x z)) (hg : Gl X x) (hd : (x == ("__debug__" : Str)) = false := by decide) : PE X (.Name x pos) (tW X.K Fx Wo (wC (.int z))) := by
  obtain ⟨t, e⟩ := T.mgi i x z h
  exact PE.imp (tc_W fun _ => .int z) (pe_glob hg e ⟨t, rfl⟩ hd)
theorem pe_WgS {fa : List He.Fa} {fn : List He.DefD} {x z : Str} (T : Tx fa fn X.K X.mg) (i : Nat) (h : fa[i]? = some (.str x z)) (hg : Gl X x) (hd : (x == ("__debug__" : Str)) = false := by decide) : PE X (.Name x pos) (tW X.K Fx Wo (wC (.str z))) := by
  obtain ⟨t, e⟩ := T.mgs i x z h
  exact PE.imp (tc_W fun _ => .str z) (pe_glob hg e ⟨t, rfl⟩ hd)
/-! ### loops -/
def wItR1 (wa : WA) : WIt := fun env Q E => wa env (fun rs e1 => onN (looksS e1 rs) fun cs => match cs with
    | [⟨.int j, _⟩] => -(2 ^ 62) ≤ j ∧ j < 2 ^ 62 ∧ Q (rngD 0 j.toNat) (fun _ => True) e1
    | _ => False) E
def wItR2 (wa : WA) : WIt := fun env Q E => wa env (fun rs e1 => onN (looksS e1 rs) fun cs => match cs with
    | [⟨.int i, _⟩, ⟨.int j, _⟩] => (-(2 ^ 62) ≤ i ∧ i < 2 ^ 62 ∧ -(2 ^ 62) ≤ j ∧ j < 2 ^ 62) ∧ Q (rngD i (j - i).toNat) (fun _ => True) e1
    | _ => False) E
theorem i_R1 {wa : WA} : ∀ σ H R, tWI X.K Fx Wo (wItR1 wa) σ H R → iRng1 (tWA X.K Fx Wo wa) σ H R := itR1_run
theorem i_R2 {wa : WA} : ∀ σ H R, tWI X.K Fx Wo (wItR2 wa) σ H R → iRng2 (tWA X.K Fx Wo wa) σ H R := itR2_run
theorem itS_run {w : WE} : ∀ σ H R, tWI X.K Fx Wo (wItS w) σ H R → iStr (tW X.K Fx Wo w) σ H R := fun σ H R h => by
  obtain ⟨F, own, env, ts, Qp, Ep, hf, st, w, hq, hx⟩ := h
  refine ⟨F, own, env, ts, _, Ep, hf, st, w, fun v H1 own1 r e1 w1 st1 a1 => ?_, hx⟩
  obtain ⟨⟨d, o⟩, ec, w2⟩ := on1_of w1
  obtain ⟨_, _, o1⟩ := st1.atS a1 ec
  cases d with
  | str z =>
    have o1' := o1.str
    obtain ⟨ex1, ee1⟩ := push_app ts v r
    rw [ee1] at st1
    refine ⟨z, o1', hq _ H1 _ e1 [] _ _ w2 (by rw [List.append_nil]; exact st1.cut_app) fun σ2 env2 own2 ex2 H2 st2 _ i => ?_⟩
    refine ⟨fun d hd => ?_, fun hi => by rw [List.length_map] at hi; exact (show z.cps.size ≤ i by simpa using hi)⟩
    rw [List.getElem?_map] at hd
    cases hz : z.cps.toList[i]? with
    | none => rw [hz] at hd; cases hd
    | some c =>
      rw [hz] at hd
      cases (Option.some.inj hd)
      have hi : i < z.cps.size := by have := (List.getElem?_eq_some_iff.mp hz).1; simpa using this
      refine ⟨hi, fun x H' y p0 => ?_⟩
      obtain ⟨rfl, c', hc', rfl⟩ := y
      have : c' = c := by
        rw [Array.getElem?_toList] at hz
        rw [hz] at hc'
        exact (Option.some.inj hc').symm
      subst this
      exact ⟨own2, NewT.sh st2.frm.alive (.str _)⟩
  | _ => exact (show False from w2).elim
theorem ps_Wfor {wi : WIt} {tg : WTg} {body : WS} {ti : TI} {g : TG} {js : List Nat} {te iter : Expr} {bs : List Stmt} (hp : PassesOwn (model X.prog X.w) X.A X.env X.xe) (hc : X.calm = true) (hi : ∀ σ H R, tWI X.K Fx Wo wi σ H R → ti σ H R) (hg : TgOk X.K Fx g tg js) (pi : PI X te iter ti) (pg : PG X te g) (pb : PSs X bs (tWS X.K Fx Wo body))
    (hs : ∀ x, foldedSetIterable iter X.env x = pure x := by intro _; rfl) : PS X (.For te iter bs [] pos) (tWS X.K Fx Wo (wFor wi tg body)) := PS.imp (for_run hi hg) (ps_for hp hc pi pg pb hs)
theorem pts_W {c : Expr} {t : WT} (h : PT X c (tWT X.K Fx Wo t)) : PTs X [c] (tWT X.K Fx Wo t) := pts_one h
theorem pts_Wnil : PTs X [] (tWT X.K Fx Wo wYes) := ⟨fun pins s σ H Q I h => pts_nil.run pins s σ H Q I (by
  obtain ⟨F, own, env, ts, Qp, Ep, hf, st, w, hq, hx⟩ := h
  exact hq _ _ _ _ w st)⟩
theorem pe_Wlc {wi : WIt} {tg : WTg} {t : WT} {w : WE} {js : List Nat} {ti : TI} {g : TG} {elt te iter : Expr} {ifs : List Expr} {scope : Scope} {own : List (Str × Nat)} (hc : X.calm = true) (hN : X.N.Nodup) (hi : ∀ σ H R, tWI X.K Fx Wo wi σ H R → ti σ H R) (hg : TgOk X.K Fx g tg js) (hj : ∀ j ∈ js, j ∈ own.map (·.2)) (hv : ∀ v ∈ own.map (·.2), v ∉ Fx) (pi : PI X te iter ti) (ok : BlkOk X.N X.env.scope scope own)
    (pg : ∀ (s : Shared) (H : Hp) (C : Addr) (cl : List (Str × Addr)) (fp : List Addr), PG (X.blk s H scope (compEnvC scope cl C X.env) fp) te g) (pt : ∀ (s : Shared) (H : Hp) (C : Addr) (cl : List (Str × Addr)) (fp : List Addr), PTs (X.blk s H scope (compEnvC scope cl C X.env) fp) ifs (tWT X.K Fx NoW t))
    (pe : ∀ (s : Shared) (H : Hp) (C : Addr) (cl : List (Str × Addr)) (fp : List Addr), PE (X.blk s H scope (compEnvC scope cl C X.env) fp) elt (tW X.K Fx NoW w)) (hs : ∀ x, foldedSetIterable iter X.env x = pure x := by intro _; rfl) :
    PE X (.ListComp elt [⟨te, iter, ifs, 0⟩] scope pos) (tW X.K Fx Wo (wLc wi tg t w (own.map (·.2)))) := PE.imp (lc_run hi hg hj hv) (pe_lc hc hN pi ok pg pt pe hs)
theorem ps_WsetLc {i : Nat} {y : Str} {py spos : Pos} {wi : WIt} {tg : WTg} {t : WT} {w : WE} {js : List Nat} {ti : TI} {g : TG} {elt te iter : Expr} {ifs : List Expr} {scope : Scope} {own : List (Str × Nat)} (hiF : i ∉ Fx) (hc : X.calm = true) (hN : X.N.Nodup) (hy : X.N[i]? = some y) (hyl : X.env.scope.names.lookup y = some .local)
    (hsw : swapsWith (.ListComp elt [⟨te, iter, ifs, 0⟩] scope pos) (some (.Name y py)) spos.line X.env = pure true) (hi : ∀ σ H R, tWI X.K Fx Wo wi σ H R → ti σ H R) (hg : TgOk X.K Fx g tg js) (hj : ∀ j ∈ js, j ∈ own.map (·.2)) (hv : ∀ v ∈ own.map (·.2), v ∉ Fx) (pi : PI X te iter ti) (ok : BlkOk X.N X.env.scope scope own)
    (pg : ∀ (s : Shared) (H : Hp) (C : Addr) (cl : List (Str × Addr)) (fp : List Addr), PG (X.blk s H scope (compEnvC scope cl C X.env) fp) te g) (pt : ∀ (s : Shared) (H : Hp) (C : Addr) (cl : List (Str × Addr)) (fp : List Addr), PTs (X.blk s H scope (compEnvC scope cl C X.env) fp) ifs (tWT X.K Fx NoW t))
    (pe : ∀ (s : Shared) (H : Hp) (C : Addr) (cl : List (Str × Addr)) (fp : List Addr), PE (X.blk s H scope (compEnvC scope cl C X.env) fp) elt (tW X.K Fx NoW w)) (hs : ∀ x, foldedSetIterable iter X.env x = pure x := by intro _; rfl) :
    PS X (.Assign [.Name y py] (.ListComp elt [⟨te, iter, ifs, 0⟩] scope pos) spos) (tWS X.K Fx Wo (wAsg i (wLc wi tg t w (own.map (·.2))))) :=
  PS.imp (fun D σ H h => lc_run hi hg hj hv σ H _ (asg_run hiF D σ H h)) (ps_setLc hc hN hy hyl hsw pi ok pg pt pe hs)
theorem pe_WlcS {wi : WIt} {tg : WTg} {t : WT} {w : WE} {js : List Nat} {ti : TI} {g : TG} {elt te iter : Expr} {ifs : List Expr} {scope : Scope} {own : List (Str × Nat)} (hc : X.calm = true) (hN : X.N.Nodup) (hi : ∀ σ H R, tWI X.K Fx Wo wi σ H R → ti σ H R) (hg : TgOk X.K Fx g tg js) (hj : ∀ j ∈ js, j ∈ own.map (·.2)) (hv : ∀ v ∈ own.map (·.2), v ∉ Fx) (pi : PI X te iter ti) (ok : BlkOk X.N X.env.scope scope own)
    (pg : ∀ (s : Shared) (H : Hp) (C : Addr) (cl : List (Str × Addr)) (fp : List Addr), PG (X.blk s H scope (compEnvC scope cl C X.env) fp) te g) (pt : ∀ (s : Shared) (H : Hp) (C : Addr) (cl : List (Str × Addr)) (fp : List Addr), PTs (X.blk s H scope (compEnvC scope cl C X.env) fp) ifs (tWT X.K Fx NoW t))
    (pe : ∀ (s : Shared) (H : Hp) (C : Addr) (cl : List (Str × Addr)) (fp : List Addr), PE (X.blk s H scope (compEnvC scope cl C X.env) fp) elt (tW X.K Fx NoW w)) (hs : ∀ x, foldedSetIterable iter X.env x = pure x := by intro _; rfl) :
    PE X (.ListComp elt [⟨te, iter, ifs, 0⟩] scope pos) (tW X.K Fx Wo (wLcS wi tg t w (own.map (·.2)))) := PE.imp (lcS_run hi hg hj hv) (pe_lc hc hN pi ok pg pt (fun s H C cl fp => PE.sh (pe s H C cl fp)) hs)
theorem ps_WsetLcS {i : Nat} {y : Str} {py spos : Pos} {wi : WIt} {tg : WTg} {t : WT} {w : WE} {js : List Nat} {ti : TI} {g : TG} {elt te iter : Expr} {ifs : List Expr} {scope : Scope} {own : List (Str × Nat)} (hiF : i ∉ Fx) (hc : X.calm = true) (hN : X.N.Nodup) (hy : X.N[i]? = some y) (hyl : X.env.scope.names.lookup y = some .local)
    (hsw : swapsWith (.ListComp elt [⟨te, iter, ifs, 0⟩] scope pos) (some (.Name y py)) spos.line X.env = pure true) (hi : ∀ σ H R, tWI X.K Fx Wo wi σ H R → ti σ H R) (hg : TgOk X.K Fx g tg js) (hj : ∀ j ∈ js, j ∈ own.map (·.2)) (hv : ∀ v ∈ own.map (·.2), v ∉ Fx) (pi : PI X te iter ti) (ok : BlkOk X.N X.env.scope scope own)
    (pg : ∀ (s : Shared) (H : Hp) (C : Addr) (cl : List (Str × Addr)) (fp : List Addr), PG (X.blk s H scope (compEnvC scope cl C X.env) fp) te g) (pt : ∀ (s : Shared) (H : Hp) (C : Addr) (cl : List (Str × Addr)) (fp : List Addr), PTs (X.blk s H scope (compEnvC scope cl C X.env) fp) ifs (tWT X.K Fx NoW t))
    (pe : ∀ (s : Shared) (H : Hp) (C : Addr) (cl : List (Str × Addr)) (fp : List Addr), PE (X.blk s H scope (compEnvC scope cl C X.env) fp) elt (tW X.K Fx NoW w)) (hs : ∀ x, foldedSetIterable iter X.env x = pure x := by intro _; rfl) :
    PS X (.Assign [.Name y py] (.ListComp elt [⟨te, iter, ifs, 0⟩] scope pos) spos) (tWS X.K Fx Wo (wAsg i (wLcS wi tg t w (own.map (·.2))))) :=
  PS.imp (fun D σ H h => lcS_run hi hg hj hv σ H _ (asg_run hiF D σ H h)) (ps_setLc hc hN hy hyl hsw pi ok pg pt (fun s H C cl fp => PE.sh (pe s H C cl fp)) hs)
theorem pe_Wapp {i : Nat} {o e : Expr} {w : WE} {apos cpos : Pos} (ho : PE X o (tVar i)) (he : PE X e (tW X.K Fx Wo w)) (hbase : attributeBase o "append" X.env (eval o X.env) = eval o X.env := by rfl)
    (hfew : ((backTo cpos (starEach [e] X.env)).all (fun x => !x.1) && (backToKw cpos (keywordEach [] X.env)).all (fun x => x.1.isSome) && decide ([e].length + ([] : List Keyword).length + (if ([] : List Keyword).isEmpty then 0 else 1) < 30)) = true := by rfl)
    (hline : (apos.endLine == cpos.line) = true := by rfl) (hs : starEach [e] X.env = (false, eval e X.env) :: starEach [] X.env := by rfl) (hplain : (backTo cpos (starEach [] X.env)).any (·.1) = false := by rfl) :
    PE X (.Call (.Attribute o "append" apos) [e] [] cpos) (tW X.K Fx Wo (wApp i w)) := PE.imp app_run (pe_bm PySem.F.plainAttrs_list PySem.F.slot_list_append PySem.F.type_list_append mt_append ho (pa_cons he pa_nil hs) hbase hfew hline hs hplain)
theorem pe_WpopAt {i : Nat} {o e : Expr} {w : WE} {apos cpos : Pos} (ho : PE X o (tVar i)) (he : PE X e (tW X.K Fx Wo w)) (hbase : attributeBase o "pop" X.env (eval o X.env) = eval o X.env := by rfl)
    (hfew : ((backTo cpos (starEach [e] X.env)).all (fun x => !x.1) && (backToKw cpos (keywordEach [] X.env)).all (fun x => x.1.isSome) && decide ([e].length + ([] : List Keyword).length + (if ([] : List Keyword).isEmpty then 0 else 1) < 30)) = true := by rfl)
    (hline : (apos.endLine == cpos.line) = true := by rfl) (hs : starEach [e] X.env = (false, eval e X.env) :: starEach [] X.env := by rfl) (hplain : (backTo cpos (starEach [] X.env)).any (·.1) = false := by rfl) :
    PE X (.Call (.Attribute o "pop" apos) [e] [] cpos) (tW X.K Fx Wo (wPopAt i w)) := PE.imp popAt_run (pe_bm PySem.F.plainAttrs_list PySem.F.slot_list_pop PySem.F.type_list_pop mt_popAt ho (pa_cons he pa_nil hs) hbase hfew hline hs hplain)
theorem pe_Wpop {i : Nat} {o : Expr} {apos cpos : Pos} (ho : PE X o (tVar i)) (hbase : attributeBase o "pop" X.env (eval o X.env) = eval o X.env := by rfl) (hline : (apos.endLine == cpos.line) = true := by rfl) :
    PE X (.Call (.Attribute o "pop" apos) [] [] cpos) (tW X.K Fx Wo (wPop i)) := PE.imp pop_run (pe_bm0 PySem.F.plainAttrs_list PySem.F.slot_list_pop PySem.F.type_list_pop mt_pop ho hbase hline)
theorem pe_Wclear {i : Nat} {o : Expr} {apos cpos : Pos} (ho : PE X o (tVar i)) (hbase : attributeBase o "clear" X.env (eval o X.env) = eval o X.env := by rfl) (hline : (apos.endLine == cpos.line) = true := by rfl) :
    PE X (.Call (.Attribute o "clear" apos) [] [] cpos) (tW X.K Fx Wo (wClear i)) := PE.imp clear_run (pe_bm0 PySem.F.plainAttrs_list PySem.F.slot_list_clear PySem.F.type_list_clear mt_clear ho hbase hline)
/-- a statement, then the rest, with a word between -/
theorem seqC_run {a b : WS} : ∀ D σ H, tWS X.K Fx Wo (wSeqC a b) D σ H → tSeq (tWS X.K Fx Wo a) (tWS X.K Fx Wo b) D σ H := fun D σ H h => by
  obtain ⟨F, own, env, ts, E, hf, st, ⟨Mid, w1, w2⟩, ok⟩ := h
  exact ⟨F, own, env, ts, { E with nx := Mid }, hf, st, w1, ⟨fun σ1 e1 own1 H1 m1 st1 => ⟨F, own1, e1, ts, E, hf, st1, w2 e1 m1, ok⟩, ok.rt, ok.bk, ok.ct, ok.ex⟩⟩
theorem pss_WconsC {st : Stmt} {rest : List Stmt} {a b : WS} (h1 : PS X st (tWS X.K Fx Wo a)) (h2 : PSs X rest (tWS X.K Fx Wo b)) : PSs X (st :: rest) (tWS X.K Fx Wo (wSeqC a b)) := PSs.imp seqC_run (pss_cons h1 h2)
end

/-! ### the slots, one by one -/
def normE : Env → (Env → Prop) → Prop
  | [], k => k []
  | a :: e, k => normE e fun e' => k (a :: e')
theorem normE_eq : ∀ (e : Env) (k : Env → Prop), normE e k = k e
  | [], _ => rfl
  | a :: e, k => normE_eq e fun e' => k (a :: e')
def wNf (w : WE) : WE := fun env Q E => w env (fun r e1 => normE e1 (Q r)) E
def wNfS (w : WS) : WS := fun D env => w { D with nx := fun e => normE e D.nx } env
theorem wNf_eq (w : WE) : wNf w = w := by
  funext env Q E
  show w env (fun r e1 => normE e1 (Q r)) E = w env Q E
  exact congrArg (fun q => w env q E) (funext fun r => funext fun e1 => normE_eq e1 (Q r))
theorem wNfS_eq (w : WS) : wNfS w = w := by
  funext D env
  show w { D with nx := fun e => normE e D.nx } env = w D env
  have : (fun e => normE e D.nx) = D.nx := funext fun e => normE_eq e D.nx
  rw [this]
section
variable {X : Cx} {Fx : List Nat} {Wo : WX}
theorem pe_Wnf {e : Expr} {w : WE} (h : PE X e (tW X.K Fx Wo w)) : PE X e (tW X.K Fx Wo (wNf w)) := by rw [wNf_eq]; exact h
theorem ps_WnfS {s : Stmt} {w : WS} (h : PS X s (tWS X.K Fx Wo w)) : PS X s (tWS X.K Fx Wo (wNfS w)) := by rw [wNfS_eq]; exact h
end
/-! ### plain helpers -/
abbrev cI (i : Int) : Cl := ⟨.int i, .sh⟩
abbrev cS (x : Str) : Cl := ⟨.str x, .sh⟩
abbrev cB (b : Bool) : Cl := ⟨.bl b, .sh⟩
abbrev cN : Cl := ⟨.non, .sh⟩
theorem ite_b {c : Bool} {A B : Prop} (h1 : c = true → A) (h2 : c = false → B) : if c = true then A else B := by
  cases c with
  | true => exact h1 rfl
  | false => exact h2 rfl
theorem ite_t {c : Bool} {A B : Prop} (h : c = true) (h1 : A) : if c = true then A else B := by rw [if_pos h]; exact h1
theorem ite_f {c : Bool} {A B : Prop} (h : c = false) (h1 : B) : if c = true then A else B := by rw [if_neg (by rw [h]; decide)]; exact h1
theorem ite_d {c A B : Prop} [Decidable c] (h1 : c → A) (h2 : ¬ c → B) : if decide c = true then A else B := ite_b (fun h => h1 (of_decide_eq_true h)) fun h => h2 (of_decide_eq_false h)
theorem rngD_some {lo : Int} {n i : Nat} {d : Dv} (h : (rngD lo n)[i]? = some d) : i < n ∧ d = .int (lo + (i : Nat)) := by
  rw [rngD_get] at h
  split at h
  · exact ⟨by assumption, (Option.some.inj h).symm⟩
  · cases h
theorem rngD_len (lo : Int) (n : Nat) : (rngD lo n).length = n := by simp [rngD]
end Py
set_option Elab.async false
set_option linter.all false
set_option maxRecDepth 100000
set_option maxHeartbeats 4000000
/-! Texts: their signs as lists; names. -/
namespace Py
open PySem PySem.Spec PyProof.Rows L2

abbrev tl (x : Str) : List Nat := x.cps.toList
theorem tl_len (x : Str) : (tl x).length = x.length := Array.length_toList
theorem tl_app (x y : Str) : tl (x ++ y) = tl x ++ tl y := Array.toList_append
theorem tl_one (c : Nat) : tl ⟨#[c]⟩ = [c] := rfl
theorem tl_inj {x y : Str} (h : tl x = tl y) : x = y := by
  cases x; cases y
  exact congrArg Str.mk (Array.toList_inj.mp h)
theorem len_app (x y : Str) : (x ++ y).length = x.length + y.length := by rw [← tl_len, tl_app, List.length_append, tl_len, tl_len]
theorem tl_cut (z : Str) (lo hi : Option Int) : tl (cutS z lo hi) = ((tl z).drop (HT.sIx z.length 0 lo)).take (HT.sIx z.length z.length hi - HT.sIx z.length 0 lo) := rfl
theorem sIx_pos {n d : Nat} {i : Int} (h : 0 ≤ i) : HT.sIx n d (some i) = min i.toNat n := by
  show (if i < 0 then _ else _) = _
  rw [if_neg (by omega)]
theorem tl_cut0 (z : Str) {n : Int} (h : 0 ≤ n) : tl (cutS z none (some n)) = (tl z).take n.toNat := by
  rw [tl_cut, sIx_pos h]
  show ((tl z).drop 0).take (min n.toNat z.length - 0) = _
  rw [List.drop_zero, Nat.sub_zero, ← tl_len, List.take_eq_take_iff]
  omega
theorem tl_cut1 (z : Str) {n : Int} (h : 0 ≤ n) : tl (cutS z (some n) none) = (tl z).drop n.toNat := by
  rw [tl_cut, sIx_pos h]
  show ((tl z).drop (min n.toNat z.length)).take (z.length - min n.toNat z.length) = _
  rw [← tl_len]
  rw [List.take_of_length_le (by rw [List.length_drop]; omega)]
  rcases Nat.le_total n.toNat (tl z).length with h | h
  · rw [Nat.min_eq_left h]
  · rw [Nat.min_eq_right h, List.drop_length, List.drop_eq_nil_of_le h]
theorem cut0_len (z : Str) {n : Int} (h : 0 ≤ n) : (cutS z none (some n)).length = min n.toNat z.length := by rw [← tl_len, tl_cut0 z h, List.length_take, tl_len]
theorem cut1_len (z : Str) {n : Int} (h : 0 ≤ n) : (cutS z (some n) none).length = z.length - n.toNat := by rw [← tl_len, tl_cut1 z h, List.length_drop, tl_len]
/-! ### numbers as texts -/
def dig (n : Nat) : List Nat := (Nat.toDigits 10 n).map Char.toNat
theorem tl_int {i : Int} (h : 0 ≤ i) : tl ((toString i : String) : Str) = dig i.toNat := by
  cases i with
  | ofNat n =>
    show ((Str.ofString (toString (Int.ofNat n))).cps.toList) = _
    rw [Str.ofString_eq_toList]
    show (toString (Int.ofNat n)).toList.map Char.toNat = _
    show (Nat.repr n).toList.map Char.toNat = _
    rw [Nat.toList_repr]
    rfl
  | negSucc n => exact absurd h (by omega)
theorem dig_inj {m n : Nat} (h : dig m = dig n) : m = n := by
  have h2 : Nat.toDigits 10 m = Nat.toDigits 10 n := by
    have inj : ∀ {a b : List Char}, a.map Char.toNat = b.map Char.toNat → a = b := by
      intro a
      induction a with
      | nil => intro b e; cases b with
        | nil => rfl
        | cons c b => cases e
      | cons c a ih => intro b e; cases b with
        | nil => cases e
        | cons c' b =>
          simp only [List.map_cons, List.cons.injEq] at e
          rw [Char.toNat_inj.mp e.1, ih e.2]
    exact inj h
  have := congrArg (Nat.ofDigitChars 10 · 0) h2
  simpa using this
theorem dig_mem {n c : Nat} (h : c ∈ dig n) : 48 ≤ c ∧ c ≤ 57 := by
  unfold dig at h
  rw [List.mem_map] at h
  obtain ⟨d, h1, rfl⟩ := h
  have := Nat.isDigit_of_mem_toDigits (by decide) (by decide) h1
  simp only [Char.isDigit, Bool.and_eq_true, decide_eq_true_eq] at this
  exact ⟨this.1, this.2⟩
theorem dig_len {n k : Nat} (hk : 0 < k) (h : n < 10 ^ k) : (dig n).length ≤ k := by
  unfold dig
  rw [List.length_map]
  exact (Nat.length_toDigits_le_iff (by decide) hk).mpr h
theorem dig_pos (n : Nat) : 0 < (dig n).length := by
  unfold dig
  rw [List.length_map]
  exact Nat.length_toDigits_pos
/-! ### names -/
def isLet (c : Nat) : Bool := decide (97 ≤ c) && decide (c ≤ 122)
def isLD (c : Nat) : Bool := isLet c || (decide (48 ≤ c) && decide (c ≤ 57))
def LDs (x : Str) : Prop := ∀ d ∈ tl x, isLD d = true
def Nm (m : Nat) (x : Str) : Prop := ∃ c r, tl x = c :: r ∧ isLet c = true ∧ (∀ d ∈ r, isLD d = true) ∧ r.length < m
theorem isLet_LD {c : Nat} (h : isLet c = true) : isLD c = true := by simp [isLD, h]
theorem ld_of {x y : Str} (h : ∀ d ∈ tl y, d ∈ tl x) (hx : LDs x) : LDs y := fun d hd => hx d (h d hd)
theorem ld_app {x y : Str} (h : LDs x) (k : LDs y) : LDs (x ++ y) := fun d hd => by
  rw [tl_app, List.mem_append] at hd
  rcases hd with hd | hd
  · exact h d hd
  · exact k d hd
theorem ld_cut {x : Str} (h : LDs x) (lo hi : Option Int) : LDs (cutS x lo hi) := fun d hd => by
  rw [tl_cut] at hd
  exact h d (List.mem_of_mem_drop (List.mem_of_mem_take hd))
theorem ld_int {i : Int} (h : 0 ≤ i) : LDs ((toString i : String) : Str) := fun d hd => by
  rw [tl_int h] at hd
  have := dig_mem hd
  simp [isLD, this.1, this.2]
theorem ld_one {c : Nat} (h : isLD c = true) : LDs ⟨#[c]⟩ := fun d hd => by
  rw [tl_one, List.mem_singleton] at hd
  rw [hd]; exact h
theorem Nm.ld {m : Nat} {x : Str} (h : Nm m x) : LDs x := by
  obtain ⟨c, r, e, h1, h2, _⟩ := h
  intro d hd
  rw [e, List.mem_cons] at hd
  rcases hd with rfl | hd
  · exact isLet_LD h1
  · exact h2 d hd
theorem Nm.len {m : Nat} {x : Str} (h : Nm m x) : 1 ≤ x.length ∧ x.length ≤ m := by
  obtain ⟨c, r, e, h1, h2, h3⟩ := h
  rw [← tl_len, e, List.length_cons]
  omega
theorem Nm.of_len {m m' : Nat} {x : Str} (h : Nm m x) (hl : x.length ≤ m') : Nm m' x := by
  obtain ⟨c, r, e, h1, h2, h3⟩ := h
  refine ⟨c, r, e, h1, h2, ?_⟩
  rw [← tl_len, e, List.length_cons] at hl
  omega
theorem Nm.mono {m m' : Nat} {x : Str} (h : Nm m x) (hl : m ≤ m') : Nm m' x := h.of_len (Nat.le_trans h.len.2 hl)
theorem Nm.app {m m' : Nat} {x y : Str} (h : Nm m x) (hy : LDs y) (hl : x.length + y.length ≤ m') : Nm m' (x ++ y) := by
  obtain ⟨c, r, e, h1, h2, h3⟩ := h
  refine ⟨c, r ++ tl y, by rw [tl_app, e]; rfl, h1, fun d hd => ?_, ?_⟩
  · rw [List.mem_append] at hd
    rcases hd with hd | hd
    · exact h2 d hd
    · exact hy d hd
  · rw [← tl_len, e, List.length_cons] at hl
    rw [List.length_append, tl_len]
    omega
theorem Nm.cut {m : Nat} {x : Str} (h : Nm m x) {n : Int} (hn : 1 ≤ n) : Nm m (cutS x none (some n)) := by
  obtain ⟨c, r, e, h1, h2, h3⟩ := h
  refine ⟨c, r.take (n.toNat - 1), ?_, h1, fun d hd => h2 d (List.mem_of_mem_take hd), by rw [List.length_take]; omega⟩
  rw [tl_cut0 x (by omega), e]
  obtain ⟨k, hk⟩ : ∃ k, n.toNat = k + 1 := ⟨n.toNat - 1, by omega⟩
  rw [hk]
  rfl
theorem Nm.first {m : Nat} {x : Str} (h : Nm m x) : ∃ c, atI (tl x) 0 = some c ∧ Nm 1 ⟨#[c]⟩ := by
  obtain ⟨c, r, e, h1, h2, h3⟩ := h
  refine ⟨c, by rw [e]; exact atI_nat (j := 0) rfl, c, [], rfl, h1, fun d hd => (by cases hd), Nat.one_pos⟩
theorem nm_one {c : Nat} (h : isLet c = true) : Nm 1 ⟨#[c]⟩ := ⟨c, [], rfl, h, fun d hd => (by cases hd), Nat.one_pos⟩
/-! ### places -/
set_option exponentiation.threshold 9000
theorem ex_ix {xs : List Dv} {i : Int} {d : Dv} {k : Dv → Prop} (h : atI xs i = some d) (hk : k d) : ∃ d, atI xs i = some d ∧ k d := ⟨d, h, hk⟩
theorem ex_ixS {xs : List Nat} {i : Int} {d : Nat} {k : Nat → Prop} (h : atI xs i = some d) (hk : k d) : ∃ d, atI xs i = some d ∧ k d := ⟨d, h, hk⟩
theorem ex_n {l : Nat} {i : Int} {j : Nat} {k : Nat → Prop} (h : ixN l i = some j) (hk : k j) : ∃ j, ixN l i = some j ∧ k j := ⟨j, h, hk⟩
theorem nat_small {j : Int} (h : 0 ≤ j) (h2 : j ≤ 10 ^ 70) : j.natAbs < 2 ^ 8000 := Nat.lt_of_le_of_lt (show j.natAbs ≤ 10 ^ 70 by omega) (by decide)
theorem atI_in {α : Type} {xs : List α} {r : Int} (h0 : 0 ≤ r) (h1 : r < xs.length) : ∃ d, atI xs r = some d ∧ d ∈ xs := by
  have h : r.toNat < xs.length := by omega
  refine ⟨xs[r.toNat], ?_, List.getElem_mem h⟩
  have := atI_nat (xs := xs) (j := r.toNat) (v := xs[r.toNat]) (List.getElem?_eq_getElem h)
  rwa [Int.toNat_of_nonneg h0] at this
theorem ixN_in {n : Nat} {r : Int} (h0 : 0 ≤ r) (h1 : r < n) : ixN n r = some r.toNat := by
  unfold ixN
  rw [if_pos h0, if_pos h1]
theorem any_str (us : List Str) (x : Str) : ((us.map Dv.str).any fun e => eqD e (.str x)) = decide (x ∈ us) := by
  induction us with
  | nil => rfl
  | cons u us ih =>
    rw [List.map_cons, List.any_cons, ih]
    show ((u == x) || _) = _
    by_cases h : u = x
    · subst h; simp
    · simp [h, Ne.symm h]
theorem all_scal (us : List Str) : (us.map Dv.str).all Dv.scal = true := by
  induction us with
  | nil => rfl
  | cons u us ih => rw [List.map_cons, List.all_cons, ih]; rfl
theorem pigeon {α : Type} [DecidableEq α] : ∀ (xs ys : List α), xs.Nodup → (∀ x ∈ xs, x ∈ ys) → xs.length ≤ ys.length
  | [], _, _, _ => Nat.zero_le _
  | x :: xs, ys, h, k => by
    rw [List.nodup_cons] at h
    have := pigeon xs (ys.erase x) h.2 fun y hy => by
      have hne : y ≠ x := fun e => h.1 (e ▸ hy)
      exact (List.mem_erase_of_ne hne).mpr (k y (List.mem_cons_of_mem _ hy))
    rw [List.length_erase_of_mem (k x List.mem_cons_self)] at this
    have hp : 0 < ys.length := List.length_pos_of_mem (k x List.mem_cons_self)
    rw [List.length_cons]
    omega
end Py
set_option Elab.async false
set_option linter.all false
set_option maxRecDepth 100000
set_option maxHeartbeats 4000000
/-! Sets of texts: set(xs) and sorted(s), any number of them below 4000. -/
namespace Py
open PySem PySem.Spec PyProof.Rows L2

/-- the set at a holds the texts l -/
def TxSet (P : Program) (w : World) (h : Heap) (a : Addr) (l : List Str) : Prop := ∃ D : Froz.SD, h.get? a = some (Froz.sObj "set" D) ∧ Froz.TxOk P w D l ∧ Ris D.2.2.place.toList ∧ (w.params.followText "set-order" = true ∨ D.2.2.led = true)
section
variable {P : Program} {w : World} {A : Around} {E : Value → Shared → Prop} {s : Shared} {a : Addr} {l : List Str} {k : Str} {tk : Tok}
theorem TxSet.at {h h' : Heap} (R : TxSet P w h a l) (e : ∀ o, h.get? a = some o → h'.get? a = some o) : TxSet P w h' a l := by
  obtain ⟨D, h1, h2, h3, h4⟩ := R
  exact ⟨D, e _ h1, h2, h3, h4⟩
theorem tail_ris {ep : Nat} {es : Array (Int × Value)} {t : SetTable} {b : Bool} (r : Ris t.place.toList) : Ris (Froz.tailTx ep es t b).2.2.place.toList := by
  unfold Froz.tailTx
  split
  · exact relayAll_ris _ _ _
  · exact r
theorem tail_led {ep : Nat} {es : Array (Int × Value)} {t : SetTable} {b : Bool} : (Froz.tailTx ep es t b).2.2.led = t.led := by
  unfold Froz.tailTx
  split
  · exact relayAll_led _ _ _
  · rfl
theorem addTx_ris {h : Int} {v : Value} {D : Froz.SD} (r : Ris D.2.2.place.toList) : Ris (Froz.addTx h v D).2.2.place.toList := by
  have h1 := layNew_ris D.2.2 D.1 h v r
  unfold Froz.addTx
  refine tail_ris ?_
  by_cases c : (layNew D.2.2 D.1 h v).2.1.plain = true
  · rw [if_pos c]; exact h1
  · rw [if_neg c]; exact h1
theorem addTx_led {h : Int} {v : Value} {D : Froz.SD} : (Froz.addTx h v D).2.2.led = D.2.2.led := by
  have h1 := layNew_led D.2.2 D.1 h v
  unfold Froz.addTx
  refine tail_led.trans ?_
  by_cases c : (layNew D.2.2 D.1 h v).2.1.plain = true
  · rw [if_pos c]; exact h1
  · rw [if_neg c]; exact h1
theorem txSet_add {Q : Bool → Shared → Prop} (R : TxSet P w s.heap a l) (hb : l.length + 1 < scanBound)
    (hQ : ∀ b h' l', Heap.SameBut a s.heap h' → TxSet P w h' a l' → (k ∈ l ∧ l' = l ∨ k ∉ l ∧ l' = k :: l) → Q b { s with heap := h' }) : wpAny (model P w) A (setAddHashed a (.str k tk) (hashStr w k)) Q E s := by
  obtain ⟨D, ho, F, hr, hl⟩ := R
  rcases Classical.em (k ∈ l) with hk | hk
  · have e : s = { s with heap := s.heap } := by cases s; rfl
    have q := hQ false s.heap l (Heap.SameBut.refl a s.heap) ⟨D, ho, F, hr, hl⟩ (.inl ⟨hk, rfl⟩)
    rw [← e] at q
    obtain ⟨es, ep, t⟩ := D
    have hd : (Froz.sObj "set" (es, ep, t)).data = .set es ep t := rfl
    have hel : ElemsOf (strKind P w) es.toList := F.el
    have hf : t.fits es.size = true := F.fit
    have hsz : es.size = l.length := F.sz
    have hkey : (strKind P w).is k (.str k tk) = true := strKind_is P w k tk
    unfold setAddHashed setAddHashedIn
    refine wpAny_holding (wpAny_bind (wpAny_setState_of ho hd hf ?_))
    dsimp only
    rw [byScan_of rfl (by omega) hel]
    simp only [↓reduceIte]
    unfold setAddByScan
    refine wpAny_bind ?_
    refine wpAny_bind (wpAny_rule ?_)
    refine wpAny_bind (wpAny_setScan_of (knd := strKind P w) (k := k) hkey ho hd hf hel ?_)
    cases hx : List.findIdx? (fun e => (strKind P w).is k e.2) es.toList with
    | none =>
      obtain ⟨e, he, hp⟩ := (F.mem k).mp hk
      have := List.findIdx?_eq_none_iff.mp hx e he
      rw [hp] at this
      exact Bool.noConfusion this
    | some j =>
      dsimp only
      exact wpAny_pure (wpAny_pure q)
  · refine Froz.add_x ho F hk hb (hQ true _ (k :: l) ?_ ⟨_, Froz.get_upd _ ho rfl, Froz.add_ok tk F, addTx_ris hr, hl.imp id fun h => addTx_led.trans h⟩ (.inr ⟨hk, rfl⟩))
    exact ⟨Heap.size_update .., fun b hb => Heap.get?_update_ne _ _ _ _ hb⟩
theorem txSet_new {h : Heap} (ho : h.get? a = some { cls := .type "set", dict := none, data := .set #[] 0 (.fresh 0 0 (!w.params.followText "set-order")) }) : TxSet P w h a [] :=
  ⟨(#[], 0, _), ho, Froz.TxOk.nil rfl, List.Pairwise.nil, by
    show _ ∨ (!w.params.followText "set-order") = true
    cases w.params.followText "set-order"
    · exact .inr rfl
    · exact .inl rfl⟩
/-- set.update's loop -/
theorem set_update_txts {I : Addr} {fp wr : List Addr} {G : Array GenState → Array GenState → Prop} {n : Nat} {Pv : Nat → Value → Prop} {St : Nat → Shared → Prop} {R : Result → Shared → Prop}
    (W : WalksS P w A.in1 I fp wr G n Pv St) (S : Addr) (hSf : S ∉ fp) (xs : List Str) (hn : n = xs.length) (hb : xs.length + 1 < scanBound) (hval : ∀ i v, Pv i v → ∃ k t, xs[i]? = some k ∧ v = .str k t) :
    ∀ (k i : Nat) (s : Shared), n - i = k → i ≤ n → St i s → (∃ l, l.length ≤ i ∧ l.Nodup ∧ (∀ x, x ∈ l ↔ x ∈ xs.take i) ∧ TxSet P w s.heap S l) →
      (∀ s' l, Moved (S :: wr) G s s' → l.Nodup → (∀ x, x ∈ l ↔ x ∈ xs) → l.length ≤ n → TxSet P w s'.heap S l → R (.ok (.ret .none)) s') →
      codeAny (model P w) A (.builtin "set.update.loop" ⟨[.ref S, .ref I], []⟩) R s := by
  have hSw : S ∉ wr := fun h => hSf (W.sub _ h)
  have hsub : ∀ b ∈ wr, b ∈ S :: wr := fun b hb => List.mem_cons_of_mem _ hb
  intro k
  induction k with
  | zero =>
    intro i s hk' hi hst ⟨l, hl, hnd, hm, hS⟩ hR
    have hin : i = n := by omega
    subst hin
    refine codeAny_builtin F.entry_set_update_loop ?_
    rw [Around.under_plainId F.plain_set_update_loop _]
    show wpAny _ A.in1 (pyNext (.ref I) >>= _) _ _ s
    refine wpAny_bind (W.done s _ _ hst fun s' hmv => ?_)
    show wpAny _ A.in1 (ret Value.none) _ _ s'
    have e : xs.take i = xs := List.take_of_length_le (by omega)
    rw [e] at hm
    exact wpAny_pure (hR s' l (hmv.mono hsub) hnd hm hl (hS.at fun o e => hmv.heap S o hSw e))
  | succ k ih =>
    intro i s hk' hi hst ⟨l, hl, hnd, hm, hS⟩ hR
    have hlt : i < n := by omega
    refine codeAny_builtin F.entry_set_update_loop ?_
    rw [Around.under_plainId F.plain_set_update_loop _]
    show wpAny _ A.in1 (pyNext (.ref I) >>= _) _ _ s
    refine wpAny_bind (W.item i s _ _ hlt hst fun v s' hP hst' hmv => ?_)
    obtain ⟨z, t, hz, rfl⟩ := hval i v hP
    have hS' : TxSet P w s'.heap S l := hS.at fun o e => hmv.heap S o hSw e
    show wpAny _ A.in1 (holding [Value.str z t] (setAdd S (.str z t)) >>= _) _ _ s'
    refine wpAny_bind (wpAny_holding ?_)
    unfold setAdd
    refine wpAny_holding ?_
    refine wpAny_bind ((strKind P w).pyHash (k := z) (strKind_is _ _ _ _) ?_)
    refine txSet_add (s := { s' with toks := s'.toks + 1 }) hS' (by omega) fun b h' l' hsb hS2 hl' => ?_
    have tk1 : xs.take (i + 1) = xs.take i ++ [z] := by rw [List.take_add_one, hz]; rfl
    have hnd' : l'.Nodup := by
      rcases hl' with ⟨_, rfl⟩ | ⟨hz', rfl⟩
      · exact hnd
      · exact List.nodup_cons.mpr ⟨hz', hnd⟩
    have hm' : ∀ x, x ∈ l' ↔ x ∈ xs.take (i + 1) := fun x => by
      rw [tk1, List.mem_append, List.mem_singleton, ← hm x]
      rcases hl' with ⟨hz', rfl⟩ | ⟨hz', rfl⟩
      · exact ⟨.inl, fun h => h.elim id fun e => e ▸ hz'⟩
      · rw [List.mem_cons]; exact Or.comm
    have hlen' : l'.length ≤ i + 1 := by
      rcases hl' with ⟨_, rfl⟩ | ⟨_, rfl⟩
      · omega
      · rw [List.length_cons]; omega
    refine wpAny_pure ⟨plainId_quiet F.plain_set_update_loop _, ih (i + 1) _ (by omega) hlt (W.frame _ s' _ _ hst' (Nat.le_succ _) fun b hb o e => ?_) ⟨l', hlen', hnd', hm', hS2⟩ fun s'' l2 hm'' k1 k2 k3 k4 => ?_⟩
    · rw [hsb.2 b (fun h : b = S => hSf (by rw [← h]; exact hb))]; exact e
    · refine hR s'' l2 (Moved.trans W.gtrans ((hmv.mono hsub).then_heap (Nat.le_succ _) fun b o hb e => ?_) hm'') k1 k2 k3 k4
      rw [hsb.2 b (fun h : b = S => hb (by rw [h]; exact List.mem_cons_self))]; exact e

set_option maxRecDepth 100000 in
set_option maxHeartbeats 3200000 in
theorem call_set_txtL {l : Addr} {items : Array Value} (xs : List Str) {Q : Value → Shared → Prop} (hh : A.handled = none) (hl : s.heap.IsList l items) (hit : StrsAre items.toList xs) (hb : xs.length + 1 < scanBound)
    (h : ∀ (h' : Heap) (tk : Nat) (L : List Str), TxSet P w h' s.heap.objs.size L → L.Nodup → (∀ x, x ∈ L ↔ x ∈ xs) → L.length ≤ xs.length → (∀ b o, s.heap.get? b = some o → h'.get? b = some o) → Q (.ref s.heap.objs.size) { s with heap := h', toks := tk }) :
    wpAny (model P w) A (call (.type "set") [.ref l]) Q E s := by
  have hisz : items.size = xs.length := by
    have q := StrsAre.length hit
    rw [Array.length_toList] at q
    exact q
  obtain ⟨c, tl, hmro⟩ := F.called_set.mro
  have hmade := F.called_set.made
  have hsub := F.called_set.sub
  refine wpAny_call (codeAny_of_tree ?_)
  show wpAny _ _ (callAny (.type "set") _) _ _ _
  refine wpAny_pure ⟨Code.quiet_builtin _ (by decide +kernel), codeAny_builtin F.entry_type_call ?_⟩
  rw [Around.under_plain (weight_type_call_type "set" [.ref l] []) rfl]
  have h1 := F.called_set.notType
  have h2 := F.called_set.canCreate
  have hct := F.typeCall_set_1 (.ref l)
  repeat (any_goals (first | assumption | wp_step))

  refine codeAny_mono (code_set_led1 (.ref l) (E := E) (Q₁ := fun obj s₁ => obj = .ref s.heap.objs.size ∧ s₁ = { s with heap := s.heap.push { cls := .type "set", dict := none, data := .set #[] 0 (.fresh 0 0 (!w.params.followText "set-order")) } }) ⟨rfl, rfl⟩) fun r s₁ hr => ?_
  cases r with
  | error e => exact hr
  | ok fl =>
    cases fl with
    | ret obj =>
      obtain ⟨rfl, rfl⟩ := hr
      have hS : (s.heap.push { cls := .type "set", dict := none, data := .set #[] 0 (.fresh 0 0 (!w.params.followText "set-order")) }).get? s.heap.objs.size = some { cls := .type "set", dict := none, data := .set #[] 0 (.fresh 0 0 (!w.params.followText "set-order")) } := Heap.get?_push_size _ rfl
      have hT : Shared.TypeIs { s with heap := s.heap.push { cls := .type "set", dict := none, data := .set #[] 0 (.fresh 0 0 (!w.params.followText "set-order")) } } (.ref s.heap.objs.size) "set" := ⟨_, hS, rfl⟩
      have hli := F.called_set.init.lookup
      have hbi := F.called_set.init.bind (.ref s.heap.objs.size)
      repeat (any_goals (first | assumption | wp_step))

      refine codeAny_mono (codeAny_call_builtin (R := wants (fun r s₂ => r = .none ∧ ∃ h' tk L, s₂ = { s with heap := h', toks := tk } ∧ TxSet P w h' s.heap.objs.size L ∧ L.Nodup ∧ (∀ x, x ∈ L ↔ x ∈ xs) ∧ L.length ≤ xs.length ∧
          (∀ b o, s.heap.get? b = some o → h'.get? b = some o)) E) F.called_set.init.plain F.entry_set_init (check_set_init_1 hT ?_)) fun r₂ s₂ hr₂ => ?_
      · obtain ⟨ol, hol, hcl, nl, hdl⟩ := hl
        obtain ⟨ocls, odict, odata, oslots⟩ := ol
        simp only at hcl hdl
        subst hcl; subst hdl
        have hol' : (s.heap.push { cls := .type "set", dict := none, data := .set #[] 0 (.fresh 0 0 (!w.params.followText "set-order")) }).get? l = some { cls := .type "list", dict := odict, data := .seq items nl, slots := oslots } := Heap.get?_push_of_some _ hol
        have hsls := F.sub_list_set
        have hslf := F.sub_list_frozenset
        have hne : (Value.type "list" == Value.type "dict") = false := by decide
        have hl1 : (s.heap.push { cls := .type "set", dict := none, data := .set #[] 0 (.fresh 0 0 (!w.params.followText "set-order")) }).IsList l items := ⟨_, hol', rfl, nl, rfl⟩
        unfold Builtin.«set.__init__» noKeywords Builtin.Frozenset.updateFrom
        generalize hPI : pyIter = PI
        wp_walk
        subst hPI

        refine wpAny_pyIter_list hl1 ?_
        refine wpAny_bind (wpAny_runValue ?_)
        have hlS : l < s.heap.objs.size := Heap.lt_size hol
        have hh3 : A.in1.in1.in1.handled = none := by simp [hh]
        have hz1 : (s.heap.push { cls := .type "set", dict := none, data := .set #[] 0 (.fresh 0 0 (!w.params.followText "set-order")) }).objs.size = s.heap.objs.size + 1 := Heap.size_push ..
        have hneI : l ≠ (s.heap.push { cls := .type "set", dict := none, data := .set #[] 0 (.fresh 0 0 (!w.params.followText "set-order")) }).objs.size := by
          rw [Heap.size_push]; exact Nat.ne_of_lt (Nat.lt_succ_of_lt hlS)
        have hSf : s.heap.objs.size ∉ [(s.heap.push { cls := .type "set", dict := none, data := .set #[] 0 (.fresh 0 0 (!w.params.followText "set-order")) }).objs.size, l] := by
          rw [Heap.size_push]; simp only [List.mem_cons, List.mem_singleton, List.not_mem_nil, or_false, not_or]
          exact ⟨Nat.ne_of_lt (Nat.lt_succ_self _), Nat.ne_of_gt hlS⟩
        have hval : ∀ (i : Nat) (v : Value), items[i]? = some v → ∃ k t, xs[i]? = some k ∧ v = .str k t := fun i v hv => by
          obtain ⟨y, t, e1, e2⟩ := StrsAre.item hit i v (by rw [Array.getElem?_toList]; exact hv)
          exact ⟨y, t, e2, e1⟩
        refine set_update_txts ((Walks.list hh3 _ l hneI items).toS) s.heap.objs.size
          hSf xs hisz hb hval (items.size - 0) 0 _ (by omega) (Nat.zero_le _)
          ⟨⟨_, Heap.get?_push_size _ rfl, rfl, rfl⟩, (hl1.push _)⟩ ?hS0 ?hR
        case hS0 =>
          have hget : ((s.heap.push { cls := .type "set", dict := none, data := .set #[] 0 (.fresh 0 0 (!w.params.followText "set-order")) }).push { cls := .type "list_iterator", data := .fields #[.ref l, .int 0 0] }).get? s.heap.objs.size
              = some { cls := .type "set", dict := none, data := .set #[] 0 (.fresh 0 0 (!w.params.followText "set-order")) } := Heap.get?_push_of_some _ hS
          exact ⟨[], Nat.le_refl 0, List.nodup_nil, fun x => by simp, txSet_new hget⟩
        case hR =>
          intro s' L hm k1 k2 k3 hS'
          obtain ⟨h', g2, d', tk', os'⟩ := s'
          have eg : g2 = s.gens := hm.gens
          have ed : d' = s.drawn := hm.drawn
          have eo : os' = s.os := hm.os
          subst eg; subst ed; subst eo
          show wpAny _ _ _ _ _ _
          refine wpAny_pure ?_
          show wpAny _ _ (ret Value.none) _ _ _
          rw [hisz] at k3
          refine wpAny_pure ⟨rfl, h', tk', L, rfl, hS', k1, k2, k3, fun b o e => ?_⟩
          have hb0 : b < s.heap.objs.size := Heap.lt_size e
          have hb1 : b ≠ s.heap.objs.size := Nat.ne_of_lt hb0
          have hb2 : b ≠ (s.heap.push { cls := .type "set", dict := none, data := .set #[] 0 (.fresh 0 0 (!w.params.followText "set-order")) }).objs.size := by
            rw [Heap.size_push]; exact Nat.ne_of_lt (Nat.lt_succ_of_lt hb0)
          exact hm.heap b o (by simp only [List.mem_cons, List.mem_singleton, List.not_mem_nil, or_false, not_or]; exact ⟨hb1, hb2⟩) (Heap.get?_push_of_some _ (Heap.get?_push_of_some _ e))

      · cases r₂ with
        | error e => exact hr₂
        | ok fl₂ =>
          cases fl₂ with
          | ret r =>
            obtain ⟨rfl, h', tk, L, rfl, hS', k1, k2, k3, hk'⟩ := hr₂
            repeat (any_goals (first | assumption | wp_step))
            exact h _ _ _ hS' k1 k2 k3 hk'
          | _ => exact hr₂.elim
    | _ => exact hr.elim

set_option maxRecDepth 100000 in
set_option maxHeartbeats 3200000 in
theorem call_set_txtT {l : Addr} {items : Array Value} (xs : List Str) {Q : Value → Shared → Prop} (hh : A.handled = none) (hl : s.heap.IsTuple l items) (hit : StrsAre items.toList xs) (hb : xs.length + 1 < scanBound)
    (h : ∀ (h' : Heap) (tk : Nat) (L : List Str), TxSet P w h' s.heap.objs.size L → L.Nodup → (∀ x, x ∈ L ↔ x ∈ xs) → L.length ≤ xs.length → (∀ b o, s.heap.get? b = some o → h'.get? b = some o) → Q (.ref s.heap.objs.size) { s with heap := h', toks := tk }) :
    wpAny (model P w) A (call (.type "set") [.ref l]) Q E s := by
  have hisz : items.size = xs.length := by
    have q := StrsAre.length hit
    rw [Array.length_toList] at q
    exact q
  obtain ⟨c, tl, hmro⟩ := F.called_set.mro
  have hmade := F.called_set.made
  have hsub := F.called_set.sub
  refine wpAny_call (codeAny_of_tree ?_)
  show wpAny _ _ (callAny (.type "set") _) _ _ _
  refine wpAny_pure ⟨Code.quiet_builtin _ (by decide +kernel), codeAny_builtin F.entry_type_call ?_⟩
  rw [Around.under_plain (weight_type_call_type "set" [.ref l] []) rfl]
  have h1 := F.called_set.notType
  have h2 := F.called_set.canCreate
  have hct := F.typeCall_set_1 (.ref l)
  repeat (any_goals (first | assumption | wp_step))

  refine codeAny_mono (code_set_led1 (.ref l) (E := E) (Q₁ := fun obj s₁ => obj = .ref s.heap.objs.size ∧ s₁ = { s with heap := s.heap.push { cls := .type "set", dict := none, data := .set #[] 0 (.fresh 0 0 (!w.params.followText "set-order")) } }) ⟨rfl, rfl⟩) fun r s₁ hr => ?_
  cases r with
  | error e => exact hr
  | ok fl =>
    cases fl with
    | ret obj =>
      obtain ⟨rfl, rfl⟩ := hr
      have hS : (s.heap.push { cls := .type "set", dict := none, data := .set #[] 0 (.fresh 0 0 (!w.params.followText "set-order")) }).get? s.heap.objs.size = some { cls := .type "set", dict := none, data := .set #[] 0 (.fresh 0 0 (!w.params.followText "set-order")) } := Heap.get?_push_size _ rfl
      have hT : Shared.TypeIs { s with heap := s.heap.push { cls := .type "set", dict := none, data := .set #[] 0 (.fresh 0 0 (!w.params.followText "set-order")) } } (.ref s.heap.objs.size) "set" := ⟨_, hS, rfl⟩
      have hli := F.called_set.init.lookup
      have hbi := F.called_set.init.bind (.ref s.heap.objs.size)
      repeat (any_goals (first | assumption | wp_step))

      refine codeAny_mono (codeAny_call_builtin (R := wants (fun r s₂ => r = .none ∧ ∃ h' tk L, s₂ = { s with heap := h', toks := tk } ∧ TxSet P w h' s.heap.objs.size L ∧ L.Nodup ∧ (∀ x, x ∈ L ↔ x ∈ xs) ∧ L.length ≤ xs.length ∧
          (∀ b o, s.heap.get? b = some o → h'.get? b = some o)) E) F.called_set.init.plain F.entry_set_init (check_set_init_1 hT ?_)) fun r₂ s₂ hr₂ => ?_
      · obtain ⟨ol, hol, hcl, nl, hdl⟩ := hl
        obtain ⟨ocls, odict, odata, oslots⟩ := ol
        simp only at hcl hdl
        subst hcl; subst hdl
        have hol' : (s.heap.push { cls := .type "set", dict := none, data := .set #[] 0 (.fresh 0 0 (!w.params.followText "set-order")) }).get? l = some { cls := .type "tuple", dict := odict, data := .seq items nl, slots := oslots } := Heap.get?_push_of_some _ hol
        have hsls := F.sub_tuple_set
        have hslf := F.sub_tuple_frozenset
        have hne : (Value.type "tuple" == Value.type "dict") = false := by decide
        have hl1 : (s.heap.push { cls := .type "set", dict := none, data := .set #[] 0 (.fresh 0 0 (!w.params.followText "set-order")) }).IsTuple l items := ⟨_, hol', rfl, nl, rfl⟩
        unfold Builtin.«set.__init__» noKeywords Builtin.Frozenset.updateFrom
        generalize hPI : pyIter = PI
        wp_walk
        subst hPI

        refine wpAny_pyIter_tuple hl1 ?_
        refine wpAny_bind (wpAny_runValue ?_)
        have hlS : l < s.heap.objs.size := Heap.lt_size hol
        have hh3 : A.in1.in1.in1.handled = none := by simp [hh]
        have hz1 : (s.heap.push { cls := .type "set", dict := none, data := .set #[] 0 (.fresh 0 0 (!w.params.followText "set-order")) }).objs.size = s.heap.objs.size + 1 := Heap.size_push ..
        have hneI : l ≠ (s.heap.push { cls := .type "set", dict := none, data := .set #[] 0 (.fresh 0 0 (!w.params.followText "set-order")) }).objs.size := by
          rw [Heap.size_push]; exact Nat.ne_of_lt (Nat.lt_succ_of_lt hlS)
        have hSf : s.heap.objs.size ∉ [(s.heap.push { cls := .type "set", dict := none, data := .set #[] 0 (.fresh 0 0 (!w.params.followText "set-order")) }).objs.size, l] := by
          rw [Heap.size_push]; simp only [List.mem_cons, List.mem_singleton, List.not_mem_nil, or_false, not_or]
          exact ⟨Nat.ne_of_lt (Nat.lt_succ_self _), Nat.ne_of_gt hlS⟩
        have hval : ∀ (i : Nat) (v : Value), items[i]? = some v → ∃ k t, xs[i]? = some k ∧ v = .str k t := fun i v hv => by
          obtain ⟨y, t, e1, e2⟩ := StrsAre.item hit i v (by rw [Array.getElem?_toList]; exact hv)
          exact ⟨y, t, e2, e1⟩
        refine set_update_txts ((Walks.tuple hh3 _ l hneI items).toS) s.heap.objs.size
          hSf xs hisz hb hval (items.size - 0) 0 _ (by omega) (Nat.zero_le _)
          ⟨⟨_, Heap.get?_push_size _ rfl, rfl, rfl⟩, (hl1.push _)⟩ ?hS0 ?hR
        case hS0 =>
          have hget : ((s.heap.push { cls := .type "set", dict := none, data := .set #[] 0 (.fresh 0 0 (!w.params.followText "set-order")) }).push { cls := .type "tuple_iterator", data := .fields #[.ref l, .int 0 0] }).get? s.heap.objs.size
              = some { cls := .type "set", dict := none, data := .set #[] 0 (.fresh 0 0 (!w.params.followText "set-order")) } := Heap.get?_push_of_some _ hS
          exact ⟨[], Nat.le_refl 0, List.nodup_nil, fun x => by simp, txSet_new hget⟩
        case hR =>
          intro s' L hm k1 k2 k3 hS'
          obtain ⟨h', g2, d', tk', os'⟩ := s'
          have eg : g2 = s.gens := hm.gens
          have ed : d' = s.drawn := hm.drawn
          have eo : os' = s.os := hm.os
          subst eg; subst ed; subst eo
          show wpAny _ _ _ _ _ _
          refine wpAny_pure ?_
          show wpAny _ _ (ret Value.none) _ _ _
          rw [hisz] at k3
          refine wpAny_pure ⟨rfl, h', tk', L, rfl, hS', k1, k2, k3, fun b o e => ?_⟩
          have hb0 : b < s.heap.objs.size := Heap.lt_size e
          have hb1 : b ≠ s.heap.objs.size := Nat.ne_of_lt hb0
          have hb2 : b ≠ (s.heap.push { cls := .type "set", dict := none, data := .set #[] 0 (.fresh 0 0 (!w.params.followText "set-order")) }).objs.size := by
            rw [Heap.size_push]; exact Nat.ne_of_lt (Nat.lt_succ_of_lt hb0)
          exact hm.heap b o (by simp only [List.mem_cons, List.mem_singleton, List.not_mem_nil, or_false, not_or]; exact ⟨hb1, hb2⟩) (Heap.get?_push_of_some _ (Heap.get?_push_of_some _ e))

      · cases r₂ with
        | error e => exact hr₂
        | ok fl₂ =>
          cases fl₂ with
          | ret r =>
            obtain ⟨rfl, h', tk, L, rfl, hS', k1, k2, k3, hk'⟩ := hr₂
            repeat (any_goals (first | assumption | wp_step))
            exact h _ _ _ hS' k1 k2 k3 hk'
          | _ => exact hr₂.elim
    | _ => exact hr.elim
end
end Py
set_option Elab.async false
set_option linter.all false
set_option maxRecDepth 100000
set_option maxHeartbeats 4000000
/-! sorted(set(xs)). -/
namespace Py
open PySem PySem.Spec PyProof.Rows L2
section
variable {P : Program} {w : World} {A : Around} {E : Value → Shared → Prop} {s : Shared} {a : Addr} {l : List Str}
theorem perm_same {α : Type} [DecidableEq α] : ∀ (xs ys : List α), xs.Nodup → (∀ x ∈ xs, x ∈ ys) → ys.length ≤ xs.length → ys.Perm xs
  | [], ys, _, _, h => by
    have : ys = [] := List.eq_nil_of_length_eq_zero (by simpa using h)
    rw [this]
  | x :: xs, ys, hn, hs, hl => by
    rw [List.nodup_cons] at hn
    have hx := hs x List.mem_cons_self
    have ih := perm_same xs (ys.erase x) hn.2 (fun y hy => (List.mem_erase_of_ne (fun e => hn.1 (by rw [← e]; exact hy))).mpr (hs y (List.mem_cons_of_mem _ hy))) (by
      rw [List.length_erase_of_mem hx]
      rw [List.length_cons] at hl
      omega)
    exact (List.perm_cons_erase hx).trans (ih.cons x)
def strOf : Value → Str
  | .str x _ => x
  | _ => Str.empty
theorem strs_areV : ∀ {vs : List Value}, (∀ v ∈ vs, ∃ x t, v = Value.str x t) → StrsAre vs (vs.map strOf)
  | [], _ => .nil
  | v :: vs, h => by
    obtain ⟨x, t, rfl⟩ := h v List.mem_cons_self
    exact .cons x t (strs_areV fun u hu => h u (List.mem_cons_of_mem _ hu))
theorem sorted_setTx {Q : Value → Shared → Prop} (R : TxSet P w s.heap a l) (hn : l.Nodup) (hb : l.length < scanBound) (hh : A.handled = none)
    (hQ : ∀ s' p (out : Array Value) (c : Nat) (ys : List Str), (∀ b o, s.heap.get? b = some o → s'.heap.get? b = some o) → s'.gens = s.gens → s'.os = s.os → s.heap.objs.size ≤ p →
      s'.heap.get? p = some (seqObj "list" out c) → StrsAre out.toList ys → ys.Perm l → sortedS ys = true → Q (.ref p) s') :
    wpAny (model P w) A (call (.builtin "sorted") [.ref a]) Q E s := by
  obtain ⟨D, ho, F, hr, hl⟩ := R
  obtain ⟨es, ep, t⟩ := D
  have hsz : es.size = l.length := F.sz
  refine Calls.call_function_entry kind_sorted plain_sorted entry_sorted (args_sorted1 _) ?_
  unfold Builtin.«sorted»
  refine wpAny_bind (m := checkCount "sorted" 1 1 _) (wpAny_pure ?_)
  refine wpAny_bind (collect_set (A := A.in1) hh ⟨_, ho, rfl, rfl⟩ F.fit (by rw [hsz]; exact hb) hr hl fun s1 vs k1 hz g1 o1 pm => ?_)
  have hvl : vs.length = l.length := by rw [pm.length_eq, List.length_map, Array.length_toList]; exact hsz
  have hvs : ∀ v ∈ vs, ∃ x t, v = Value.str x t := fun v hv => by
    obtain ⟨e, he, rfl⟩ := List.mem_map.mp (pm.mem_iff.mp hv)
    obtain ⟨⟨k, h1, _⟩, _⟩ := F.el e he
    obtain ⟨t, h2⟩ := Value.isStrOf_shape h1
    exact ⟨k, t, h2⟩
  have hS := strs_areV hvs
  have hp : (vs.map strOf).Perm l := perm_same _ _ hn (fun x hx => by
    obtain ⟨e, he, h1⟩ := (F.mem x).mp hx
    obtain ⟨t, h2⟩ := Value.isStrOf_shape h1
    refine List.mem_map.mpr ⟨e.2, pm.mem_iff.mpr (List.mem_map_of_mem he), ?_⟩
    rw [h2]; rfl) (by rw [List.length_map, hvl]; exact Nat.le_refl _)
  have hvs2 : vs.length ≤ sizeLine := by rw [hvl, sizeLine_eq]; have : scanBound = 4096 := rfl; omega
  refine wpAny_bind (wpAny_newList ?_ hvs2)
  have hoL : (s1.heap.push (seqObj "list" vs.toArray 0)).get? s1.heap.objs.size = some (seqObj "list" vs.toArray 0) := Heap.get?_push_size _ rfl
  refine wpAny_bind (wpAny_holding (wpAny_call_entry slot_list_sort ⟨_, hoL, rfl⟩ entry_list_sort (list_sort_treeKAny strKind_oneLt hoL hS.keysOf (fun v₁ v₂ rest e => keyKind_strs (by rw [← e]; exact hS)) hvs2 fun st' hpp hs => ⟨_, rfl, ?_⟩) (args_list_sort _)))
  obtain ⟨ss', h1, h2, h3⟩ := sorted_out_str hS hpp hs
  obtain ⟨c, hc⟩ := sortedHeap_at (vs := vs) (out := (arrOf st').map (·.2)) hoL
  refine wpAny_pure ⟨_, rfl, hQ _ s1.heap.objs.size _ c ss' (fun b u e => ?_) g1 o1 hz hc h1 (h2.trans hp) h3⟩
  have q := k1 b u e
  have hlt := Heap.lt_size q
  show (sortedHeap (s1.heap.push (seqObj "list" vs.toArray 0)) s1.heap.objs.size vs _).get? b = some u
  rw [sortedHeap_old (Nat.ne_of_lt hlt) (by rw [size_push']; exact Nat.lt_succ_of_lt hlt)]
  exact Heap.get?_push_of_some _ q
end
def TxO (P : Program) (w : World) (a : Addr) (l : List Str) : HO := .ext fun h => TxSet P w h a l
theorem txO_new {P : Program} {w : World} {H : Hp} {h : Heap} {a : Addr} {l : List Str} (R : TxSet P w h a l) : ObjOk P w H h a (TxO P w a l) := by
  have ⟨D, ho, r⟩ := R
  exact ⟨R, ⟨_, ho⟩, fun h1 h2 p k => TxSet.at p k⟩
/-- set(xs), texts -/
def rSetTx (K : PySem.W.Frag) (P : Program) (w : World) : List V → Hp → VK → Prop := fun vs H Q => ∃ (a : Addr) (xs : List Str), vs = [V.ref a] ∧ (SqL K H a (xs.map V.str) ∨ SqT K H a (xs.map V.str)) ∧ xs.length ≤ 4000 ∧
  ∀ (p : Addr) (l : List Str), H p = none → l.Nodup → (∀ x, x ∈ l ↔ x ∈ xs) → l.length ≤ xs.length → Q (.ref p) (upd H p (TxO P w p l))
def rSortedTx (P : Program) (w : World) : List V → Hp → VK → Prop := fun vs H Q => ∃ (a : Addr) (l : List Str), vs = [V.ref a] ∧ H a = some (TxO P w a l) ∧ l.Nodup ∧ l.length ≤ 4000 ∧
  ∀ (p : Addr) (ys : List Str), H p = none → ys.Perm l → sortedS ys = true → Q (.ref p) (upd H p (.lst (ys.map V.str)))
section
variable {X : Cx}
theorem cr_setTx (hc : X.calm = true) : CallR X (.type "set") (rSetTx X.K X.prog X.w) := by
  intro pins s σ H vs us Q I r h
  obtain ⟨a, xs, rfl, hs, hl, q⟩ := h
  rw [Vals.ref1 r]
  have hn : H s.heap.objs.size = none := I.hok.fresh (Nat.le_refl _)
  have hb : xs.length + 1 < scanBound := by have : scanBound = 4096 := rfl; omega
  rcases hs with hs | hs
  · obtain ⟨its, rv, pl, hz⟩ := I.list hs
    refine call_set_txtL (P := X.prog) (w := X.w) xs (I.ok.hd hc) pl.isList (by simpa using rv.strs) hb fun h' tk L hS k1 k2 k3 kk => ?_
    exact ⟨.ref s.heap.objs.size, upd H s.heap.objs.size (TxO X.prog X.w s.heap.objs.size L), I.laid (t' := tk) kk (Nat.le_refl _) (txO_new hS), rfl, q _ L hn k1 k2 k3⟩
  · obtain ⟨its, rv, pl, hz⟩ := I.tuple hs
    refine call_set_txtT (P := X.prog) (w := X.w) xs (I.ok.hd hc) pl (by simpa using rv.strs) hb fun h' tk L hS k1 k2 k3 kk => ?_
    exact ⟨.ref s.heap.objs.size, upd H s.heap.objs.size (TxO X.prog X.w s.heap.objs.size L), I.laid (t' := tk) kk (Nat.le_refl _) (txO_new hS), rfl, q _ L hn k1 k2 k3⟩
theorem cr_sortedTx (hc : X.calm = true) : CallR X (.builtin "sorted") (rSortedTx X.prog X.w) := by
  intro pins s σ H vs us Q I r h
  obtain ⟨a, l, rfl, ha, hnd, hb, q⟩ := h
  have R : TxSet X.prog X.w s.heap a l := (I.hok a _ ha).1
  rw [Vals.ref1 r]
  have hb2 : l.length < scanBound := by have : scanBound = 4096 := rfl; omega
  refine sorted_setTx R hnd hb2 (I.ok.hd hc) fun s' p out c ys k g o hp hg hi pm hs => ?_
  have hlen : (ys.map V.str).length ≤ sizeLine := by rw [List.length_map, pm.length_eq, sizeLine_eq]; omega
  have hn : H p = none := I.hok.fresh hp
  have J : Inv X pins σ (upd H p (.lst (ys.map V.str))) { s with heap := s'.heap, gens := s'.gens, drawn := s'.drawn, toks := s'.toks } :=
    I.call (ch := []) (Un.laid k hp hn) (I.hok.laid k hp ⟨hlen, out.toList, c, vals_of_strs hi, hg⟩) (by rw [g]; exact I.bare) (fun _ z => nomatch z)
  have e : s' = { s with heap := s'.heap, gens := s'.gens, drawn := s'.drawn, toks := s'.toks } := by
    cases s'
    cases s
    cases o
    rfl
  rw [e]
  exact ⟨.ref p, _, J, rfl, q p ys hn pm hs⟩
end
end Py
set_option Elab.async false
set_option linter.all false
set_option maxRecDepth 100000
set_option maxHeartbeats 4000000
/-! Py, part L: isinstance, what is never reached, sorted(set(..)), dicts. -/
namespace Py
open PySem PySem.Spec PyProof.Rows L2

/-! ### what is never reached -/
def wBad : WE := fun _ _ _ => False
def wBadS : WS := fun _ _ => False
section
variable {X : Cx} {Fx : List Nat} {Wo : WX} {pos : Pos}
theorem pe_Wbad {e : Expr} : PE X e (tW X.K Fx Wo wBad) := ⟨fun pins s σ H Q I h => by
  obtain ⟨F, own, env, ts, Qp, Ep, hf, st, w, hq, hx⟩ := h
  exact (show False from w).elim⟩
theorem pss_Wbad {s : List Stmt} : PSs X s (tWS X.K Fx Wo wBadS) := ⟨fun pins s σ H Q I h => by
  obtain ⟨F, own, env, ts, E, hf, st, w, ok⟩ := h
  exact (show False from w).elim⟩
theorem ps_Wbad {s : Stmt} : PS X s (tWS X.K Fx Wo wBadS) := ⟨fun pins s σ H Q I h => by
  obtain ⟨F, own, env, ts, E, hf, st, w, ok⟩ := h
  exact (show False from w).elim⟩
end

/-! ### isinstance -/
def tyN : Dv → Option String
  | .non => some "NoneType"
  | .bl _ => some "bool"
  | .int _ => some "int"
  | .str _ => some "str"
  | .lst _ => some "list"
  | .lck _ => some "list"
  | .tup _ => some "tuple"
  | .dic _ => some "dict"
  | _ => none
def isB (a b : String) : Bool := a == b || (a == "bool" && b == "int")
def tyAll : List String := ["NoneType", "bool", "int", "str", "list", "tuple", "dict"]
def kinds : List String := ["bool", "int", "str", "list", "tuple", "dict"]
theorem kit_all : ∀ a ∈ tyAll, ∀ b ∈ kinds, kitB a b = some (isB a b) := by decide +kernel
theorem tyN_in {d : Dv} {t : String} (h : tyN d = some t) : t ∈ tyAll := by
  cases d <;> cases h <;> decide
section
variable {K : PySem.W.Frag} {own own' : Addr → Option Pth} {H H' : Hp} {p0 : Pth}
theorem sqT_ty {G : Hp} {a : Addr} {vs : List V} (s : SqT K G a vs) (h : ∀ a u, G a = some u → H' a = some u) : TyX K H' (.ref a) (.type "tuple") := by
  rcases s with (s | ⟨o, s⟩) | ⟨o, its, n, hk, hc, _⟩
  · exact .base (.tup (h _ _ s))
  · exact .fTuple (h _ _ s)
  · exact .kTuple hk hc
theorem sqL_ty {G : Hp} {a : Addr} {vs : List V} (s : SqL K G a vs) (h : ∀ a u, G a = some u → H' a = some u) : TyX K H' (.ref a) (.type "list") := by
  rcases s with (s | ⟨o, s⟩) | ⟨o, its, n, hk, hc, _⟩
  · exact .base (.lst (h _ _ s))
  · exact .base (.frz (h _ _ s))
  · exact .kList hk hc
theorem own_ty {v : V} {d : Dv} {o : Ow} {p : Pth} {t : String} (r : Own K own H v d o p) (e : tyN d = some t) (h : ∀ a u, H a = some u → H' a = some u) : TyX K H' v (.type t) := by
  have hg : ∀ a u, Gm own H a = some u → H' a = some u := fun a u z => h a u (Gm_some z).2
  cases r with
  | sh r =>
    cases r with
    | non => cases e; exact .base .non
    | bl b => cases e; exact .base (.bl b)
    | int b => cases e; exact .base (.int b)
    | str b => cases e; exact .base (.str b)
    | lst e1 _ => cases e; exact .base (.lst (hg _ _ e1))
    | tup e1 _ => cases e; exact sqT_ty e1 hg
    | dic e1 _ _ => cases e; exact .base (.dK (hg _ _ e1))
    | ins e1 _ _ => cases e
    | lck e1 _ => cases e; exact sqL_ty e1 hg
    | scr e1 => cases e
  | lst e1 e2 _ => cases e; exact .base (.lst (h _ _ e2))
  | tup e1 _ => cases e; exact sqT_ty e1 hg
  | dic e1 e2 _ _ => cases e; exact .base (.dK (h _ _ e2))
  | ins e1 e2 _ _ => cases e
def gIsi (ts : List String) : G1 := fun a k => match tyN a.d with
  | some t => (ts.length ≤ 10 ∧ ts.all (fun b => kinds.contains b) = true) ∧ k ⟨.bl (ts.any (isB t)), .sh⟩
  | none => False
theorem s_isi1 {t : String} : Sem1 K (fun x H Q => rIsi K [x, .ty t] H Q) (gIsi [t]) := fun p0 own H x a p k Q al ha hg fin => by
  unfold gIsi at hg
  split at hg
  · rename_i b e
    obtain ⟨⟨_, h1⟩, h2⟩ := hg
    have hb : t ∈ kinds := by simpa using h1
    refine ⟨x, .ty t, .type b, .type t, isB b t, rfl, .ty t, own_ty ha e fun _ _ z => z, kit_ty (kit_all b (tyN_in e) t hb), ?_⟩
    have := fin.bl al h2
    simpa using this
  · exact hg.elim
theorem kit_any {b : String} (hb : b ∈ tyAll) : ∀ {ts : List String}, (∀ t ∈ ts, t ∈ kinds) → PySem.W.kitAny K (.type b) (ts.map Value.type) = some (ts.any (isB b))
  | [], _ => kitAny_nil
  | t :: ts, h => by
    rw [List.map_cons, List.any_cons]
    refine kitAny_cons (kit_ty (kit_all b hb t (h t List.mem_cons_self))) (fun e => ?_) fun e => ?_
    · rw [e, kit_any hb fun u hu => h u (List.mem_cons_of_mem _ hu)]; rfl
    · rw [e]; rfl
theorem cls_tys : ∀ ts : List String, Paired ClsV (ts.map V.ty) (ts.map Value.type)
  | [] => .nil
  | t :: ts => .cons (.ty t) (cls_tys ts)
theorem NewT.extend {H1 H2 : Hp} {own2 : Addr → Option Pth} {z : V} {c : Cl} (hx : ∀ a u, H a = some u → H1 a = some u) (n : NewT K p0 own H1 own2 H2 z c) : NewT K p0 own H own2 H2 z c := by
  refine ⟨fun a o e => n.ext a o (hx a o e), n.old, fun a q e => ?_, n.alive, n.it⟩
  rcases n.new a q e with h | ⟨h, r⟩
  · exact .inl h
  · refine .inr ⟨?_, r⟩
    cases q' : H a with
    | none => rfl
    | some u => rw [hx a u q'] at h; cases h
theorem alive_ext (al : Alive own H) (hx : ∀ a u, H a = some u → H' a = some u) : Alive own H' := fun a q e => by
  obtain ⟨u, z⟩ := al a q e
  exact ⟨u, hx a u z⟩
theorem s_isiT {ts : List String} : Sem1 K (fun x H Q => (ts.map V.ty).length ≤ sizeLine ∧ ∀ p, H p = none → rIsiT K [x, .ref p] (upd H p (.tup (ts.map V.ty))) Q) (gIsi ts) := fun p0 own H x a p k Q al ha hg fin => by
  unfold gIsi at hg
  split at hg
  · rename_i b e
    obtain ⟨⟨hl, h1⟩, h2⟩ := hg
    refine ⟨by rw [List.length_map, sizeLine_eq]; omega, fun q hq => ?_⟩
    have hx := Same_upd (o := .tup (ts.map V.ty)) hq
    refine ⟨x, q, ts.map V.ty, .type b, ts.map Value.type, ts.any (isB b), rfl, upd_same, cls_tys ts, own_ty ha e hx, kit_any (tyN_in e) fun t ht => ?_, ?_⟩
    · have := (List.all_eq_true.mp h1) t ht
      simpa using this
    · exact fin _ _ _ _ h2 (NewT.extend hx (NewT.sh (alive_ext al hx) (.bl _)))
  · exact hg.elim
end
section
variable {X : Cx} {Fx : List Nat} {Wo : WX} {pos : Pos}
theorem pe_Wisi {x : Str} {t : String} {p p2 : Pos} {e : Expr} {w : WE} (hg : Gl X "isinstance") (hm : X.mg "isinstance" = none) (hg2 : Gl X x) (hm2 : X.mg x = none) (hv : bootBuiltins x = some (.type t)) (he : PE X e (tW X.K Fx Wo w)) (hb : bootBuiltins "isinstance" = some (.builtin "isinstance") := by decide +kernel)
    (hn : x ≠ "__name__" := by decide) (hd : (x == ("__debug__" : Str)) = false := by decide)
    (h1 : starEach [e, .Name x p2] X.env = (false, eval e X.env) :: starEach [.Name x p2] X.env := by rfl) (h2 : starEach [.Name x p2] X.env = (false, eval (.Name x p2) X.env) :: starEach [] X.env := by rfl) (hpl : (backTo pos (starEach [.Name x p2] X.env)).any (·.1) = false := by rfl) :
    PE X (.Call (.Name "isinstance" p) [e, .Name x p2] [] pos) (tW X.K Fx Wo (w1 (gIsi [t]) w)) :=
  PE.imp (fun σ H Q h => w1_run s_isi1 σ H Q h) (pe_callB call_isi hg hm hb (pa_cons he (pa_cons (pe_bltn hg2 hm2 hv (show RelV (.ty t) _ from rfl) hn hd) pa_nil h2) h1) (by decide) (by decide) h1 hpl)
theorem pe_WisiT {es : List Expr} {ts : List String} {p p2 : Pos} {x1} {e : Expr} {w : WE} (hg : Gl X "isinstance") (hm : X.mg "isinstance" = none) (hts : PA X es (fun _ H Q => Q (ts.map V.ty) H)) (he : PE X e (tW X.K Fx Wo w)) (hb : bootBuiltins "isinstance" = some (.builtin "isinstance") := by decide +kernel)
    (h1 : starEach [e, .Tuple es x1 p2] X.env = (false, eval e X.env) :: starEach [.Tuple es x1 p2] X.env := by rfl) (h2 : starEach [.Tuple es x1 p2] X.env = (false, eval (.Tuple es x1 p2) X.env) :: starEach [] X.env := by rfl) (hpl : (backTo pos (starEach [.Tuple es x1 p2] X.env)).any (·.1) = false := by rfl) :
    PE X (.Call (.Name "isinstance" p) [e, .Tuple es x1 p2] [] pos) (tW X.K Fx Wo (w1 (gIsi ts) w)) := by
  exact PE.imp (fun σ H Q h => w1_run (s_isiT (K := X.K) (ts := ts)) σ H Q h) (pe_callB call_isiT hg hm hb (pa_cons he (pa_cons (pe_tup hts) pa_nil h2) h1) (by decide) (by decide) h1 hpl)
end
def wDic0 : WE := fun env Q _ => Q (.tm ⟨.dic [], .nd []⟩) env
/-! ### sorted(set(xs)), texts -/
def gSortSet : G1 := fun a k => match a with
  | ⟨.lst ds, o⟩ => o.flat = true ∧ ∃ xs, texts ds = some xs ∧ xs.length ≤ 4000 ∧ ∀ ys : List Str, sortedS ys = true → ys.Nodup → (∀ x, x ∈ ys ↔ x ∈ xs) → ys.length ≤ xs.length → k ⟨.lst (ys.map .str), .nd []⟩
  | ⟨.tup ds, o⟩ => o.flat = true ∧ ∃ xs, texts ds = some xs ∧ xs.length ≤ 4000 ∧ ∀ ys : List Str, sortedS ys = true → ys.Nodup → (∀ x, x ∈ ys ↔ x ∈ xs) → ys.length ≤ xs.length → k ⟨.lst (ys.map .str), .nd []⟩
  | _ => False
section
variable {K : PySem.W.Frag} {G : Hp}
theorem reps_strs : ∀ ys : List Str, Reps K G (ys.map V.str) (ys.map Dv.str)
  | [] => .nil
  | y :: ys => .cons (.str y) (reps_strs ys)
theorem s_sortSet {P : Program} {w : World} : Sem1 K (fun x H Q => rSetTx K P w [x] H fun v H1 => rSortedTx P w [v] H1 Q) gSortSet := fun p0 own H x a p k Q al ha hg fin => by
  have main : ∀ (q : Addr) (xs : List Str), (SqL K H q (xs.map V.str) ∨ SqT K H q (xs.map V.str)) → xs.length ≤ 4000 → x = .ref q → (∀ ys : List Str, sortedS ys = true → ys.Nodup → (∀ x, x ∈ ys ↔ x ∈ xs) → ys.length ≤ xs.length → k ⟨.lst (ys.map .str), .nd []⟩) →
      rSetTx K P w [x] H fun v H1 => rSortedTx P w [v] H1 Q := fun q xs hs hl e hk => by
    refine ⟨q, xs, by rw [e], hs, hl, fun p1 l hp1 hnd hm hlen => ?_⟩
    refine ⟨p1, l, rfl, upd_same, hnd, by omega, fun p2 ys hp2 hperm hsort => ?_⟩
    have hx := Same_upd (o := TxO P w p1 l) hp1
    have al1 := alive_ext al hx
    exact fin _ _ _ _ (hk ys hsort (hperm.nodup_iff.mpr hnd) (fun x => hperm.mem_iff.trans (hm x)) (by rw [hperm.length_eq]; exact hlen)) (NewT.extend hx (NewT.lst al1 hp2 (reps_strs ys)))
  unfold gSortSet at hg
  split at hg
  · obtain ⟨h1, xs, h2, h3, h4⟩ := hg
    obtain ⟨q, vs, e, e1, r⟩ := ha.lstF h1
    have := texts_V r h2
    subst this
    exact main q xs (.inl (SqL.of e1)) h3 e h4
  · obtain ⟨h1, xs, h2, h3, h4⟩ := hg
    obtain ⟨q, vs, e, e1, r⟩ := ha.tupF h1
    have := texts_V r h2
    subst this
    exact main q xs (.inr (sqT_mono Gm_le e1)) h3 e h4
  · exact hg.elim
end
section
variable {X : Cx} {Fx : List Nat} {Wo : WX} {pos : Pos}
theorem pe_WsortSet {p p2 q2 : Pos} {e : Expr} {w : WE} (hc : X.calm = true) (hg : Gl X "sorted") (hm : X.mg "sorted" = none) (hg2 : Gl X "set") (hm2 : X.mg "set" = none) (he : PE X e (tW X.K Fx Wo w))
    (hb : bootBuiltins "sorted" = some (.builtin "sorted") := by decide +kernel) (hb2 : bootBuiltins "set" = some (.type "set") := by decide +kernel)
    (h1 : starEach [e] X.env = (false, eval e X.env) :: starEach [] X.env := by rfl) (h2 : starEach [.Call (.Name "set" p2) [e] [] q2] X.env = (false, eval (.Call (.Name "set" p2) [e] [] q2) X.env) :: starEach [] X.env := by rfl)
    (hpl : (backTo pos (starEach [] X.env)).any (·.1) = false := by rfl) (hpl2 : (backTo q2 (starEach [] X.env)).any (·.1) = false := by rfl) :
    PE X (.Call (.Name "sorted" p) [.Call (.Name "set" p2) [e] [] q2] [] pos) (tW X.K Fx Wo (w1 gSortSet w)) :=
  PE.imp (fun σ H Q h => w1_run (s_sortSet (P := X.prog) (w := X.w)) σ H Q h) (pe_callB (cr_sortedTx hc) hg hm hb (pa_cons (pe_callTy (cr_setTx hc) hg2 hm2 hb2 (pa_cons he pa_nil h1) (by decide) (by decide) h1 hpl2) pa_nil h2) (by decide) (by decide) h2 hpl)
/-! ### dicts -/
theorem pe_Wdic0 : PE X (.Dict [] [] pos) (tW X.K Fx Wo wDic0) := PE.imp (fun σ H Q h => by
  obtain ⟨F, own, env, ts, Qp, Ep, hf, st, w, hq, hx⟩ := h
  intro p hp
  have n : NewT X.K [1, ts.length] own H (setO own p [1, ts.length]) (upd H p (.dK [])) (.ref p) ⟨.dic [], .nd []⟩ := NewT.mk_own st.frm.alive hp (.dic setO_same upd_same rfl .nil)
  exact fin_W st hq _ _ _ _ w n) pe_dnewK
end
def keyD : Dv → Option Key
  | .int i => some (.inl i)
  | .str x => some (.inr x)
  | _ => none
def putD (kvs : List (Key × Dv)) (k : Key) (d : Dv) : List (Key × Dv) := if (kvs.any fun kv => decide (kv.1 = k)) = true then kvs.map (fun kv => if kv.1 = k then (kv.1, d) else kv) else kvs ++ [(k, d)]
def getD' (kvs : List (Key × Dv)) (k : Key) : Option Dv := (kvs.find? fun kv => decide (kv.1 = k)).map (·.2)
section
variable {K : PySem.W.Frag} {own own' : Addr → Option Pth} {H H' : Hp} {G : Hp}
theorem rep_key {v : V} {d : Dv} {k : Key} (r : Rep K G v d) (h : keyD d = some k) : v = kV k := by
  cases r <;> cases h <;> rfl
theorem own_key {v : V} {d : Dv} {o : Ow} {p : Pth} {k : Key} (r : Own K own H v d o p) (h : keyD d = some k) : v = kV k := by
  cases r with
  | sh r => exact rep_key r h
  | lst _ _ _ => cases h
  | tup _ _ => cases h
  | dic _ _ _ _ => cases h
  | ins _ _ _ _ => cases h
theorem any_keys (k : Key) : ∀ {a : List (Key × V)} {b : List (Key × Dv)}, a.map (·.1) = b.map (·.1) → (a.any fun kv => decide (kv.1 = k)) = b.any fun kv => decide (kv.1 = k)
  | [], [], _ => rfl
  | x :: a, y :: b, h => by
    simp only [List.map_cons, List.cons.injEq] at h
    rw [List.any_cons, List.any_cons, h.1, any_keys k h.2]
theorem Own.dicV {v : V} {kvs : List (Key × Dv)} {o : Ow} {p : Pth} (r : Own K own H v (.dic kvs) o p) : ∃ a vs, v = .ref a ∧ H a = some (.dK vs) ∧ vs.map (·.1) = kvs.map (·.1) := by
  cases r with
  | sh r => cases r with | dic e m q => exact ⟨_, _, rfl, (Gm_some e).2, m⟩
  | dic e1 e2 m q => exact ⟨_, _, rfl, e2, m⟩
def gLenD : GN := fun as k => match as with
  | [⟨.dic kvs, _⟩] => k ⟨.int (kvs.length : Nat), .sh⟩
  | _ => False
theorem s_lenD : SemN K (fun xs H Q => ∃ a kvs, xs = [V.ref a] ∧ H a = some (.dK kvs) ∧ Q (.int kvs.length) H) gLenD := fun p0 own H xs as k Q al ha hg fin => by
  unfold gLenD at hg
  split at hg
  · obtain ⟨x, rfl, p, h⟩ := paired_one ha
    obtain ⟨a, vs, rfl, e, m⟩ := h.dicV
    have l := congrArg List.length m
    rw [List.length_map, List.length_map] at l
    exact ⟨a, vs, rfl, e, by rw [l]; exact fin.int al hg⟩
  · exact hg.elim
def gInD : G2 := fun a b k => match keyD a.d, b with
  | some key, ⟨.dic kvs, _⟩ => k ⟨.bl (kvs.any fun e => decide (e.1 = key)), .sh⟩
  | _, _ => False
def gNInD : G2 := fun a b k => match keyD a.d, b with
  | some key, ⟨.dic kvs, _⟩ => k ⟨.bl (!kvs.any fun e => decide (e.1 = key)), .sh⟩
  | _, _ => False
theorem s_inD : Sem2 K (fun y x H Q => ∃ a o, x = .ref a ∧ DGet H a y o ∧ Q (.bl o.isSome) H) gInD := fun p0 own H x y a b p q k Q al ha hb hg fin => by
  unfold gInD at hg
  split at hg
  · rename_i key kvs _ e
    obtain ⟨l, vs, rfl, e1, m⟩ := hb.dicV
    refine ⟨l, valV vs key, rfl, by rw [own_key ha e]; exact .k e1, ?_⟩
    rw [← valV_any, any_keys key m]
    exact fin.bl al hg
  · exact hg.elim
theorem s_ninD : Sem2 K (fun y x H Q => ∃ a o, x = .ref a ∧ DGet H a y o ∧ Q (.bl (!o.isSome)) H) gNInD := fun p0 own H x y a b p q k Q al ha hb hg fin => by
  unfold gNInD at hg
  split at hg
  · rename_i key kvs _ e
    obtain ⟨l, vs, rfl, e1, m⟩ := hb.dicV
    refine ⟨l, valV vs key, rfl, by rw [own_key ha e]; exact .k e1, ?_⟩
    rw [← valV_any, any_keys key m]
    exact fin.bl al hg
  · exact hg.elim
theorem reps_putM {v : V} {d : Dv} (r : Rep K G v d) (k : Key) : ∀ {a : List (Key × V)} {b : List (Key × Dv)}, a.map (·.1) = b.map (·.1) → Reps K G (a.map (·.2)) (b.map (·.2)) →
    (a.map fun kv => if kv.1 = k then (kv.1, v) else kv).map (·.1) = (b.map fun kv => if kv.1 = k then (kv.1, d) else kv).map (·.1) ∧ Reps K G ((a.map fun kv => if kv.1 = k then (kv.1, v) else kv).map (·.2)) ((b.map fun kv => if kv.1 = k then (kv.1, d) else kv).map (·.2))
  | [], [], _, _ => ⟨rfl, .nil⟩
  | (xk, xv) :: a, (yk, yd) :: b, h, rs => by
    simp only [List.map_cons, List.cons.injEq] at h
    obtain ⟨h1, h2⟩ := h
    subst h1
    cases rs with
    | cons r1 r2 =>
      obtain ⟨i1, i2⟩ := reps_putM r k h2 r2
      by_cases e : xk = k
      · refine ⟨?_, ?_⟩
        · simp only [List.map_cons, e, if_true]; rw [i1]
        · simp only [List.map_cons, e, if_true]; exact .cons r i2
      · refine ⟨?_, ?_⟩
        · simp only [List.map_cons, e, if_false]; rw [i1]
        · simp only [List.map_cons, e, if_false]; exact .cons r1 i2
theorem reps_put {v : V} {d : Dv} (r : Rep K G v d) (k : Key) {a : List (Key × V)} {b : List (Key × Dv)} (m : a.map (·.1) = b.map (·.1)) (rs : Reps K G (a.map (·.2)) (b.map (·.2))) :
    (putK a k v).map (·.1) = (putD b k d).map (·.1) ∧ Reps K G ((putK a k v).map (·.2)) ((putD b k d).map (·.2)) := by
  unfold putK putD
  rw [any_keys k m]
  split
  · exact reps_putM r k m rs
  · refine ⟨by rw [List.map_append, List.map_append, m]; rfl, ?_⟩
    rw [List.map_append, List.map_append]
    exact rs.append (.cons r .nil)
end
section
variable {K : PySem.W.Frag} {F : Fm} {own : Addr → Option Pth} {σ : L2.St} {env : Env} {ts : List (V × Cl)} {H : Hp}
theorem St.set_dic {i : Nat} {a : Addr} {xs ys : List (Key × Dv)} {ws : List (Key × V)} (st : St K F own σ env ts H) (e : (env[i]?).join = some ⟨.dic xs, .nd []⟩) (hσ : σ[i]? = some (some (.ref a))) (m : ws.map (·.1) = ys.map (·.1)) (r : Reps K (Gm own H) (ws.map (·.2)) (ys.map (·.2))) :
    St K F own σ (env.set i (some ⟨.dic ys, .nd []⟩)) ts (upd H a (.dK ws)) := by
  obtain ⟨w, h1, h2⟩ := st.cell i _ (env_some e)
  rw [hσ] at h1
  cases h1
  have h2' : Own K own H (.ref a) (.dic xs) (.nd []) [0, i] := h2
  cases h2' with
  | dic e1 e2 m0 q =>
    have idg : mapW (fun k i => some [k, i]) own = own := by
      funext b
      cases eb : own b with
      | none => exact mw_none eb
      | some p =>
        obtain ⟨k, j, r, rfl⟩ := st.frm.root b p eb
        exact mw_of (g := fun k i => some [k, i]) (q := [k, j]) eb rfl
    have oth : ∀ {v : V} {d : Dv} {o : Ow} {k j : Nat}, ¬ (k = 0 ∧ j = i) → Own K own H v d o [k, j] → Own K own (upd H a (.dK ws)) v d o [k, j] := fun {v d o k j} hne r => by
      have := r.upd_other (g := fun k i => some [k, i]) (o' := .dK ws) e1 hne rfl
      rw [idg] at this
      exact this
    refine ⟨st.frm.upd e1 (by decide), by rw [List.length_set]; exact st.len, fun j c' ej => ?_, fun k w c' ek => oth (by simp) (st.tmp k w c' ek), st.fix⟩
    by_cases h : j = i
    · subst h
      have hlt : j < env.length := by have := (List.getElem?_eq_some_iff.mp ej).1; rw [List.length_set] at this; exact this
      rw [List.getElem?_set_self hlt] at ej
      simp at ej
      subst ej
      exact ⟨_, hσ, .dic e1 upd_same m (r.mono (Gm_upd_own e1 fun b z => z)).owns⟩
    · rw [List.getElem?_set_ne (Ne.symm h)] at ej
      obtain ⟨w, h3, h4⟩ := st.cell j c' ej
      exact ⟨w, h3, oth (by simp [h]) h4⟩
theorem St.dic_cell {i : Nat} {xs : List (Key × Dv)} (st : St K F own σ env ts H) (e : (env[i]?).join = some ⟨.dic xs, .nd []⟩) : ∃ a vs, σ[i]? = some (some (.ref a)) ∧ H a = some (.dK vs) ∧ vs.map (·.1) = xs.map (·.1) ∧ Reps K (Gm own H) (vs.map (·.2)) (xs.map (·.2)) := by
  obtain ⟨w, h1, h2⟩ := st.cell i _ (env_some e)
  have h2' : Own K own H w (.dic xs) (.nd []) [0, i] := h2
  cases h2' with
  | dic e1 e2 m q => exact ⟨_, _, h1, e2, m, q.reps⟩
end
def onDic (c : Option Cl) (k : List (Key × Dv) → Prop) : Prop := match c with
  | some ⟨.dic xs, .nd []⟩ => k xs
  | _ => False
theorem onDic_of {c : Option Cl} {k : List (Key × Dv) → Prop} (h : onDic c k) : ∃ xs, c = some ⟨.dic xs, .nd []⟩ ∧ k xs := by
  unfold onDic at h
  split at h
  · exact ⟨_, rfl, h⟩
  · exact h.elim
/-- d[k] = e, d a name's own flat dict -/
def wSetD (i : Nat) (wi wv : WE) : WS := fun D env => wv env (fun r e1 => onTm r fun c => c.o.isSh = true ∧ (∃ y, (e1[i]?).join = some y) ∧ wi e1 (fun ri e2 => on1 (lookS e2 ri) fun kc => onDic (e2[i]?).join fun xs => xs.length < 100000 ∧ ∃ k, keyD kc.d = some k ∧ D.nx (e2.set i (some ⟨.dic (putD xs k c.d), .nd []⟩))) D.ex) D.ex
section
variable {X : Cx} {Fx : List Nat} {Wo : WX} {pos : Pos}
theorem setD_run {i : Nat} {wi wv : WE} : ∀ D σ H, tWS X.K Fx Wo (wSetD i wi wv) D σ H → sDPut (tVar i) (tW X.K Fx Wo wi) (tW X.K Fx Wo wv) D σ H := fun D σ H h => by
  obtain ⟨F, own, env, ts, E, hf, st, w, ok⟩ := h
  refine ⟨F, own, env, ts, _, E.ex, hf, st, w, fun v H1 own1 r e1 w1 st1 a1 => ?_, ok.ex σ⟩
  cases r with
  | pk j => exact w1.elim
  | tm c =>
    obtain ⟨hsh, ⟨y, ey⟩, w2⟩ := w1
    have st1' : St X.K F own1 σ e1 (ts ++ [(v, c)]) H1 := st1
    obtain ⟨vy, hσ, _⟩ := st1'.cell i y (env_some ey)
    refine ⟨vy, hσ, F, own1, e1, _, _, E.ex, hf, st1', w2, fun vi H2 own2 ri e2 w3 st2 a2 => ?_, xok_cut (ok.ex σ)⟩
    obtain ⟨kc, ek, w4⟩ := on1_of w3
    obtain ⟨_, _, on⟩ := st2.atS a2 ek
    obtain ⟨xs, ec, hl, k, hk, w5⟩ := onDic_of w4
    obtain ⟨ex1, ee1⟩ := push_app (ts ++ [(v, c)]) vi ri
    rw [ee1] at st2
    have st3 := st2.cut_app
    obtain ⟨a, vs, hσ', ha, m, hr⟩ := st3.dic_cell ec
    rw [hσ] at hσ'
    cases hσ'
    have ot := st3.tmp ts.length v c (by rw [List.getElem?_append_right (Nat.le_refl _)]; simp)
    have rv : Rep X.K (Gm (dropW (fun k i => k == 1 && decide ((ts ++ [(v, c)]).length ≤ i)) own2) H2) v c.d := by
      obtain ⟨d, o⟩ := c
      have : o = .sh := isSh_eq hsh
      subst this
      cases ot with
      | sh r => exact r
    obtain ⟨m2, r2⟩ := reps_put rv k m hr
    have st4 := st3.set_dic ec hσ m2 r2
    have lv : vs.length < sizeLine := by
      have := congrArg List.length m
      rw [List.length_map, List.length_map] at this
      rw [this, sizeLine_eq]
      omega
    refine ⟨a, upd H2 a (.dK (putK vs k v)), rfl, ?_, ?_⟩
    · rw [own_key on hk]
      exact .k ha lv
    · exact ok.nx _ _ _ _ w5 st4.cut_app
theorem ps_WsetD {i : Nat} {o ix value : Expr} {pos' : Pos} {wi wv : WE} {k : Nat} (hr : Room k X.A) (ho : PE X o (tVar i)) (hi : PE X ix (tW X.K Fx Wo wi)) (hv : PE X value (tW X.K Fx Wo wv)) (hs : swapsWith value (some (.Subscript o ix pos')) pos.line X.env = pure false) :
    PS X (.Assign [.Subscript o ix pos'] value pos) (tWS X.K Fx Wo (wSetD i wi wv)) := PS.imp setD_run (ps_dput (by have := hr.un; omega) ho hi hv hs)
theorem pe_WinD {a b : Expr} {wa wb : WE} {k : Nat} (hr : Room k X.A) (ha : PE X a (tW X.K Fx Wo wa)) (hb : PE X b (tW X.K Fx Wo wb)) (hm : behindInMarks .In b = false) : PE X (.Compare a [.In] [b] pos) (tW X.K Fx Wo (w2 gInD wa wb)) :=
  PE.imp (fun σ H Q h => w2_run s_inD σ H Q h) (pe_cmp (pc_din (by have := hr.un; omega) ha hb) hm)
theorem pe_WninD {a b : Expr} {wa wb : WE} {k : Nat} (hr : Room k X.A) (ha : PE X a (tW X.K Fx Wo wa)) (hb : PE X b (tW X.K Fx Wo wb)) (hm : behindInMarks .NotIn b = false) : PE X (.Compare a [.NotIn] [b] pos) (tW X.K Fx Wo (w2 gNInD wa wb)) :=
  PE.imp (fun σ H Q h => w2_run s_ninD σ H Q h) (pe_cmp (pc_dnotin (by have := hr.un; omega) ha hb) hm)
end
end Py
set_option Elab.async false
set_option linter.all false
set_option maxRecDepth 100000
set_option maxHeartbeats 4000000
/-! Py, part M: _law_spoil of a display of names, each an own list of texts. -/
namespace Py
open PySem PySem.Spec PyProof.Rows L2
/-! ### comparisons as tests -/
section
variable {X : Cx} {Fx : List Nat} {Wo : WX} {pos : Pos}
theorem pt_Wcmp {op : CmpOp} {r : R2} {g : G2} {a b : Expr} {wa wb : WE} (hs : Sem2 X.K r g) (ho : OpR X (compareOp op) r) (ha : PE X a (tW X.K Fx Wo wa)) (hb : PE X b (tW X.K Fx Wo wb)) (hm : behindInMarks op b = false) : PT X (.Compare a [op] [b] pos) (tWT X.K Fx Wo (wTB (w2 g wa wb))) :=
  PT.imp (fun σ H Q h => w2_run hs σ H _ (wTB_run σ H Q h)) (pt_cmpR ho ha hb hm)
theorem pt_WinD {a b : Expr} {wa wb : WE} {k : Nat} (hr : Room k X.A) (ha : PE X a (tW X.K Fx Wo wa)) (hb : PE X b (tW X.K Fx Wo wb)) (hm : behindInMarks .In b = false) : PT X (.Compare a [.In] [b] pos) (tWT X.K Fx Wo (wTB (w2 gInD wa wb))) :=
  PT.imp (fun σ H Q h => w2_run s_inD σ H _ (wTB_run σ H Q h)) (pt_cmp (pc_din (by have := hr.un; omega) ha hb) hm)
theorem pt_WninD {a b : Expr} {wa wb : WE} {k : Nat} (hr : Room k X.A) (ha : PE X a (tW X.K Fx Wo wa)) (hb : PE X b (tW X.K Fx Wo wb)) (hm : behindInMarks .NotIn b = false) : PT X (.Compare a [.NotIn] [b] pos) (tWT X.K Fx Wo (wTB (w2 gNInD wa wb))) :=
  PT.imp (fun σ H Q h => w2_run s_ninD σ H _ (wTB_run σ H Q h)) (pt_cmp (pc_dnotin (by have := hr.un; omega) ha hb) hm)
end
/-- a promise of nothing -/
def S_no : SF := fun _ _ _ => False
theorem fnOk_no {P : Program} {w : World} {K : PySem.W.Frag} {mg : Str → Option Value} {base : Heap} {k : Nat} {f : Addr} {fd : FuncData} {ps : List Str} : FnOk P w K mg base (L2.CX P w) k f fd ps (spW K S_no) :=
  ⟨fun vs H Q E h => by
    obtain ⟨own, cs, Qp, Ep, _, _, _, hS, _⟩ := h
    exact (show False from hS).elim, fun A outer s H args us vs Q E _ _ _ _ h => by
    obtain ⟨own, cs, Qp, Ep, _, _, _, hS, _⟩ := h
    exact (show False from hS).elim⟩
def spoilT (k : Nat) : Dv := .tup [.str "spoilt", .int (k : Nat)]
def spoilK : Nat → List Nat → (Env → Prop) → Env → Prop
  | _, [], K, env => K env
  | k, j :: js, K, env => onOL (env[j]?).join fun xs os => os = [] ∧ ∃ ss, texts xs = some ss ∧ ss.length ≤ 4000 ∧ normE (env.set j (some ⟨.lst (xs ++ [spoilT k]), .nd []⟩)) (spoilK (k + 1) js K)
def wSpoil (js : List Nat) : WE := fun env Q _ => (js.Nodup ∧ js.length ≤ 10) ∧ spoilK 1 js (Q (.tm ⟨.bl true, .sh⟩)) env
/-- what _law_spoil does to a list of lists of texts -/
def spSpoil : Sp := fun vs H Q _ => ∃ (L : Addr) (as : List Addr) (xss : List (List Str)), vs = [.ref L] ∧ H L = some (.lst (as.map V.ref)) ∧ as.Nodup ∧ as.length ≤ 10 ∧ L ∉ as ∧ Paired (fun a xs => H a = some (.lst (xs.map V.str)) ∧ xs.length ≤ 4000) as xss ∧
  ∀ H', (∀ b o, H b = some o → b ∉ as → H' b = some o) → (∀ (j : Nat) (a : Addr) (xs : List Str), as[j]? = some a → xss[j]? = some xs → ∃ t, H t = none ∧ H' a = some (.lst (xs.map V.str ++ [.ref t])) ∧ H' t = some (.tup [.str "spoilt", .int ((j + 1 : Nat) : Int)])) → Q (.bl true) H'
structure SpoilOk (P : Program) (w : World) (K : PySem.W.Frag) (mg : Str → Option Value) (base : Heap) (k : Nat) : Prop where
  ex : ∃ (f : Addr) (fd : FuncData), mg "_law_spoil" = some (.ref f) ∧ PySem.W.keepIn K (.ref f) = true ∧ Binds K fd ["_law_values"] [] ∧ FnOk P w K mg base (L2.CX P w) k f fd ["_law_values"] spSpoil
section
variable {X : Cx} {Fx : List Nat} {Wo : WX} {pos : Pos}
def tVars : List Nat → TA
  | [] => tNil
  | j :: js => tCons (tVar j) (tVars js)
theorem paired_mem {α β : Type} {p q : α → β → Prop} : ∀ {as : List α} {bs : List β}, Paired p as bs → (∀ a b, a ∈ as → p a b → q a b) → Paired q as bs
  | _, _, .nil, _ => .nil
  | _, _, .cons h t, k => .cons (k _ _ List.mem_cons_self h) (paired_mem t fun a b m => k a b (List.mem_cons_of_mem _ m))
theorem paired_getL {α β : Type} {p : α → β → Prop} : ∀ {as : List α} {bs : List β} {i : Nat} {a : α}, Paired p as bs → as[i]? = some a → ∃ b, bs[i]? = some b ∧ p a b
  | _, _, _, _, .nil, e => by simp at e
  | _, _, 0, a, .cons h t, e => by cases (Option.some.inj e); exact ⟨_, rfl, h⟩
  | _, _, i + 1, a, .cons h t, e => paired_getL (i := i) t (by simpa using e)
theorem paired_fst {α β γ : Type} {q : α → β → Prop} {f : γ → β} : ∀ {as : List α} {r : List γ}, Paired q as (r.map f) → Paired (fun a p => q a (f p)) as r
  | _, [], .nil => .nil
  | _, c :: r, .cons h t => .cons h (paired_fst t)
/-- the slots at the end -/
def spoilE : Nat → List Nat → List (List Str) → Env → Env
  | k, j :: js, xs :: xss, env => spoilE (k + 1) js xss (env.set j (some ⟨.lst (xs.map Dv.str ++ [spoilT k]), .nd []⟩))
  | _, _, _, env => env
theorem texts_eq : ∀ {ds : List Dv} {ss : List Str}, texts ds = some ss → ds = ss.map Dv.str
  | [], _, h => by cases (Option.some.inj h); rfl
  | .str b :: ds, _, h => by
    have h' : (texts ds).map (b :: ·) = some _ := h
    cases e : texts ds with
    | none => rw [e] at h'; cases h'
    | some bs =>
      rw [e] at h'
      cases (Option.some.inj h')
      rw [texts_eq e]; rfl
  | .non :: _, _, h => by cases h
  | .bl _ :: _, _, h => by cases h
  | .int _ :: _, _, h => by cases h
  | .lst _ :: _, _, h => by cases h
  | .tup _ :: _, _, h => by cases h
  | .dic _ :: _, _, h => by cases h
  | .ins _ _ :: _, _, h => by cases h
  | .scr _ :: _, _, h => by cases h
theorem texts_self : ∀ xs : List Str, texts (xs.map Dv.str) = some xs
  | [] => rfl
  | x :: xs => by show (texts (xs.map Dv.str)).map (x :: ·) = _; rw [texts_self xs]; rfl
theorem spoil_read : ∀ {js : List Nat} {k : Nat} {env : Env} {Kf : Env → Prop}, js.Nodup → spoilK k js Kf env → ∃ xss : List (List Str), Paired (fun j (xs : List Str) => (env[j]?).join = some ⟨.lst (xs.map Dv.str), .nd []⟩ ∧ xs.length ≤ 4000) js xss ∧ Kf (spoilE k js xss env)
  | [], k, env, Kf, _, h => ⟨[], .nil, h⟩
  | j :: js, k, env, Kf, hn, h => by
    rw [List.nodup_cons] at hn
    obtain ⟨xs, os, e, ho, ss, h1, h2, h3⟩ := onOL_of h
    subst ho
    have := texts_eq h1
    subst this
    rw [normE_eq] at h3
    obtain ⟨xss, p, q⟩ := spoil_read hn.2 h3
    refine ⟨ss :: xss, .cons ⟨e, h2⟩ ?_, q⟩
    refine paired_mem p fun j' xs' hj hh => ?_
    have hne : j ≠ j' := fun z => hn.1 (z ▸ hj)
    rw [List.getElem?_set_ne hne] at hh
    exact hh
def updL : Hp → List (Addr × List V) → Hp
  | G, [] => G
  | G, (a, vs) :: r => updL (upd G a (.lst vs)) r
theorem updL_out : ∀ {r : List (Addr × List V)} {G : Hp} {b : Addr}, (∀ p ∈ r, p.1 ≠ b) → updL G r b = G b
  | [], _, _, _ => rfl
  | (a, vs) :: r, G, b, h => by
    show updL (upd G a (.lst vs)) r b = G b
    rw [updL_out fun p hp => h p (List.mem_cons_of_mem _ hp)]
    exact upd_ne (Ne.symm (h (a, vs) List.mem_cons_self))
theorem updL_in : ∀ {r : List (Addr × List V)} {G : Hp} {b : Addr} {vs : List V}, (r.map (·.1)).Nodup → (b, vs) ∈ r → updL G r b = some (.lst vs)
  | (a, ws) :: r, G, b, vs, hn, h => by
    rw [List.map_cons, List.nodup_cons] at hn
    show updL (upd G a (.lst ws)) r b = _
    rcases List.mem_cons.mp h with e | h
    · cases e
      rw [updL_out fun p hp e => hn.1 (List.mem_map.mpr ⟨p, hp, e⟩)]
      exact upd_same
    · exact updL_in hn.2 h
theorem spoil_store {K : PySem.W.Frag} {F : Fm} {own : Addr → Option Pth} {σ : L2.St} {ts : List (V × Cl)} : ∀ {js : List Nat} {xss : List (List Str)} {k : Nat} {env : Env} {G : Hp} {r : List (Addr × Addr)},
    js.Nodup → St K F own σ env ts G → Paired (fun j (xs : List Str) => (env[j]?).join = some ⟨.lst (xs.map Dv.str), .nd []⟩) js xss → Paired (fun j (p : Addr × Addr) => σ[j]? = some (some (.ref p.1))) js r →
    (∀ (i : Nat) (p : Addr × Addr), r[i]? = some p → Gm own G p.2 = some (.tup [.str "spoilt", .int ((k + i : Nat) : Int)])) →
    St K F own σ (spoilE k js xss env) ts (updL G ((r.zip xss).map fun q => (q.1.1, q.2.map V.str ++ [.ref q.1.2])))
  | [], _, k, env, G, _, _, st, .nil, .nil, _ => st
  | j :: js, xs :: xss, k, env, G, p :: r, hn, st, .cons h1 t1, .cons h2 t2, hr => by
    rw [List.nodup_cons] at hn
    have hp := hr 0 p rfl
    have rt : Rep K (Gm own G) (.ref p.2) (spoilT k) := .tup (SqT.of hp) (.cons (.str _) (.cons (.int _) .nil))
    have st1 := st.set_lst h1 h2 ((reps_strs xs).append (.cons rt .nil))
    have oa : ∃ q, own p.1 = some q := by
      obtain ⟨v, e1, e2⟩ := st.cell j _ (env_some h1)
      rw [h2] at e1
      cases e1
      have e2' : Own K own G (.ref p.1) (.lst (xs.map Dv.str)) (.nd []) [0, j] := e2
      cases e2' with
      | lst e _ _ => exact ⟨_, e⟩
    obtain ⟨q, oa⟩ := oa
    refine spoil_store (js := js) (xss := xss) (r := r) hn.2 st1 (paired_mem t1 fun j' xs' hj hh => ?_) t2 fun i p' hp' => ?_
    · have hne : j ≠ j' := fun z => hn.1 (z ▸ hj)
      rw [List.getElem?_set_ne hne]
      exact hh
    · have := hr (i + 1) p' hp'
      have e : k + (i + 1) = k + 1 + i := by omega
      rw [e] at this
      exact Gm_upd_own oa (fun b z => z) _ _ this
theorem tVars_run {σ : L2.St} {H : Hp} : ∀ {js : List Nat} {as : List Addr} {Q : List V → Hp → Prop}, Paired (fun j a => σ[j]? = some (some (.ref a))) js as → Q (as.map V.ref) H → tVars js σ H Q
  | [], _, Q, .nil, h => h
  | j :: js, a :: as, Q, .cons h t, q => ⟨_, h, tVars_run (Q := fun vs H => Q (.ref a :: vs) H) t q⟩
theorem spoil_addrs {K : PySem.W.Frag} {F : Fm} {own : Addr → Option Pth} {σ : L2.St} {env : Env} {ts : List (V × Cl)} {H : Hp} (st : St K F own σ env ts H) : ∀ {js : List Nat} {xss : List (List Str)}, Paired (fun j (xs : List Str) => (env[j]?).join = some ⟨.lst (xs.map Dv.str), .nd []⟩ ∧ xs.length ≤ 4000) js xss →
    ∃ as : List Addr, Paired (fun j a => σ[j]? = some (some (.ref a))) js as ∧ Paired (fun j a => own a = some [0, j]) js as ∧ Paired (fun a (xs : List Str) => H a = some (.lst (xs.map V.str)) ∧ xs.length ≤ 4000) as xss
  | _, _, .nil => ⟨[], .nil, .nil, .nil⟩
  | j :: js, xs :: xss, .cons ⟨h, hl⟩ t => by
    obtain ⟨as, p1, p2, p3⟩ := spoil_addrs st t
    obtain ⟨v, e1, e2⟩ := st.cell j _ (env_some h)
    obtain ⟨a, vs, e3, e4, _, e5⟩ := st.lst_cell h
    rw [e3] at e1
    cases e1
    have e2' : Own K own H (.ref a) (.lst (xs.map Dv.str)) (.nd []) [0, j] := e2
    have oa : own a = some [0, j] := by cases e2' with | lst e _ _ => exact e
    have := texts_V (e5 rfl) (texts_self xs)
    subst this
    exact ⟨a :: as, .cons e3 p1, .cons oa p2, .cons ⟨e4, hl⟩ p3⟩
theorem addrs_nodup {own : Addr → Option Pth} : ∀ {js : List Nat} {as : List Addr}, js.Nodup → Paired (fun j a => own a = some [0, j]) js as → as.Nodup
  | _, _, _, .nil => List.nodup_nil
  | j :: js, a :: as, hn, .cons h t => by
    rw [List.nodup_cons] at hn ⊢
    refine ⟨fun hm => ?_, addrs_nodup hn.2 t⟩
    have : ∀ {js : List Nat} {as : List Addr}, Paired (fun j a => own a = some [0, j]) js as → a ∈ as → j ∈ js := by
      intro js as p
      induction p with
      | nil => intro h; cases h
      | cons e _ ih =>
        intro hm
        rcases List.mem_cons.mp hm with rfl | hm
        · rw [h] at e
          injection e with e
          injection e with _ e
          injection e with e _
          rw [e]; exact List.mem_cons_self
        · exact List.mem_cons_of_mem _ (ih hm)
    exact hn.1 (this t hm)
theorem pick_ts {P : Nat → Addr → Addr → Prop} : ∀ {as : List Addr} {n : Nat}, (∀ i a, as[i]? = some a → ∃ t, P (n + i) a t) → ∃ r : List (Addr × Addr), r.map (·.1) = as ∧ ∀ i p, r[i]? = some p → P (n + i) p.1 p.2
  | [], n, _ => ⟨[], rfl, fun i p h => by simp at h⟩
  | a :: as, n, h => by
    obtain ⟨t, ht⟩ := h 0 a rfl
    obtain ⟨r, h1, h2⟩ := pick_ts (as := as) (n := n + 1) (P := P) fun i b hb => by
      obtain ⟨t, ht⟩ := h (i + 1) b hb
      exact ⟨t, by rw [Nat.add_assoc, Nat.add_comm 1 i]; exact ht⟩
    refine ⟨(a, t) :: r, by rw [List.map_cons, h1], fun i p hp => ?_⟩
    cases i with
    | zero => cases hp; exact ht
    | succ i =>
      have := h2 i p hp
      rw [Nat.add_assoc, Nat.add_comm 1 i] at this
      exact this
theorem spoil_run {js : List Nat} {E : L2.St → XK} : ∀ σ H Q, tW X.K Fx Wo (wSpoil js) σ H Q → tCallSD spSpoil [] E (tCons (tLst (tVars js)) tNil) σ H Q := fun σ H Q h => by
  obtain ⟨F, own, env, ts, Qp, Ep, hf, st, ⟨⟨hn, hl⟩, w⟩, hq, hx⟩ := h
  obtain ⟨xss, p0, wq⟩ := spoil_read hn w
  obtain ⟨as, p1, p2, p3⟩ := spoil_addrs st p0
  have hna := addrs_nodup hn p2
  have hla : as.length = js.length := p1.length.symm
  refine tVars_run p1 ?_
  refine ⟨by rw [List.length_map, hla, sizeLine_eq]; omega, fun p hp => ?_⟩
  have hin : ∀ a ∈ as, ∃ o, H a = some o := fun a ha => by
    obtain ⟨i, hi⟩ := List.getElem?_of_mem ha
    obtain ⟨xs, _, e⟩ := paired_getL p3 hi
    exact ⟨_, e.1⟩
  have hpa : p ∉ as := fun ha => by
    obtain ⟨o, e⟩ := hin p ha
    rw [hp] at e; cases e
  refine ⟨p, as, xss, rfl, upd_same, hna, by omega, hpa, paired_mem p3 fun a xs ha e => ⟨by rw [upd_ne fun z => hpa (by rw [← z]; exact ha)]; exact e.1, e.2⟩, fun H' h1 h2 => ?_⟩
  -- the heap with the lists put back
  have hG : ∀ b o, H b = some o → (if b ∈ as then H b else H' b) = some o := fun b o e => by
    by_cases hb : b ∈ as
    · rw [if_pos hb]; exact e
    · rw [if_neg hb]
      exact h1 b o (by rw [upd_ne fun z => by rw [z, hp] at e; cases e]; exact e) hb
  have stG := st.ext (H' := fun b => if b ∈ as then H b else H' b) hG
  obtain ⟨r, r1, r2⟩ := pick_ts (as := as) (n := 0) (P := fun i a t => H t = none ∧ (∀ xs, xss[i]? = some xs → H' a = some (.lst (xs.map V.str ++ [.ref t]))) ∧ H' t = some (.tup [.str "spoilt", .int ((i + 1 : Nat) : Int)])) fun i a ha => by
    obtain ⟨xs, ex, _⟩ := paired_getL p3 ha
    obtain ⟨t, t1, t2, t3⟩ := h2 i a xs ha ex
    have hne : t ≠ p := fun z => by rw [z, upd_same] at t1; cases t1
    rw [upd_ne hne] at t1
    refine ⟨t, t1, fun xs' e' => ?_, by rw [Nat.zero_add]; exact t3⟩
    rw [Nat.zero_add, ex] at e'
    cases e'
    exact t2
  have pr : Paired (fun j (p : Addr × Addr) => σ[j]? = some (some (.ref p.1))) js r := paired_fst (q := fun (j : Nat) (a : Addr) => σ[j]? = some (some (V.ref a))) (f := fun x : Addr × Addr => x.1) (by rw [r1]; exact p1)
  have st2 := spoil_store (k := 1) hn stG (paired_mem p0 fun _ _ _ e => e.1) pr fun i q hq' => by
    obtain ⟨t1, _, t3⟩ := r2 i q hq'
    have tn : q.2 ∉ as := fun hm => by
      obtain ⟨o, e⟩ := hin _ hm
      rw [t1] at e; cases e
    refine Gm_of (fresh_own st.frm.alive t1) ?_
    show (if q.2 ∈ as then H q.2 else H' q.2) = _
    rw [if_neg tn, t3, Nat.zero_add, Nat.add_comm i 1]
  have hH : updL (fun b => if b ∈ as then H b else H' b) ((r.zip xss).map fun q => (q.1.1, q.2.map V.str ++ [.ref q.1.2])) = H' := by
    have hlr : r.length = as.length := by rw [← r1, List.length_map]
    have hlx : xss.length = as.length := p3.length.symm
    have hfst : (((r.zip xss).map fun q => (q.1.1, q.2.map V.str ++ [V.ref q.1.2])).map (·.1)) = as := by
      rw [List.map_map]
      have : (r.zip xss).map ((fun x : Addr × List V => x.1) ∘ fun q : (Addr × Addr) × List Str => (q.1.1, q.2.map V.str ++ [V.ref q.1.2])) = ((r.zip xss).map Prod.fst).map (·.1) := by rw [List.map_map]; rfl
      rw [this, List.map_fst_zip (by omega), r1]
    funext b
    by_cases hb : b ∈ as
    · obtain ⟨i, hi⟩ := List.getElem?_of_mem hb
      obtain ⟨xs, ex, _⟩ := paired_getL p3 hi
      have hri : ∃ t, r[i]? = some (b, t) := by
        rw [← r1, List.getElem?_map] at hi
        cases e : r[i]? with
        | none => rw [e] at hi; cases hi
        | some q =>
          rw [e] at hi
          cases (Option.some.inj hi)
          exact ⟨q.2, rfl⟩
      obtain ⟨t, ht⟩ := hri
      obtain ⟨_, t2, _⟩ := r2 i _ ht
      rw [t2 xs (by rw [Nat.zero_add]; exact ex)]
      refine updL_in (by rw [hfst]; exact hna) ?_
      refine List.mem_of_getElem? (i := i) ?_
      rw [List.getElem?_map, (List.getElem?_zip_eq_some (z := ((b, t), xs))).mpr ⟨ht, ex⟩]
      rfl
    · rw [updL_out fun q hq' e => hb (by rw [← hfst]; exact List.mem_map.mpr ⟨q, hq', e⟩)]
      show (if b ∈ as then H b else H' b) = _
      rw [if_neg hb]
  rw [hH] at st2
  exact hq _ _ _ (.tm ⟨.bl true, .sh⟩) _ wq (st2.push_sh (.bl true)) .last
theorem pe_Wspoil {k : Nat} {js : List Nat} {es : List Expr} {p lp : Pos} (R : SpoilOk X.prog X.w X.K X.mg X.base k) (hr : Room k X.A) (tk : Takes X Wo) (hg : Gl X "_law_spoil") (ha : PA X es (tVars js)) : PE X (.Call (.Name "_law_spoil" p) [.List es lp] [] pos) (tW X.K Fx Wo (wSpoil js)) := by
  obtain ⟨f, fd, h1, h2, h3, h4⟩ := R.ex
  exact PE.imp spoil_run (pe_callSD h4 hr hg h1 h2 h3 .nil (fun σ => passAt tk σ) (pa_cons (pe_lst ha) pa_nil (by rfl)) (by decide) (by rfl) (by rfl))
end
end Py
set_option Elab.async false
set_option linter.all false
set_option maxRecDepth 100000
set_option maxHeartbeats 400000
/-! Py, part N: _law_holders and _law_spoil over slots and heap (raw). -/
namespace Py
open PySem PySem.Spec PyProof.Rows L2
def leafT : V → Option String
  | .non => some "NoneType"
  | .bl _ => some "bool"
  | .int _ => some "int"
  | .str _ => some "str"
  | _ => none
/-- the lists within a value, the outer ahead of the inner -/
def Hold (K : PySem.W.Frag) (H : Hp) : Nat → V → List Addr → Prop
  | 0, v, as => (leafT v).isSome = true ∧ as = []
  | n + 1, v, as => ((leafT v).isSome = true ∧ as = []) ∨ (∃ a vs ass, v = .ref a ∧ H a = some (.lst vs) ∧ Paired (Hold K H n) vs ass ∧ as = a :: ass.flatten) ∨ (∃ a vs ass, v = .ref a ∧ SqT K H a vs ∧ Paired (Hold K H n) vs ass ∧ as = ass.flatten)
theorem paired_imp {α β : Type} {p q : α → β → Prop} (k : ∀ a b, p a b → q a b) : ∀ {as : List α} {bs : List β}, Paired p as bs → Paired q as bs
  | _, _, .nil => .nil
  | _, _, .cons h t => .cons (k _ _ h) (paired_imp k t)
theorem Hold.mono {K : PySem.W.Frag} {H H' : Hp} (s : Same H H') : ∀ {n : Nat} {v : V} {as : List Addr}, Hold K H n v as → Hold K H' n v as
  | 0, _, _, h => h
  | n + 1, _, _, h => by
    rcases h with h | ⟨a, vs, ass, e, h1, h2, h3⟩ | ⟨a, vs, ass, e, h1, h2, h3⟩
    · exact .inl h
    · exact .inr (.inl ⟨a, vs, ass, e, s _ _ h1, paired_imp (fun _ _ h => Hold.mono s h) h2, h3⟩)
    · exact .inr (.inr ⟨a, vs, ass, e, sqT_mono s h1, paired_imp (fun _ _ h => Hold.mono s h) h2, h3⟩)
theorem same_of {H : Hp} {p : Addr} (h : H p = none) (o : HO) : Same H (upd H p o) := fun b u q => by rw [upd_ne (ne_of_none q h)]; exact q
theorem leaf_ty {K : PySem.W.Frag} {H : Hp} {v : V} (h : (leafT v).isSome = true) : ∃ t, TyX K H v (.type t) ∧ t ∈ ["NoneType", "bool", "int", "str"] := by
  cases v with
  | non => exact ⟨_, .base .non, by decide⟩
  | bl b => exact ⟨_, .base (.bl b), by decide⟩
  | int i => exact ⟨_, .base (.int i), by decide⟩
  | str x => exact ⟨_, .base (.str x), by decide⟩
  | _ => cases h
abbrev tIsiT (K : PySem.W.Frag) (ts : List String) (t : TE) : TE := tCB (rIsiT K) (tCons t (tCons (tTup fun _ H Q => Q (ts.map V.ty) H) tNil))
abbrev tIsi (K : PySem.W.Frag) (s : String) (t : TE) : TE := tCB (rIsi K) (tCons t (tCons (tC (.ty s)) tNil))
theorem test_isiT {K : PySem.W.Frag} {ts : List String} {i : Nat} {σ : L2.St} {H : Hp} {Q : Bool → Hp → Prop} {v : V} {t : String} (hv : σ[i]? = some (some v)) (ht : t ∈ tyAll) (hts : ∀ x ∈ ts, x ∈ kinds) (hl : ts.length ≤ 10) (ty : ∀ H', Same H H' → TyX K H' v (.type t)) (k : ∀ H', Same H H' → Q (ts.any (isB t)) H') :
    tB (tIsiT K ts (tVar i)) σ H Q := by
  refine ⟨v, hv, ?_⟩
  refine ⟨by rw [List.length_map, sizeLine_eq]; omega, fun p hp => ?_⟩
  have s : Same H (upd H p (.tup (ts.map V.ty))) := same_of hp _
  exact ⟨v, p, ts.map V.ty, .type t, ts.map Value.type, ts.any (isB t), rfl, upd_same, cls_tys ts, ty _ s, kit_any ht hts, _, rfl, k _ s⟩
theorem test_isi {K : PySem.W.Frag} {s : String} {i : Nat} {σ : L2.St} {H : Hp} {Q : Bool → Hp → Prop} {v : V} {t : String} (hv : σ[i]? = some (some v)) (ht : t ∈ tyAll) (hs : s ∈ kinds) (ty : TyX K H v (.type t)) (k : Q (isB t s) H) :
    tB (tIsi K s (tVar i)) σ H Q :=
  ⟨v, hv, v, .ty s, .type t, .type s, isB t s, rfl, .ty s, ty, kit_ty (kit_all t ht s hs), _, rfl, k⟩
/-- _law_holders: slots value found item label -/
def t_holders (K : PySem.W.Frag) (sp : Sp) (E : L2.St → XK) : TS :=
  tSeq (tAsg (tLst tNil) (gName 1))
  (tSeq (tIfS (tB (tIsiT K ["list", "dict"] (tVar 0))) (tDrop (tBM K "list" rAppend (tVar 1) (tCons (tVar 0) tNil))) tNext)
  (tSeq (tIfS (tB (tIsiT K ["list", "tuple"] (tVar 0))) (tFor (iSeq K (tVar 0)) (gName 2) (tAsg (tOp rCat (tVar 1) (tCallSD sp [] E (tCons (tVar 2) tNil))) (gName 1))) tNext)
  (tSeq (tIfS (tB (tIsi K "dict" (tVar 0))) tNever tNext)
  (tRet (tVar 1)))))
def spHold (K : PySem.W.Frag) : Nat → Sp
  | 0 => fun _ _ _ _ => False
  | n + 1 => fun vs H Q _ => ∃ v as, vs = [v] ∧ Hold K H n v as ∧ as.length ≤ 100000 ∧ ∀ H' p, Same H H' → H p = none → H' p = some (.lst (as.map V.ref)) → Q (.ref p) H'
theorem sTr {A B C : Hp} (h : Same A B) (k : Same B C) : Same A C := fun b o e => k _ _ (h _ _ e)
theorem none_back {H H' : Hp} (s : Same H H') {p : Addr} (h : H' p = none) : H p = none := by
  cases e : H p with
  | none => rfl
  | some o => rw [s p o e] at h; cases h
theorem flat_take {ass : List (List Addr)} (i : Nat) : (ass.take i).flatten.length ≤ ass.flatten.length := by
  have : ass.flatten = (ass.take i).flatten ++ (ass.drop i).flatten := by rw [← List.flatten_append, List.take_append_drop]
  rw [this, List.length_append]; omega
theorem holders_step {K : PySem.W.Frag} {n : Nat} {E : L2.St → XK} {H : Hp} {v : V} {vs : List V} {ass : List (List Addr)} {pre : List Addr} (hp : Paired (Hold K H n) vs ass) (hl : (pre ++ ass.flatten).length ≤ 100000) {i : Nat} {x : V} {σ : L2.St} {H1 : Hp} {D : Ends} (hx : vs[i]? = some x)
    (hP : Same H H1 ∧ ∃ p x2, H p = none ∧ H1 p = some (.lst ((pre ++ (ass.take i).flatten).map V.ref)) ∧ σ = [some v, some (.ref p), x2, none])
    (hD : ∀ σ H1, (Same H H1 ∧ ∃ p x2, H p = none ∧ H1 p = some (.lst ((pre ++ (ass.take (i + 1)).flatten).map V.ref)) ∧ σ = [some v, some (.ref p), x2, none]) → D.nx σ H1) :
    gName 2 x σ H1 fun σ2 H2 => tAsg (tOp rCat (tVar 1) (tCallSD (spHold K (n + 1)) [] E (tCons (tVar 2) tNil))) (gName 1) D σ2 H2 := by
  obtain ⟨s1, p, x2, np, e1, rfl⟩ := hP
  obtain ⟨bs, hb, hh⟩ := paired_getL hp hx
  have htk : ass.take (i + 1) = ass.take i ++ [bs] := by rw [List.take_add_one, hb]; rfl
  have hlt := flat_take (ass := ass) (i + 1)
  rw [htk, List.flatten_append, List.length_append] at hlt
  rw [List.length_append] at hl
  have hlb : ([bs] : List (List Addr)).flatten = bs := by simp
  rw [hlb] at hlt
  refine ⟨_, rfl, x, rfl, x, bs, rfl, hh.mono s1, by omega, fun H2 q s2 nq e2 => ?_⟩
  refine ⟨p, q, _, _, rfl, rfl, s2 _ _ e1, e2, by rw [List.length_map, List.length_map, List.length_append, sizeLine_eq]; omega, fun r nr => ?_⟩
  refine hD _ _ ⟨sTr (sTr s1 s2) (same_of nr _), r, _, none_back (sTr s1 s2) nr, ?_, rfl⟩
  rw [upd_same, htk, List.flatten_append, hlb, ← List.append_assoc, ← List.map_append]
theorem holders_ok {K : PySem.W.Frag} {n : Nat} {E : L2.St → XK} {H : Hp} {vs : List V} {Q : VK} {E0 : XK} {D : Ends} (h : spHold K (n + 1) vs H Q E0) (hD : D.rt = Q) : t_holders K (spHold K n) E D (start ["_law_value", "_law_found", "_law_item", "_law_label"] vs) H := by
  obtain ⟨v, as, rfl, hh, hl, q⟩ := h
  rw [← hD] at q
  refine ⟨Nat.zero_le _, fun p np => ?_⟩
  show tSeq _ _ D [some v, some (.ref p), none, none] (upd H p (.lst []))
  have s0 : Same H (upd H p (.lst [])) := same_of np _
  have fin : ∀ σ H1, (Same H H1 ∧ ∃ p x2, H p = none ∧ H1 p = some (.lst (as.map V.ref)) ∧ σ = [some v, some (.ref p), x2, none]) → (∃ t, TyX K H1 v (.type t) ∧ t ∈ tyAll ∧ isB t "dict" = false) →
      tSeq (tIfS (tB (tIsi K "dict" (tVar 0))) tNever tNext) (tRet (tVar 1)) D σ H1 := fun σ H1 ⟨s1, r, x2, nr, e1, e⟩ ⟨t, ty, ht, hd⟩ => by
    subst e
    refine test_isi rfl ht (by decide) ty ?_
    rw [hd]
    exact ⟨_, rfl, q _ _ s1 nr e1⟩
  have leaf : (leafT v).isSome = true → as = [] → tSeq (tIfS (tB (tIsiT K ["list", "dict"] (tVar 0))) (tDrop (tBM K "list" rAppend (tVar 1) (tCons (tVar 0) tNil))) tNext)
      (tSeq (tIfS (tB (tIsiT K ["list", "tuple"] (tVar 0))) (tFor (iSeq K (tVar 0)) (gName 2) (tAsg (tOp rCat (tVar 1) (tCallSD (spHold K n) [] E (tCons (tVar 2) tNil))) (gName 1))) tNext)
      (tSeq (tIfS (tB (tIsi K "dict" (tVar 0))) tNever tNext)
      (tRet (tVar 1)))) D [some v, some (.ref p), none, none] (upd H p (.lst [])) := fun hv ha => by
    obtain ⟨t, _, ht⟩ := leaf_ty (K := K) (H := H) hv
    have ty : ∀ H', TyX K H' v (.type t) := fun H' => by
      obtain ⟨t', ty', ht'⟩ := leaf_ty (K := K) (H := H') hv
      cases v <;> first | cases hv | (cases ‹TyX K H _ (.type t)›; rename_i b; cases b; exact ty') | skip
      all_goals first | (cases ‹TyX K H _ (.type t)›; rename_i b; cases b; cases ty'; rename_i b; cases b; first | exact .base .non | exact .base (.bl _) | exact .base (.int _) | exact .base (.str _))
    have ht2 : t ∈ tyAll := by
      simp only [List.mem_cons, List.not_mem_nil, or_false] at ht
      rcases ht with rfl | rfl | rfl | rfl <;> decide
    have f1 : ["list", "dict"].any (isB t) = false := by
      simp only [List.mem_cons, List.not_mem_nil, or_false] at ht
      rcases ht with rfl | rfl | rfl | rfl <;> decide
    have f2 : ["list", "tuple"].any (isB t) = false := by
      simp only [List.mem_cons, List.not_mem_nil, or_false] at ht
      rcases ht with rfl | rfl | rfl | rfl <;> decide
    have f3 : isB t "dict" = false := by
      simp only [List.mem_cons, List.not_mem_nil, or_false] at ht
      rcases ht with rfl | rfl | rfl | rfl <;> decide
    refine test_isiT rfl ht2 (by decide) (by decide) (fun H' _ => ty H') fun H2 s2 => ?_
    rw [f1]
    refine test_isiT rfl ht2 (by decide) (by decide) (fun H' _ => ty H') fun H3 s3 => ?_
    rw [f2]
    refine fin _ _ ⟨sTr (sTr s0 s2) s3, p, none, np, ?_, rfl⟩ ⟨t, ty _, ht2, f3⟩
    rw [ha]
    exact s3 _ _ (s2 _ _ upd_same)
  cases n with
  | zero => exact leaf hh.1 hh.2
  | succ n =>
    rcases hh with hh | ⟨a, vs, ass, rfl, h1, h2, rfl⟩ | ⟨a, vs, ass, rfl, h1, h2, rfl⟩
    · exact leaf hh.1 hh.2
    · have hne : p ≠ a := fun z => by rw [← z, np] at h1; cases h1
      refine test_isiT (t := "list") rfl (by decide) (by decide) (by decide) (fun H' s => .base (.lst (s _ _ (s0 _ _ h1)))) fun H2 s2 => ?_
      have e2 : H2 p = some (.lst []) := s2 _ _ upd_same
      refine ⟨_, rfl, .inl ⟨rfl, _, SqL.of e2⟩, _, rfl, p, _, _, rfl, rfl, e2, by rw [sizeLine_eq]; decide, ?_⟩
      have s3 : Same H (upd H2 p (.lst ([] ++ [.ref a]))) := fun b o e => by
        rw [upd_ne (ne_of_none e np)]
        exact s2 _ _ (s0 _ _ e)
      refine test_isiT (t := "list") rfl (by decide) (by decide) (by decide) (fun H' s => .base (.lst (s _ _ (s3 _ _ h1)))) fun H4 s4 => ?_
      refine ⟨_, rfl, a, rfl, .inl ⟨⟨vs, SqL.of (s4 _ _ (s3 _ _ h1))⟩, ?_⟩⟩
      refine for_list (xs := vs) (fun i σ H1 => Same H H1 ∧ ∃ p x2, H p = none ∧ H1 p = some (.lst (([a] ++ (ass.take i).flatten).map V.ref)) ∧ σ = [some (.ref a), some (.ref p), x2, none]) ?_ (fun i σ H1 hi hP => SqL.of (hP.1 _ _ h1)) (fun i x σ H1 hx hP => ?_) fun σ H1 hP => ?_
      · exact ⟨sTr s3 s4, p, none, np, s4 _ _ upd_same, rfl⟩
      · exact holders_step (pre := [a]) h2 hl hx hP fun σ H1 h => h
      · have et : ass.take vs.length = ass := by rw [h2.length, List.take_length]
        rw [et] at hP
        exact fin _ _ hP ⟨"list", .base (.lst (hP.1 _ _ h1)), by decide, by decide⟩
    · refine test_isiT (t := "tuple") rfl (by decide) (by decide) (by decide) (fun H' s => sqT_ty h1 (sTr s0 s)) fun H2 s2 => ?_
      have s3 := sTr s0 s2
      have e2 : H2 p = some (.lst []) := s2 _ _ upd_same
      refine test_isiT (t := "tuple") rfl (by decide) (by decide) (by decide) (fun H' s => sqT_ty h1 (sTr s3 s)) fun H4 s4 => ?_
      refine ⟨_, rfl, a, rfl, .inr ⟨⟨vs, sqT_mono (sTr s3 s4) h1⟩, ?_⟩⟩
      refine for_tup (xs := vs) (fun i σ H1 => Same H H1 ∧ ∃ p x2, H p = none ∧ H1 p = some (.lst (([] ++ (ass.take i).flatten).map V.ref)) ∧ σ = [some (.ref a), some (.ref p), x2, none]) ?_ (fun i σ H1 hi hP => sqT_mono hP.1 h1) (fun i x σ H1 hx hP => ?_) fun σ H1 hP => ?_
      · exact ⟨sTr s3 s4, p, none, np, s4 _ _ e2, rfl⟩
      · exact holders_step (pre := []) h2 hl hx hP fun σ H1 h => h
      · have et : ass.take vs.length = ass := by rw [h2.length, List.take_length]
        rw [et, List.nil_append] at hP
        exact fin _ _ hP ⟨"tuple", sqT_ty h1 hP.1, by decide, by decide⟩
abbrev tLenS (K : PySem.W.Frag) (t : TE) : TE := tCB (fun xs H Q => ∃ p ys, xs = [.ref p] ∧ (SqL K H p ys ∨ SqT K H p ys) ∧ Q (.int ys.length) H) (tCons t tNil)
abbrev tSub (a b : TE) : TE := tOp (rI0 fun i j => .int (i - j)) a b
abbrev tSpT (i : Nat) : TE := tTup (tCons (tC (.str "spoilt")) (tCons (tVar i) tNil))
def tNo : TT := fun _ _ _ => False
theorem pt_no {X : Cx} {e : Expr} : PT X e tNo := ⟨fun _ _ _ _ _ _ h => h.elim⟩
/-- _law_spoil: slots values holders k holder -/
def t_spoil (K : PySem.W.Frag) (sp : Sp) (E : L2.St → XK) : TS :=
  tSeq (tAsg (tCallSD sp [] E (tCons (tVar 0) tNil)) (gName 1))
  (tSeq (tFor (iRng2 (tCons (tC (.int 1)) (tCons (tLenS K (tVar 1)) tNil))) (gName 2)
    (tSeq (tAsg (tOp (rIxL K) (tVar 1) (tVar 2)) (gName 3))
      (tIfS (tB (tIsi K "list" (tVar 3))) (tDrop (tBM K "list" rAppend (tVar 3) (tCons (tSpT 2) tNil))) tNever)))
  (tSeq (tFor (iRng2 (tCons (tC (.int 1)) (tCons (tLenS K (tVar 1)) tNil))) (gName 2)
    (tSeq (tAsg (tOp (rIxL K) (tVar 1) (tVar 2)) (gName 3))
    (tSeq (tIfS (tAnd (tB (tIsi K "list" (tVar 3))) (tTest (tOp (rNeD K) (tOp (rIxL K) (tVar 3) (tSub (tLenS K (tVar 3)) (tC (.int 1)))) (tSpT 2)))) (tRet (tC (.bl false))) tNext)
      (tIfS (tAnd (tB (tIsi K "dict" (tVar 3))) tNo) (tRet (tC (.bl false))) tNext))))
  (tRet (tC (.bl true)))))
def spSpG (K : PySem.W.Frag) (n : Nat) : Sp := fun vs H Q _ => ∃ v L as xss, vs = [v] ∧ Hold K H n v (L :: as) ∧ as.length ≤ 90000 ∧ as.Nodup ∧ Paired (fun a xs => H a = some (.lst xs) ∧ xs.length ≤ 90000) as xss ∧
  ∀ H', (∀ b o, H b = some o → b ∉ as → H' b = some o) → (∀ (j : Nat) (a : Addr) (xs : List V), as[j]? = some a → xss[j]? = some xs → ∃ t, H t = none ∧ H' a = some (.lst (xs ++ [.ref t])) ∧ H' t = some (.tup [.str "spoilt", .int ((j + 1 : Nat) : Int)])) → Q (.bl true) H'
/-- the i lists ahead are spoilt -/
structure Spt (H : Hp) (as : List Addr) (xss : List (List V)) (i : Nat) (H' : Hp) : Prop where
  keep : ∀ b o, H b = some o → b ∉ as.take i → H' b = some o
  done : ∀ (j : Nat) (a : Addr) (xs : List V), j < i → as[j]? = some a → xss[j]? = some xs → ∃ t, H t = none ∧ H' a = some (.lst (xs ++ [.ref t])) ∧ H' t = some (.tup [.str "spoilt", .int ((j + 1 : Nat) : Int)])
theorem Spt.none {H : Hp} {as : List Addr} {xss : List (List V)} {i : Nat} {H' : Hp} (s : Spt H as xss i H') (hl : xss.length = as.length) {t : Addr} (h : H' t = none) : H t = none := by
  by_cases hm : t ∈ as.take i
  · obtain ⟨j, hj⟩ := List.getElem?_of_mem hm
    rw [List.getElem?_take] at hj
    split at hj
    · rename_i hji
      have hja : j < as.length := (List.getElem?_eq_some_iff.mp hj).1
      obtain ⟨t', _, e, _⟩ := s.done j t xss[j] hji hj (List.getElem?_eq_getElem (by omega))
      rw [h] at e; cases e
    · cases hj
  · cases e : H t with
    | none => rfl
    | some o => rw [s.keep t o e hm] at h; cases h
theorem Spt.same {H : Hp} {as : List Addr} {xss : List (List V)} {i : Nat} {H' H2 : Hp} (s : Spt H as xss i H') (k : Same H' H2) : Spt H as xss i H2 :=
  ⟨fun b o e h => k _ _ (s.keep b o e h), fun j a xs h1 h2 h3 => let ⟨t, e1, e2, e3⟩ := s.done j a xs h1 h2 h3; ⟨t, e1, k _ _ e2, k _ _ e3⟩⟩
theorem Spt.step {H : Hp} {as : List Addr} {xss : List (List V)} {i : Nat} {H' : Hp} (s : Spt H as xss i H') (hl : xss.length = as.length) (nd : as.Nodup) {a : Addr} {xs : List V} (ha : as[i]? = some a) (hx : xss[i]? = some xs) (ea : H' a = some (.lst xs)) {t : Addr} (nt : H' t = Option.none) {k : Int} (hk : k = ((i + 1 : Nat) : Int)) :
    Spt H as xss (i + 1) (upd (upd H' t (.tup [.str "spoilt", .int k])) a (.lst (xs ++ [.ref t]))) := by
  have hta : t ≠ a := fun z => by rw [z, ea] at nt; cases nt
  have htk : as.take (i + 1) = as.take i ++ [a] := by rw [List.take_add_one, ha]; rfl
  have hnt := s.none hl nt
  refine ⟨fun b o e h => ?_, fun j a' xs' h1 h2 h3 => ?_⟩
  · rw [htk, List.mem_append, List.mem_singleton, not_or] at h
    have hbt : b ≠ t := fun z => by rw [z, hnt] at e; cases e
    rw [upd_ne h.2, upd_ne hbt]
    exact s.keep b o e h.1
  · by_cases hj : j = i
    · subst hj
      rw [ha] at h2
      cases h2
      rw [hx] at h3
      cases h3
      refine ⟨t, hnt, upd_same, ?_⟩
      rw [upd_ne hta, upd_same, hk]
    · obtain ⟨t', e1, e2, e3⟩ := s.done j a' xs' (by omega) h2 h3
      have hne : a' ≠ a := fun z => by
        subst z
        have hi : i < as.length := (List.getElem?_eq_some_iff.mp ha).1
        have hj' : j < as.length := (List.getElem?_eq_some_iff.mp h2).1
        exact hj ((List.getElem?_inj hj' nd).mp (h2.trans ha.symm))
      have hne2 : t' ≠ a := fun z => by rw [z, ea] at e3; cases e3
      refine ⟨t', e1, ?_, ?_⟩
      · rw [upd_ne hne, upd_ne (ne_of_none e2 nt)]; exact e2
      · rw [upd_ne hne2, upd_ne (ne_of_none e3 nt)]; exact e3
theorem sp_lay (k : Int) : (PyData.tuple [.str "spoilt", .int k]).canLay0 = true := by
  have e : PyData.strOk "spoilt" = true := by decide +kernel
  simp [PyData.canLay0, PyData.canLayAll0, e]
theorem sp_shaped (k : Int) : SeqAt.shaped (.tuple [.str "spoilt", .int k]) = true := by
  unfold SeqAt.shaped
  rw [sp_lay]
  rfl
theorem eqv_sp (k : Int) : PyData.eqv (.tuple [.str "spoilt", .int k]) (.tuple [.str "spoilt", .int k]) = true := SeqAt.eqv_refl _ (sp_lay k)
theorem spoil_reads {K : PySem.W.Frag} {n : Nat} {E : L2.St → XK} {H : Hp} {vs : List V} {Q : VK} {E0 : XK} {D : Ends} (h : spSpG K n vs H Q E0) (hD : D.rt = Q) : t_spoil K (spHold K (n + 1)) E D (start ["_law_values", "_law_holders_here", "_law_k", "_law_holder"] vs) H := by
  obtain ⟨v, L, as, xss, rfl, hh, hl, nd, hp, q⟩ := h
  rw [← hD] at q
  have hxl : xss.length = as.length := hp.length.symm
  refine ⟨v, rfl, v, L :: as, rfl, hh, by rw [List.length_cons]; omega, fun H1 p s1 np e1 => ?_⟩
  have hlen : ((L :: as).map V.ref).length = as.length + 1 := by rw [List.length_map, List.length_cons]
  have rng : (((((L :: as).map V.ref).length : Nat) : Int) - 1).toNat = as.length := by rw [hlen]; omega
  refine ⟨_, rfl, p, _, rfl, .inl (SqL.of e1), 1, _, rfl, ⟨by decide, by decide, by omega, by rw [hlen]; omega⟩, ?_⟩
  rw [rng]
  have h0 : Spt H as xss 0 H1 := ⟨fun b o e _ => s1 b o e, fun j _ _ hj => by omega⟩
  have npa : ∀ i a, as[i]? = some a → p ≠ a := fun i a ha z => by
    obtain ⟨xs, _, e, _⟩ := paired_getL hp ha
    rw [← z, np] at e; cases e
  refine for_range (lo := 1) (n := as.length) (fun i σ H' => Spt H as xss i H' ∧ H' p = some (.lst ((L :: as).map V.ref)) ∧ ∃ x2 x3, σ = [some v, some (.ref p), x2, x3]) ⟨h0, e1, _, _, rfl⟩ (fun i σ H2 hi hP => ?_) fun σ H2 hP => ?_
  · obtain ⟨sp, ep, x2, x3, rfl⟩ := hP
    obtain ⟨a, ha⟩ : ∃ a, as[i]? = some a := ⟨_, List.getElem?_eq_getElem hi⟩
    obtain ⟨xs, hx, ea, hxs⟩ := paired_getL hp ha
    have hat : atI ((L :: as).map V.ref) (1 + ((i : Nat) : Int)) = some (.ref a) := by
      have e : (1 : Int) + ((i : Nat) : Int) = ((i + 1 : Nat) : Int) := by omega
      rw [e]
      exact atI_nat (by rw [List.getElem?_map, List.getElem?_cons_succ, ha]; rfl)
    have hni : a ∉ as.take i := fun hm => by
      obtain ⟨j, hj⟩ := List.getElem?_of_mem hm
      rw [List.getElem?_take] at hj
      split at hj
      · have hj' : j < as.length := (List.getElem?_eq_some_iff.mp hj).1
        have := (List.getElem?_inj hj' nd).mp (hj.trans ha.symm)
        omega
      · cases hj
    have ea2 : H2 a = some (.lst xs) := sp.keep a _ ea hni
    refine ⟨_, rfl, _, rfl, p, _, _, _, rfl, rfl, SqL.of ep, hat, ?_⟩
    refine test_isi (t := "list") rfl (by decide) (by decide) (.base (.lst ea2)) ?_
    refine ⟨_, rfl, .inl ⟨rfl, _, SqL.of ea2⟩, _, rfl, by show 2 ≤ sizeLine; decide, fun t nt => ?_⟩
    have hta : t ≠ a := fun z => by rw [z, ea2] at nt; cases nt
    have htp : t ≠ p := fun z => by rw [z, ep] at nt; cases nt
    refine ⟨a, xs, _, rfl, rfl, by rw [upd_ne (Ne.symm hta)]; exact ea2, by rw [sizeLine_eq]; omega, ?_⟩
    refine ⟨sp.step hxl nd ha hx ea2 nt (by omega), ?_, _, _, rfl⟩
    rw [upd_ne (npa i a ha), upd_ne (Ne.symm htp)]
    exact ep
  · obtain ⟨sp, ep, x2, x3, rfl⟩ := hP
    refine ⟨_, rfl, p, _, rfl, .inl (SqL.of ep), 1, _, rfl, ⟨by decide, by decide, by omega, by rw [hlen]; omega⟩, ?_⟩
    rw [rng]
    refine for_range (lo := 1) (n := as.length) (fun i σ H' => Spt H as xss as.length H' ∧ H' p = some (.lst ((L :: as).map V.ref)) ∧ ∃ x2 x3, σ = [some v, some (.ref p), x2, x3]) ⟨sp, ep, _, _, rfl⟩ (fun i σ H2 hi hP => ?_) fun σ H2 hP => ?_
    · obtain ⟨sp, ep, x2, x3, rfl⟩ := hP
      obtain ⟨a, ha⟩ : ∃ a, as[i]? = some a := ⟨_, List.getElem?_eq_getElem hi⟩
      obtain ⟨xs, hx, _, hxs⟩ := paired_getL hp ha
      have hat : atI ((L :: as).map V.ref) (1 + ((i : Nat) : Int)) = some (.ref a) := by
        have e : (1 : Int) + ((i : Nat) : Int) = ((i + 1 : Nat) : Int) := by omega
        rw [e]
        exact atI_nat (by rw [List.getElem?_map, List.getElem?_cons_succ, ha]; rfl)
      obtain ⟨t, nt, ea, et⟩ := sp.done i a xs hi ha hx
      have hlast : atI (xs ++ [.ref t]) ((((xs ++ [V.ref t]).length : Nat) : Int) - 1) = some (.ref t) := by
        have e : (((xs ++ [V.ref t]).length : Nat) : Int) - 1 = ((xs.length : Nat) : Int) := by rw [List.length_append]; simp
        rw [e]
        exact atI_nat (by simp)
      refine ⟨_, rfl, _, rfl, p, _, _, _, rfl, rfl, SqL.of ep, hat, ?_⟩
      refine test_isi (t := "list") rfl (by decide) (by decide) (.base (.lst ea)) ?_
      refine ⟨_, rfl, _, rfl, a, _, rfl, .inl (SqL.of ea), _, _, rfl, rfl, a, _, _, _, rfl, rfl, SqL.of ea, hlast, _, rfl, by show 2 ≤ sizeLine; decide, fun u nu => ?_⟩
      have kk : (1 : Int) + ((i : Nat) : Int) = ((i + 1 : Nat) : Int) := by omega
      have same : Same H2 (upd H2 u (.tup [.str "spoilt", .int (1 + ((i : Nat) : Int))])) := same_of nu _
      refine ⟨.tuple [.str "spoilt", .int ((i + 1 : Nat) : Int)], .tuple [.str "spoilt", .int ((i + 1 : Nat) : Int)], .tup (SqT.of (same _ _ et)) (.cons (.str _) (.cons (.int _) .nil)), ?_, sp_shaped _, sp_shaped _, _, rfl, ?_⟩
      · rw [← kk]
        exact .tup (SqT.of upd_same) (.cons (.str _) (.cons (.int _) .nil))
      rw [eqv_sp]
      refine test_isi (t := "list") rfl (by decide) (by decide) (.base (.lst (same _ _ ea))) ?_
      exact ⟨sp.same same, same _ _ ep, _, _, rfl⟩
    · obtain ⟨sp, ep, x2, x3, rfl⟩ := hP
      refine q _ (fun b o e h => sp.keep b o e fun z => h ?_) fun j a xs h1 h2 => sp.done j a xs (List.getElem?_eq_some_iff.mp h1).1 h1 h2
      rw [List.take_length] at z
      exact z
theorem hold0_strs {K : PySem.W.Frag} {H : Hp} : ∀ xs : List Str, Paired (Hold K H 0) (xs.map V.str) (xs.map fun _ => [])
  | [] => .nil
  | x :: xs => .cons ⟨rfl, rfl⟩ (hold0_strs xs)
theorem flat_nils : ∀ xs : List Str, (xs.map fun _ => ([] : List Addr)).flatten = []
  | [] => rfl
  | x :: xs => by rw [List.map_cons, List.flatten_cons, flat_nils xs]; rfl
theorem flat_ones : ∀ as : List Addr, (as.map fun a => [a]).flatten = as
  | [] => rfl
  | a :: as => by rw [List.map_cons, List.flatten_cons, flat_ones as]; rfl
theorem hold1_lists {K : PySem.W.Frag} {H : Hp} : ∀ {as : List Addr} {xss : List (List Str)}, Paired (fun a xs => H a = some (.lst (xs.map V.str)) ∧ xs.length ≤ 4000) as xss → Paired (Hold K H 1) (as.map V.ref) (as.map fun a => [a])
  | _, _, .nil => .nil
  | a :: as, xs :: xss, .cons h t => .cons (.inr (.inl ⟨a, _, _, rfl, h.1, hold0_strs xs, by rw [flat_nils]⟩)) (hold1_lists t)
theorem paired_strs {H : Hp} : ∀ {as : List Addr} {xss : List (List Str)}, Paired (fun a xs => H a = some (.lst (xs.map V.str)) ∧ xs.length ≤ 4000) as xss → Paired (fun a xs => H a = some (.lst xs) ∧ xs.length ≤ 90000) as (xss.map fun xs => xs.map V.str)
  | _, _, .nil => .nil
  | a :: as, xs :: xss, .cons h t => .cons ⟨h.1, by rw [List.length_map]; have := h.2; omega⟩ (paired_strs t)
theorem spSpoil_of {K : PySem.W.Frag} : ∀ vs H Q E, spSpoil vs H Q E → spSpG K 2 vs H Q E := fun vs H Q E h => by
  obtain ⟨L, as, xss, rfl, h1, h2, h3, h4, h5, h6⟩ := h
  refine ⟨.ref L, L, as, xss.map fun xs => xs.map V.str, rfl, .inr (.inl ⟨L, _, _, rfl, h1, hold1_lists h5, by rw [flat_ones]⟩), by omega, h2, paired_strs h5, fun H' k1 k2 => h6 H' k1 fun j a xs e1 e2 => k2 j a _ e1 (by rw [List.getElem?_map, e2]; rfl)⟩
end Py
set_option Elab.async false
set_option linter.all false
set_option maxRecDepth 100000
set_option maxHeartbeats 400000
/-! Py, part O: classes of one's own: made, their fields, methods, properties, own ==. -/
namespace Py
open PySem PySem.Spec PyProof.Rows L2
/-! ### raw rules, the wish of exceptions told by the slots -/
section
variable {X : Cx} {CX : CXT} {k : Nat} {f C : Addr} {fd : FuncData} {ps : List Str} {sp : Sp} {dvs : List V} {ds : List Value} {E : L2.St → XK} {x m : Str} {p pos apos : Pos} {e o : Expr} {es : List Expr} {ta : TE} {t : TA}
def tMakeSD (C : Addr) (sp : Sp) (dvs : List V) (E : L2.St → XK) (t : TA) : TE := fun σ H Q => t σ H fun vs H1 => ∀ x dx, H1 x = none → H1 dx = none → dx ≠ x →
  sp (.ref x :: (vs ++ dvs)) (upd (upd H1 dx (.own x)) x (.ins C dx [])) (fun v H2 => v = .non ∧ Q (.ref x) H2) (E σ)
theorem run_makeSD {pins : List (Addr × Obj)} {σ : L2.St} {H : Hp} {s : Shared} {Q : VK} {us : List Value} {vs : List V} (M : Mk X.K C f) (F : FnOk X.prog X.w X.K X.mg X.base CX k f fd ps sp) (hr : Room (k + 1) X.A) (hb : Binds X.K fd ps ds) (hd : Vals dvs ds)
    (hx : PassesAt CX X σ (E σ)) (I : Inv X pins σ H s) (r : Vals vs us)
    (h : ∀ x dx, H x = none → H dx = none → dx ≠ x → sp (.ref x :: (vs ++ dvs)) (upd (upd H dx (.own x)) x (.ins C dx [])) (fun v H2 => v = .non ∧ Q (.ref x) H2) (E σ)) :
    wpAny (model X.prog X.w) X.A (call (.ref C) us) (EP X pins σ Q) X.xe s := by
  have hq := h (s.heap.objs.size + 1) s.heap.objs.size (I.hok.fresh (Nat.le_succ _)) (I.hok.fresh (Nat.le_refl _)) (Nat.ne_of_lt (Nat.lt_succ_self _))
  have I2 := Inv.made (C := C) I
  have r2 : Vals (V.ref (s.heap.objs.size + 1) :: (vs ++ dvs)) (Value.ref (s.heap.objs.size + 1) :: (us ++ ds)) := .cons rfl (r.append hd)
  have hl : (Value.ref (s.heap.objs.size + 1) :: us ++ ds).length = ps.length := by
    have e := r2.length
    rw [F.len _ _ _ _ hq] at e
    exact e.symm
  refine wpAny_call (make_map (f := f) I.kIn M.makes M.init (beq_iff_eq.mp M.fn) (codeAny_mono (F.run _ X.stack _ _ ⟨Value.ref (s.heap.objs.size + 1) :: us, []⟩ (Value.ref (s.heap.objs.size + 1) :: (us ++ ds)) _ _ (E σ) (hr.make C us [])
    (I2.env0.make C us []) (hb _ (Value.ref (s.heap.objs.size + 1) :: us) I2.kIn hl) r2 hq) fun r s' hq' => ?_))
  cases r with
  | error e => exact hx pins _ _ e s' I2 hq'
  | ok fl =>
    cases fl with
    | ret u =>
      obtain ⟨v, H', I3, rv, ev, q3⟩ := I2.after hq'
      subst ev
      exact ⟨rv, ⟨V.ref (s.heap.objs.size + 1), H', I3, rfl, q3⟩⟩
    | next => exact False.elim hq'
    | brk => exact False.elim hq'
    | cont => exact False.elim hq'
theorem pe_makeSD (M : Mk X.K C f) (F : FnOk X.prog X.w X.K X.mg X.base CX k f fd ps sp) (hr : Room (k + 1) X.A) (hg : Gl X x) (hm : X.mg x = some (.ref C)) (hb : Binds X.K fd ps ds) (hd : Vals dvs ds) (hx : ∀ σ, PassesAt CX X σ (E σ))
    (ha : PA X (e :: es) t) (hdb : (x == ("__debug__" : Str)) = false := by decide) (he : starEach (e :: es) X.env = (false, eval e X.env) :: starEach es X.env := by rfl) (hpl : (backTo pos (starEach es X.env)).any (·.1) = false := by rfl) :
    PE X (.Call (.Name x p) (e :: es) [] pos) (tMakeSD C sp dvs E t) := by
  refine ⟨fun pins s σ H Q I h => ?_⟩
  refine wpAny_Call_Name_kw (ld_glob I hg hm ?_ hdb)
  refine PySem.W.callWith_K (h₀ := X.base) I.ok.mod.kin M.kp (thn (ha.run pos pins s σ H _ I h) fun us s1 ⟨vs, H1, I1, r, q⟩ => ⟨I1.kIn, ?_⟩) he hpl
  exact run_makeSD M F hr hb hd (hx σ) I1 r q
theorem pe_makeSD0 (M : Mk X.K C f) (F : FnOk X.prog X.w X.K X.mg X.base CX k f fd ps sp) (hr : Room (k + 1) X.A) (hg : Gl X x) (hm : X.mg x = some (.ref C)) (hb : Binds X.K fd ps ds) (hd : Vals dvs ds) (hx : ∀ σ, PassesAt CX X σ (E σ))
    (hdb : (x == ("__debug__" : Str)) = false := by decide) : PE X (.Call (.Name x p) [] [] pos) (tMakeSD C sp dvs E tNil) := by
  refine ⟨fun pins s σ H Q I h => ?_⟩
  refine wpAny_Call_Name_kw (ld_glob I hg hm ?_ hdb)
  exact PySem.W.callWith_K0 I.kIn M.kp (run_makeSD (us := []) M F hr hb hd (hx σ) I .nil h)
def tMethSD (C : Addr) (m : Str) (sp : Sp) (dvs : List V) (E : L2.St → XK) (ta : TE) (t : TA) : TE := fun σ H Q => ta σ H fun x H1 => ∃ a dx fs, x = .ref a ∧ H1 a = some (.ins C dx fs) ∧ fs.lookup m = none ∧
  t σ H1 fun vs H2 => sp (x :: (vs ++ dvs)) H2 Q (E σ)
theorem pe_methSD {pl : Sem Bool} (he : PE X o ta) (c : Cls X.K C) (hm : Meth X.K C m f) (F : FnOk X.prog X.w X.K X.mg X.base CX k f fd ps sp) (hr : Room k X.A) (hb : Binds X.K fd ps ds) (hd : Vals dvs ds) (hx : ∀ σ, PassesAt CX X σ (E σ)) (ha : PA X (e :: es) t)
    (hst : starEach (e :: es) X.env = (false, eval e X.env) :: starEach es X.env := by rfl) (hpl : (backTo pos (starEach es X.env)).any (·.1) = false := by rfl)
    (ht : eval (.Call (.Attribute o m apos) (e :: es) [] pos) X.env = (do
      let ov ← eval o X.env
      standAt apos.atName
      let (f, first) ← holding [ov] (getMethod ov m pl)
      callWith pos f first (backTo pos (starEach (e :: es) X.env)) (backToKw pos (keywordEach [] X.env))) := by rfl) :
    PE X (.Call (.Attribute o m apos) (e :: es) [] pos) (tMethSD C m sp dvs E ta t) := by
  refine ⟨fun pins s σ H Q I h => ?_⟩
  refine PySem.W.methodCall_KW (pl := pl) (thn (he.run pins s σ H _ I h) fun u s1 ⟨x, H1, I1, rx, a, dx, fs, ex, ea, l, q⟩ => ?_) ht
  subst ex
  obtain rfl : u = Value.ref a := rx
  refine getmeth_ok I1 ea c hm l ?_
  refine PySem.W.callWith_K (first := [.ref a]) (h₀ := X.base) I.ok.mod.kin hm.kp (thn (ha.run pos pins s1 σ H1 _ I1 q) fun us s2 ⟨vs, H2, I2, r, q2⟩ => ⟨I2.kIn, ?_⟩) hst hpl
  exact run_fnSD (us := .ref a :: us) (vs := .ref a :: vs) F hr hb hd (hx σ) I2 (.cons rfl r) q2
theorem pe_methSD0 {pl : Sem Bool} (he : PE X o ta) (c : Cls X.K C) (hm : Meth X.K C m f) (F : FnOk X.prog X.w X.K X.mg X.base CX k f fd ps sp) (hr : Room k X.A) (hb : Binds X.K fd ps ds) (hd : Vals dvs ds) (hx : ∀ σ, PassesAt CX X σ (E σ))
    (ht : eval (.Call (.Attribute o m apos) [] [] pos) X.env = (do
      let ov ← eval o X.env
      standAt apos.atName
      let (f, first) ← holding [ov] (getMethod ov m pl)
      callWith pos f first (backTo pos (starEach [] X.env)) (backToKw pos (keywordEach [] X.env))) := by rfl) :
    PE X (.Call (.Attribute o m apos) [] [] pos) (tMethSD C m sp dvs E ta tNil) := by
  refine ⟨fun pins s σ H Q I h => ?_⟩
  refine PySem.W.methodCall_KW (pl := pl) (thn (he.run pins s σ H _ I h) fun u s1 ⟨x, H1, I1, rx, a, dx, fs, ex, ea, l, q⟩ => ?_) ht
  subst ex
  obtain rfl : u = Value.ref a := rx
  refine getmeth_ok I1 ea c hm l ?_
  exact PySem.W.callWith_K0 (first := [.ref a]) I1.kIn hm.kp (run_fnSD (us := [.ref a]) (vs := [.ref a]) F hr hb hd (hx σ) I1 (.cons rfl .nil) q)
/-- x == y by the own __eq__ of x's class -/
def rEqOw (K : PySem.W.Frag) (C : Addr) (sp : Sp) : R2 := fun x y H Q => ∃ a dx fs t, x = .ref a ∧ H a = some (.ins C dx fs) ∧ TyX K H y t ∧ PySem.W.notFirst K C t = true ∧ sp [x, y] H (fun v H' => (∃ b, v = .bl b) ∧ Q v H') E0
theorem op_eqOw (F : FnOk X.prog X.w X.K X.mg X.base (L2.CX X.prog X.w) k f fd ps sp) (hr : Room k X.A) (hs : PySem.W.findIn X.K (.ref C) "__eq__" = some (some (.ref f))) (hf : PySem.W.isFn X.K (.ref f) = true) (hb : Binds X.K fd ps []) : OpR X (compareOp .Eq) (rEqOw X.K C sp) := by
  intro pins s σ H x y v u Q I rx ry h
  obtain ⟨a, dx, fs, t, rfl, ha, ty, hn, hsp⟩ := h
  cases rx
  obtain ⟨mA, J, _⟩ := ins_get I.hok ha
  obtain ⟨od, J, _⟩ := J.look
  obtain ⟨P, Z, hP, _⟩ := kit_of I ry ty
  obtain ⟨m, hF⟩ := I.fr
  show wpAny (model X.prog X.w) X.A (richCompare .Eq (.ref a) u) (EP X pins σ Q) X.xe s
  refine PySem.W.cmp_K (op := .Eq) (tb := t) hr.units0 hF I.ok.mod.kin J (Z.ty _ _ I.kIn hP) hn hs hf ?_
  have hl := F.len _ _ _ _ hsp
  have r2 : Vals [V.ref a, y] [Value.ref a, u] := .cons rfl (.cons ry .nil)
  refine wpAny_call (codeAny_mono (F.run X.A X.stack s H ⟨[.ref a, u], []⟩ [.ref a, u] [.ref a, y] _ E0 hr I.env0 (by
    have := hb s [.ref a, u] I.kIn (by simpa using hl)
    simpa using this) r2 hsp) fun r s' hq => ?_)
  cases r with
  | error e => exact (passL (X := X) pins σ H s e s' I hq)
  | ok fl =>
    cases fl with
    | ret w =>
      obtain ⟨z, H', I', rz, ⟨b, ez⟩, q⟩ := I.after hq
      subst ez
      cases rz
      exact ⟨.bl b, H', I', rfl, q⟩
    | next => exact False.elim hq
    | brk => exact False.elim hq
    | cont => exact False.elim hq
end
end Py
set_option Elab.async false
set_option linter.all false
set_option maxRecDepth 100000
set_option maxHeartbeats 400000
/-! Py, part P: own classes over slots of data. -/
namespace Py
open PySem PySem.Spec PyProof.Rows L2
/-- what is told of a class of one's own -/
structure ClsI (K : PySem.W.Frag) (cn : Str) : Prop where
  c : Cls K (He.ga K cn)
  ha : PySem.W.findIn K (.ref (He.ga K cn)) "__class__" = some (some (.builtin "object.__class__"))
  hn : PySem.W.specialIn K (.builtin "object.__class__") "__get__" = some (some (.builtin "getset_descriptor.__get__"))
  htk : PySem.W.takesIn K (.builtin "object.__class__") = some true
  hm : PySem.W.mroIn K (He.ga K cn) (.type "object") = some true
  no : ∀ t ∈ tyAll, PySem.W.kitOne K (.type t) (.ref (He.ga K cn)) = some false
  nf : ∀ t ∈ tyAll, PySem.W.notFirst K (He.ga K cn) (.type t) = true
/-! ### fields -/
theorem lookup_reps {K : PySem.W.Frag} {G : Hp} {f : Str} : ∀ {vs : List (Str × V)} {ds : List (Str × Dv)} {d : Dv}, vs.map (·.1) = ds.map (·.1) → Reps K G (vs.map (·.2)) (ds.map (·.2)) → ds.lookup f = some d → ∃ v, vs.lookup f = some v ∧ Rep K G v d
  | [], [], d, _, _, h => by cases h
  | [], _ :: _, _, h, _, _ => by simp at h
  | _ :: _, [], _, h, _, _ => by simp at h
  | (x, v) :: vs, (y, e) :: ds, d, h, r, hl => by
    simp only [List.map_cons, List.cons.injEq] at h
    obtain ⟨h1, h2⟩ := h
    subst h1
    cases r with
    | cons a b =>
      rw [List.lookup_cons] at hl ⊢
      cases q : f == x with
      | true =>
        rw [q] at hl
        cases (Option.some.inj hl)
        exact ⟨v, rfl, a⟩
      | false =>
        rw [q] at hl
        exact lookup_reps h2 b hl
theorem lookup_none_of {f : Str} : ∀ {vs : List (Str × V)} {ds : List (Str × Dv)}, vs.map (·.1) = ds.map (·.1) → ds.lookup f = none → vs.lookup f = none
  | [], _, _, _ => rfl
  | _ :: _, [], h, _ => by simp at h
  | (x, v) :: vs, (y, e) :: ds, h, hl => by
    simp only [List.map_cons, List.cons.injEq] at h
    obtain ⟨h1, h2⟩ := h
    subst h1
    rw [List.lookup_cons] at hl ⊢
    cases q : f == x with
    | true => rw [q] at hl; cases hl
    | false => rw [q] at hl; exact lookup_none_of h2 hl
section
variable {K : PySem.W.Frag} {own own' : Addr → Option Pth} {H H' : Hp}
theorem Own.insV {v : V} {cn : Str} {fs : List (Str × Dv)} {o : Ow} {p : Pth} (r : Own K own H v (.ins cn fs) o p) : ∃ a dx vs, v = .ref a ∧ H a = some (.ins (He.ga K cn) dx vs) ∧ vs.map (·.1) = fs.map (·.1) := by
  cases r with
  | sh r => cases r with | ins e m q => exact ⟨_, _, _, rfl, (Gm_some e).2, m⟩
  | ins e1 e2 m q => exact ⟨_, _, _, rfl, e2, m⟩
theorem Own.insF {v : V} {cn : Str} {fs : List (Str × Dv)} {o : Ow} {p : Pth} (r : Own K own H v (.ins cn fs) o p) (f : o.flat = true) : ∃ a dx vs, v = .ref a ∧ H a = some (.ins (He.ga K cn) dx vs) ∧ vs.map (·.1) = fs.map (·.1) ∧ Reps K (Gm own H) (vs.map (·.2)) (fs.map (·.2)) := by
  cases r with
  | sh r => cases r with | ins e m q => exact ⟨_, _, _, rfl, (Gm_some e).2, m, q⟩
  | ins e1 e2 m q =>
    rename_i os
    cases os with
    | nil => exact ⟨_, _, _, rfl, e2, m, q.reps⟩
    | cons a b => cases f
def gFld (cn f : Str) : G1 := fun a k => ∃ fs, a.d = .ins cn fs ∧ a.o.flat = true ∧ ∃ d, fs.lookup f = some d ∧ k ⟨d, .sh⟩
def wFld (cn f : Str) (w : WE) : WE := w1 (gFld cn f) w
theorem s_fld {cn f : Str} (hc : Cls K (He.ga K cn)) (hn : NoAttr K (He.ga K cn) f) : Sem1 K (fun x H Q => ∃ a C dx fs v, x = .ref a ∧ H a = some (.ins C dx fs) ∧ Cls K C ∧ NoAttr K C f ∧ fs.lookup f = some v ∧ Q v H) (gFld cn f) := fun p0 own H x a p k Q al ha hg fin => by
  obtain ⟨fs, e, ho, d, hl, hk⟩ := hg
  rw [e] at ha
  obtain ⟨b, dx, vs, rfl, eh, hm, hr⟩ := ha.insF ho
  obtain ⟨v, hv, rv⟩ := lookup_reps hm hr hl
  exact ⟨b, _, dx, vs, v, rfl, eh, hc, hn, hv, fin.sh al hk rv⟩
end
section
variable {X : Cx} {Fx : List Nat} {Wo : WX} {pos : Pos}
theorem pe_Wfld {cn f : Str} {e : Expr} {w : WE} (hc : Cls X.K (He.ga X.K cn)) (hn : NoAttr X.K (He.ga X.K cn) f) (he : PE X e (tW X.K Fx Wo w)) (hb : attributeBase e f X.env (eval e X.env) = eval e X.env := by rfl) : PE X (.Attribute e f pos) (tW X.K Fx Wo (wFld cn f w)) :=
  PE.imp (fun σ H Q h => w1_run (s_fld hc hn) σ H Q h) (pe_fld he hb)
end
/-! ### a field is stored: a new one, behind the others -/
theorem putF_new {f : Str} {v : V} : ∀ {fs : List (Str × V)}, fs.lookup f = none → putF f v fs = fs ++ [(f, v)]
  | [], _ => rfl
  | (g, x) :: r, h => by
    rw [List.lookup_cons] at h
    unfold putF
    by_cases e : g = f
    · subst e
      rw [beq_self_eq_true] at h
      cases h
    · have e2 : (f == g) = false := by rw [beq_eq_false_iff_ne]; exact Ne.symm e
      rw [e2] at h
      rw [if_neg e, putF_new h]
      rfl
section
variable {K : PySem.W.Frag} {F : Fm} {own own' : Addr → Option Pth} {σ : L2.St} {env : Env} {ts ex : List (V × Cl)} {H H' : Hp}
/-- the parts of a thing of one's own, one more behind -/
theorem app_owns {a : Addr} {ob : HO} {kr ir n : Nat} {vs : List V} {xs : List Dv} {os : List Ow} {v : V} {c : Cl} (ha : own a = some [kr, ir]) (hkr : ¬ (kr = 1 ∧ ir = n)) (r : Owns K own H vs xs os [kr, ir] 0) (it : Own K own H v c.d c.o [1, n]) :
    Owns K (mapW (gIn n [kr, ir, vs.length]) own) (upd H a ob) (vs ++ [v]) (xs ++ [c.d]) (appO os vs.length c.o) [kr, ir] 0 := by
  have hl := r.length
  have hgm : ∀ b u, Gm own H b = some u → Gm (mapW (gIn n [kr, ir, vs.length]) own) (upd H a ob) b = some u := Gm_upd_own ha fun b e => mw_none e
  refine Owns.of_get (by simp [hl]) fun j w d hw hd => ?_
  rw [Nat.zero_add]
  have neq : ∀ {b : Addr} {q : Pth}, own b = some q → q ≠ [kr, ir] → b ≠ a := fun {b q} e h z => by
    subst z
    rw [ha] at e
    exact h (Option.some.inj e).symm
  rcases Nat.lt_or_ge j vs.length with hj | hj
  · rw [List.getElem?_append_left hj] at hw
    rw [List.getElem?_append_left (by omega)] at hd
    rw [(appO_get os vs.length c.o).1 j hj]
    have h1 := r.get hw hd
    rw [Nat.zero_add] at h1
    refine h1.moveA hgm fun b q e => ⟨?_, ?_⟩
    · exact mw_of (g := gIn n [kr, ir, vs.length]) (k := kr) (i := ir) (r := j :: q) (q := [kr, ir]) e (gIn_ne hkr)
    · rw [upd_ne (neq e (by simp))]
  · have e0 : j = vs.length := by
      have := (List.getElem?_eq_some_iff.mp hw).1
      simp at this
      omega
    subst e0
    rw [List.getElem?_append_right (Nat.le_refl _)] at hw
    rw [List.getElem?_append_right (by omega), hl] at hd
    simp at hw hd
    subst hw hd
    rw [(appO_get os vs.length c.o).2]
    refine it.moveA hgm fun b q e => ⟨?_, ?_⟩
    · exact mw_of (g := gIn n [kr, ir, vs.length]) (k := 1) (i := n) (r := q) (q := [kr, ir, vs.length]) e (by unfold gIn; rw [if_pos ⟨rfl, rfl⟩])
    · rw [upd_ne (neq e (fun z => by
        have e1 := (List.cons.inj z).1
        have e2 := (List.cons.inj (List.cons.inj z).2).1
        exact hkr ⟨e1.symm, e2.symm⟩))]
theorem St.fld_cell {i : Nat} {a : Addr} {v : V} {c : Cl} {cn f : Str} {fs : List (Str × Dv)} {os : List Ow} (st : St K F own σ env (ts ++ [(v, c)]) H) (e : (env[i]?).join = some ⟨.ins cn fs, .nd os⟩) (hσ : σ[i]? = some (some (.ref a))) (hf : fs.lookup f = none) :
    ∃ dx vs, H a = some (.ins (He.ga K cn) dx vs) ∧ vs.length = fs.length ∧ ∃ own', St K F own' σ (env.set i (some ⟨.ins cn (fs ++ [(f, c.d)]), .nd (appO os fs.length c.o)⟩)) ts (upd H a (.ins (He.ga K cn) dx (putF f v vs))) := by
  obtain ⟨w, h1, h2⟩ := st.cell i _ (env_some e)
  rw [hσ] at h1
  cases h1
  have h2' : Own K own H (.ref a) (.ins cn fs) (.nd os) [0, i] := h2
  cases h2' with
  | ins e1 e2 m q =>
    rename_i dx vs
    have hl := q.length
    rw [List.length_map, List.length_map] at hl
    have hpf : putF f v vs = vs ++ [(f, v)] := putF_new (lookup_none_of m hf)
    refine ⟨dx, vs, e2, hl, mapW (gIn ts.length [0, i, vs.length]) own, ?_⟩
    rw [hpf]
    have it := st.tmp ts.length v c (by rw [List.getElem?_append_right (Nat.le_refl _)]; simp)
    have ap := app_owns (ob := .ins (He.ga K cn) dx (vs ++ [(f, v)])) e1 (by simp) q it
    rw [List.length_map] at ap
    have ap2 : Own K (mapW (gIn ts.length [0, i, vs.length]) own) (upd H a (.ins (He.ga K cn) dx (vs ++ [(f, v)]))) (.ref a) (.ins cn (fs ++ [(f, c.d)])) (.nd (appO os fs.length c.o)) [0, i] := by
      refine .ins (mw_of (g := gIn ts.length [0, i, vs.length]) (r := []) e1 (gIn_ne (by simp))) upd_same ?_ ?_
      · rw [List.map_append, List.map_append, m]; rfl
      · rw [List.map_append, List.map_append, ← hl]; exact ap
    have fr : Frm F (mapW (gIn ts.length [0, i, vs.length]) own) (upd H a (.ins (He.ga K cn) dx (vs ++ [(f, v)]))) := by
      refine (st.frm.mw (gIn_ok _ 0 i _ (by decide))).upd (kr := 0) (r := [i]) ?_ (by decide)
      exact mw_of (g := gIn ts.length [0, i, vs.length]) (r := []) e1 (gIn_ne (by simp))
    refine ⟨fr, by rw [List.length_set]; exact st.len, fun j c' ej => ?_, fun k w c' ek => ?_, st.fix⟩
    · by_cases h : j = i
      · subst h
        have hlt : j < env.length := by have := (List.getElem?_eq_some_iff.mp ej).1; rw [List.length_set] at this; exact this
        rw [List.getElem?_set_self hlt] at ej
        simp at ej
        subst ej
        exact ⟨_, hσ, ap2⟩
      · rw [List.getElem?_set_ne (Ne.symm h)] at ej
        obtain ⟨w, h3, h4⟩ := st.cell j c' ej
        exact ⟨w, h3, h4.upd_other e1 (by simp [h]) (gIn_ne (by simp))⟩
    · have hk : k < ts.length := (List.getElem?_eq_some_iff.mp ek).1
      have := st.tmp k w c' (by rw [List.getElem?_append_left hk]; exact ek)
      exact this.upd_other e1 (by simp) (gIn_ne (by omega))
end
/-- name.f = e, a field that was not there -/
def wSetF (cn f : Str) (i : Nat) (w : WE) : WS := fun D env => w env (fun r e1 => onTm r fun c => ∃ fs os, (e1[i]?).join = some ⟨.ins cn fs, .nd os⟩ ∧ fs.lookup f = none ∧ fs.length < 900 ∧ D.nx (e1.set i (some ⟨.ins cn (fs ++ [(f, c.d)]), .nd (appO os fs.length c.o)⟩))) D.ex
section
variable {X : Cx} {Fx : List Nat} {Wo : WX} {pos : Pos}
theorem setF_run {cn f : Str} {i : Nat} {w : WE} (hc : Cls X.K (He.ga X.K cn)) (hn : NoAttr X.K (He.ga X.K cn) f) : ∀ D σ H, tWS X.K Fx Wo (wSetF cn f i w) D σ H → sFld X.K (tVar i) (tW X.K Fx Wo w) f D σ H := fun D σ H h => by
  obtain ⟨F, own, env, ts, E, hf, st, w, ok⟩ := h
  refine ⟨F, own, env, ts, _, E.ex, hf, st, w, fun v H1 own1 r e1 w1 st1 a1 => ?_, ok.ex σ⟩
  cases r with
  | pk j => exact w1.elim
  | tm c =>
    obtain ⟨fs, os, ec, hl, hlen, wn⟩ := w1
    have st1' : St X.K F own1 σ e1 (ts ++ [(v, c)]) H1 := st1
    obtain ⟨u, hσ, ou⟩ := st1'.cell i _ (env_some ec)
    obtain ⟨a, _, _, rfl, _⟩ := ou.insV
    obtain ⟨dx, vs, e2, hvl, own', st2⟩ := st1'.fld_cell ec hσ hl
    exact ⟨_, hσ, a, _, dx, vs, rfl, e2, hc, hn, by omega, ok.nx _ _ _ _ wn st2⟩
theorem ps_WsetF {cn f : Str} {i : Nat} {o e : Expr} {w : WE} {pos' : Pos} (hc : Cls X.K (He.ga X.K cn)) (hn : NoAttr X.K (He.ga X.K cn) f) (ho : PE X o (tVar i)) (he : PE X e (tW X.K Fx Wo w)) (hs : swapsWith e (some (.Attribute o f pos')) pos.line X.env = pure false := by rfl) :
    PS X (.Assign [.Attribute o f pos'] e pos) (tWS X.K Fx Wo (wSetF cn f i w)) := PS.imp (setF_run hc hn) (ps_fld ho he hs)
end
end Py
set_option Elab.async false
set_option linter.all false
set_option maxRecDepth 100000
set_option maxHeartbeats 400000
/-! Py, part Q: new instances, methods, properties, own ==, isinstance of own classes. -/
namespace Py
open PySem PySem.Spec PyProof.Rows L2
/-! ### a slot more, for a while -/
section
variable {K : PySem.W.Frag} {F : Fm} {own own' : Addr → Option Pth} {σ : L2.St} {env : Env} {ts ex : List (V × Cl)} {H H' : Hp}
theorem St.slotNew {z : V} {c : Cl} (s : St K F own σ env ts H) (n : NewT K [0, env.length] own H own' H' z c) : St K F own' (σ ++ [some z]) (env ++ [some c]) ts H' := by
  have mv : ∀ {v : V} {d : Dv} {o : Ow} {p : Pth}, Own K own H v d o p → Own K own' H' v d o p := fun r => r.moveA n.gm fun a r e => ⟨n.old a _ e, by
    obtain ⟨o, q⟩ := s.frm.alive a _ e
    rw [q, n.ext a o q]⟩
  refine ⟨⟨fun a o e h => n.ext a o (s.frm.keep a o e h), fun a r e => n.old a _ (s.frm.out a r e), fun a r e => ?_, fun a p e => ?_, n.alive, fun a p e => ?_, s.frm.ent⟩, by simp [s.len], fun i c' e => ?_, fun k w c' e => mv (s.tmp k w c' e), fun i v h => ?_⟩
  · rcases n.new a _ e with h | ⟨h, r', h2⟩
    · exact s.frm.back a r h
    · cases h2
  · rcases n.new a _ e with h | ⟨h, r', h2⟩
    · exact s.frm.new a p h
    · cases q : F.H0 a with
      | none => exact .inl rfl
      | some o =>
        cases q2 : F.own0 a with
        | some z => exact .inr ⟨z, rfl⟩
        | none =>
          rw [s.frm.keep a o q fun r z => by rw [q2] at z; cases z] at h
          cases h
  · rcases n.new a _ e with h | ⟨h, r', h2⟩
    · exact s.frm.root a p h
    · exact ⟨0, env.length, r', h2⟩
  · rcases Nat.lt_trichotomy i env.length with h | h | h
    · rw [List.getElem?_append_left h] at e
      obtain ⟨v, h1, h2⟩ := s.cell i c' e
      exact ⟨v, by rw [List.getElem?_append_left (by rw [← s.len]; exact h)]; exact h1, mv h2⟩
    · subst h
      rw [List.getElem?_append_right (Nat.le_refl _)] at e
      simp at e
      subst e
      refine ⟨z, ?_, n.it⟩
      rw [List.getElem?_append_right (by rw [s.len]; exact Nat.le_refl _), s.len]
      simp
    · rw [List.getElem?_eq_none (by simp; omega)] at e
      cases e
  · have := s.fix i v h
    rw [List.getElem?_append_left (List.getElem?_eq_some_iff.mp this).1]
    exact this
def gSlT (N n : Nat) (k i : Nat) : Option Pth := if k = 0 ∧ i = N then some [1, n] else some [k, i]
theorem gSlT_ok (N n : Nat) : GOk (gSlT N n) := by
  refine ⟨fun i => by unfold gSlT; rw [if_neg (fun z => absurd z.1 (by decide))], fun k i q h => ?_⟩
  unfold gSlT at h
  split at h
  · cases h; exact ⟨1, n, [], rfl, fun z => by cases z⟩
  · cases h; exact ⟨k, i, [], rfl, fun z => z⟩
/-- the last slot's value becomes a temporary -/
theorem St.slotTmp {z : V} {c : Cl} (s : St K F own (σ ++ [some z]) (env ++ [some c]) ts H) (hfx : ∀ i v, (i, v) ∈ F.fx → i < σ.length) : ∃ own', St K F own' σ env (ts ++ [(z, c)]) H ∧ ∀ a, own a = none → own' a = none := by
  have hl : env.length = σ.length := by have := s.len; simpa using this
  refine ⟨mapW (gSlT env.length ts.length) own, ⟨s.frm.mw (gSlT_ok _ _), hl, fun i c' e => ?_, fun k w c' e => ?_, fun i v h => ?_⟩, fun a h => mw_none h⟩
  · have hi : i < env.length := (List.getElem?_eq_some_iff.mp e).1
    obtain ⟨v, h1, h2⟩ := s.cell i c' (by rw [List.getElem?_append_left hi]; exact e)
    rw [List.getElem?_append_left (by omega)] at h1
    exact ⟨v, h1, h2.mw (by unfold gSlT; rw [if_neg (fun z => by omega)])⟩
  · rcases Nat.lt_trichotomy k ts.length with h | h | h
    · rw [List.getElem?_append_left h] at e
      exact (s.tmp k w c' e).mw (by unfold gSlT; rw [if_neg (fun z => by simp at z)])
    · subst h
      rw [List.getElem?_append_right (Nat.le_refl _)] at e
      simp at e
      obtain ⟨rfl, rfl⟩ := e
      obtain ⟨v, h1, h2⟩ := s.cell env.length c (by rw [List.getElem?_append_right (Nat.le_refl _)]; simp)
      rw [hl, List.getElem?_append_right (Nat.le_refl _)] at h1
      simp at h1
      subst h1
      exact h2.mw (by unfold gSlT; rw [if_pos ⟨rfl, rfl⟩])
    · rw [List.getElem?_eq_none (by simp; omega)] at e
      cases e
  · have := s.fix i v h
    rw [List.getElem?_append_left (hfx i v h)] at this
    exact this
theorem look_app {env : Env} {x : Option Cl} {r : R} {c : Cl} (h : look env r = some c) : look (env ++ [x]) r = some c := by
  cases r with
  | tm c' => exact h
  | pk i =>
    have h1 := env_some (env := env) (i := i) h
    show ((env ++ [x])[i]?).join = some c
    rw [List.getElem?_append_left (List.getElem?_eq_some_iff.mp h1).1, h1]
    rfl
theorem looks_app {env : Env} {x : Option Cl} : ∀ {rs : List R} {cs : List Cl}, looks env rs = some cs → looks (env ++ [x]) rs = some cs
  | [], cs, h => h
  | r :: rs, cs, h => by
    unfold looks at h ⊢
    cases h1 : look env r with
    | none => rw [h1] at h; cases h
    | some c =>
      cases h2 : looks env rs with
      | none => rw [h1, h2] at h; cases h
      | some cs' =>
        rw [h1, h2] at h
        rw [look_app h1, looks_app h2]
        exact h
theorem dup_more {N : Nat} : ∀ {s s' : List Nat} {rs : List R} {cs : List Cl}, (∀ i, .pk i ∈ rs → i ≠ N) → (∀ i, i ≠ N → s'.contains i = s.contains i) → dupOk s rs cs = true → dupOk s' rs cs = true
  | s, s', [], cs, _, _, _ => by unfold dupOk; rfl
  | s, s', r :: rs, [], _, _, _ => by cases r <;> (unfold dupOk; rfl)
  | s, s', .tm c' :: rs, c :: cs, h, hs, hd => by
    unfold dupOk at hd ⊢
    exact dup_more (fun i hi => h i (List.mem_cons_of_mem _ hi)) hs hd
  | s, s', .pk i :: rs, c :: cs, h, hs, hd => by
    unfold dupOk at hd ⊢
    simp only [Bool.and_eq_true] at hd ⊢
    have hi := h i List.mem_cons_self
    refine ⟨by rw [hs i hi]; exact hd.1, dup_more (fun j hj => h j (List.mem_cons_of_mem _ hj)) (fun j hj => ?_) hd.2⟩
    rw [List.contains_cons, List.contains_cons, hs j hj]
theorem lend_app {x : Option Cl} : ∀ {rs : List R} {cs cs' : List Cl} {env : Env}, (∀ i, .pk i ∈ rs → i < env.length) → lendBack rs cs cs' (env ++ [x]) = lendBack rs cs cs' env ++ [x]
  | [], cs, cs', env, _ => by unfold lendBack; rfl
  | .tm _ :: rs, [], cs', env, _ => by unfold lendBack; rfl
  | .tm _ :: rs, c :: cs, [], env, _ => by unfold lendBack; rfl
  | .tm _ :: rs, c :: cs, c' :: cs', env, h => by
    unfold lendBack
    exact lend_app fun i hi => h i (List.mem_cons_of_mem _ hi)
  | .pk i :: rs, [], cs', env, _ => by unfold lendBack; rfl
  | .pk i :: rs, c :: cs, [], env, _ => by unfold lendBack; rfl
  | .pk i :: rs, c :: cs, c' :: cs', env, h => by
    unfold lendBack
    have hi := h i List.mem_cons_self
    split
    · exact lend_app fun j hj => h j (List.mem_cons_of_mem _ hj)
    · have e : (env ++ [x]).set i (some c') = env.set i (some c') ++ [x] := by rw [List.set_append_left i _ hi]
      rw [e]
      exact lend_app fun j hj => by rw [List.length_set]; exact h j (List.mem_cons_of_mem _ hj)
theorem looks_lt {env : Env} {rs : List R} {cs : List Cl} (h : looks env rs = some cs) : ∀ i, .pk i ∈ rs → i < env.length := fun i hi => by
  obtain ⟨j, hj⟩ := List.getElem?_of_mem hi
  obtain ⟨c, _, e⟩ := (looks_get h).2 j _ hj
  exact (List.getElem?_eq_some_iff.mp (env_some (env := env) (i := i) e)).1
theorem At.app {n : Nat} {r : R} {v : V} {z : Option V} (a : At σ n ts r v) : At (σ ++ [z]) n ts r v := by
  cases a with
  | pk h => exact .pk (by rw [List.getElem?_append_left (List.getElem?_eq_some_iff.mp h).1]; exact h)
  | tm h0 h => exact .tm h0 h
end
/-! ### C(..) -/
def wMake (cn : Str) (S : SF) (dcs : List Cl) (wa : WA) : WE := fun env Q E => wa env (fun rs e1 => onN (looks e1 rs) fun cs => dupOk [] rs cs = true ∧
  S (⟨.ins cn [], .nd []⟩ :: (cs ++ dcs)) (fun c cs' => match cs' with
    | me :: rest => c.d = .non ∧ Q (.tm me) (lendBack rs cs (rest.take cs.length) e1)
    | [] => False) (fun x cs' => match cs' with
    | me :: rest => E x (lendBack rs cs (rest.take cs.length) e1)
    | [] => False)) E
section
variable {X : Cx} {Fx : List Nat} {Wo : WX} {pos : Pos}
theorem make_run {cn : Str} {S : SF} {dvs : List V} {dcs : List Cl} {wa : WA} (hd : DfAt X.K dvs dcs) : ∀ σ H Q, tW X.K Fx Wo (wMake cn S dcs wa) σ H Q → tMakeSD (He.ga X.K cn) (spW X.K S) dvs (fun σ cls d H => Wo cls d σ H) (tWA X.K Fx Wo wa) σ H Q := fun σ H Q h => by
  obtain ⟨F, own, env, ts, Qp, Ep, hf, st, w, hq, hx⟩ := h
  refine ⟨F, own, env, ts, _, Ep, hf, st, w, fun vs H1 own1 rs e1 w1 st1 a1 x dx hx1 hdx hne => ?_, hx⟩
  obtain ⟨cs, ec, hdup, w2⟩ := onN_of w1
  obtain ⟨l1, _⟩ := looks_get ec
  have hvl : vs.length = cs.length := by rw [← l1]; exact (Paired.length a1).symm
  have hlt := looks_lt ec
  -- the new instance lies in a slot more
  have st2 := st1.ext (H' := upd H1 dx (.own x)) (Same_upd hdx)
  have hx2 : upd H1 dx (.own x) x = none := by rw [upd_ne (Ne.symm hne)]; exact hx1
  have nt : NewT X.K [0, e1.length] own1 (upd H1 dx (.own x)) (setO own1 x [0, e1.length]) (upd (upd H1 dx (.own x)) x (.ins (He.ga X.K cn) dx [])) (.ref x) ⟨.ins cn [], .nd []⟩ :=
    NewT.mk_own st2.frm.alive hx2 (.ins setO_same upd_same rfl .nil)
  have st3 := st2.slotNew nt
  generalize upd (upd H1 dx (.own x)) x (.ins (He.ga X.K cn) dx []) = H2 at st3
  generalize setO own1 x [0, e1.length] = own2 at st3
  have a3 : Paired (At (σ ++ [some (V.ref x)]) ts.length (pushes ts (V.ref x :: vs) (.pk e1.length :: rs))) (.pk e1.length :: rs) (V.ref x :: vs) := by
    refine .cons (.pk ?_) (Paired.mapP a1 fun r v h => h.app)
    rw [st1.len, List.getElem?_append_right (Nat.le_refl _)]
    simp
  have st3' : St X.K F own2 (σ ++ [some (V.ref x)]) (e1 ++ [some ⟨.ins cn [], .nd []⟩]) (pushes ts (V.ref x :: vs) (.pk e1.length :: rs)) H2 := st3
  have ec3 : looks (e1 ++ [some ⟨.ins cn [], .nd []⟩]) (.pk e1.length :: rs) = some (⟨.ins cn [], .nd []⟩ :: cs) := by
    unfold looks
    have e0 : look (e1 ++ [some ⟨.ins cn [], .nd []⟩]) (.pk e1.length) = some ⟨.ins cn [], .nd []⟩ := by
      show ((e1 ++ [some _])[e1.length]?).join = _
      rw [List.getElem?_append_right (Nat.le_refl _)]
      simp
    rw [e0, looks_app ec]
    rfl
  have hdup3 : dupOk [] (.pk e1.length :: rs) (⟨.ins cn [], .nd []⟩ :: cs) = true := by
    unfold dupOk
    rw [Bool.and_eq_true]
    refine ⟨rfl, dup_more (N := e1.length) (fun i hi => Nat.ne_of_lt (hlt i hi)) (fun i hi => ?_) hdup⟩
    rw [List.contains_cons]
    have : (i == e1.length) = false := by rw [beq_eq_false_iff_ne]; exact hi
    rw [this]; rfl
  have hvl3 : (V.ref x :: vs).length = (⟨.ins cn [], .nd []⟩ :: cs : List Cl).length := by simp [hvl]
  have hlen : ((V.ref x :: vs) ++ dvs).length = ((⟨.ins cn [], .nd []⟩ :: cs : List Cl) ++ dcs).length := by rw [List.length_append, List.length_append, hvl3, Paired.length hd]
  have hfx : ∀ i v, (i, v) ∈ F.fx → i < σ.length := fun i v h => (List.getElem?_eq_some_iff.mp (st.fix i v h)).1
  -- what comes back
  have back : ∀ {own' : Addr → Option Pth} {H' : Hp} {me : Cl} {rest : List Cl}, Frm ⟨mapW (fwd (roots ts.length (.pk e1.length :: rs))) own2, H2, []⟩ own' H' → (me :: rest).length = ((⟨.ins cn [], .nd []⟩ :: cs : List Cl) ++ dcs).length → ArgsAt X.K own' H' ((V.ref x :: vs) ++ dvs) (me :: rest) →
      ∃ own'', St X.K F own'' σ (lendBack rs cs (rest.take cs.length) e1) (ts ++ [(V.ref x, me)]) H' ∧ ∀ a, own' a = none → own'' a = none := fun {own' H' me rest} f hl ha => by
    have hl' : rest.length = cs.length + dcs.length := by simpa using hl
    have k1 : (me :: rest.take cs.length).length = (⟨.ins cn [], .nd []⟩ :: cs : List Cl).length := by rw [List.length_cons, List.length_cons, List.length_take]; omega
    have k2 : ArgsAt X.K own' H' (V.ref x :: vs) (me :: rest.take cs.length) := fun j v c hv hc => by
      cases j with
      | zero =>
        simp at hv hc
        subst hv hc
        exact ha 0 _ _ rfl rfl
      | succ j =>
        have hj : j < vs.length := by have := (List.getElem?_eq_some_iff.mp hv).1; simpa using this
        refine ha (j + 1) v c ?_ ?_
        · rw [List.getElem?_append_left (by rw [List.length_cons]; omega)]; exact hv
        · rw [List.getElem?_cons_succ] at hc ⊢
          rw [List.getElem?_take_of_lt (by omega)] at hc
          exact hc
    have st4 := st3'.call a3 ec3 f k1 k2
    have e4 : lendBack (.pk e1.length :: rs) (⟨.ins cn [], .nd []⟩ :: cs) (me :: rest.take cs.length) (e1 ++ [some ⟨.ins cn [], .nd []⟩]) = lendBack rs cs (rest.take cs.length) e1 ++ [some me] := by
      show lendBack rs cs (rest.take cs.length) ((e1 ++ [some (⟨.ins cn [], .nd []⟩ : Cl)]).set e1.length (some me)) = _
      have e5 : (e1 ++ [some (⟨.ins cn [], .nd []⟩ : Cl)]).set e1.length (some me) = e1 ++ [some me] := by
        rw [List.set_append_right _ _ (Nat.le_refl _), Nat.sub_self]
        rfl
      rw [e5]
      exact lend_app hlt
    rw [e4] at st4
    obtain ⟨own'', h1, h2⟩ := st4.slotTmp hfx
    exact ⟨own'', h1, fun a h => h2 a (mw_none h)⟩
  refine ⟨mapW (fwd (roots ts.length (.pk e1.length :: rs))) own2, (⟨.ins cn [], .nd []⟩ :: cs) ++ dcs, _, _, st3'.ent _, args_app (st3'.args a3 ec3 hdup3) hvl3 hd, hlen, w2, fun z H' own' c cs' q f hl ha it => ?_, fun x' cs' own' cls d H' q f hl ha xr => ?_⟩
  · cases cs' with
    | nil => exact (show False from q).elim
    | cons me rest =>
      obtain ⟨q1, q2⟩ := q
      obtain ⟨own'', st5, _⟩ := back f hl ha
      refine ⟨?_, hq (.ref x) H' _ (.tm me) _ q2 st5 .last⟩
      obtain ⟨cd, co⟩ := c
      have q1' : cd = .non := q1
      subst q1'
      exact it.non
  · cases cs' with
    | nil => exact (show False from q).elim
    | cons me rest =>
      obtain ⟨own'', st5, hn⟩ := back f hl ha
      exact hx x' _ _ cls d H' q st5.cut_app (xrep_mono (fun a e => dw_none (hn a e)) xr)
theorem pe_Wmake {k : Nat} {f : Addr} {fd : FuncData} {ps : List Str} {cn : Str} {S : SF} {dvs : List V} {dcs : List Cl} {ds : List Value} {p : Pos} {e : Expr} {es : List Expr} {wa : WA} (M : Mk X.K (He.ga X.K cn) f) (F : FnOk X.prog X.w X.K X.mg X.base (L2.CX X.prog X.w) k f fd ps (spW X.K S)) (hr : Room (k + 1) X.A) (tk : Takes X Wo) (hg : Gl X cn) (hm : X.mg cn = some (.ref (He.ga X.K cn)))
    (hb : Binds X.K fd ps ds) (hd : Vals dvs ds) (hc : DfAt X.K dvs dcs) (ha : PA X (e :: es) (tWA X.K Fx Wo wa)) (hdb : (cn == ("__debug__" : Str)) = false := by decide) (he : starEach (e :: es) X.env = (false, eval e X.env) :: starEach es X.env := by rfl) (hpl : (backTo pos (starEach es X.env)).any (·.1) = false := by rfl) :
    PE X (.Call (.Name cn p) (e :: es) [] pos) (tW X.K Fx Wo (wMake cn S dcs wa)) := PE.imp (make_run hc) (pe_makeSD M F hr hg hm hb hd (fun σ => passAt tk σ) ha hdb he hpl)
end
/-! ### methods and properties -/
def wMeth (cn m : Str) (S : SF) (dcs : List Cl) (w : WE) (wa : WA) : WE := fun env Q E => w env (fun r e1 => on1 (look e1 r) fun c => (∃ fs, c.d = .ins cn fs ∧ fs.lookup m = none) ∧ wa e1 (fun rs e2 => onN (looks e2 (r :: rs)) fun cs => dupOk [] (r :: rs) cs = true ∧
  S (cs ++ dcs) (fun c cs' => Q (.tm c) (lendBack (r :: rs) cs (cs'.take cs.length) e2)) (fun x cs' => E x (lendBack (r :: rs) cs (cs'.take cs.length) e2))) E) E
section
variable {X : Cx} {Fx : List Nat} {Wo : WX} {pos : Pos}
/-- the callee's part of a call -/
theorem callee_run {S : SF} {F : Fm} {own1 : Addr → Option Pth} {σ : L2.St} {e1 : Env} {ts : List (V × Cl)} {H1 : Hp} {vs dvs : List V} {rs : List R} {cs dcs : List Cl} {Qp : R → Env → Prop} {Ep : XQ} {Q : VK} (hd : DfAt X.K dvs dcs) (st1 : St X.K F own1 σ e1 (pushes ts vs rs) H1) (a1 : Paired (At σ ts.length (pushes ts vs rs)) rs vs) (ec : looks e1 rs = some cs) (hdup : dupOk [] rs cs = true)
    (w2 : S (cs ++ dcs) (fun c cs' => Qp (.tm c) (lendBack rs cs (cs'.take cs.length) e1)) (fun x cs' => Ep x (lendBack rs cs (cs'.take cs.length) e1))) (hq : ∀ v H' own' r env', Qp r env' → St X.K F own' σ env' (push ts v r) H' → At σ ts.length (push ts v r) r v → Q v H') (hx : XOk X.K Wo F σ ts Ep) :
    spW X.K S (vs ++ dvs) H1 Q (fun cls d H => Wo cls d σ H) := by
  obtain ⟨l1, _⟩ := looks_get ec
  have hvl : vs.length = cs.length := by rw [← l1]; exact (Paired.length a1).symm
  have hlen : (vs ++ dvs).length = (cs ++ dcs).length := by rw [List.length_append, List.length_append, hvl, Paired.length hd]
  have cut : ∀ {own' : Addr → Option Pth} {H' : Hp} {cs' : List Cl}, cs'.length = (cs ++ dcs).length → ArgsAt X.K own' H' (vs ++ dvs) cs' → (cs'.take cs.length).length = cs.length ∧ ArgsAt X.K own' H' vs (cs'.take cs.length) := fun {own' H' cs'} hl ha => by
    rw [List.length_append] at hl
    refine ⟨by rw [List.length_take]; omega, fun j v c hv hc => ?_⟩
    have hj : j < vs.length := (List.getElem?_eq_some_iff.mp hv).1
    refine ha j v c (by rw [List.getElem?_append_left hj]; exact hv) ?_
    rw [List.getElem?_take_of_lt (by omega)] at hc
    exact hc
  refine ⟨mapW (fwd (roots ts.length rs)) own1, cs ++ dcs, _, _, st1.ent _, args_app (st1.args a1 ec hdup) hvl hd, hlen, w2, fun z H' own' c cs' q f hl ha it => ?_, fun x cs' own' cls d H' q f hl ha xr => ?_⟩
  · obtain ⟨k1, k2⟩ := cut hl ha
    have st2 := st1.call a1 ec f k1 k2
    have it2 : Own X.K (mapW (bwd (roots ts.length rs) ts.length) own') H' z c.d c.o [1, ts.length] := it.mw (by unfold bwd; simp)
    refine hq z H' _ (.tm c) _ q ⟨st2.frm, st2.len, st2.cell, fun k w c' e => ?_, st2.fix⟩ .last
    have e : (ts ++ [(z, c)])[k]? = some (w, c') := e
    rcases Nat.lt_trichotomy k ts.length with h | h | h
    · rw [List.getElem?_append_left h] at e
      exact st2.tmp k w c' e
    · subst h
      rw [List.getElem?_append_right (Nat.le_refl _)] at e
      simp at e
      obtain ⟨rfl, rfl⟩ := e
      exact it2
    · rw [List.getElem?_eq_none (by simp; omega)] at e
      cases e
  · obtain ⟨k1, k2⟩ := cut hl ha
    exact hx x _ _ cls d H' q (st1.call a1 ec f k1 k2) (xrep_mono (fun a e => mw_none e) xr)
theorem meth_run {cn m : Str} {S : SF} {dvs : List V} {dcs : List Cl} {w : WE} {wa : WA} (hd : DfAt X.K dvs dcs) : ∀ σ H Q, tW X.K Fx Wo (wMeth cn m S dcs w wa) σ H Q → tMethSD (He.ga X.K cn) m (spW X.K S) dvs (fun σ cls d H => Wo cls d σ H) (tW X.K Fx Wo w) (tWA X.K Fx Wo wa) σ H Q := fun σ H Q h => by
  obtain ⟨F, own, env, ts, Qp, Ep, hf, st, w, hq, hx⟩ := h
  refine ⟨F, own, env, ts, _, Ep, hf, st, w, fun x H1 own1 r e1 w1 st1 a1 => ?_, hx⟩
  obtain ⟨c, ec, ⟨fs, ed, hl⟩, w2⟩ := on1_of w1
  obtain ⟨_, _, o1⟩ := st1.at a1 ec
  rw [ed] at o1
  obtain ⟨a, dx, us, rfl, eh, hm⟩ := o1.insV
  refine ⟨a, dx, us, rfl, eh, lookup_none_of hm hl, F, own1, e1, _, _, Ep, hf, st1, w2, fun vs H2 own2 rs e2 w3 st2 a2 => ?_, xok_push hx _ _⟩
  obtain ⟨cs, ecs, hdup, w4⟩ := onN_of w3
  have a3 : Paired (At σ ts.length (pushes ts (.ref a :: vs) (r :: rs))) (r :: rs) (.ref a :: vs) := by
    refine .cons ?_ (Paired.mapP a2 fun r v h => h.less len_push)
    obtain ⟨ex, ee⟩ := pushes_app vs rs (push ts (.ref a) r)
    show At σ ts.length (pushes (push ts (.ref a) r) vs rs) r (.ref a)
    rw [ee]
    exact a1.more
  have st2' : St X.K F own2 σ e2 (pushes ts (.ref a :: vs) (r :: rs)) H2 := st2
  exact callee_run hd st2' a3 ecs hdup w4 hq hx
theorem pe_Wmeth {k : Nat} {f : Addr} {fd : FuncData} {ps : List Str} {cn m : Str} {S : SF} {dvs : List V} {dcs : List Cl} {ds : List Value} {apos : Pos} {o e : Expr} {es : List Expr} {w : WE} {wa : WA} {pl : Sem Bool} (c : Cls X.K (He.ga X.K cn)) (hm : Meth X.K (He.ga X.K cn) m f) (F : FnOk X.prog X.w X.K X.mg X.base (L2.CX X.prog X.w) k f fd ps (spW X.K S)) (hr : Room k X.A) (tk : Takes X Wo)
    (hb : Binds X.K fd ps ds) (hd : Vals dvs ds) (hc : DfAt X.K dvs dcs) (ho : PE X o (tW X.K Fx Wo w)) (ha : PA X (e :: es) (tWA X.K Fx Wo wa)) (hst : starEach (e :: es) X.env = (false, eval e X.env) :: starEach es X.env := by rfl) (hpl : (backTo pos (starEach es X.env)).any (·.1) = false := by rfl)
    (ht : eval (.Call (.Attribute o m apos) (e :: es) [] pos) X.env = (do
      let ov ← eval o X.env
      standAt apos.atName
      let (f, first) ← holding [ov] (getMethod ov m pl)
      callWith pos f first (backTo pos (starEach (e :: es) X.env)) (backToKw pos (keywordEach [] X.env))) := by rfl) :
    PE X (.Call (.Attribute o m apos) (e :: es) [] pos) (tW X.K Fx Wo (wMeth cn m S dcs w wa)) := PE.imp (meth_run hc) (pe_methSD ho c hm F hr hb hd (fun σ => passAt tk σ) ha hst hpl ht)
theorem pe_Wmeth0 {k : Nat} {f : Addr} {fd : FuncData} {ps : List Str} {cn m : Str} {S : SF} {dvs : List V} {dcs : List Cl} {ds : List Value} {apos : Pos} {o : Expr} {w : WE} {pl : Sem Bool} (c : Cls X.K (He.ga X.K cn)) (hm : Meth X.K (He.ga X.K cn) m f) (F : FnOk X.prog X.w X.K X.mg X.base (L2.CX X.prog X.w) k f fd ps (spW X.K S)) (hr : Room k X.A) (tk : Takes X Wo)
    (hb : Binds X.K fd ps ds) (hd : Vals dvs ds) (hc : DfAt X.K dvs dcs) (ho : PE X o (tW X.K Fx Wo w))
    (ht : eval (.Call (.Attribute o m apos) [] [] pos) X.env = (do
      let ov ← eval o X.env
      standAt apos.atName
      let (f, first) ← holding [ov] (getMethod ov m pl)
      callWith pos f first (backTo pos (starEach [] X.env)) (backToKw pos (keywordEach [] X.env))) := by rfl) :
    PE X (.Call (.Attribute o m apos) [] [] pos) (tW X.K Fx Wo (wMeth cn m S dcs w waNil)) := PE.imp (fun σ H Q h => by
      have := meth_run (X := X) (Fx := Fx) (Wo := Wo) (cn := cn) (m := m) (S := S) hc σ H Q h
      obtain ⟨F, own, env, ts, Qp, Ep, hf, st, w, k, hx⟩ := this
      refine ⟨F, own, env, ts, Qp, Ep, hf, st, w, fun v H' own' r env' q st' at' => ?_, hx⟩
      obtain ⟨a, dx, fs, e1, e2, e3, k2⟩ := k v H' own' r env' q st' at'
      refine ⟨a, dx, fs, e1, e2, e3, ?_⟩
      obtain ⟨F2, own2, env2, ts2, Qp2, Ep2, hf2, st2, w2, hq2, hx2⟩ := k2
      exact hq2 [] _ _ [] _ w2 st2 .nil) (pe_methSD0 ho c hm F hr hb hd (fun σ => passAt tk σ) ht)
/-- o.f, a property: its getter must let nothing out -/
def wProp (cn : Str) (S : SF) (w : WE) : WE := fun env Q E => w env (fun r e1 => on1 (look e1 r) fun c => (∃ fs, c.d = .ins cn fs) ∧ S [c] (fun c' cs' => Q (.tm c') (lendBack [r] [c] (cs'.take 1) e1)) (fun _ _ => False)) E
theorem prop_run {cn : Str} {S : SF} {w : WE} : ∀ σ H Q, tW X.K Fx Wo (wProp cn S w) σ H Q → tProp (He.ga X.K cn) (spW X.K S) [] E0 (tW X.K Fx Wo w) σ H Q := fun σ H Q h => by
  obtain ⟨F, own, env, ts, Qp, Ep, hf, st, w, hq, hx⟩ := h
  refine ⟨F, own, env, ts, _, Ep, hf, st, w, fun x H1 own1 r e1 w1 st1 a1 => ?_, hx⟩
  obtain ⟨c, ec, ⟨fs, ed⟩, w2⟩ := on1_of w1
  obtain ⟨_, _, o1⟩ := st1.at a1 ec
  rw [ed] at o1
  obtain ⟨a, dx, us, rfl, eh, hm⟩ := o1.insV
  refine ⟨a, dx, us, rfl, eh, ?_⟩
  have ecs : looks e1 [r] = some [c] := by unfold looks; rw [ec]; rfl
  have hdup : dupOk [] [r] [c] = true := by
    cases r with
    | pk i => unfold dupOk; rw [Bool.and_eq_true]; exact ⟨by rw [Bool.or_eq_true]; exact .inr rfl, by unfold dupOk; rfl⟩
    | tm c' => unfold dupOk; unfold dupOk; rfl
  exact callee_run (dvs := []) (dcs := []) (vs := [.ref a]) (rs := [r]) (cs := [c]) (Wo := fun _ _ _ _ => False) (Qp := Qp) (Ep := fun _ _ => False) .nil st1 (.cons a1 .nil) ecs hdup w2 hq (fun x env' own' cls d H' e => e.elim)
theorem pe_Wprop {k : Nat} {f : Str} {p g : Addr} {fd : FuncData} {ps : List Str} {cn : Str} {S : SF} {e : Expr} {w : WE} (c : Cls X.K (He.ga X.K cn)) (hp : PropOf X.K (He.ga X.K cn) f p g) (F : FnOk X.prog X.w X.K X.mg X.base (L2.CX X.prog X.w) k g fd ps (spW X.K S)) (hr : Room (k + 1) X.A) (hb : Binds X.K fd ps []) (he : PE X e (tW X.K Fx Wo w)) (hab : attributeBase e f X.env (eval e X.env) = eval e X.env := by rfl) :
    PE X (.Attribute e f pos) (tW X.K Fx Wo (wProp cn S w)) := PE.imp prop_run (pe_prop he c hp F hr hb .nil passL hab)
end
end Py
set_option Elab.async false
set_option linter.all false
set_option maxRecDepth 100000
set_option maxHeartbeats 400000
/-! Py, part R: own ==, isinstance of own classes, dict comprehensions, targets that are tuples, stars, == of data. -/
namespace Py
open PySem PySem.Spec PyProof.Rows L2
/-! ### isinstance of an own class, own == -/
/-- the class of a value -/
def tyR (K : PySem.W.Frag) : Dv → Option Value
  | .ins c _ => some (.ref (He.ga K c))
  | d => (tyN d).map Value.type
def Dv.isIns (cn : Str) : Dv → Bool
  | .ins c _ => decide (c = cn)
  | _ => false
/-- a value of another kind: none of an own class but this -/
def Dv.kindOk (cn : Str) : Dv → Bool
  | .ins c _ => decide (c = cn)
  | .scr _ => false
  | _ => true
section
variable {K : PySem.W.Frag} {own own' : Addr → Option Pth} {H H' : Hp} {cn : Str}
theorem own_tyR (C : ClsI K cn) {v : V} {d : Dv} {o : Ow} {p : Pth} (r : Own K own H v d o p) (h : d.kindOk cn = true) : ∃ t, TyX K H v t ∧ PySem.W.kitOne K t (.ref (He.ga K cn)) = some (d.isIns cn) ∧ PySem.W.notFirst K (He.ga K cn) t = true := by
  have gen : ∀ s, tyN d = some s → d.isIns cn = false → ∃ t, TyX K H v t ∧ PySem.W.kitOne K t (.ref (He.ga K cn)) = some (d.isIns cn) ∧ PySem.W.notFirst K (He.ga K cn) t = true := fun s e hi =>
    ⟨.type s, own_ty r e fun _ _ z => z, by rw [hi]; exact C.no s (tyN_in e), C.nf s (tyN_in e)⟩
  cases d with
  | ins c fs =>
    have hc : c = cn := of_decide_eq_true h
    subst hc
    obtain ⟨a, dx, vs, rfl, eh, hm⟩ := r.insV
    refine ⟨_, .base (.ins eh C.c C.ha C.hn C.htk C.hm), ?_, ?_⟩
    · unfold PySem.W.kitOne
      rw [if_pos (beq_self_eq_true _)]
      show some true = some (decide (c = c))
      rw [decide_eq_true rfl]
    · unfold PySem.W.notFirst
      rw [beq_self_eq_true]; rfl
  | scr ns => cases h
  | non => exact gen _ rfl rfl
  | bl b => exact gen _ rfl rfl
  | int i => exact gen _ rfl rfl
  | str x => exact gen _ rfl rfl
  | lst xs => exact gen _ rfl rfl
  | tup xs => exact gen _ rfl rfl
  | dic xs => exact gen _ rfl rfl
  | lck xs => exact gen _ rfl rfl
def gIsiO (cn : Str) : G1 := fun a k => a.d.kindOk cn = true ∧ k ⟨.bl (a.d.isIns cn), .sh⟩
theorem s_isiO (C : ClsI K cn) : Sem1 K (fun x H Q => rIsi K [x, .ref (He.ga K cn)] H Q) (gIsiO cn) := fun p0 own H x a p k Q al ha hg fin => by
  obtain ⟨h1, h2⟩ := hg
  obtain ⟨t, ty, e, _⟩ := own_tyR C ha h1
  exact ⟨x, .ref (He.ga K cn), t, .ref (He.ga K cn), a.d.isIns cn, rfl, .own _, ty, e, fin.bl al h2⟩
end
/-- x == y, x an instance with its own __eq__ -/
def wEqO (cn : Str) (S : SF) (wa wb : WE) : WE := fun env Q E => wa env (fun ra e1 => wb e1 (fun rb e2 => onN (looks e2 [ra, rb]) fun cs => dupOk [] [ra, rb] cs = true ∧
  (∃ c0 c1, cs = [c0, c1] ∧ c0.d.isIns cn = true ∧ c1.d.kindOk cn = true) ∧ S cs (fun c cs' => (∃ b, c.d = .bl b) ∧ Q (.tm c) (lendBack [ra, rb] cs (cs'.take cs.length) e2)) (fun _ _ => False)) E) E
section
variable {X : Cx} {Fx : List Nat} {Wo : WX} {pos : Pos}
theorem pe_WisiO {x : Str} {p p2 : Pos} {e : Expr} {w : WE} (C : ClsI X.K x) (hg : Gl X "isinstance") (hm : X.mg "isinstance" = none) (hg2 : Gl X x) (hm2 : X.mg x = some (.ref (He.ga X.K x))) (he : PE X e (tW X.K Fx Wo w)) (hb : bootBuiltins "isinstance" = some (.builtin "isinstance") := by decide +kernel)
    (hd : (x == ("__debug__" : Str)) = false := by decide)
    (h1 : starEach [e, .Name x p2] X.env = (false, eval e X.env) :: starEach [.Name x p2] X.env := by rfl) (h2 : starEach [.Name x p2] X.env = (false, eval (.Name x p2) X.env) :: starEach [] X.env := by rfl) (hpl : (backTo pos (starEach [.Name x p2] X.env)).any (·.1) = false := by rfl) :
    PE X (.Call (.Name "isinstance" p) [e, .Name x p2] [] pos) (tW X.K Fx Wo (w1 (gIsiO x) w)) :=
  PE.imp (fun σ H Q h => w1_run (s_isiO C) σ H Q h) (pe_callB call_isi hg hm hb (pa_cons he (pa_cons (pe_glob hg2 hm2 (show RelV (.ref (He.ga X.K x)) _ from rfl) hd) pa_nil h2) h1) (by decide) (by decide) h1 hpl)
theorem eqO_run {cn : Str} {S : SF} {wa wb : WE} (C : ClsI X.K cn) : ∀ σ H Q, tW X.K Fx Wo (wEqO cn S wa wb) σ H Q → tOp (rEqOw X.K (He.ga X.K cn) (spW X.K S)) (tW X.K Fx Wo wa) (tW X.K Fx Wo wb) σ H Q := fun σ H Q h => by
  obtain ⟨F, own, env, ts, Qp, Ep, hf, st, w, hq, hx⟩ := h
  refine ⟨F, own, env, ts, _, Ep, hf, st, w, fun x H1 own1 ra e1 w1 st1 a1 => ?_, hx⟩
  refine ⟨F, own1, e1, _, _, Ep, hf, st1, w1, fun y H2 own2 rb e2 w2 st2 a2 => ?_, xok_push hx _ _⟩
  obtain ⟨cs, ecs, hdup, ⟨c0, c1, rfl, hi, hk⟩, w4⟩ := onN_of w2
  have a1' : At σ ts.length (push (push ts x ra) y rb) ra x := a1.pushR
  have a2' : At σ ts.length (push (push ts x ra) y rb) rb y := a2.less len_push
  have a3 : Paired (At σ ts.length (pushes ts [x, y] [ra, rb])) [ra, rb] [x, y] := .cons a1' (.cons a2' .nil)
  have st2' : St X.K F own2 σ e2 (pushes ts [x, y] [ra, rb]) H2 := st2
  obtain ⟨k0, i0, r0, o0, _⟩ := arg_root (j := 0) st2' a3 ecs rfl rfl
  obtain ⟨k1, i1, r1, o1, _⟩ := arg_root (j := 1) st2' a3 ecs rfl rfl
  obtain ⟨d0, w0⟩ := c0
  cases d0 with
  | ins c fs =>
    have hc : c = cn := of_decide_eq_true hi
    subst hc
    have o0' : Own X.K own2 H2 x (.ins c fs) w0 [k0, i0] := o0
    obtain ⟨a, dx, vs, rfl, eh, hm⟩ := o0'.insV
    obtain ⟨t, ty, _, hn⟩ := own_tyR C o1 hk
    refine ⟨a, dx, vs, t, rfl, eh, ty, hn, ?_⟩
    refine callee_run (Wo := fun _ _ _ _ => False) (X := X) (S := S) (dvs := []) (dcs := []) (vs := [.ref a, y]) (rs := [ra, rb]) (Qp := fun r e => match r with
      | .tm c => (∃ b, c.d = .bl b) ∧ Qp (.tm c) e
      | .pk _ => False) (Ep := fun _ _ => False) (Q := fun v H' => (∃ b, v = .bl b) ∧ Q v H') .nil st2' a3 ecs hdup w4 (fun v H' own' r env' q st at_ => ?_) (fun x env' own' cls d H' e => e.elim)
    cases r with
    | pk i => exact (show False from q).elim
    | tm c2 =>
      obtain ⟨⟨b, eb⟩, q2⟩ := (show (∃ b, c2.d = .bl b) ∧ Qp (.tm c2) env' from q)
      refine ⟨?_, hq v H' own' _ env' q2 st at_⟩
      obtain ⟨cd, co⟩ := c2
      have eb' : cd = .bl b := eb
      subst eb'
      obtain ⟨_, _, o⟩ := st.at at_ (c := ⟨.bl b, co⟩) rfl
      exact ⟨b, o.bl⟩
  | _ => cases hi
theorem pe_WeqO {k : Nat} {f : Addr} {fd : FuncData} {ps : List Str} {cn : Str} {S : SF} {a b : Expr} {wa wb : WE} (C : ClsI X.K cn) (F : FnOk X.prog X.w X.K X.mg X.base (L2.CX X.prog X.w) k f fd ps (spW X.K S)) (hr : Room k X.A) (hs : PySem.W.findIn X.K (.ref (He.ga X.K cn)) "__eq__" = some (some (.ref f))) (hf : PySem.W.isFn X.K (.ref f) = true) (hb : Binds X.K fd ps [])
    (ha : PE X a (tW X.K Fx Wo wa)) (hb' : PE X b (tW X.K Fx Wo wb)) : PE X (.Compare a [.Eq] [b] pos) (tW X.K Fx Wo (wEqO cn S wa wb)) := PE.imp (eqO_run C) (pe_cmpR (op_eqOw F hr hs hf hb) ha hb' (nomark _))
theorem pt_WeqO {k : Nat} {f : Addr} {fd : FuncData} {ps : List Str} {cn : Str} {S : SF} {a b : Expr} {wa wb : WE} (C : ClsI X.K cn) (F : FnOk X.prog X.w X.K X.mg X.base (L2.CX X.prog X.w) k f fd ps (spW X.K S)) (hr : Room k X.A) (hs : PySem.W.findIn X.K (.ref (He.ga X.K cn)) "__eq__" = some (some (.ref f))) (hf : PySem.W.isFn X.K (.ref f) = true) (hb : Binds X.K fd ps [])
    (ha : PE X a (tW X.K Fx Wo wa)) (hb' : PE X b (tW X.K Fx Wo wb)) : PT X (.Compare a [.Eq] [b] pos) (tWT X.K Fx Wo (wTB (wEqO cn S wa wb))) := PT.imp (fun σ H Q h => eqO_run C σ H _ (wTB_run σ H Q h)) (pt_cmpR (op_eqOw F hr hs hf hb) ha hb' (nomark _))
end
/-! ### dict comprehensions, their values shared -/
def dcBS (tg : WTg) (t : WT) (wk wv : WE) (vs : List Nat) (its : List Dv) (Ci : Env → Prop) (e1 : Env) (Q : R → Env → Prop) : Prop := ∃ Pv : Nat → List (Key × Dv) → Env → Prop, Pv 0 [] (wipeE e1 vs) ∧ (∀ i acc e, Pv i acc e → Ci e ∧ acc.length ≤ 100000) ∧
  (∀ i d acc e, its[i]? = some d → Pv i acc e → tg ⟨d, .sh⟩ e fun e2 => t e2 (fun b e3 => if b = true then wk e3 (fun rk e4 => on1 (lookS e4 rk) fun kc => ∃ k, keyD kc.d = some k ∧ wSh wv e4 (fun r e5 => onTm r fun c => Pv (i + 1) (putD acc k c.d) (wipeE e5 vs)) NoX) NoX else Pv (i + 1) acc (wipeE e3 vs)) NoX) ∧
  ∀ acc e, Pv its.length acc e → Q (.tm ⟨.dic acc, .nd []⟩) (restE e1 vs e)
def wDcS (wi : WIt) (tg : WTg) (t : WT) (wk wv : WE) (vs : List Nat) : WE := fun env Q E => wi env (fun its Ci e1 => dcBS tg t wk wv vs its Ci e1 Q) E
section
variable {K : PySem.W.Frag} {F : Fm} {own own' : Addr → Option Pth} {σ : L2.St} {env : Env} {ts ex : List (V × Cl)} {H H' : Hp}
theorem St.dicT_get {a : V} {xs : List (Key × Dv)} (st : St K F own σ env (ts ++ [(a, ⟨.dic xs, .nd []⟩)]) H) : ∃ l vs, a = .ref l ∧ own l = some [1, ts.length] ∧ H l = some (.dK vs) ∧ vs.map (·.1) = xs.map (·.1) ∧ Reps K (Gm own H) (vs.map (·.2)) (xs.map (·.2)) := by
  have h2 : Own K own H a (.dic xs) (.nd []) [1, ts.length] := st.tmp ts.length a ⟨.dic xs, .nd []⟩ (by rw [List.getElem?_append_right (Nat.le_refl _)]; simp)
  cases h2 with
  | dic e1 e2 m q => exact ⟨_, _, rfl, e1, e2, m, q.reps⟩
theorem St.set_dicT {l : Addr} {xs ys : List (Key × Dv)} {ws : List (Key × V)} (st : St K F own σ env (ts ++ [(.ref l, ⟨.dic xs, .nd []⟩)]) H) (m : ws.map (·.1) = ys.map (·.1)) (r : Reps K (Gm own H) (ws.map (·.2)) (ys.map (·.2))) :
    St K F own σ env (ts ++ [(.ref l, ⟨.dic ys, .nd []⟩)]) (upd H l (.dK ws)) := by
  obtain ⟨l', vs, e, e1, e2, m0, q⟩ := st.dicT_get
  cases e
  have idg : mapW (fun k i => some [k, i]) own = own := by
    funext b
    cases eb : own b with
    | none => exact mw_none eb
    | some p =>
      obtain ⟨k, j, r, rfl⟩ := st.frm.root b p eb
      exact mw_of (g := fun k i => some [k, i]) (q := [k, j]) eb rfl
  have oth : ∀ {v : V} {d : Dv} {o : Ow} {k j : Nat}, ¬ (k = 1 ∧ j = ts.length) → Own K own H v d o [k, j] → Own K own (upd H l (.dK ws)) v d o [k, j] := fun {v d o k j} hne r => by
    have := r.upd_other (g := fun k i => some [k, i]) (o' := .dK ws) e1 hne rfl
    rw [idg] at this
    exact this
  refine ⟨st.frm.upd e1 (by decide), st.len, fun j c' ej => ?_, fun k w c' ek => ?_, st.fix⟩
  · obtain ⟨w, h3, h4⟩ := st.cell j c' ej
    exact ⟨w, h3, oth (by simp) h4⟩
  · rcases Nat.lt_trichotomy k ts.length with h | h | h
    · rw [List.getElem?_append_left h] at ek
      exact oth (by omega) (st.tmp k w c' (by rw [List.getElem?_append_left h]; exact ek))
    · subst h
      rw [List.getElem?_append_right (Nat.le_refl _)] at ek
      simp at ek
      obtain ⟨rfl, rfl⟩ := ek
      exact .dic e1 upd_same m (r.mono (Gm_upd_own e1 fun b z => z)).owns
    · rw [List.getElem?_eq_none (by simp; omega)] at ek
      cases ek
end
section
variable {X : Cx} {Fx : List Nat} {Wo : WX} {pos : Pos}
theorem dc_run {wi : WIt} {tg : WTg} {t : WT} {wk wv : WE} {vs js : List Nat} {ti : TI} {g : TG} (hi : ∀ σ H R, tWI X.K Fx Wo wi σ H R → ti σ H R) (hg : TgOk X.K Fx g tg js) (hj : ∀ j ∈ js, j ∈ vs) (hv : ∀ v ∈ vs, v ∉ Fx) :
    ∀ σ H Q, tW X.K Fx Wo (wDcS wi tg t wk wv vs) σ H Q → tDc ti g (tWT X.K Fx NoW t) (tW X.K Fx NoW wk) (tW X.K Fx NoW (wSh wv)) vs σ H Q := fun σ H Q h => by
  obtain ⟨F, own, env, ts, Qp, Ep, hf, st, w', hq, hx⟩ := h
  refine hi σ H _ ⟨F, own, env, ts, _, Ep, hf, st, w', fun J H1 own1 e1 ex its Ci w1 st1 hat => ?_, hx⟩
  obtain ⟨Pv, p0, pc, pt, pe⟩ := w1
  intro D hD
  have hv' : ∀ v ∈ vs, v ∉ F.fx.map (·.1) := by rw [hf]; exact hv
  have nt : NewT X.K [1, (ts ++ ex).length] own1 H1 (setO own1 D [1, (ts ++ ex).length]) (upd H1 D (.dK [])) (.ref D) ⟨.dic [], .nd []⟩ := NewT.mk_own st1.frm.alive hD (.dic setO_same upd_same rfl .nil)
  have st2 := (st1.newT nt).wipe hv'
  refine ⟨fun i m H2 => m = its.length - i ∧ i ≤ its.length ∧ ∃ own2 e2 acc, Pv i acc e2 ∧ St X.K F own2 (L2.wipe σ vs) e2 ((ts ++ ex) ++ [(.ref D, ⟨.dic acc, .nd []⟩)]) H2,
    ⟨its.length, by simp, Nat.zero_le _, _, _, [], p0, st2⟩, ?_⟩
  rintro i m H2 ⟨rfl, hile, own2, e2, acc, pv, st3⟩
  obtain ⟨ci, hacc⟩ := pc i acc e2 pv
  have it2 := hat _ e2 own2 _ H2 st3 ci i
  by_cases hlt : i < its.length
  · obtain ⟨d, hd⟩ : ∃ d, its[i]? = some d := ⟨_, List.getElem?_eq_getElem hlt⟩
    obtain ⟨go, yl⟩ := it2.1 d hd
    refine .inr ⟨go, fun H3 => ∃ own3 e3 acc3, Pv (i + 1) acc3 e3 ∧ St X.K F own3 (L2.wipe σ vs) e3 ((ts ++ ex) ++ [(.ref D, ⟨.dic acc3, .nd []⟩)]) H3, fun H3 ⟨own3, e3, acc3, p3, s3⟩ => ⟨its.length - (i + 1), by omega, rfl, hlt, own3, e3, acc3, p3, s3⟩, fun x H3 y => ?_⟩
    obtain ⟨own3, nt3⟩ := yl x H3 y [1, ((ts ++ ex) ++ [(V.ref D, (⟨.dic acc, .nd []⟩ : Cl))]).length]
    have st4 := st3.newT nt3
    refine hg F own3 _ e2 _ H3 x ⟨d, .sh⟩ _ _ hf st4 (pt i d acc e2 hd pv) fun σ4 own4 e4 w4 st5 hσ4 hlen => ?_
    have hw : L2.wipe σ4 vs = L2.wipe σ vs := by
      rw [wipe_ext (σ := L2.wipe σ vs) hlen fun j hj' => hσ4 j fun z => hj' (hj j z)]
      exact wipe_ext (by rw [wipe_length]) fun j hj' => wipe_out hj'
    refine ⟨hw, F, own4, e4, _, _, NoX, hf, st5, w4, fun b H5 own5 e5 w5 st6 => ?_, xok_no⟩
    cases b with
    | true =>
      rw [if_pos rfl] at w5
      refine ⟨F, own5, e5, _, _, NoX, hf, st6, w5, fun yk H6 own6 rk e6 w6 st7 a7 => ?_, xok_no⟩
      obtain ⟨kc, ek, k, hk, w7⟩ := on1_of w6
      obtain ⟨_, _, ok⟩ := st7.atS a7 ek
      have eyk := own_key ok hk
      refine ⟨F, own6, e6, _, _, NoX, hf, st7, w7, fun yv H7 own7 r e7 w8 st8 a8 => ?_, xok_no⟩
      cases r with
      | pk j => exact w8.elim
      | tm c =>
        have st8' : St X.K F own7 σ4 e7 (push ((ts ++ ex) ++ [(V.ref D, (⟨.dic acc, .nd []⟩ : Cl))]) yk rk ++ [(yv, c)]) H7 := st8
        have ot := st8'.tmp _ yv c (by rw [List.getElem?_append_right (Nat.le_refl _)]; simp)
        obtain ⟨ex1, ee1⟩ := push_app ((ts ++ ex) ++ [(V.ref D, (⟨.dic acc, .nd []⟩ : Cl))]) yk rk
        rw [ee1] at ot
        rw [ee1, List.append_assoc] at st8'
        have st9 := st8'.cut_app
        obtain ⟨l, vs9, e, _, hl, hm, hr⟩ := st9.dicT_get
        cases e
        have rv : Rep X.K (Gm (dropW (fun k i => k == 1 && decide (((ts ++ ex) ++ [(V.ref D, (⟨.dic acc, .nd []⟩ : Cl))]).length ≤ i)) own7) H7) yv c.d := ot.gone (by simp)
        obtain ⟨m2, r2⟩ := reps_put rv k hm hr
        have st10 := (st9.set_dicT m2 r2).wipe (vs := vs) hv'
        rw [hw] at st10
        refine ⟨vs9, k, eyk, hl, ?_, _, wipeE e7 vs, putD acc k c.d, w8, st10⟩
        have := congrArg List.length hm
        rw [List.length_map, List.length_map] at this
        rw [this, sizeLine_eq]
        omega
    | false =>
      rw [if_neg Bool.false_ne_true] at w5
      have h3 := st6.wipe (vs := vs) hv'
      rw [hw] at h3
      exact ⟨_, wipeE e5 vs, acc, w5, h3⟩
  · have e : i = its.length := by omega
    subst e
    refine .inl ⟨it2.2 (Nat.le_refl _), ?_⟩
    obtain ⟨own6, st6⟩ := st_mid st3
    exact hq _ H2 own6 (.tm _) _ (pe acc e2 pv) (st1.rest st6 hv') .last
theorem pe_WdcS {wi : WIt} {tg : WTg} {t : WT} {wk wv : WE} {js : List Nat} {ti : TI} {g : TG} {kx vx te iter : Expr} {ifs : List Expr} {scope : Scope} {own : List (Str × Nat)} (hc : X.calm = true) (hN : X.N.Nodup) (hi : ∀ σ H R, tWI X.K Fx Wo wi σ H R → ti σ H R) (hg : TgOk X.K Fx g tg js) (hj : ∀ j ∈ js, j ∈ own.map (·.2)) (hv : ∀ v ∈ own.map (·.2), v ∉ Fx) (pi : PI X te iter ti) (ok : BlkOk X.N X.env.scope scope own)
    (pg : ∀ (s : Shared) (H : Hp) (C : Addr) (cl : List (Str × Addr)) (fp : List Addr), PG (X.blk s H scope (compEnvC scope cl C X.env) fp) te g) (pt : ∀ (s : Shared) (H : Hp) (C : Addr) (cl : List (Str × Addr)) (fp : List Addr), PTs (X.blk s H scope (compEnvC scope cl C X.env) fp) ifs (tWT X.K Fx NoW t))
    (pk : ∀ (s : Shared) (H : Hp) (C : Addr) (cl : List (Str × Addr)) (fp : List Addr), PE (X.blk s H scope (compEnvC scope cl C X.env) fp) kx (tW X.K Fx NoW wk)) (pv : ∀ (s : Shared) (H : Hp) (C : Addr) (cl : List (Str × Addr)) (fp : List Addr), PE (X.blk s H scope (compEnvC scope cl C X.env) fp) vx (tW X.K Fx NoW wv)) (hs : ∀ x, foldedSetIterable iter X.env x = pure x := by intro _; rfl) :
    PE X (.DictComp kx vx [⟨te, iter, ifs, 0⟩] scope pos) (tW X.K Fx Wo (wDcS wi tg t wk wv (own.map (·.2)))) := PE.imp (dc_run hi hg hj hv) (pe_dc hc hN pi ok pg pt pk (fun s H C cl fp => PE.sh (pv s H C cl fp)) hs)
end
end Py
set_option Elab.async false
set_option linter.all false
set_option maxRecDepth 100000
set_option maxHeartbeats 400000
/-! Py, part V: data compared and sorted, targets that are tuples, stars, chains. -/
namespace Py
open PySem PySem.Spec PyProof.Rows L2
/-! ### data -/
mutual
def toP : Dv → PyData
  | .non => .none
  | .bl b => .bool b
  | .int i => .int i
  | .str x => .str x
  | .lst xs => .list (toPs xs)
  | .tup xs => .tuple (toPs xs)
  | .lck xs => .list (toPs xs)
  | .scr ns => .list (ns.map .int)
  | .dic _ => .dict []
  | .ins _ _ => .dict []
def toPs : List Dv → List PyData
  | [] => []
  | d :: ds => toP d :: toPs ds
end
mutual
def okP : Dv → Bool
  | .lst xs => okPs xs
  | .tup xs => okPs xs
  | .lck xs => okPs xs
  | .dic _ => false
  | .ins _ _ => false
  | _ => true
def okPs : List Dv → Bool
  | [] => true
  | d :: ds => okP d && okPs ds
end
theorem toPs_map : ∀ ds : List Dv, toPs ds = ds.map toP
  | [] => by unfold toPs; rfl
  | d :: ds => by unfold toPs; rw [toPs_map ds]; rfl
section
variable {K : PySem.W.Frag} {G H : Hp} {own : Addr → Option Pth}
theorem okPs_cons {d : Dv} {ds : List Dv} (h : okPs (d :: ds) = true) : okP d = true ∧ okPs ds = true := by
  unfold okPs at h
  exact Bool.and_eq_true_iff.mp h
theorem dpAll_ints : ∀ ns : List Int, DpAll K H (ns.map V.int) (ns.map PyData.int)
  | [] => .nil
  | n :: ns => .cons (.int n) (dpAll_ints ns)
theorem rep_dp (hG : ∀ a o, G a = some o → H a = some o) {v : V} {d : Dv} (r : Rep K G v d) : okP d = true → Dp K H v (toP d) :=
  Rep.rec (motive_1 := fun v d _ => okP d = true → Dp K H v (toP d)) (motive_2 := fun vs ds _ => okPs ds = true → DpAll K H vs (toPs ds))
    (fun _ => by unfold toP; exact .non) (fun b _ => by unfold toP; exact .bl b) (fun i _ => by unfold toP; exact .int i) (fun x _ => by unfold toP; exact .str x)
    (fun e _ k h => by unfold toP; unfold okP at h; exact .lst (SqL.of (hG _ _ e)) (k h))
    (fun e _ k h => by unfold toP; unfold okP at h; exact .tup (sqT_mono hG e) (k h))
    (fun _ _ _ _ h => by unfold okP at h; cases h) (fun _ _ _ _ h => by unfold okP at h; cases h)
    (fun e _ k h => by unfold toP; unfold okP at h; exact .lst (sqL_mono hG e) (k h))
    (fun e _ => by unfold toP; exact .lst (sqL_mono hG e) (dpAll_ints _))
    (fun _ => by unfold toPs; exact .nil)
    (fun _ _ a b h => by unfold toPs; exact .cons (a (okPs_cons h).1) (b (okPs_cons h).2)) r
theorem reps_dp (hG : ∀ a o, G a = some o → H a = some o) : ∀ {vs : List V} {ds : List Dv}, Reps K G vs ds → okPs ds = true → DpAll K H vs (toPs ds)
  | [], _, .nil, _ => by unfold toPs; exact .nil
  | v :: vs, _, .cons a b, h => by unfold toPs; exact .cons (rep_dp hG a (okPs_cons h).1) (reps_dp hG b (okPs_cons h).2)
theorem own_dp {v : V} {d : Dv} {o : Ow} {p : Pth} (r : Own K own H v d o p) : okP d = true → Dp K H v (toP d) :=
  Own.rec (motive_1 := fun v d o p _ => okP d = true → Dp K H v (toP d)) (motive_2 := fun vs ds os p i _ => okPs ds = true → DpAll K H vs (toPs ds))
    (fun r h => rep_dp Gm_le r h)
    (fun e1 e2 _ k h => by unfold toP; unfold okP at h; exact .lst (SqL.of e2) (k h))
    (fun e _ k h => by unfold toP; unfold okP at h; exact .tup (sqT_mono Gm_le e) (k h))
    (fun _ _ _ _ _ h => by unfold okP at h; cases h) (fun _ _ _ _ _ h => by unfold okP at h; cases h)
    (fun _ => by unfold toPs; exact .nil)
    (fun _ _ a b h => by unfold toPs; exact .cons (a (okPs_cons h).1) (b (okPs_cons h).2)) r
/-! ### == of data -/
def gEqD : G2 := fun a b k => okP a.d = true ∧ okP b.d = true ∧ SeqAt.shaped (toP a.d) = true ∧ SeqAt.shaped (toP b.d) = true ∧ k ⟨.bl (PyData.eqv (toP a.d) (toP b.d)), .sh⟩
def gNeD : G2 := fun a b k => okP a.d = true ∧ okP b.d = true ∧ SeqAt.shaped (toP a.d) = true ∧ SeqAt.shaped (toP b.d) = true ∧ k ⟨.bl (!PyData.eqv (toP a.d) (toP b.d)), .sh⟩
theorem s_eqD : Sem2 K (rEqD K) gEqD := fun p0 own H x y a b p q k Q al ha hb hg fin => by
  obtain ⟨h1, h2, h3, h4, h5⟩ := hg
  exact ⟨_, _, own_dp ha h1, own_dp hb h2, h3, h4, fin.bl al h5⟩
theorem s_neD : Sem2 K (rNeD K) gNeD := fun p0 own H x y a b p q k Q al ha hb hg fin => by
  obtain ⟨h1, h2, h3, h4, h5⟩ := hg
  exact ⟨_, _, own_dp ha h1, own_dp hb h2, h3, h4, fin.bl al h5⟩
end
/-! ### sorted(xs) -/
def rSortD (K : PySem.W.Frag) : List V → Hp → VK → Prop := fun vs H Q => ∃ (a : Addr) (xs : List V) (ds : List PyData), vs = [V.ref a] ∧ SqL K H a xs ∧ DpAll K H xs ds ∧ PySem.W.AllAlike ds ∧ PySem.W.Sortable ds ∧ (∀ d ∈ ds, d.depth ≤ 60) ∧
  ∀ p, H p = none → Q (.ref p) (upd H p (.lst (((xs.zip ds).mergeSort (PySem.W.dataLe false fun b : V × PyData => b.2)).map (·.1))))
section
variable {X : Cx} {pins : List (Addr × Obj)} {σ : L2.St} {H : Hp} {s : Shared}
theorem each_vals : ∀ {xs : List V} {its : List Value} {ds : List PyData}, Vals xs its → xs.length = ds.length → PySem.W.EachIs (fun v (b : V × PyData) => RelV b.1 v) its (xs.zip ds)
  | _, _, [], .nil, _ => .nil
  | _, _, d :: ds, .nil, h => by simp at h
  | _, _, [], .cons _ _, h => by simp at h
  | _, _, d :: ds, .cons a b, h => .cons a (each_vals b (by simpa using h))
theorem each_reads (I : Inv X pins σ H s) : ∀ {xs : List V} {its : List Value} {ds : List PyData}, Vals xs its → DpAll X.K H xs ds → PySem.W.EachIs (fun v (b : V × PyData) => ∃ as, Reads s.heap v b.2 as) its (xs.zip ds)
  | _, _, _, .nil, .nil => .nil
  | _, _, _, .cons a b, .cons c d => .cons (Dp.reads I _ _ _ c a) (each_reads I b d)
theorem dpAll_len {K : PySem.W.Frag} {H : Hp} : ∀ {xs : List V} {ds : List PyData}, DpAll K H xs ds → xs.length = ds.length
  | _, _, .nil => rfl
  | _, _, .cons _ b => by rw [List.length_cons, List.length_cons, dpAll_len b]
theorem vals_each : ∀ {out : List Value} {bs : List (V × PyData)}, PySem.W.EachIs (fun v (b : V × PyData) => RelV b.1 v) out bs → Vals (bs.map (·.1)) out
  | _, _, .nil => .nil
  | _, _, .cons a b => .cons a (vals_each b)
theorem cr_sortD (hu : X.A.units + 64 < cLine) : CallR X (.builtin "sorted") (rSortD X.K) := by
  intro pins s σ H vs us Q I r h
  obtain ⟨a, xs, ds, rfl, hs, hd, hal, hk, hdp, q⟩ := h
  obtain ⟨its, rv, hl, hz⟩ := I.list hs
  obtain ⟨u, rfl, ru⟩ := vals1 r
  obtain rfl : u = Value.ref a := ru
  have hlen := dpAll_len hd
  have hmap : (xs.zip ds).map (·.2) = ds := by rw [List.map_snd_zip (by omega)]
  have hzl : (xs.zip ds).length = xs.length := by rw [List.length_zip, hlen]; omega
  refine PySem.W.sorted_data (enc := fun b : V × PyData => b.2) hl.isList (each_vals rv hlen) (each_reads I rv hd) (by rw [hmap]; exact hal) (by rw [hmap]; exact hk) (by rw [hzl]; exact hz) (fun b hb => ?_) fun out hol ho => ?_
  · have := hdp b.2 (by rw [← hmap]; exact List.mem_map.mpr ⟨b, hb, rfl⟩)
    show X.A.units + 2 + b.2.depth < cLine
    omega
  · refine ⟨.ref (s.heap.objs.size + 1), upd H (s.heap.objs.size + 1) (.lst (((xs.zip ds).mergeSort (PySem.W.dataLe false fun b : V × PyData => b.2)).map (·.1))), ?_, rfl, q _ (I.hok.fresh (Nat.le_succ _))⟩
    obtain ⟨n, hn⟩ := sortedAll_at s.heap its out.toArray
    refine I.laid (t' := s.toks) (fun b o e => sortedAll_old e) (Nat.le_succ _) ⟨?_, out, n, vals_each ho, hn⟩
    rw [List.length_map, (List.mergeSort_perm _ _).length_eq, hzl]
    exact hz
end
/-- the order of data -/
def leD : Dv → Dv → Bool := PySem.W.dataLe false toP
def alikeB (ps : List PyData) : Bool := ps.all fun p => ps.all fun q => PySem.W.alike p q
theorem alikeB_of {ps : List PyData} (h : alikeB ps = true) : PySem.W.AllAlike ps := fun d hd d' hd' => by
  have := List.all_eq_true.mp h d hd
  exact List.all_eq_true.mp this d' hd'
/-- what may be sorted -/
structure SortOk (ds : List Dv) : Prop where
  ok : okPs ds = true
  al : PySem.W.AllAlike (toPs ds)
  so : PySem.W.Sortable (toPs ds)
  dp : ∀ d ∈ toPs ds, d.depth ≤ 60
def gSort : GN := fun as k => match as with
  | [⟨.lst ds, o⟩] => o.flat = true ∧ SortOk ds ∧ k ⟨.lst (ds.mergeSort leD), .nd []⟩
  | [⟨.lck ds, _⟩] => True ∧ SortOk ds ∧ k ⟨.lst (ds.mergeSort leD), .nd []⟩
  | _ => False
section
variable {K : PySem.W.Frag} {G : Hp}
theorem reps_zip : ∀ {vs : List V} {ds : List Dv}, Reps K G vs ds → ∀ p ∈ vs.zip ds, Rep K G p.1 p.2
  | _, _, .nil, p, h => by simp at h
  | v :: vs, d :: ds, .cons a b, p, h => by
    rw [List.zip_cons_cons, List.mem_cons] at h
    rcases h with rfl | h
    · exact a
    · exact reps_zip b p h
theorem reps_of_pairs : ∀ {l : List (V × Dv)}, (∀ p ∈ l, Rep K G p.1 p.2) → Reps K G (l.map (·.1)) (l.map (·.2))
  | [], _ => .nil
  | p :: l, h => .cons (h p List.mem_cons_self) (reps_of_pairs fun q hq => h q (List.mem_cons_of_mem _ hq))
theorem zip_map_snd {α β γ : Type} (f : β → γ) : ∀ (xs : List α) (ys : List β), xs.zip (ys.map f) = (xs.zip ys).map fun p => (p.1, f p.2)
  | [], _ => by simp
  | _ :: _, [] => by simp
  | x :: xs, y :: ys => by rw [List.map_cons, List.zip_cons_cons, List.zip_cons_cons, List.map_cons, zip_map_snd f xs ys]
theorem sort_reps {vs : List V} {ds : List Dv} (r : Reps K G vs ds) : Reps K G (((vs.zip (toPs ds)).mergeSort (PySem.W.dataLe false fun b : V × PyData => b.2)).map (·.1)) (ds.mergeSort leD) := by
  have e1 : vs.zip (toPs ds) = (vs.zip ds).map fun p => (p.1, toP p.2) := by rw [toPs_map, zip_map_snd]
  have e2 : ((vs.zip ds).mergeSort fun p q => leD p.2 q.2).map (fun p => (p.1, toP p.2)) = ((vs.zip ds).map fun p => (p.1, toP p.2)).mergeSort (PySem.W.dataLe false fun b : V × PyData => b.2) := List.map_mergeSort fun a _ b _ => rfl
  have e3 : ((vs.zip ds).mergeSort fun p q => leD p.2 q.2).map (·.2) = ((vs.zip ds).map (·.2)).mergeSort leD := List.map_mergeSort fun a _ b _ => rfl
  rw [e1, ← e2, List.map_map]
  have e4 : (vs.zip ds).map (·.2) = ds := List.map_snd_zip (by rw [r.length]; exact Nat.le_refl _)
  rw [e4] at e3
  rw [← e3]
  exact reps_of_pairs fun p hp => reps_zip r p ((List.mergeSort_perm _ _).mem_iff.mp hp)
theorem s_sort : SemN K (rSortD K) gSort := fun p0 own H xs as k Q al ha hg fin => by
  unfold gSort at hg
  split at hg
  · obtain ⟨x, rfl, p, h⟩ := paired_one ha
    obtain ⟨hf, so, h3⟩ := hg
    obtain ⟨a, vs, rfl, e, r⟩ := h.lstF hf
    exact ⟨a, vs, _, rfl, SqL.of e, reps_dp Gm_le r so.ok, so.al, so.so, so.dp, fun z hz => fin.lst al h3 (sort_reps r) hz⟩
  · obtain ⟨x, rfl, p, h⟩ := paired_one ha
    obtain ⟨_, so, h3⟩ := hg
    obtain ⟨a, vs, rfl, e, r⟩ := h.lckF
    exact ⟨a, vs, _, rfl, e, reps_dp Gm_le r so.ok, so.al, so.so, so.dp, fun z hz => fin.lst al h3 (sort_reps r) hz⟩
  · exact hg.elim
end
/-! ### a target that is a tuple of names -/
def setAll : Env → List Nat → List Dv → Env
  | e, i :: is, d :: ds => setAll (e.set i (some ⟨d, .sh⟩)) is ds
  | e, _, _ => e
def onTup (c : Cl) (n : Nat) (k : List Dv → Prop) : Prop := match c with
  | ⟨.tup ds, o⟩ => o.flat = true ∧ ds.length = n ∧ k ds
  | _ => False
theorem onTup_of {c : Cl} {n : Nat} {k : List Dv → Prop} (h : onTup c n k) : ∃ ds o, c = ⟨.tup ds, o⟩ ∧ o.flat = true ∧ ds.length = n ∧ k ds := by
  unfold onTup at h
  split at h
  · exact ⟨_, _, rfl, h⟩
  · exact h.elim
def tgT (is : List Nat) : WTg := fun c e k => onTup c is.length fun ds => normE (setAll e is ds) k
def gNames : List Nat → TGs
  | [] => gNil
  | i :: is => gCons (gName i) (gNames is)
section
variable {K : PySem.W.Frag}
theorem St.setAll {F : Fm} {ts : List (V × Cl)} {H : Hp} : ∀ {is : List Nat} {vs : List V} {ds : List Dv} {own : Addr → Option Pth} {σ : L2.St} {env : Env} {Q : L2.St → Hp → Prop}, (∀ i ∈ is, i ∉ F.fx.map (·.1)) → St K F own σ env ts H → Reps K (Gm own H) vs ds → is.length = vs.length →
    (∀ σ' own', St K F own' σ' (Py.setAll env is ds) ts H → (∀ j, j ∉ is → σ'[j]? = σ[j]?) → σ'.length = σ.length → Q σ' H) → gNames is vs σ H Q
  | [], [], ds, own, σ, env, Q, _, st, r, _, q => by
    cases r
    exact ⟨rfl, q σ own st (fun _ _ => rfl) rfl⟩
  | [], v :: vs, ds, own, σ, env, Q, _, _, _, h, _ => by simp at h
  | i :: is, [], ds, own, σ, env, Q, _, _, _, h, _ => by simp at h
  | i :: is, v :: vs, _, own, σ, env, Q, hi, st, .cons a b, hl, q => by
    refine ⟨v, vs, rfl, ?_⟩
    have st1 := st.push_sh a
    have st2 := st1.set_tm (hi i List.mem_cons_self)
    have hg : ∀ x o, Gm own H x = some o → Gm (dropW (fun k i => k == 1 && decide (ts.length ≤ i)) own) H x = some o := Gm_dw _
    obtain ⟨own2, st3, hn⟩ : ∃ own2, St K F own2 (σ.set i (some v)) (env.set i (some ⟨_, .sh⟩)) ts H ∧ ∀ x, own x = none → own2 x = none := ⟨_, st2, fun x h => mw_none h⟩
    have b2 : Reps K (Gm own2 H) vs _ := b.mono fun x o e => let ⟨e1, e2⟩ := Gm_some e; Gm_of (hn x e1) e2
    refine St.setAll (is := is) (fun j hj => hi j (List.mem_cons_of_mem _ hj)) st3 b2 (by simpa using hl) fun σ' own' st' h1 h2 => q σ' own' st' (fun j hj => ?_) (by rw [h2, List.length_set])
    rw [List.mem_cons, not_or] at hj
    rw [h1 j hj.2, List.getElem?_set_ne (Ne.symm hj.1)]
theorem tg_tup {Fx : List Nat} {is : List Nat} (hi : ∀ i ∈ is, i ∉ Fx) : TgOk K Fx (gTup K is.length (gNames is)) (tgT is) is := fun F own σ env ts H v c k Q hf st w q => by
  obtain ⟨ds, o, rfl, ho, hl, w2⟩ := onTup_of w
  rw [normE_eq] at w2
  have ot := st.tmp ts.length v ⟨.tup ds, o⟩ (by rw [List.getElem?_append_right (Nat.le_refl _)]; simp)
  obtain ⟨a, vs, rfl, e, r⟩ := (show Own K own H v (.tup ds) o [1, ts.length] from ot).tupF ho
  refine ⟨a, vs, rfl, sqT_mono Gm_le e, by rw [r.length, hl], ?_⟩
  refine St.setAll (by rw [hf]; exact hi) st.cut_app (r.mono (Gm_dw _)) (by rw [r.length, hl]) fun σ' own' st' h1 h2 => q σ' own' _ w2 st' h1 h2
end
/-! ### a, b = e -/
def wAsgT (is : List Nat) (w : WE) : WS := fun D env => wSh w env (fun r e1 => onTm r fun c => onTup c is.length fun ds => D.nx (setAll e1 is ds)) D.ex
section
variable {X : Cx} {Fx : List Nat} {Wo : WX} {pos : Pos}
theorem asgT_run {is : List Nat} {w : WE} (hi : ∀ i ∈ is, i ∉ Fx) : ∀ D σ H, tWS X.K Fx Wo (wAsgT is w) D σ H → tAsg (tW X.K Fx Wo w) (gTup X.K is.length (gNames is)) D σ H := fun D σ H h => by
  obtain ⟨F, own, env, ts, E, hf, st, w, ok⟩ := h
  refine sh_run σ H _ ⟨F, own, env, ts, _, E.ex, hf, st, w, fun v H1 own1 r e1 w1 st1 a1 => ?_, ok.ex σ⟩
  cases r with
  | pk i => exact w1.elim
  | tm c =>
    have w1' : tgT is c e1 _ := (show onTup c is.length (fun ds => normE (setAll e1 is ds) E.nx) from by simp only [normE_eq]; exact w1)
    exact tg_tup hi F own1 σ e1 ts H1 v c _ _ hf st1 w1' fun σ' own' env' k st' _ _ => ok.nx _ _ _ _ k st'
end
end Py
set_option Elab.async false
set_option linter.all false
set_option maxRecDepth 100000
set_option maxHeartbeats 400000
/-! Py, part W: an expression that only reads what is one's own: all of it is locked for a while. -/
namespace Py
open PySem PySem.Spec PyProof.Rows L2
mutual
def noLck : Dv → Bool
  | .lst xs => noLcks xs
  | .tup xs => noLcks xs
  | .dic kvs => noLckK kvs
  | .ins _ fs => noLckF fs
  | .lck _ => false
  | .scr _ => false
  | _ => true
def noLcks : List Dv → Bool
  | [] => true
  | d :: ds => noLck d && noLcks ds
def noLckK : List (Key × Dv) → Bool
  | [] => true
  | (_, d) :: ds => noLck d && noLckK ds
def noLckF : List (Str × Dv) → Bool
  | [] => true
  | (_, d) :: ds => noLck d && noLckF ds
end
theorem noLckK_map : ∀ kvs : List (Key × Dv), noLckK kvs = noLcks (kvs.map (·.2))
  | [] => by unfold noLckK noLcks; rfl
  | (_, d) :: r => by rw [List.map_cons]; unfold noLckK noLcks; rw [noLckK_map r]
theorem noLckF_map : ∀ kvs : List (Str × Dv), noLckF kvs = noLcks (kvs.map (·.2))
  | [] => by unfold noLckF noLcks; rfl
  | (_, d) :: r => by rw [List.map_cons]; unfold noLckF noLcks; rw [noLckF_map r]
theorem noLcks_cons {d : Dv} {ds : List Dv} (h : noLcks (d :: ds) = true) : noLck d = true ∧ noLcks ds = true := by
  unfold noLcks at h
  exact Bool.and_eq_true_iff.mp h
def lckM (f : Dv → Ow → Option Dv) : List Ow → List Dv → Option (List Dv)
  | [] => fun ds => some ds
  | o :: os => fun ds => match ds with
    | [] => some []
    | d :: ds => (f d o).bind fun e => (lckM f os ds).map (e :: ·)
abbrev lckL (f : Dv → Ow → Option Dv) (ds : List Dv) (os : List Ow) : Option (List Dv) := lckM f os ds
/-- what is locked is read as a list that is only read -/
def lckN : Nat → Dv → Ow → Option Dv
  | 0 => fun d o => match o with
    | .sh => some d
    | .nd _ => none
  | n + 1 => fun d o => match o with
    | .sh => some d
    | .nd os => match d with
      | .lst xs => (lckL (lckN n) xs os).map .lck
      | .tup xs => (lckL (lckN n) xs os).map .tup
      | _ => none
def lckO : Dv → Ow → Option Dv := lckN 8
theorem lckN_sh : ∀ (n : Nat) (d : Dv), lckN n d .sh = some d
  | 0, _ => rfl
  | _ + 1, _ => rfl
theorem lckL_nil (f : Dv → Ow → Option Dv) (ds : List Dv) : lckL f ds [] = some ds := rfl
/-- the slots while all is locked -/
def lckA (env : Env) : Env := env.map fun c => c.bind fun c => (lckO c.d c.o).map fun d => ⟨d, .sh⟩
def lckT (p : V × Cl) : V × Cl := (p.1, ⟨(lckO p.2.d p.2.o).getD p.2.d, .sh⟩)
section
variable {K : PySem.W.Frag} {G G' H H' : Hp} {own own' : Addr → Option Pth}
theorem Rep.monoN (h : ∀ a o, (∀ od u, o ≠ .frz od (.lst u)) → G a = some o → G' a = some o) {v : V} {d : Dv} (r : Rep K G v d) : noLck d = true → Rep K G' v d :=
  Rep.rec (motive_1 := fun v d _ => noLck d = true → Rep K G' v d) (motive_2 := fun vs ds _ => noLcks ds = true → Reps K G' vs ds)
    (fun _ => .non) (fun b _ => .bl b) (fun i _ => .int i) (fun x _ => .str x)
    (fun e _ k n => by unfold noLck at n; exact .lst (h _ _ (fun _ _ z => nomatch z) e) (k n))
    (fun e _ k n => by
      unfold noLck at n
      refine .tup ?_ (k n)
      rcases e with (e | ⟨o, e⟩) | e
      · exact .inl (.inl (h _ _ (fun _ _ z => nomatch z) e))
      · exact .inl (.inr ⟨o, h _ _ (fun _ _ z => nomatch z) e⟩)
      · exact .inr e)
    (fun e m _ k n => by unfold noLck at n; rw [noLckK_map] at n; exact .dic (h _ _ (fun _ _ z => nomatch z) e) m (k n))
    (fun e m _ k n => by unfold noLck at n; rw [noLckF_map] at n; exact .ins (h _ _ (fun _ _ z => nomatch z) e) m (k n))
    (fun _ _ _ n => by unfold noLck at n; cases n) (fun _ n => by unfold noLck at n; cases n)
    (fun _ => .nil) (fun _ _ a b n => .cons (a (noLcks_cons n).1) (b (noLcks_cons n).2)) r
theorem Own.monoN (h : ∀ a o, (∀ od u, o ≠ .frz od (.lst u)) → Gm own H a = some o → Gm own' H' a = some o) {v : V} {d : Dv} {o : Ow} {p : Pth} (r : Own K own H v d o p) :
    (∀ a r, own a = some (p ++ r) → own' a = some (p ++ r) ∧ H' a = H a) → noLck d = true → Own K own' H' v d o p :=
  Own.rec (motive_1 := fun v d o p _ => (∀ a r, own a = some (p ++ r) → own' a = some (p ++ r) ∧ H' a = H a) → noLck d = true → Own K own' H' v d o p)
    (motive_2 := fun vs ds os p i _ => (∀ a r, own a = some (p ++ r) → own' a = some (p ++ r) ∧ H' a = H a) → noLcks ds = true → Owns K own' H' vs ds os p i)
    (fun r _ n => .sh (r.monoN h n))
    (fun e1 e2 _ k hp n => by
      unfold noLck at n
      have h0 := hp _ [] (by rw [List.append_nil]; exact e1)
      rw [List.append_nil] at h0
      exact .lst h0.1 (h0.2.trans e2) (k hp n))
    (fun e _ k hp n => by
      unfold noLck at n
      refine .tup ?_ (k hp n)
      rcases e with (e | ⟨o, e⟩) | e
      · exact .inl (.inl (h _ _ (fun _ _ z => nomatch z) e))
      · exact .inl (.inr ⟨o, h _ _ (fun _ _ z => nomatch z) e⟩)
      · exact .inr e)
    (fun e1 e2 m _ k hp n => by
      unfold noLck at n
      rw [noLckK_map] at n
      have h0 := hp _ [] (by rw [List.append_nil]; exact e1)
      rw [List.append_nil] at h0
      exact .dic h0.1 (h0.2.trans e2) m (k hp n))
    (fun e1 e2 m _ k hp n => by
      unfold noLck at n
      rw [noLckF_map] at n
      have h0 := hp _ [] (by rw [List.append_nil]; exact e1)
      rw [List.append_nil] at h0
      exact .ins h0.1 (h0.2.trans e2) m (k hp n))
    (fun _ _ => .nil)
    (fun {v d vs ds os p i} _ _ k1 k2 hp n => .cons (k1 (fun a r e => by
      have := hp a ([i] ++ r) (by rw [← List.append_assoc]; exact e)
      rw [← List.append_assoc] at this
      exact this) (noLcks_cons n).1) (k2 hp (noLcks_cons n).2)) r
/-- locked, what is one's own is shared -/
theorem Own.lockedN (hG : ∀ a o, Gm own H a = some o → Gm own' H' a = some o) {v : V} {d : Dv} {o : Ow} {p : Pth} (r : Own K own H v d o p) :
    (∀ a r vs, own a = some (p ++ r) → H a = some (.lst vs) → own' a = none ∧ ∃ od, H' a = some (.frz od (.lst vs))) → ∀ n d', lckN n d o = some d' → Rep K (Gm own' H') v d' :=
  Own.rec (motive_1 := fun v d o p _ => (∀ a r vs, own a = some (p ++ r) → H a = some (.lst vs) → own' a = none ∧ ∃ od, H' a = some (.frz od (.lst vs))) → ∀ n d', lckN n d o = some d' → Rep K (Gm own' H') v d')
    (motive_2 := fun vs ds os p i _ => (∀ a r vs, own a = some (p ++ r) → H a = some (.lst vs) → own' a = none ∧ ∃ od, H' a = some (.frz od (.lst vs))) → ∀ n ds', lckL (lckN n) ds os = some ds' → Reps K (Gm own' H') vs ds')
    (fun {v d p} r _ n d' e => by
      rw [lckN_sh] at e
      cases e
      exact r.mono hG)
    (fun {a vs xs os p} e1 e2 _ k h n d' e => by
      cases n with
      | zero => cases e
      | succ n =>
        have e : (lckL (lckN n) xs os).map Dv.lck = some d' := e
        cases q : lckL (lckN n) xs os with
        | none => rw [q] at e; cases e
        | some ys =>
          rw [q] at e
          cases (Option.some.inj e)
          obtain ⟨h1, od, h2⟩ := h a [] vs (by rw [List.append_nil]; exact e1) e2
          exact .lck (.inl (.inr ⟨od, Gm_of h1 h2⟩)) (k h n ys q))
    (fun {a vs xs os p} e1 _ k h n d' e => by
      cases n with
      | zero => cases e
      | succ n =>
        have e : (lckL (lckN n) xs os).map Dv.tup = some d' := e
        cases q : lckL (lckN n) xs os with
        | none => rw [q] at e; cases e
        | some ys =>
          rw [q] at e
          cases (Option.some.inj e)
          exact .tup (sqT_mono hG e1) (k h n ys q))
    (fun _ _ _ _ _ _ n d' e => by cases n <;> cases e)
    (fun _ _ _ _ _ _ n d' e => by cases n <;> cases e)
    (fun {os p i} _ n ds' e => by cases os <;> (cases e; exact .nil))
    (fun {v d vs ds os p i} _ _ k1 k2 h n ds' e => by
      have e : (lckN n d (os.headD .sh)).bind (fun e => (lckL (lckN n) ds os.tail).map (e :: ·)) = some ds' := by
        cases os with
        | nil =>
          rw [lckL_nil] at e
          cases e
          show (lckN n d .sh).bind (fun e => (lckL (lckN n) ds []).map (e :: ·)) = _
          rw [lckN_sh, lckL_nil]
          rfl
        | cons o os => exact e
      cases q : lckN n d (os.headD .sh) with
      | none => rw [q] at e; cases e
      | some y =>
        cases q2 : lckL (lckN n) ds os.tail with
        | none => rw [q, q2] at e; cases e
        | some ys =>
          rw [q, q2] at e
          cases (Option.some.inj e)
          exact .cons (k1 (fun a r vs e => h a ([i] ++ r) vs (by rw [← List.append_assoc]; exact e)) n y q) (k2 h n ys q2)) r
theorem Own.locked (hG : ∀ a o, Gm own H a = some o → Gm own' H' a = some o) {v : V} {d : Dv} {o : Ow} {p : Pth} (r : Own K own H v d o p)
    (h : ∀ a r vs, own a = some (p ++ r) → H a = some (.lst vs) → own' a = none ∧ ∃ od, H' a = some (.frz od (.lst vs))) (d' : Dv) (e : lckO d o = some d') : Rep K (Gm own' H') v d' := Own.lockedN hG r h 8 d' e
end
/-! ### many things locked at once -/
def lockH (L : List Addr) (od : Addr → Obj) (H : Hp) : Hp := fun a => if a ∈ L then (H a).map (.frz (od a)) else H a
def unlH (L : List Addr) (H H' : Hp) : Hp := fun a => if a ∈ L then H a else H' a
section
variable {X : Cx} {pins : List (Addr × Obj)} {σ : L2.St} {H H' : Hp} {s : Shared}
def heapAt (h : Heap) (a : Addr) : Obj := (h.get? a).getD ⟨.none, none, .fields #[], #[]⟩
theorem Inv.lockL (I : Inv X pins σ H s) : ∀ {L : List Addr}, L.Nodup → (∀ a ∈ L, ∃ vs, H a = some (.lst vs)) → Inv X pins σ (lockH L (heapAt s.heap) H) s
  | [], _, _ => by
    have e : lockH [] (heapAt s.heap) H = H := by funext a; unfold lockH; rw [if_neg (by simp)]
    rw [e]; exact I
  | a :: L, nd, hl => by
    rw [List.nodup_cons] at nd
    have ih := Inv.lockL I nd.2 fun b hb => hl b (List.mem_cons_of_mem _ hb)
    obtain ⟨vs, ha⟩ := hl a List.mem_cons_self
    have ha2 : lockH L (heapAt s.heap) H a = some (.lst vs) := by unfold lockH; rw [if_neg nd.1]; exact ha
    obtain ⟨od, I2⟩ := Inv.lock ih ha2 trivial
    have hod : od = heapAt s.heap a := by
      have := (show s.heap.get? a = some od ∧ _ from I2.hok a _ upd_same).1
      unfold heapAt
      rw [this]; rfl
    have e : lockH (a :: L) (heapAt s.heap) H = upd (lockH L (heapAt s.heap) H) a (.frz od (.lst vs)) := by
      funext b
      by_cases hb : b = a
      · subst hb
        rw [upd_same]
        unfold lockH
        rw [if_pos List.mem_cons_self, ha, hod]
        rfl
      · rw [upd_ne hb]
        unfold lockH
        by_cases hm : b ∈ L
        · rw [if_pos hm, if_pos (List.mem_cons_of_mem _ hm)]
        · rw [if_neg hm, if_neg (by rw [List.mem_cons, not_or]; exact ⟨hb, hm⟩)]
    rw [e]; exact I2
theorem Inv.unlL {Hx : Hp} {od : Addr → Obj} : ∀ {L : List Addr} {H' : Hp}, L.Nodup → Inv X pins σ H' s → (∀ a ∈ L, (∃ vs, Hx a = some (.lst vs) ∧ H' a = some (.frz (od a) (.lst vs))) ∧ ∀ o' u', X.H_0 a ≠ some (.frz o' u')) → Inv X pins σ (unlH L Hx H') s
  | [], H', _, I, _ => by
    have e : unlH [] Hx H' = H' := by funext a; unfold unlH; rw [if_neg (by simp)]
    rw [e]; exact I
  | a :: L, H', nd, I, h => by
    rw [List.nodup_cons] at nd
    obtain ⟨⟨vs, h1, h2⟩, h3⟩ := h a List.mem_cons_self
    have I2 := Inv.unlock I h2 h3
    have ih := Inv.unlL (L := L) (Hx := Hx) (od := od) nd.2 I2 fun b hb => by
      obtain ⟨⟨ws, k1, k2⟩, k3⟩ := h b (List.mem_cons_of_mem _ hb)
      have hne : b ≠ a := fun z => nd.1 (z ▸ hb)
      exact ⟨⟨ws, k1, by rw [upd_ne hne]; exact k2⟩, k3⟩
    have e : unlH (a :: L) Hx H' = unlH L Hx (upd H' a (.lst vs)) := by
      funext b
      unfold unlH
      by_cases hm : b ∈ L
      · rw [if_pos hm, if_pos (List.mem_cons_of_mem _ hm)]
      · rw [if_neg hm]
        by_cases hb : b = a
        · subst hb
          rw [if_pos List.mem_cons_self, upd_same, h1]
        · rw [if_neg (by rw [List.mem_cons, not_or]; exact ⟨hb, hm⟩), upd_ne hb]
    rw [e]; exact ih
end
/-! ### the rule -/
def wBor (w : WE) : WE := fun env Q _ => normE (lckA env) fun e0 => w e0 (fun r e1 => e1 = lckA env ∧ onTm r fun c => noLck c.d = true ∧ Q (.tm c) env) (fun _ _ => False)
def lockable (own : Addr → Option Pth) (H : Hp) (a : Addr) : Bool := match own a, H a with
  | some (0 :: _), some (.lst _) => true
  | some (1 :: _), some (.lst _) => true
  | _, _ => false
theorem lockable_iff {own : Addr → Option Pth} {H : Hp} {a : Addr} : lockable own H a = true ↔ (∃ k r, own a = some (k :: r) ∧ (k = 0 ∨ k = 1)) ∧ ∃ vs, H a = some (.lst vs) := by
  unfold lockable
  constructor
  · intro h
    split at h
    · exact ⟨⟨0, _, by assumption, .inl rfl⟩, _, by assumption⟩
    · exact ⟨⟨1, _, by assumption, .inr rfl⟩, _, by assumption⟩
    · cases h
  · rintro ⟨⟨k, r, h1, rfl | rfl⟩, vs, h2⟩ <;> (rw [h1, h2]; rfl)
/-- who owns what while all is locked -/
def ownL (L : List Addr) (own : Addr → Option Pth) : Addr → Option Pth := fun a => match own a with
  | some (2 :: r) => some (2 :: r)
  | some p => if a ∈ L then none else some (2 :: 0 :: p)
  | none => none
/-- .. and behind -/
def ownU (n : Nat) (own own2 : Addr → Option Pth) : Addr → Option Pth := fun a => match own a with
  | some p => some p
  | none => match own2 a with
    | some (1 :: i :: r) => if i = n then some (1 :: i :: r) else none
    | _ => none
theorem ownU_some {n : Nat} {own own2 : Addr → Option Pth} {a : Addr} {p : Pth} (h : own a = some p) : ownU n own own2 a = some p := by unfold ownU; rw [h]
theorem ownU_new {n : Nat} {own own2 : Addr → Option Pth} {a : Addr} {p : Pth} (h : own a = none) (k : ownU n own own2 a = some p) : own2 a = some p ∧ ∃ r, p = 1 :: n :: r := by
  unfold ownU at k
  rw [h] at k
  dsimp only at k
  split at k
  · rename_i i r e
    split at k
    · rename_i hi
      subst hi
      cases k
      exact ⟨e, _, rfl⟩
    · cases k
  · cases k
theorem ownL_none {L : List Addr} {own : Addr → Option Pth} {a : Addr} (h : own a = none) : ownL L own a = none := by unfold ownL; rw [h]
theorem ownL_in {L : List Addr} {own : Addr → Option Pth} {a : Addr} {k : Nat} {r : Pth} (h : own a = some (k :: r)) (hk : k = 0 ∨ k = 1) (hL : a ∈ L) : ownL L own a = none := by
  unfold ownL
  rw [h]
  rcases hk with rfl | rfl <;> simp [hL]
theorem ownL_two {L : List Addr} {own : Addr → Option Pth} {a : Addr} {r : Pth} (h : own a = some (2 :: r)) : ownL L own a = some (2 :: r) := by unfold ownL; rw [h]; rfl
theorem ownL_root {L : List Addr} {own : Addr → Option Pth} {a : Addr} {q : Pth} (rt : ∀ a p, own a = some p → ∃ k i r, p = k :: i :: r) (h : ownL L own a = some q) : (∃ i r, q = 2 :: i :: r) ∧ a ∉ L ∨ own a = some q ∧ ∃ i r, q = 2 :: i :: r := by
  unfold ownL at h
  cases e : own a with
  | none => rw [e] at h; cases h
  | some p =>
    obtain ⟨k, i, r, rfl⟩ := rt a p e
    rw [e] at h
    by_cases hk : k = 2
    · subst hk
      cases h
      exact .inr ⟨rfl, i, r, rfl⟩
    · have h' : (if a ∈ L then none else some (2 :: 0 :: k :: i :: r)) = some q := by
        have : (match (some (k :: i :: r) : Option Pth) with
          | some (2 :: r) => some (2 :: r)
          | some p => if a ∈ L then none else some (2 :: 0 :: p)
          | none => none) = if a ∈ L then none else some (2 :: 0 :: k :: i :: r) := by
          split
          · rename_i z
            exact absurd (List.cons.inj (Option.some.inj z)).1 hk
          · rename_i z
            cases z; rfl
          · rename_i z; cases z
        rw [← this]; exact h
      split at h'
      · cases h'
      · cases h'
        exact .inl ⟨⟨_, _, rfl⟩, by assumption⟩
section
variable {X : Cx} {Fx : List Nat} {Wo : WX} {pos : Pos}
theorem PE.bor {e : Expr} {w : WE} (pe : PE X e (tW X.K Fx Wo w)) : PE X e (tW X.K Fx Wo (wBor w)) := ⟨fun pins s σ H Q I h => by
  obtain ⟨F, own, env, ts, Qp, Ep, hf, st, w', hq, hx⟩ := h
  unfold wBor at w'
  rw [normE_eq] at w'
  let L := (List.range s.heap.objs.size).filter fun a => lockable own H a
  have hLn : L.Nodup := List.Nodup.sublist List.filter_sublist List.nodup_range
  have hL : ∀ a, a ∈ L ↔ lockable own H a = true := fun a => by
    show a ∈ (List.range s.heap.objs.size).filter _ ↔ _
    rw [List.mem_filter, List.mem_range]
    refine ⟨fun h => h.2, fun h => ⟨?_, h⟩⟩
    obtain ⟨_, vs, e⟩ := lockable_iff.mp h
    exact I.hok.lt e
  have hLl : ∀ a ∈ L, ∃ vs, H a = some (.lst vs) := fun a ha => (lockable_iff.mp ((hL a).mp ha)).2
  have hLo : ∀ a ∈ L, ∃ k r, own a = some (k :: r) ∧ (k = 0 ∨ k = 1) := fun a ha => (lockable_iff.mp ((hL a).mp ha)).1
  have hLin : ∀ a k r vs, own a = some (k :: r) → (k = 0 ∨ k = 1) → H a = some (.lst vs) → a ∈ L := fun a k r vs e1 e2 e3 => (hL a).mpr (lockable_iff.mpr ⟨⟨k, r, e1, e2⟩, vs, e3⟩)
  have I1 := Inv.lockL I hLn hLl
  have hn : ∀ a ∈ L, ∀ o' u', X.H_0 a ≠ some (.frz o' u') := fun a ha => by
    obtain ⟨vs, e⟩ := hLl a ha
    exact Inv.nofrz I e trivial
  generalize hHl : lockH L (heapAt s.heap) H = Hl at I1
  have hlo : ∀ a, a ∉ L → Hl a = H a := fun a ha => by rw [← hHl]; unfold lockH; rw [if_neg ha]
  have hli : ∀ a vs, a ∈ L → H a = some (.lst vs) → Hl a = some (.frz (heapAt s.heap a) (.lst vs)) := fun a vs ha e => by rw [← hHl]; unfold lockH; rw [if_pos ha, e]; rfl
  have nL : ∀ a, own a = none → a ∉ L := fun a e z => by
    obtain ⟨k, r, e2, _⟩ := hLo a z
    rw [e] at e2; cases e2
  have rt := st.frm.root
  have hG : ∀ a o, Gm own H a = some o → Gm (ownL L own) Hl a = some o := fun a o e => by
    obtain ⟨e1, e2⟩ := Gm_some e
    exact Gm_of (ownL_none e1) (by rw [hlo a (nL a e1)]; exact e2)
  have hk : ∀ {p : Pth} {k i : Nat}, p = [k, i] → (k = 0 ∨ k = 1) → ∀ a r vs, own a = some (p ++ r) → H a = some (.lst vs) → ownL L own a = none ∧ ∃ od, Hl a = some (.frz od (.lst vs)) := fun {p k i} ep h01 a r vs e1 e2 => by
    subst ep
    have hm := hLin a k (i :: r) vs e1 h01 e2
    exact ⟨ownL_in e1 h01 hm, _, hli a vs hm e2⟩
  let F1 : Fm := ⟨ownL L own, Hl, F.fx⟩
  have fr1 : Frm F1 (ownL L own) Hl := by
    refine ⟨fun a o e _ => e, fun a r e => e, fun a r e => e, fun a p e => .inr ⟨p, e⟩, fun a p e => ?_, fun a p e => ?_, fun a q e => ?_⟩
    · have hh : ∃ p', own a = some p' := by
        cases q : own a with
        | none => rw [ownL_none q] at e; cases e
        | some p' => exact ⟨p', rfl⟩
      obtain ⟨p', hp'⟩ := hh
      obtain ⟨o, ho⟩ := st.frm.alive a p' hp'
      by_cases ha : a ∈ L
      · obtain ⟨vs, hv⟩ := hLl a ha
        exact ⟨_, hli a vs ha hv⟩
      · exact ⟨o, by rw [hlo a ha]; exact ho⟩
    · rcases ownL_root rt e with ⟨⟨i, r, z⟩, _⟩ | ⟨_, i, r, z⟩
      · exact ⟨2, i, r, z⟩
      · exact ⟨2, i, r, z⟩
    · rcases ownL_root rt e with ⟨⟨i, r, z⟩, _⟩ | ⟨_, i, r, z⟩
      · exact .inr ⟨_, z⟩
      · exact .inr ⟨_, z⟩
  -- the temporaries that can be read at all
  have tmps : ∃ ts1 : List (V × Cl), ts1.length = ts.length ∧ ∀ k v c, ts1[k]? = some (v, c) → Own X.K (ownL L own) Hl v c.d c.o [1, k] := by
    refine ⟨ts.map fun _ => (.non, ⟨.non, .sh⟩), by rw [List.length_map], fun k v c e => ?_⟩
    rw [List.getElem?_map] at e
    cases q : ts[k]? with
    | none => rw [q] at e; cases e
    | some x =>
      rw [q] at e
      cases (Option.some.inj e)
      exact .sh .non
  obtain ⟨ts1, hts, htmp⟩ := tmps
  have st2 : St X.K F1 (ownL L own) σ (lckA env) ts1 Hl := by
    refine ⟨fr1, by unfold lckA; rw [List.length_map]; exact st.len, fun i c e => ?_, htmp, st.fix⟩
    unfold lckA at e
    rw [List.getElem?_map] at e
    cases q : env[i]? with
    | none => rw [q] at e; cases e
    | some x =>
      rw [q] at e
      cases x with
      | none => cases e
      | some c0 =>
        have e' : (lckO c0.d c0.o).map (fun d => (⟨d, .sh⟩ : Cl)) = some c := Option.some.inj e
        cases q2 : lckO c0.d c0.o with
        | none => rw [q2] at e'; cases e'
        | some d =>
          rw [q2] at e'
          cases (Option.some.inj e')
          obtain ⟨v, h1, h2⟩ := st.cell i c0 q
          exact ⟨v, h1, .sh (h2.locked hG (hk (k := 0) (i := i) rfl (.inl rfl)) d q2)⟩
  have key : tW X.K Fx Wo w σ Hl (fun v H' => (∀ a ∈ L, ∃ vs, H a = some (.lst vs) ∧ H' a = some (.frz (heapAt s.heap a) (.lst vs))) ∧ Q v (unlH L H H')) := by
    refine ⟨F1, ownL L own, lckA env, ts1, _, _, hf, st2, w', fun v H' own2 r env2 q st3 at3 => ?_, fun x env' own' cls d H' e => e.elim⟩
    obtain ⟨_, q⟩ := q
    cases r with
    | pk i => exact (show False from q).elim
    | tm c =>
      obtain ⟨hno, q2⟩ := q
      have st3' : St X.K F1 own2 σ env2 (ts1 ++ [(v, c)]) H' := st3
      have hkeep : ∀ a o, Hl a = some o → H' a = some o := fun a o e => st3'.frm.keep a o e fun r z => by
        have z' : ownL L own a = some (0 :: r) := z
        rcases ownL_root rt z' with ⟨⟨i, r, z⟩, _⟩ | ⟨_, i, r, z⟩ <;> cases z
      have hnew : ∀ a p, own2 a = some p → Hl a = none ∨ ∃ q, ownL L own a = some q := st3'.frm.new
      have lk : ∀ a ∈ L, ∃ vs, H a = some (.lst vs) ∧ H' a = some (.frz (heapAt s.heap a) (.lst vs)) := fun a ha => by
        obtain ⟨vs, hv⟩ := hLl a ha
        exact ⟨vs, hv, hkeep a _ (hli a vs ha hv)⟩
      refine ⟨lk, ?_⟩
      -- own things lie as they lay
      have same : ∀ a o, H a = some o → unlH L H H' a = some o := fun a o e => by
        unfold unlH
        by_cases ha : a ∈ L
        · rw [if_pos ha]; exact e
        · rw [if_neg ha]; exact hkeep a o (by rw [hlo a ha]; exact e)
      have hnone : ∀ a, own a = none → (∃ o, H a = some o) → own2 a = none := fun a e1 ⟨o, e2⟩ => by
        cases q : own2 a with
        | none => rfl
        | some p =>
          rcases hnew a p q with z | ⟨z, z2⟩
          · rw [hlo a (nL a e1), e2] at z; cases z
          · rw [ownL_none e1] at z2; cases z2
      have hG3 : ∀ a o, Gm own H a = some o → Gm (ownU ts.length own own2) (unlH L H H') a = some o := fun a o e => by
        obtain ⟨e1, e2⟩ := Gm_some e
        refine Gm_of ?_ (same a o e2)
        unfold ownU
        rw [e1, hnone a e1 ⟨o, e2⟩]
      have mv : ∀ {v : V} {d : Dv} {o : Ow} {p : Pth}, Own X.K own H v d o p → Own X.K (ownU ts.length own own2) (unlH L H H') v d o p := fun r => r.moveA hG3 fun a r e => ⟨ownU_some e, by
        obtain ⟨o, ho⟩ := st.frm.alive a _ e
        rw [ho]; exact same a o ho⟩
      have new2 : ∀ a p, own a = none → own2 a = some p → H a = none := fun a p e1 e2 => by
        cases q : H a with
        | none => rfl
        | some o => rw [hnone a e1 ⟨o, q⟩] at e2; cases e2
      have fr3 : Frm F (ownU ts.length own own2) (unlH L H H') := by
        refine ⟨fun a o e h => same a o (st.frm.keep a o e h), fun a r e => ownU_some (st.frm.out a r e), fun a r e => ?_, fun a p e => ?_, fun a p e => ?_, fun a p e => ?_, st.frm.ent⟩
        · cases q : own a with
          | some p =>
            rw [ownU_some q] at e
            cases e
            exact st.frm.back a r q
          | none =>
            obtain ⟨_, r', z⟩ := ownU_new q e
            cases z
        · cases q : own a with
          | some p' => exact st.frm.new a p' q
          | none =>
            obtain ⟨z, _⟩ := ownU_new q e
            have hna := new2 a p q z
            cases q1 : F.H0 a with
            | none => exact .inl rfl
            | some o =>
              cases q2 : F.own0 a with
              | some z => exact .inr ⟨z, rfl⟩
              | none =>
                rw [st.frm.keep a o q1 fun r z => by rw [q2] at z; cases z] at hna
                cases hna
        · cases q : own a with
          | some p' =>
            obtain ⟨o, ho⟩ := st.frm.alive a p' q
            exact ⟨o, same a o ho⟩
          | none =>
            obtain ⟨z, _⟩ := ownU_new q e
            obtain ⟨o, ho⟩ := st3'.frm.alive a p z
            exact ⟨o, by unfold unlH; rw [if_neg (nL a q)]; exact ho⟩
        · cases q : own a with
          | some p' =>
            rw [ownU_some q] at e
            cases e
            exact rt a p q
          | none =>
            obtain ⟨_, r', z⟩ := ownU_new q e
            exact ⟨1, _, r', z⟩
      have it := st3'.tmp ts1.length v c (by rw [List.getElem?_append_right (Nat.le_refl _)]; simp)
      rw [hts] at it
      have hGn : ∀ a o, (∀ od u, o ≠ .frz od (.lst u)) → Gm own2 H' a = some o → Gm (ownU ts.length own own2) (unlH L H H') a = some o := fun a o hno e => by
        obtain ⟨e1, e2⟩ := Gm_some e
        have ha : a ∉ L := fun z => by
          obtain ⟨vs, _, z2⟩ := lk a z
          rw [e2] at z2
          exact hno _ _ (Option.some.inj z2)
        have hown : own a = none := by
          cases q : own a with
          | none => rfl
          | some p =>
            have hsome : ∃ z, ownL L own a = some z := by
              cases z : ownL L own a with
              | some y => exact ⟨y, rfl⟩
              | none =>
                exfalso
                obtain ⟨k, i, r, rfl⟩ := rt a p q
                unfold ownL at z
                rw [q] at z
                split at z
                · cases z
                · rename_i z2
                  rw [if_neg ha] at z
                  cases z
                · rename_i z2; cases z2
            obtain ⟨z, hz⟩ := hsome
            have hz2 : ∃ r, z = 2 :: r := by
              rcases ownL_root rt hz with ⟨⟨i, r, zz⟩, _⟩ | ⟨_, i, r, zz⟩
              · exact ⟨i :: r, zz⟩
              · exact ⟨i :: r, zz⟩
            obtain ⟨r, rfl⟩ := hz2
            have := st3'.frm.out a r hz
            rw [e1] at this
            cases this
        refine Gm_of ?_ ?_
        · unfold ownU; rw [hown, e1]
        · unfold unlH; rw [if_neg ha]; exact e2
      have it2 : Own X.K (ownU ts.length own own2) (unlH L H H') v c.d c.o [1, ts.length] := by
        refine it.monoN hGn (fun a r e => ?_) hno
        have hown : own a = none := by
          cases q : own a with
          | none => rfl
          | some p =>
            exfalso
            rcases hnew a _ e with z | ⟨z, z2⟩
            · obtain ⟨o, ho⟩ := st.frm.alive a p q
              by_cases ha : a ∈ L
              · obtain ⟨vs, hv⟩ := hLl a ha
                rw [hli a vs ha hv] at z; cases z
              · rw [hlo a ha, ho] at z; cases z
            · have hz2 : ∃ r, z = 2 :: r := by
                rcases ownL_root rt z2 with ⟨⟨i, r, z⟩, _⟩ | ⟨_, i, r, z⟩ <;> exact ⟨_, z⟩
              obtain ⟨r', rfl⟩ := hz2
              have := st3'.frm.out a r' z2
              rw [e] at this
              cases this
        refine ⟨?_, ?_⟩
        · unfold ownU
          rw [hown, e]
          show (if ts.length = ts.length then some (1 :: ts.length :: r) else none) = _
          rw [if_pos rfl]; rfl
        · unfold unlH; rw [if_neg (nL a hown)]
      refine hq v _ _ (.tm c) env q2 ⟨fr3, st.len, fun i c' e => ?_, fun k w' c' e => ?_, st.fix⟩ .last
      · obtain ⟨v', h1, h2⟩ := st.cell i c' e
        exact ⟨v', h1, mv h2⟩
      · have e : (ts ++ [(v, c)])[k]? = some (w', c') := e
        rcases Nat.lt_trichotomy k ts.length with h | h | h
        · rw [List.getElem?_append_left h] at e
          exact mv (st.tmp k w' c' e)
        · subst h
          rw [List.getElem?_append_right (Nat.le_refl _)] at e
          simp at e
          obtain ⟨rfl, rfl⟩ := e
          exact it2
        · rw [List.getElem?_eq_none (by simp; omega)] at e
          cases e
  exact wpAny_mono (pe.run pins s σ Hl _ I1 key) (fun u s' ⟨v, H', I', rv, hlk, hQ⟩ => ⟨v, _, Inv.unlL (od := heapAt s.heap) hLn I' (fun a ha => ⟨hlk a ha, hn a ha⟩), rv, hQ⟩) fun _ _ x => x⟩
end
end Py
set_option Elab.async false
set_option linter.all false
set_option maxRecDepth 100000
set_option maxHeartbeats 400000
/-! Py, part X: stars in displays, a name's value moved, lists put together with what they own, spoil of anything, chains. -/
namespace Py
open PySem PySem.Spec PyProof.Rows L2
/-! ### [a, *xs] -/
def waStar (w : WE) (ws : WA) : WA := fun env Q E => w env (fun r e1 => on1 (lookS e1 r) fun c => onSeq c.d fun xs => c.o.flat = true ∧ ws e1 (fun rs e2 => Q (xs.map (fun d => R.tm ⟨d, .sh⟩) ++ rs) e2) E) E
section
variable {K : PySem.W.Frag} {F : Fm} {own own' : Addr → Option Pth} {σ : L2.St} {env : Env} {ts ex : List (V × Cl)} {H H' : Hp}
theorem paired_app {α β : Type} {p : α → β → Prop} : ∀ {as as' : List α} {bs bs' : List β}, Paired p as bs → Paired p as' bs' → Paired p (as ++ as') (bs ++ bs')
  | _, _, _, _, .nil, k => k
  | _, _, _, _, .cons h t, k => .cons h (paired_app t k)
theorem pushes_cat : ∀ {vs ws : List V} {rs qs : List R} {ts : List (V × Cl)}, vs.length = rs.length → pushes ts (vs ++ ws) (rs ++ qs) = pushes (pushes ts vs rs) ws qs
  | [], ws, [], qs, ts, _ => by unfold pushes; rfl
  | [], ws, _ :: _, qs, ts, h => by simp at h
  | _ :: _, ws, [], qs, ts, h => by simp at h
  | v :: vs, ws, r :: rs, qs, ts, h => by
    show pushes (push ts v r) (vs ++ ws) (rs ++ qs) = pushes (pushes (push ts v r) vs rs) ws qs
    exact pushes_cat (by simpa using h)
theorem St.push_shs : ∀ {vs : List V} {ds : List Dv} {ts : List (V × Cl)}, St K F own σ env ts H → Reps K (Gm own H) vs ds → St K F own σ env (pushes ts vs (ds.map fun d => R.tm ⟨d, .sh⟩)) H ∧ Paired (At σ ts.length (pushes ts vs (ds.map fun d => R.tm ⟨d, .sh⟩))) (ds.map fun d => R.tm ⟨d, .sh⟩) vs
  | [], _, ts, st, .nil => ⟨st, .nil⟩
  | v :: vs, d :: ds, ts, st, .cons a b => by
    have st1 : St K F own σ env (push ts v (.tm ⟨d, .sh⟩)) H := st.push_sh a
    obtain ⟨h1, h2⟩ := St.push_shs st1 b
    refine ⟨h1, .cons ?_ (Paired.mapP h2 fun r v h => h.less len_push)⟩
    obtain ⟨ex, ee⟩ := pushes_app vs (ds.map fun d => R.tm ⟨d, .sh⟩) (push ts v (.tm ⟨d, .sh⟩))
    show At σ ts.length (pushes (push ts v (.tm ⟨d, .sh⟩)) vs (ds.map fun d => R.tm ⟨d, .sh⟩)) (.tm ⟨d, .sh⟩) v
    rw [ee]
    exact At.last.more
theorem seq_own {v : V} {d : Dv} {o : Ow} {p : Pth} {xs : List Dv} (r : Own K own H v d o p) (f : o.flat = true) (hd : (d = .lst xs ∨ d = .lck xs ∨ ∃ ns, d = .scr ns ∧ xs = ns.map Dv.int) ∨ d = .tup xs) : ∃ a vs, v = .ref a ∧ (SqT K H a vs ∨ SqL K H a vs) ∧ Reps K (Gm own H) vs xs := by
  rcases hd with (rfl | rfl | ⟨ns, rfl, rfl⟩) | rfl
  · obtain ⟨a, vs, rfl, e, rs⟩ := r.lstF f
    exact ⟨a, vs, rfl, .inr (SqL.of e), rs⟩
  · obtain ⟨a, vs, rfl, e, rs⟩ := r.lckF
    exact ⟨a, vs, rfl, .inr e, rs⟩
  · cases r with
    | sh r => cases r with
      | scr e => exact ⟨_, _, rfl, .inr (sqL_mono Gm_le e), reps_ints ns⟩
  · obtain ⟨a, vs, rfl, e, rs⟩ := r.tupF f
    exact ⟨a, vs, rfl, .inl (sqT_mono Gm_le e), rs⟩
end
section
variable {X : Cx} {Fx : List Nat} {Wo : WX} {pos : Pos}
theorem pa_Wstar {e : Expr} {es : List Expr} {p : Pos} {w : WE} {ws : WA} (ha : PE X e (tW X.K Fx Wo w)) (hr : PA X es (tWA X.K Fx Wo ws)) (hs : starEach (.Starred e p :: es) X.env = (true, eval e X.env) :: starEach es X.env := by rfl) :
    PA X (.Starred e p :: es) (tWA X.K Fx Wo (waStar w ws)) := PA.imp (fun σ H Q h => by
  obtain ⟨F, own, env, ts, Qp, Ep, hf, st, w, hq, hx⟩ := h
  refine ⟨F, own, env, ts, _, Ep, hf, st, w, fun x H1 own1 r e1 w1 st1 a1 => ?_, hx⟩
  obtain ⟨c, ec, w2⟩ := on1_of w1
  obtain ⟨xs, hd, hfl, w3⟩ := onSeq_of w2
  obtain ⟨_, _, o1⟩ := st1.atS a1 ec
  obtain ⟨a, vs, rfl, hsq, rs⟩ := seq_own o1 hfl hd
  obtain ⟨ex1, ee1⟩ := push_app ts (V.ref a) r
  rw [ee1] at st1
  have st2 := st1.cut_app
  obtain ⟨st3, a3⟩ := st2.push_shs rs
  have hl : vs.length = (xs.map fun d => R.tm ⟨d, .sh⟩).length := by rw [List.length_map]; exact rs.length
  refine ⟨a, vs, rfl, hsq, F, _, e1, _, _, Ep, hf, st3, w3, fun ys H2 own2 qs e2 w4 st4 a4 => ?_, ?_⟩
  · rw [← pushes_cat hl] at st4
    refine hq (vs ++ ys) H2 own2 _ e2 w4 st4 ?_
    obtain ⟨ex, ee⟩ := pushes_app ys qs (pushes ts vs (xs.map fun d => R.tm ⟨d, .sh⟩))
    rw [pushes_cat hl]
    obtain ⟨ex0, ee0⟩ := pushes_app vs (xs.map fun d => R.tm ⟨d, .sh⟩) ts
    refine paired_app (Paired.mapP a3 fun r v h => ?_) (Paired.mapP a4 fun r v h => h.less (by rw [ee0, List.length_append]; exact Nat.le_add_right _ _))
    rw [ee]; exact h.more
  · obtain ⟨ex0, ee0⟩ := pushes_app vs (xs.map fun d => R.tm ⟨d, .sh⟩) ts
    rw [ee0]
    exact xok_cut hx) (StX.pa_star ha hr hs)
end
/-! ### a name's value moved: the name is forgotten -/
def wMov (i : Nat) : WE := fun env Q _ => on1 (env[i]?).join fun c => Q (.tm c) (env.set i none)
section
variable {K : PySem.W.Frag} {F : Fm} {own own' : Addr → Option Pth} {σ : L2.St} {env : Env} {ts ex : List (V × Cl)} {H H' : Hp}
theorem St.move {i : Nat} {v : V} {c : Cl} (s : St K F own σ env ts H) (e : (env[i]?).join = some c) (h : σ[i]? = some (some v)) : St K F (mapW (gSlT i ts.length) own) σ (env.set i none) (ts ++ [(v, c)]) H := by
  refine ⟨s.frm.mw (gSlT_ok _ _), by rw [List.length_set]; exact s.len, fun j c' ej => ?_, fun k w c' ek => ?_, s.fix⟩
  · have hne : i ≠ j := fun z => by
      subst z
      have hl : i < env.length := by have := (List.getElem?_eq_some_iff.mp ej).1; rw [List.length_set] at this; exact this
      rw [List.getElem?_set_self hl] at ej
      cases ej
    rw [List.getElem?_set_ne hne] at ej
    obtain ⟨w, h1, h2⟩ := s.cell j c' ej
    exact ⟨w, h1, h2.mw (by unfold gSlT; rw [if_neg (fun z => hne z.2.symm)])⟩
  · rcases Nat.lt_trichotomy k ts.length with hk | hk | hk
    · rw [List.getElem?_append_left hk] at ek
      exact (s.tmp k w c' ek).mw (by unfold gSlT; rw [if_neg (fun z => by simp at z)])
    · subst hk
      rw [List.getElem?_append_right (Nat.le_refl _)] at ek
      simp at ek
      obtain ⟨rfl, rfl⟩ := ek
      obtain ⟨w, h1, h2⟩ := s.cell i c (env_some e)
      rw [h] at h1
      cases h1
      exact h2.mw (by unfold gSlT; rw [if_pos ⟨rfl, rfl⟩])
    · rw [List.getElem?_eq_none (by simp; omega)] at ek
      cases ek
end
section
variable {X : Cx} {Fx : List Nat} {Wo : WX} {pos : Pos}
theorem mov_run {i : Nat} : ∀ σ H Q, tW X.K Fx Wo (wMov i) σ H Q → tVar i σ H Q := fun σ H Q h => by
  obtain ⟨F, own, env, ts, Qp, Ep, hf, st, w, hq, hx⟩ := h
  obtain ⟨c, ec, w2⟩ := on1_of w
  obtain ⟨v, h1, _⟩ := st.cell i c (env_some ec)
  exact ⟨v, h1, hq v H _ (.tm c) _ w2 (st.move ec h1) .last⟩
theorem pe_Wmov (i : Nat) {e : Expr} (h : PE X e (tVar i)) : PE X e (tW X.K Fx Wo (wMov i)) := PE.imp mov_run h
end
/-! ### xs + ys with what they own -/
def catO (os : List Ow) (n : Nat) (ps : List Ow) : List Ow := (os ++ List.replicate (n - os.length) Ow.sh).take n ++ ps
theorem catO_get (os : List Ow) (n : Nat) (ps : List Ow) : (∀ j, j < n → ((catO os n ps)[j]?).getD Ow.sh = (os[j]?).getD Ow.sh) ∧ ∀ j, ((catO os n ps)[n + j]?).getD Ow.sh = (ps[j]?).getD Ow.sh := by
  unfold catO
  have hl : ((os ++ List.replicate (n - os.length) Ow.sh).take n).length = n := by
    rw [List.length_take, List.length_append, List.length_replicate]; omega
  refine ⟨fun j hj => ?_, fun j => ?_⟩
  · rw [List.getElem?_append_left (by omega), List.getElem?_take_of_lt hj]
    rcases Nat.lt_or_ge j os.length with h | h
    · rw [List.getElem?_append_left h]
    · rw [List.getElem?_append_right h, List.getElem?_eq_none h]
      cases e : (List.replicate (n - os.length) Ow.sh)[j - os.length]? with
      | none => rfl
      | some x => have := List.mem_of_getElem? e; rw [List.mem_replicate] at this; rw [this.2]; rfl
  · rw [List.getElem?_append_right (by omega), hl, Nat.add_sub_cancel_left]
def wCat (wa wb : WE) : WE := fun env Q E => wa env (fun ra e1 => onTm ra fun _ => wb e1 (fun rb e2 => onTm ra fun a => onTm rb fun b => ∃ xs os ys ps, a = ⟨.lst xs, .nd os⟩ ∧ b = ⟨.lst ys, .nd ps⟩ ∧ xs.length + ys.length ≤ 100000 ∧ Q (.tm ⟨.lst (xs ++ ys), .nd (catO os xs.length ps)⟩) e2) E) E
section
variable {K : PySem.W.Frag} {F : Fm} {own own' : Addr → Option Pth} {σ : L2.St} {env : Env} {ts ex : List (V × Cl)} {H H' : Hp}
theorem Frm.gen (x : Frm F own H) (h1 : ∀ a q, own' a = some q → ∃ p, own a = some p ∧ (∃ k i r, q = k :: i :: r ∧ (k = 2 → q = p))) (h2 : ∀ a r, own a = some (2 :: r) → own' a = some (2 :: r)) : Frm F own' H := by
  refine ⟨x.keep, fun a r e => h2 a r (x.out a r e), fun a r e => ?_, fun a p e => ?_, fun a p e => ?_, fun a p e => ?_, x.ent⟩
  · obtain ⟨p, e1, k, i, r', e2, e3⟩ := h1 a _ e
    cases e2
    have := e3 rfl
    subst this
    exact x.back a _ e1
  · obtain ⟨p', e1, _⟩ := h1 a p e
    exact x.new a p' e1
  · obtain ⟨p', e1, _⟩ := h1 a p e
    exact x.alive a p' e1
  · obtain ⟨p', e1, k, i, r, e2, _⟩ := h1 a p e
    exact ⟨k, i, r, e2⟩
/-- the second list's parts behind the first one's -/
def catP (n m : Nat) : Pth → Pth
  | 1 :: i :: j :: r => if i = n + 1 then 1 :: n :: (m + j) :: r else 1 :: i :: j :: r
  | p => p
theorem catP_root (n m : Nat) {k i : Nat} {r : Pth} : ∃ k' i' r', catP n m (k :: i :: r) = k' :: i' :: r' ∧ (k' = 2 → catP n m (k :: i :: r) = k :: i :: r) := by
  by_cases hk : k = 1
  · subst hk
    cases r with
    | nil => exact ⟨1, i, [], rfl, fun z => rfl⟩
    | cons j r =>
      by_cases hi : i = n + 1
      · refine ⟨1, n, (m + j) :: r, ?_, fun z => by cases z⟩
        show (if i = n + 1 then _ else _) = _
        rw [if_pos hi]
      · refine ⟨1, i, j :: r, ?_, fun z => by cases z⟩
        show (if i = n + 1 then _ else _) = _
        rw [if_neg hi]
  · have e : catP n m (k :: i :: r) = k :: i :: r := by
      unfold catP
      split
      · rename_i z; cases z; exact absurd rfl hk
      · rfl
    exact ⟨k, i, r, e, fun _ => e⟩
theorem catP_no (n m : Nat) {k i : Nat} {r : Pth} (h : ¬ (k = 1 ∧ i = n + 1)) : catP n m (k :: i :: r) = k :: i :: r := by
  unfold catP
  split
  · rename_i j r' z
    cases z
    rw [if_neg fun z => h ⟨rfl, z⟩]
  · rfl
theorem St.cat {v w : V} {xs ys : List Dv} {os ps : List Ow} (st : St K F own σ env (ts ++ [(v, ⟨.lst xs, .nd os⟩)] ++ [(w, ⟨.lst ys, .nd ps⟩)]) H) : ∃ a b vs ws, v = .ref a ∧ w = .ref b ∧ H a = some (.lst vs) ∧ H b = some (.lst ws) ∧ vs.length = xs.length ∧ ws.length = ys.length ∧
    ∀ q, H q = none → ∃ own', St K F own' σ env (ts ++ [(.ref q, ⟨.lst (xs ++ ys), .nd (catO os xs.length ps)⟩)]) (upd H q (.lst (vs ++ ws))) := by
  have ov : Own K own H v (.lst xs) (.nd os) [1, ts.length] := st.tmp ts.length v ⟨.lst xs, .nd os⟩ (by rw [List.append_assoc, List.getElem?_append_right (Nat.le_refl _)]; simp)
  have ow : Own K own H w (.lst ys) (.nd ps) [1, ts.length + 1] := st.tmp (ts.length + 1) w ⟨.lst ys, .nd ps⟩ (by rw [List.getElem?_append_right (by simp)]; simp)
  cases ov with
  | lst e1 e2 q1 =>
    cases ow with
    | lst f1 f2 q2 =>
      rename_i a vs b ws
      have l1 := q1.length
      have l2 := q2.length
      refine ⟨a, b, vs, ws, rfl, rfl, e2, f2, l1, l2, fun q hq => ?_⟩
      have hqn : own q = none := fresh_own st.frm.alive hq
      have rt := st.frm.root
      let own1 : Addr → Option Pth := fun x => (own x).map (catP ts.length xs.length)
      have o1 : ∀ x p, own x = some p → own1 x = some (catP ts.length xs.length p) := fun x p e => by show (own x).map _ = _; rw [e]; rfl
      have o0 : ∀ x, own x = none → own1 x = none := fun x e => by show (own x).map _ = _; rw [e]; rfl
      have fr1 : Frm F own1 H := st.frm.gen (fun x p e => by
        cases z : own x with
        | none => rw [o0 x z] at e; cases e
        | some p' =>
          rw [o1 x p' z] at e
          cases e
          obtain ⟨k, i, r, rfl⟩ := rt x p' z
          obtain ⟨k', i', r', h1, h2⟩ := catP_root ts.length xs.length (k := k) (i := i) (r := r)
          exact ⟨_, rfl, k', i', r', h1, h2⟩) fun x r e => by
        obtain ⟨k, i, r', z⟩ := rt x _ e
        cases z
        rw [o1 x _ e, catP_no _ _ (by simp)]
      have nt : NewT K [1, ts.length] own1 H (setO own1 q [1, ts.length]) (upd H q (.lst (vs ++ ws))) (.ref q) ⟨.lst (xs ++ ys), .nd (catO os xs.length ps)⟩ := by
        have hG : ∀ x o, Gm own H x = some o → Gm (setO own1 q [1, ts.length]) (upd H q (.lst (vs ++ ws))) x = some o := fun x o e => by
          obtain ⟨g1, g2⟩ := Gm_some e
          have hne : x ≠ q := ne_of_none g2 hq
          exact Gm_of (by rw [setO_ne hne]; exact o0 x g1) (by rw [upd_ne hne]; exact g2)
        have hmv : ∀ x p, own x = some p → setO own1 q [1, ts.length] x = some (catP ts.length xs.length p) ∧ upd H q (.lst (vs ++ ws)) x = H x := fun x p e => by
          have hne : x ≠ q := fun z => by rw [z, hqn] at e; cases e
          exact ⟨by rw [setO_ne hne]; exact o1 x p e, upd_ne hne⟩
        have al1 : Alive own1 H := fr1.alive
        refine ⟨Same_upd hq, fun x p e => ?_, fun x p e => ?_, fun x p e => ?_, .lst setO_same upd_same (Owns.of_get (by simp [l1, l2]) fun j u d hu hd => ?_)⟩
        · rw [setO_ne (fun z => by rw [z, o0 q hqn] at e; cases e)]; exact e
        · by_cases hx : x = q
          · subst hx
            rw [setO_same] at e
            cases e
            exact .inr ⟨hq, [], rfl⟩
          · rw [setO_ne hx] at e; exact .inl e
        · by_cases hx : x = q
          · subst hx; exact ⟨_, upd_same⟩
          · rw [setO_ne hx] at e
            obtain ⟨o, z⟩ := al1 x p e
            exact ⟨o, by rw [upd_ne hx]; exact z⟩
        · rw [Nat.zero_add]
          rcases Nat.lt_or_ge j vs.length with hj | hj
          · rw [List.getElem?_append_left hj] at hu
            rw [List.getElem?_append_left (by omega)] at hd
            rw [(catO_get os xs.length ps).1 j (by omega)]
            have h1 := q1.get hu hd
            rw [Nat.zero_add] at h1
            refine h1.moveA hG fun x r e => ?_
            have h2 := hmv x _ e
            have e3 : ([1, ts.length] ++ [j] : Pth) ++ r = 1 :: ts.length :: (j :: r) := rfl
            rw [e3] at h2 ⊢
            rw [catP_no _ _ (by simp)] at h2
            exact h2
          · obtain ⟨t, rfl⟩ : ∃ t, j = vs.length + t := ⟨j - vs.length, by omega⟩
            rw [List.getElem?_append_right (by omega), Nat.add_sub_cancel_left] at hu
            rw [l1, List.getElem?_append_right (by omega), Nat.add_sub_cancel_left] at hd
            rw [l1, (catO_get os xs.length ps).2 t]
            have h1 := q2.get hu hd
            rw [Nat.zero_add] at h1
            refine h1.moveA hG fun x r e => ?_
            have h2 := hmv x _ e
            have e3 : ([1, ts.length + 1] ++ [t] : Pth) ++ r = 1 :: (ts.length + 1) :: (t :: r) := rfl
            have e4 : ([1, ts.length] ++ [xs.length + t] : Pth) ++ r = 1 :: ts.length :: ((xs.length + t) :: r) := rfl
            rw [e3] at h2
            rw [e4]
            have e5 : catP ts.length xs.length (1 :: (ts.length + 1) :: (t :: r)) = 1 :: ts.length :: ((xs.length + t) :: r) := by
              show (if ts.length + 1 = ts.length + 1 then _ else _) = _
              rw [if_pos rfl]
            rw [e5] at h2
            exact h2
      -- the two lists are given up
      have st0 : St K F own1 σ env ts H := by
        have mvo : ∀ {u : V} {d : Dv} {o : Ow} {k i : Nat}, ¬ (k = 1 ∧ i = ts.length + 1) → Own K own H u d o [k, i] → Own K own1 H u d o [k, i] := fun {u d o k i} hne r => r.moveA (fun x o e => by
          obtain ⟨g1, g2⟩ := Gm_some e
          exact Gm_of (o0 x g1) g2) fun x r e => by
          have e3 : ([k, i] : Pth) ++ r = k :: i :: r := rfl
          rw [e3] at e ⊢
          rw [o1 x _ e, catP_no _ _ hne]
          exact ⟨rfl, rfl⟩
        refine ⟨fr1, st.len, fun i c e => ?_, fun k u c e => ?_, st.fix⟩
        · obtain ⟨u, h1, h2⟩ := st.cell i c e
          exact ⟨u, h1, mvo (by simp) h2⟩
        · have hk : k < ts.length := (List.getElem?_eq_some_iff.mp e).1
          exact mvo (by omega) (st.tmp k u c (by rw [List.append_assoc, List.getElem?_append_left hk]; exact e))
      exact ⟨_, st0.newT nt⟩
end
section
variable {X : Cx} {Fx : List Nat} {Wo : WX} {pos : Pos}
theorem cat_run {wa wb : WE} : ∀ σ H Q, tW X.K Fx Wo (wCat wa wb) σ H Q → tOp rCat (tW X.K Fx Wo wa) (tW X.K Fx Wo wb) σ H Q := fun σ H Q h => by
  obtain ⟨F, own, env, ts, Qp, Ep, hf, st, w, hq, hx⟩ := h
  refine ⟨F, own, env, ts, _, Ep, hf, st, w, fun x H1 own1 ra e1 w1 st1 a1 => ?_, hx⟩
  cases ra with
  | pk i => exact w1.elim
  | tm ca =>
    refine ⟨F, own1, e1, _, _, Ep, hf, st1, w1, fun y H2 own2 rb e2 w2 st2 a2 => ?_, xok_push hx _ _⟩
    cases rb with
    | pk i => exact (show False from w2).elim
    | tm cb =>
      obtain ⟨xs, os, ys, ps, rfl, rfl, hl, w3⟩ := w2
      have st2' : St X.K F own2 σ e2 (ts ++ [(x, ⟨.lst xs, .nd os⟩)] ++ [(y, ⟨.lst ys, .nd ps⟩)]) H2 := st2
      obtain ⟨a, b, vs, ws, rfl, rfl, h1, h2, l1, l2, k⟩ := st2'.cat
      refine ⟨a, b, vs, ws, rfl, rfl, h1, h2, by rw [l1, l2, sizeLine_eq]; omega, fun q hq' => ?_⟩
      obtain ⟨own', st3⟩ := k q hq'
      exact hq _ _ own' (.tm _) _ w3 st3 .last
theorem pe_Wcat {a b : Expr} {wa wb : WE} (ha : PE X a (tW X.K Fx Wo wa)) (hb : PE X b (tW X.K Fx Wo wb)) : PE X (.BinOp a .Add b pos) (tW X.K Fx Wo (wCat wa wb)) := PE.imp cat_run (pe_op op_cat ha hb)
end
end Py
set_option Elab.async false
set_option linter.all false
set_option maxRecDepth 100000
set_option maxHeartbeats 400000
/-! Py, part Y: spoil of anything, chains of two comparisons, the facts of a head with classes. -/
namespace Py
open PySem PySem.Spec PyProof.Rows L2
/-- no list within -/
def leafD : Nat → Dv → Prop
  | 0, d => d.scal = true
  | n + 1, d => d.scal = true ∨ ∃ xs, d = .tup xs ∧ ∀ x ∈ xs, leafD n x
/-- all lists within are owned; at most c of them -/
def deepP : Nat → Dv → Ow → Nat → Prop
  | 0, d, _, _ => d.scal = true
  | n + 1, d, o, c => d.scal = true ∨ (∃ xs, d = .tup xs ∧ xs.all Dv.scal = true) ∨ (∃ xs os b, d = .lst xs ∧ o = .nd os ∧ xs.length ≤ 80000 ∧ (∀ (j : Nat) (x : Dv), xs[j]? = some x → deepP n x ((os[j]?).getD .sh) b) ∧ xs.length * b + 1 ≤ c) ∨ (o = .sh ∧ leafD (n + 1) d)
section
variable {K : PySem.W.Frag} {F : Fm} {own own' : Addr → Option Pth} {σ : L2.St} {env : Env} {ts ex : List (V × Cl)} {H H' : Hp}
theorem scal_leaf {v : V} {d : Dv} {o : Ow} {p : Pth} (r : Own K own H v d o p) (h : d.scal = true) : (leafT v).isSome = true := by
  cases d with
  | non => rw [r.non]; rfl
  | bl b => rw [r.bl]; rfl
  | int i => rw [r.int]; rfl
  | str x => rw [r.str]; rfl
  | _ => cases h
theorem hold_leaf {v : V} (h : (leafT v).isSome = true) : ∀ n, Hold K H n v []
  | 0 => ⟨h, rfl⟩
  | _ + 1 => .inl ⟨h, rfl⟩
theorem reps_leaf {G : Hp} (n : Nat) : ∀ {vs : List V} {ds : List Dv}, Reps K G vs ds → ds.all Dv.scal = true → Paired (Hold K H n) vs (vs.map fun _ => [])
  | [], _, .nil, _ => .nil
  | v :: vs, d :: ds, .cons a b, h => by
    rw [List.all_cons, Bool.and_eq_true] at h
    have hl : (leafT v).isSome = true := by cases a <;> first | rfl | (cases h.1; done)
    exact .cons (hold_leaf hl n) (reps_leaf n b h.2)
theorem flat_nil {α : Type} : ∀ vs : List α, (vs.map fun _ => ([] : List Addr)).flatten = []
  | [] => rfl
  | _ :: vs => by rw [List.map_cons, List.flatten_cons, flat_nil vs]; rfl
/-- what is told of the lists within -/
structure Hs (K : PySem.W.Frag) (own : Addr → Option Pth) (H : Hp) (p : Pth) (as : List Addr) (c : Nat) : Prop where
  own : ∀ a ∈ as, ∃ r, own a = some (p ++ r)
  lst : ∀ a ∈ as, ∃ vs, H a = some (.lst vs) ∧ vs.length ≤ 80000
  nd : as.Nodup
  len : as.length ≤ c
theorem Hs.nil {p : Pth} {c : Nat} : Hs K own H p [] c := ⟨fun a h => (nomatch h), fun a h => (nomatch h), List.nodup_nil, Nat.zero_le _⟩
theorem rep_leafH {G : Hp} (hG : ∀ a o, G a = some o → H a = some o) : ∀ {n : Nat} {v : V} {d : Dv}, Rep K G v d → leafD n d → Hold K H n v []
  | 0, v, d, r, h => hold_leaf (by
      have h2 : d.scal = true := h
      cases r <;> first | rfl | (cases h2; done)) 0
  | n + 1, v, d, r, h => by
    rcases h with h | ⟨xs, rfl, h⟩
    · exact hold_leaf (by cases r <;> first | rfl | (cases h; done)) _
    · cases r with
      | tup e q =>
        rename_i a vs
        have : ∀ {vs : List V} {ds : List Dv}, Reps K G vs ds → (∀ x ∈ ds, leafD n x) → Paired (Hold K H n) vs (vs.map fun _ => []) := by
          intro vs
          induction vs with
          | nil => intro ds _ _; exact .nil
          | cons v vs ih =>
            intro ds q h
            cases q with
            | cons a b => exact .cons (rep_leafH hG a (h _ List.mem_cons_self)) (ih b fun x hx => h x (List.mem_cons_of_mem _ hx))
        exact .inr (.inr ⟨a, vs, _, rfl, sqT_mono hG e, this q h, by rw [flat_nil]⟩)
theorem own_hold : ∀ {n : Nat} {v : V} {d : Dv} {o : Ow} {p : Pth} {c : Nat}, Own K own H v d o p → deepP n d o c → ∃ as, Hold K H n v as ∧ Hs K own H p as c ∧ ∀ xs, d = .lst xs → ∃ L as', v = .ref L ∧ as = L :: as'
  | 0, v, d, o, p, c, r, h => ⟨[], hold_leaf (scal_leaf r h) 0, .nil, fun xs e => by subst e; cases h⟩
  | n + 1, v, d, o, p, c, r, h => by
    rcases h with h | ⟨xs, rfl, h⟩ | ⟨xs, os, b, rfl, rfl, hl, hd, hc⟩ | ⟨rfl, h⟩
    rotate_left 3
    · refine ⟨[], ?_, .nil, fun xs e => by
        subst e
        rcases h with h | ⟨_, e, _⟩
        · cases h
        · cases e⟩
      cases r with
      | sh r => exact rep_leafH Gm_le r h
    · exact ⟨[], hold_leaf (scal_leaf r h) _, .nil, fun xs e => by subst e; cases h⟩
    · have : ∃ a vs, v = .ref a ∧ SqT K H a vs ∧ Paired (Hold K H n) vs (vs.map fun _ => []) := by
        cases r with
        | sh r => cases r with | tup e q => exact ⟨_, _, rfl, sqT_mono Gm_le e, reps_leaf n q h⟩
        | tup e q =>
          rename_i a vs os
          refine ⟨a, vs, rfl, sqT_mono Gm_le e, ?_⟩
          have : ∀ {vs : List V} {ds : List Dv} {os : List Ow} {i : Nat}, Owns K own H vs ds os p i → ds.all Dv.scal = true → Paired (Hold K H n) vs (vs.map fun _ => []) := by
            intro vs
            induction vs with
            | nil => intro ds os i q _; exact .nil
            | cons v vs ih =>
              intro ds os i q h
              cases q with
              | cons a b =>
                rw [List.all_cons, Bool.and_eq_true] at h
                exact .cons (hold_leaf (scal_leaf a h.1) n) (ih b h.2)
          exact this q h
      obtain ⟨a, vs, rfl, hs, hp⟩ := this
      exact ⟨[], .inr (.inr ⟨a, vs, _, rfl, hs, hp, by rw [flat_nil]⟩), .nil, fun xs e => by cases e⟩
    · cases r with
      | lst e1 e2 q =>
        rename_i a vs
        have ih : ∀ {v : V} {d : Dv} {o : Ow} {p : Pth} {c : Nat}, Own K own H v d o p → deepP n d o c → ∃ as, Hold K H n v as ∧ Hs K own H p as c := fun r h => let ⟨as, h1, h2, _⟩ := own_hold r h; ⟨as, h1, h2⟩
        have : ∀ {vs : List V} {ds : List Dv} {os : List Ow} {i : Nat}, Owns K own H vs ds os p i → (∀ (j : Nat) (x : Dv), ds[j]? = some x → deepP n x ((os[j]?).getD .sh) b) → ∃ ass, Paired (Hold K H n) vs ass ∧
            (∀ a ∈ ass.flatten, ∃ j r, i ≤ j ∧ own a = some (p ++ j :: r)) ∧ (∀ a ∈ ass.flatten, ∃ vs, H a = some (.lst vs) ∧ vs.length ≤ 80000) ∧ ass.flatten.Nodup ∧ ass.flatten.length ≤ ds.length * b := by
          intro vs
          induction vs with
          | nil => intro ds os i q _; cases q; exact ⟨[], .nil, fun a h => (nomatch h), fun a h => (nomatch h), List.nodup_nil, Nat.zero_le _⟩
          | cons v vs ihv =>
            intro ds os i q h
            cases q with
            | cons x y =>
              rename_i d ds
              have h0 := h 0 d rfl
              have eo : (os[0]?).getD Ow.sh = os.headD .sh := by cases os <;> rfl
              rw [eo] at h0
              obtain ⟨as, k1, k2⟩ := ih x h0
              obtain ⟨ass, m1, m2, m3, m4, m5⟩ := ihv y fun j z e => by
                have := h (j + 1) z (by simpa using e)
                cases os with
                | nil => simpa using this
                | cons o os => simpa using this
              refine ⟨as :: ass, .cons k1 m1, fun a ha => ?_, fun a ha => ?_, ?_, ?_⟩
              · rw [List.flatten_cons, List.mem_append] at ha
                rcases ha with ha | ha
                · obtain ⟨r, e⟩ := k2.own a ha
                  exact ⟨i, r, Nat.le_refl _, by rw [List.append_assoc] at e; exact e⟩
                · obtain ⟨j, r, e1, e2⟩ := m2 a ha
                  exact ⟨j, r, by omega, e2⟩
              · rw [List.flatten_cons, List.mem_append] at ha
                rcases ha with ha | ha
                · exact k2.lst a ha
                · exact m3 a ha
              · rw [List.flatten_cons, List.nodup_append]
                refine ⟨k2.nd, m4, fun a ha c hc => ?_⟩
                rintro rfl
                obtain ⟨r, e⟩ := k2.own a ha
                obtain ⟨j, r', e1, e2⟩ := m2 a hc
                rw [e] at e2
                have e3 := Option.some.inj e2
                rw [List.append_assoc] at e3
                have e4 := List.append_cancel_left e3
                have e5 : i = j := (List.cons.inj e4).1
                omega
              · rw [List.flatten_cons, List.length_append, List.length_cons]
                have := k2.len
                have e : (ds.length + 1) * b = ds.length * b + b := Nat.succ_mul _ _
                omega
        obtain ⟨ass, m1, m2, m3, m4, m5⟩ := this q hd
        have hna : a ∉ ass.flatten := fun ha => by
          obtain ⟨j, r, _, e⟩ := m2 a ha
          rw [e1] at e
          have e' := Option.some.inj e
          have : p.length = (p ++ j :: r).length := congrArg List.length e'
          rw [List.length_append, List.length_cons] at this
          omega
        refine ⟨a :: ass.flatten, .inr (.inl ⟨a, vs, ass, rfl, e2, m1, rfl⟩), ⟨fun x hx => ?_, fun x hx => ?_, List.nodup_cons.mpr ⟨hna, m4⟩, by rw [List.length_cons]; omega⟩, fun _ _ => ⟨a, _, rfl, rfl⟩⟩
        · rcases List.mem_cons.mp hx with rfl | hx
          · exact ⟨[], by rw [List.append_nil]; exact e1⟩
          · obtain ⟨j, r, _, e⟩ := m2 x hx
            exact ⟨j :: r, e⟩
        · rcases List.mem_cons.mp hx with rfl | hx
          · exact ⟨vs, e2, by rw [q.length]; exact hl⟩
          · exact m3 x hx
/-- the temporaries from the n-th on are changed, and given up -/
theorem St.changed (st : St K F own σ env (ts ++ ex) H) (hH : ∀ b o, H b = some o → (∀ i r, own b = some (1 :: i :: r) → i < ts.length) → H' b = some o) : ∃ own', St K F own' σ env ts H' := by
  have rt := st.frm.root
  refine ⟨dropW (fun k i => k == 1 && decide (ts.length ≤ i)) own, ?_⟩
  have st0 := st.cut_app
  have dn : ∀ a, dropW (fun k i => k == 1 && decide (ts.length ≤ i)) own a = none → own a = none ∨ ∃ i r, own a = some (1 :: i :: r) ∧ ts.length ≤ i := fun a h => by
    cases q : own a with
    | none => exact .inl rfl
    | some p =>
      obtain ⟨k, i, r, rfl⟩ := rt a p q
      cases e : (k == 1 && decide (ts.length ≤ i)) with
      | false => rw [dw_out q e] at h; cases h
      | true =>
        rw [Bool.and_eq_true] at e
        have e1 := beq_iff_eq.mp e.1
        subst e1
        exact .inr ⟨i, r, rfl, of_decide_eq_true e.2⟩
  have some' : ∀ a k i r, own a = some (k :: i :: r) → (k = 1 → i < ts.length) → ∀ o, H a = some o → H' a = some o := fun a k i r e h o ho => hH a o ho fun i' r' e' => by
    rw [e] at e'
    cases e'
    exact h rfl
  -- the old values are told anew, by the owners that they had
  have fr : Frm F (dropW (fun k i => k == 1 && decide (ts.length ≤ i)) own) H' := by
    refine ⟨fun a o e h => ?_, st0.frm.out, st0.frm.back, st0.frm.new, fun a p e => ?_, st0.frm.root, st0.frm.ent⟩
    · have h1 := st.frm.keep a o e h
      refine hH a o h1 fun i r e' => ?_
      exfalso
      rcases st.frm.new a _ e' with z | ⟨q, z⟩
      · rw [e] at z; cases z
      · rcases st.frm.ent a q z with ⟨r', rfl⟩ | ⟨r', rfl⟩
        · exact h r' z
        · have := st.frm.out a r' z
          rw [e'] at this; cases this
    · obtain ⟨k, i, r, rfl⟩ := st0.frm.root a p e
      obtain ⟨o, ho⟩ := st0.frm.alive a _ e
      obtain ⟨e1, e2⟩ := dw_some e
      refine ⟨o, some' a k i r e1 (fun hk => ?_) o ho⟩
      subst hk
      simp at e2
      exact e2
  have mv : ∀ {v : V} {d : Dv} {o : Ow} {k i : Nat}, (k = 1 → i < ts.length) → Own K own H v d o [k, i] → Own K (dropW (fun k i => k == 1 && decide (ts.length ≤ i)) own) H' v d o [k, i] := fun {v d o k i} hki r => by
    have hf : (k == 1 && decide (ts.length ≤ i)) = false := by
      cases e : (k == 1 && decide (ts.length ≤ i)) with
      | false => rfl
      | true =>
        rw [Bool.and_eq_true] at e
        have := hki (beq_iff_eq.mp e.1)
        have := of_decide_eq_true e.2
        omega
    refine r.moveA (fun a o e => ?_) fun a r e => ⟨dw_out e hf, ?_⟩
    · obtain ⟨e1, e2⟩ := Gm_some e
      exact Gm_of (dw_none e1) (hH a o e2 fun i r z => by rw [e1] at z; cases z)
    · obtain ⟨o, ho⟩ := st.frm.alive a _ e
      rw [ho, some' a k i r e hki o ho]
  refine ⟨fr, st.len, fun i c e => ?_, fun k v c e => ?_, st.fix⟩
  · obtain ⟨v, h1, h2⟩ := st.cell i c e
    exact ⟨v, h1, mv (fun z => by cases z) h2⟩
  · have hk : k < ts.length := (List.getElem?_eq_some_iff.mp e).1
    exact mv (fun _ => hk) (st.tmp k v c (by rw [List.getElem?_append_left hk]; exact e))
end
def wSpoilT (n : Nat) (w : WE) : WE := fun env Q E => w env (fun r e1 => onTm r fun c => (∃ xs os, c = ⟨.lst xs, .nd os⟩) ∧ deepP n c.d c.o 80000 ∧ Q (.tm ⟨.bl true, .sh⟩) e1) E
/-- _law_spoil of any value -/
structure SpoilG (P : Program) (w : World) (K : PySem.W.Frag) (mg : Str → Option Value) (base : Heap) (n k : Nat) : Prop where
  ex : ∃ (f : Addr) (fd : FuncData), mg "_law_spoil" = some (.ref f) ∧ PySem.W.keepIn K (.ref f) = true ∧ Binds K fd ["_law_values"] [] ∧ FnOk P w K mg base (L2.CX P w) k f fd ["_law_values"] (spSpG K n)
section
variable {X : Cx} {Fx : List Nat} {Wo : WX} {pos : Pos}
theorem spoilT_run {n : Nat} {w : WE} {E : L2.St → XK} : ∀ σ H Q, tW X.K Fx Wo (wSpoilT (n + 1) w) σ H Q → tCallSD (spSpG X.K (n + 1)) [] E (tCons (tW X.K Fx Wo w) tNil) σ H Q := fun σ H Q h => by
  obtain ⟨F, own, env, ts, Qp, Ep, hf, st, w, hq, hx⟩ := h
  refine ⟨F, own, env, ts, _, Ep, hf, st, w, fun v H1 own1 r e1 w1 st1 a1 => ?_, hx⟩
  cases r with
  | pk i => exact w1.elim
  | tm c =>
    obtain ⟨⟨xs, os, rfl⟩, hd, w2⟩ := w1
    have st1' : St X.K F own1 σ e1 (ts ++ [(v, ⟨.lst xs, .nd os⟩)]) H1 := st1
    have ov : Own X.K own1 H1 v (.lst xs) (.nd os) [1, ts.length] := st1'.tmp ts.length v ⟨.lst xs, .nd os⟩ (by rw [List.getElem?_append_right (Nat.le_refl _)]; simp)
    obtain ⟨as0, hh, hs, hz⟩ := own_hold ov hd
    obtain ⟨L, as, rfl, rfl⟩ := hz xs rfl
    obtain ⟨xss, hp⟩ : ∃ xss, Paired (fun a xs => H1 a = some (.lst xs) ∧ xs.length ≤ 90000) as xss := by
      have h2 : ∀ a ∈ as, ∃ vs, H1 a = some (.lst vs) ∧ vs.length ≤ 80000 := fun a ha => hs.lst a (List.mem_cons_of_mem _ ha)
      clear hs hh hz
      induction as with
      | nil => exact ⟨[], .nil⟩
      | cons a as ih =>
        obtain ⟨ys, e1, e2⟩ := h2 a List.mem_cons_self
        obtain ⟨xss, k⟩ := ih fun b hb => h2 b (List.mem_cons_of_mem _ hb)
        exact ⟨ys :: xss, .cons ⟨e1, by omega⟩ k⟩
    have hnd := List.nodup_cons.mp hs.nd
    have hlen := hs.len
    rw [List.length_cons] at hlen
    refine ⟨.ref L, L, as, xss, rfl, hh, by omega, hnd.2, hp, fun H' k1 k2 => ?_⟩
    obtain ⟨own', st2⟩ := St.changed (ts := ts) (H' := H') st1' fun b o e h => k1 b o e fun hb => by
      obtain ⟨r, er⟩ := hs.own b (List.mem_cons_of_mem _ hb)
      have := h ts.length r er
      omega
    exact hq _ _ own' (.tm ⟨.bl true, .sh⟩) _ w2 (st2.push_sh (.bl true)) .last
theorem pe_WspoilT {n k : Nat} {e : Expr} {w : WE} {p : Pos} (R : SpoilG X.prog X.w X.K X.mg X.base (n + 1) k) (hr : Room k X.A) (tk : Takes X Wo) (hg : Gl X "_law_spoil") (he : PE X e (tW X.K Fx Wo w)) (hs : starEach [e] X.env = (false, eval e X.env) :: starEach [] X.env := by rfl) (hpl : (backTo pos (starEach [] X.env)).any (·.1) = false := by rfl) :
    PE X (.Call (.Name "_law_spoil" p) [e] [] pos) (tW X.K Fx Wo (wSpoilT (n + 1) w)) := by
  obtain ⟨f, fd, h1, h2, h3, h4⟩ := R.ex
  exact PE.imp spoilT_run (pe_callSD h4 hr hg h1 h2 h3 .nil (fun σ => passAt tk σ) (pa_cons he pa_nil hs) (by decide) hs hpl)
end
/-! ### a < b < c -/
def wChain (g g' : G2) (wa wb wc : WE) : WE := fun env Q E => wa env (fun ra e1 => wb e1 (fun rb e2 => on1 (lookS e2 ra) fun a => on1 (lookS e2 rb) fun b => b.d.scal = true ∧ g a b fun z => onBl (some z) fun k => if k = true then wc e2 (fun rc e3 => on1 (lookS e3 rc) fun c => g' ⟨b.d, .sh⟩ c fun z2 => Q (.tm z2) e3) E else Q (.tm ⟨.bl false, .sh⟩) e2) E) E
section
variable {X : Cx} {Fx : List Nat} {Wo : WX} {pos : Pos}
theorem chain_run {r r' : R2} {g g' : G2} {wa wb wc : WE} (hs : Sem2 X.K r g) (hs' : Sem2 X.K r' g') : ∀ σ H Q, tW X.K Fx Wo (wChain g g' wa wb wc) σ H Q → tChain r r' (tW X.K Fx Wo wa) (tW X.K Fx Wo wb) (tW X.K Fx Wo wc) σ H Q := fun σ H Q h => by
  obtain ⟨F, own, env, ts, Qp, Ep, hf, st, w, hq, hx⟩ := h
  refine ⟨F, own, env, ts, _, Ep, hf, st, w, fun x H1 own1 ra e1 w1 st1 a1 => ?_, hx⟩
  obtain ⟨ex1, ee1⟩ := push_app ts x ra
  refine ⟨F, own1, e1, _, _, Ep, hf, st1, w1, fun y H2 own2 rb e2 w2 st2 a2 => ?_, xok_push hx _ _⟩
  obtain ⟨a, ea, w3⟩ := on1_of w2
  obtain ⟨b, eb, hsc, w4⟩ := on1_of w3
  have a1' : At σ ts.length (push (push ts x ra) y rb) ra x := a1.pushR
  have a2' : At σ ts.length (push (push ts x ra) y rb) rb y := a2.less len_push
  obtain ⟨_, _, o1⟩ := st2.atS a1' ea
  obtain ⟨_, _, o2⟩ := st2.atS a2' eb
  obtain ⟨ex2, ee2⟩ := push_app (push ts x ra) y rb
  rw [ee2, ee1, List.append_assoc] at st2
  have st3 := st2.cut_app
  refine hs [1, ts.length] _ _ _ _ _ _ _ _ _ _ st3.frm.alive o1 o2 w4 fun z c own' H' hc n => ?_
  obtain ⟨k, o, ek, hk⟩ := onBl_of hc
  cases (Option.some.inj ek)
  have ez : z = .bl k := n.it.bl
  have st4 := (st3.newT n).cut_app
  refine ⟨k, ez, ?_⟩
  cases k with
  | false =>
    rw [if_neg Bool.false_ne_true] at hk ⊢
    exact hq _ _ _ (.tm ⟨.bl false, .sh⟩) _ hk (st4.push_sh (.bl false)) .last
  | true =>
    rw [if_pos rfl] at hk ⊢
    refine ⟨F, _, e2, ts, _, Ep, hf, st4, hk, fun u H4 own4 rc e4 w5 st5 a5 => ?_, hx⟩
    obtain ⟨c, ec, w6⟩ := on1_of w5
    obtain ⟨_, _, o5⟩ := st5.atS a5 ec
    obtain ⟨ex3, ee3⟩ := push_app ts u rc
    rw [ee3] at st5
    have st6 := st5.cut_app
    exact hs' _ _ _ _ _ ⟨b.d, .sh⟩ _ [0] _ _ _ st6.frm.alive (o2.scalV hsc) o5 w6 (fin_W st6 hq)
theorem pe_Wchain {op op' : CmpOp} {r r' : R2} {g g' : G2} {a b c : Expr} {wa wb wc : WE} (hs : Sem2 X.K r g) (hs' : Sem2 X.K r' g') (ho : OpR X (compareOp op) r) (ho' : OpR X (compareOp op') r') (ha : PE X a (tW X.K Fx Wo wa)) (hb : PE X b (tW X.K Fx Wo wb)) (hc : PE X c (tW X.K Fx Wo wc)) (hm : lastMarks [op, op'] [b, c] = false := by with_unfolding_all rfl) :
    PE X (.Compare a [op, op'] [b, c] pos) (tW X.K Fx Wo (wChain g g' wa wb wc)) := PE.imp (chain_run hs hs') (pe_chain ho ho' ha hb hc hm)
theorem pt_Wchain {op op' : CmpOp} {r r' : R2} {g g' : G2} {a b c : Expr} {wa wb wc : WE} (hs : Sem2 X.K r g) (hs' : Sem2 X.K r' g') (ho : OpR X (compareOp op) r) (ho' : OpR X (compareOp op') r') (ha : PE X a (tW X.K Fx Wo wa)) (hb : PE X b (tW X.K Fx Wo wb)) (hc : PE X c (tW X.K Fx Wo wc)) (hm : lastMarks [op, op'] [b, c] = false := by with_unfolding_all rfl) :
    PT X (.Compare a [op, op'] [b, c] pos) (tWT X.K Fx Wo (wTB (wChain g g' wa wb wc))) := PT.imp (fun σ H Q h => chain_run hs hs' σ H _ (wTB_run σ H Q h)) (pt_chain ho ho' ha hb hc hm)
end
/-! ### the facts of a head with classes -/
abbrev Ex : Type := PySem.W.Frag → Bool
/-- the property's own object, its getter -/
def prA (K : PySem.W.Frag) (cn f : Str) : Addr := He.ma K (He.ga K cn) f
def prG (K : PySem.W.Frag) (cn f : Str) : Addr := match PySem.W.recIn K (prA K cn f) "property" with
  | some (.ref g :: _) => g
  | _ => 0
def clsB (cn : Str) : Ex := fun K => (He.Fa.cls cn).ok K && (He.eqO (PySem.W.findIn K (.ref (He.ga K cn)) "__class__") (some (some (.builtin "object.__class__"))) && (He.eqO (PySem.W.specialIn K (.builtin "object.__class__") "__get__") (some (some (.builtin "getset_descriptor.__get__"))) &&
  (decide (PySem.W.takesIn K (.builtin "object.__class__") = some true) && (decide (PySem.W.mroIn K (He.ga K cn) (.type "object") = some true) && ((tyAll.all fun t => decide (PySem.W.kitOne K (.type t) (.ref (He.ga K cn)) = some false)) && tyAll.all fun t => PySem.W.notFirst K (He.ga K cn) (.type t))))))
theorem clsB_ok {K : PySem.W.Frag} {cn : Str} (h : clsB cn K = true) : ClsI K cn := by
  obtain ⟨h1, h⟩ := He.ba h
  obtain ⟨h2, h⟩ := He.ba h
  obtain ⟨h3, h⟩ := He.ba h
  obtain ⟨h4, h⟩ := He.ba h
  obtain ⟨h5, h⟩ := He.ba h
  obtain ⟨h6, h7⟩ := He.ba h
  exact ⟨He.cls_ok h1, He.eqO_ok h2, He.eqO_ok h3, of_decide_eq_true h4, of_decide_eq_true h5, fun t ht => of_decide_eq_true (List.all_eq_true.mp h6 t ht), fun t ht => List.all_eq_true.mp h7 t ht⟩
def propB (cn f : Str) : Ex := fun K => He.eqO (PySem.W.findIn K (.ref (He.ga K cn)) f) (some (some (.ref (prA K cn f)))) && (He.eqO (PySem.W.specialIn K (.ref (prA K cn f)) "__get__") (some (some (.builtin "property.__get__"))) && (decide (PySem.W.takesIn K (.ref (prA K cn f)) = some true) && match PySem.W.recIn K (prA K cn f) "property" with
  | some (.ref g :: _) => true
  | _ => false))
theorem propB_ok {K : PySem.W.Frag} {cn f : Str} (h : propB cn f K = true) : PropOf K (He.ga K cn) f (prA K cn f) (prG K cn f) := by
  obtain ⟨h1, h⟩ := He.ba h
  obtain ⟨h2, h⟩ := He.ba h
  obtain ⟨h3, h4⟩ := He.ba h
  refine ⟨He.eqO_ok h1, He.eqO_ok h2, of_decide_eq_true h3, ?_⟩
  unfold prG
  split at h4
  · rename_i g r e
    rw [e]
    exact ⟨r, rfl⟩
  · cases h4
def obsM (fa : List He.Fa) (fn : List He5.DefA) (ex : List Ex) (K : PySem.W.Frag) : He.AlD := (((fa.all fun f => f.ok K) && fn.all fun d => d.ok K) && ex.all fun f => f K, fn.map fun d => He5.fnA K (d.at_ K))
def valM (fn : List He5.DefA) : He.AlD := (true, fn.map He5.DefA.val)
def SaysM (fa : List He.Fa) (fn : List He5.DefA) (ex : List Ex) (K : PySem.W.Frag) : Prop := obsM fa fn ex K = valM fn
def obsMG (n : Nat) (fa : List He.Fa) (fn : List He5.DefA) (ex : List Ex) (g : Addr → Option Obj) : He.AlD := obsM fa fn ex (He.frG g (He.asD g n ++ [cStatics]))
def hookM (n : Nat) (fa : List He.Fa) (fn : List He5.DefA) (ex : List Ex) : PySem.W.Hook where
  α := He.AlD
  obs := fun s => obsMG n fa fn ex s.heap.get?
  val := fun _ => valM fn
  says := fun _ h => ∃ K : PySem.W.Frag, K.In h ∧ SaysM fa fn ex K
  of := fun _ _ e => ⟨_, He.frG_in, e⟩
  keeps := fun _ _ _ ⟨K, hK, c⟩ k => ⟨K, PySem.W.Frag.In.keeps hK k, c⟩
theorem obsMG_eq {n : Nat} {fa : List He.Fa} {fn : List He5.DefA} {ex : List Ex} {g : Addr → Option Obj} {s : Shared} (h : ∀ a, g a = s.heap.get? a) : obsMG n fa fn ex g = (hookM n fa fn ex).obs s := by
  have e : g = s.heap.get? := funext h
  rw [e] <;> rfl
section
variable {fa : List He.Fa} {fn : List He5.DefA} {ex : List Ex} {K : PySem.W.Frag}
theorem SaysM.one (c : SaysM fa fn ex K) : (((fa.all fun f => f.ok K) && fn.all fun d => d.ok K) && ex.all fun f => f K) = true := congrArg (fun z : He.AlD => z.1) c
theorem SaysM.fact (c : SaysM fa fn ex K) (i : Nat) {f : He.Fa} (h : fa[i]? = some f := by rfl) : f.ok K = true :=
  List.all_eq_true.mp (He.ba (He.ba c.one).1).1 f (List.mem_of_getElem? h)
theorem SaysM.exs (c : SaysM fa fn ex K) (i : Nat) {f : Ex} (h : ex[i]? = some f := by rfl) : f K = true :=
  List.all_eq_true.mp (He.ba c.one).2 f (List.mem_of_getElem? h)
theorem SaysM.def_ (c : SaysM fa fn ex K) (i : Nat) {d : He5.DefA} (h : fn[i]? = some d := by rfl) : ∃ fd, L2.FunD K d.name d.qual d.params d.body d.scope (d.dvs K) (d.kws K) (d.at_ K) fd := by
  have c2 := (He.ba (He.ba c.one).1).2
  have e : fn.map (fun d => He5.fnA K (d.at_ K)) = fn.map He5.DefA.val := congrArg (fun z : He.AlD => z.2) c
  have e2 : (fn.map fun d => He5.fnA K (d.at_ K))[i]? = (fn.map He5.DefA.val)[i]? := by rw [e]
  rw [List.getElem?_map, List.getElem?_map, h] at e2
  exact He5.DefA.funD (Option.some.inj e2) (List.all_eq_true.mp c2 d (List.mem_of_getElem? h))
end
/-- what the head tells -/
structure TxM (fa : List He.Fa) (fn : List He5.DefA) (ex : List Ex) (K : PySem.W.Frag) (mg : Str → Option Value) : Prop where
  c : SaysM fa fn ex K
  mgf : ∀ (i : Nat) (x : Str), fa[i]? = some (.glo x) → mg x = some (.ref (He.ga K x))
  mgn : ∀ (i : Nat) (x : Str), fa[i]? = some (.free x) → mg x = none
  mgi : ∀ (i : Nat) (x : Str) (z : Int), fa[i]? = some (.int x z) → ∃ t, mg x = some (.int z t)
  mgs : ∀ (i : Nat) (x z : Str), fa[i]? = some (.str x z) → ∃ t, mg x = some (.str z t)
theorem TxM.of {fa : List He.Fa} {fn : List He5.DefA} {ex : List Ex} {K : PySem.W.Frag} {mg : Str → Option Value} {h : Heap} (X : K.In h) (G : h.Ns mainGlobals mg) (c : SaysM fa fn ex K) : TxM fa fn ex K mg :=
  ⟨c, fun i x e => He.glo_ok X G (c.fact i e), fun i x e => He.free_ok X G (c.fact i e), fun i x z e => He.int_ok X G (c.fact i e), fun i x z e => He.str_ok X G (c.fact i e)⟩
section
variable {X : Cx} {Fx : List Nat} {Wo : WX} {pos : Pos}
theorem pe_WgIM {fa : List He.Fa} {fn : List He5.DefA} {ex : List Ex} {x : Str} {z : Int} (T : TxM fa fn ex X.K X.mg) (i : Nat) (h : fa[i]? = some (.int x z)) (hg : Gl X x) (hd : (x == ("__debug__" : Str)) = false := by decide) : PE X (.Name x pos) (tW X.K Fx Wo (wC (.int z))) := by
  obtain ⟨t, e⟩ := T.mgi i x z h
  exact PE.imp (tc_W fun _ => .int z) (pe_glob hg e ⟨t, rfl⟩ hd)
theorem pe_WgSM {fa : List He.Fa} {fn : List He5.DefA} {ex : List Ex} {x z : Str} (T : TxM fa fn ex X.K X.mg) (i : Nat) (h : fa[i]? = some (.str x z)) (hg : Gl X x) (hd : (x == ("__debug__" : Str)) = false := by decide) : PE X (.Name x pos) (tW X.K Fx Wo (wC (.str z))) := by
  obtain ⟨t, e⟩ := T.mgs i x z h
  exact PE.imp (tc_W fun _ => .str z) (pe_glob hg e ⟨t, rfl⟩ hd)
/-! ### methods that keep their promises -/
/-- a method m of the class cn; a property's getter -/
structure Mo (P : Program) (w : World) (K : PySem.W.Frag) (mg : Str → Option Value) (base : Heap) (cn m : Str) (k : Nat) (ps : List Str) (dcs : List Cl) (S : SF) : Prop where
  ex : ∃ (f : Addr) (fd : FuncData) (dvs : List V) (ds : List Value), PySem.W.findIn K (.ref (He.ga K cn)) m = some (some (.ref f)) ∧ PySem.W.isFn K (.ref f) = true ∧ PySem.W.keepIn K (.ref f) = true ∧ Vals dvs ds ∧ Binds K fd ps ds ∧ DfAt K dvs dcs ∧ FnOk P w K mg base (L2.CX P w) k f fd ps (spW K S)
structure Po (P : Program) (w : World) (K : PySem.W.Frag) (mg : Str → Option Value) (base : Heap) (cn f : Str) (k : Nat) (ps : List Str) (S : SF) : Prop where
  ex : ∃ (p g : Addr) (fd : FuncData), PropOf K (He.ga K cn) f p g ∧ Binds K fd ps [] ∧ FnOk P w K mg base (L2.CX P w) k g fd ps (spW K S)
theorem pe_WmakeM {k : Nat} {ps : List Str} {cn : Str} {S : SF} {dcs : List Cl} {p : Pos} {e : Expr} {es : List Expr} {wa : WA} (mk : (He.Fa.mkr cn).ok X.K = true) (G : Mo X.prog X.w X.K X.mg X.base cn "__init__" k ps dcs S) (hr : Room (k + 1) X.A) (tk : Takes X Wo) (hg : Gl X cn) (hm : X.mg cn = some (.ref (He.ga X.K cn))) (ha : PA X (e :: es) (tWA X.K Fx Wo wa))
    (hdb : (cn == ("__debug__" : Str)) = false := by decide) (he : starEach (e :: es) X.env = (false, eval e X.env) :: starEach es X.env := by rfl) (hpl : (backTo pos (starEach es X.env)).any (·.1) = false := by rfl) :
    PE X (.Call (.Name cn p) (e :: es) [] pos) (tW X.K Fx Wo (wMake cn S dcs wa)) := by
  obtain ⟨f, fd, dvs, ds, h1, h2, h3, h4, h5, h6, h7⟩ := G.ex
  have M := He.mkr_ok mk
  have e1 : f = He.ma X.K (He.ga X.K cn) "__init__" := by
    have := M.init
    rw [h1] at this
    exact Value.ref.inj (Option.some.inj (Option.some.inj this))
  subst e1
  exact pe_Wmake M h7 hr tk hg hm h5 h4 h6 ha hdb he hpl
theorem pe_WmethM {k : Nat} {ps : List Str} {cn m : Str} {S : SF} {dcs : List Cl} {apos : Pos} {o e : Expr} {es : List Expr} {w : WE} {wa : WA} {pl : Sem Bool} (c : Cls X.K (He.ga X.K cn)) (G : Mo X.prog X.w X.K X.mg X.base cn m k ps dcs S) (hr : Room k X.A) (tk : Takes X Wo) (ho : PE X o (tW X.K Fx Wo w)) (ha : PA X (e :: es) (tWA X.K Fx Wo wa))
    (hst : starEach (e :: es) X.env = (false, eval e X.env) :: starEach es X.env := by rfl) (hpl : (backTo pos (starEach es X.env)).any (·.1) = false := by rfl)
    (ht : eval (.Call (.Attribute o m apos) (e :: es) [] pos) X.env = (do
      let ov ← eval o X.env
      standAt apos.atName
      let (f, first) ← holding [ov] (getMethod ov m pl)
      callWith pos f first (backTo pos (starEach (e :: es) X.env)) (backToKw pos (keywordEach [] X.env))) := by rfl) :
    PE X (.Call (.Attribute o m apos) (e :: es) [] pos) (tW X.K Fx Wo (wMeth cn m S dcs w wa)) := by
  obtain ⟨f, fd, dvs, ds, h1, h2, h3, h4, h5, h6, h7⟩ := G.ex
  exact pe_Wmeth c ⟨h1, h2, h3⟩ h7 hr tk h5 h4 h6 ho ha hst hpl ht
theorem pe_WpropM {k : Nat} {ps : List Str} {cn f : Str} {S : SF} {e : Expr} {w : WE} (c : Cls X.K (He.ga X.K cn)) (G : Po X.prog X.w X.K X.mg X.base cn f k ps S) (hr : Room (k + 1) X.A) (he : PE X e (tW X.K Fx Wo w)) (hab : attributeBase e f X.env (eval e X.env) = eval e X.env := by rfl) :
    PE X (.Attribute e f pos) (tW X.K Fx Wo (wProp cn S w)) := by
  obtain ⟨p, g, fd, h1, h2, h3⟩ := G.ex
  exact pe_Wprop c h1 h3 hr h2 he hab
theorem pe_WeqM {k : Nat} {ps : List Str} {cn : Str} {S : SF} {a b : Expr} {wa wb : WE} (C : ClsI X.K cn) (G : Mo X.prog X.w X.K X.mg X.base cn "__eq__" k ps [] S) (hr : Room k X.A) (ha : PE X a (tW X.K Fx Wo wa)) (hb : PE X b (tW X.K Fx Wo wb)) : PE X (.Compare a [.Eq] [b] pos) (tW X.K Fx Wo (wEqO cn S wa wb)) := by
  obtain ⟨f, fd, dvs, ds, h1, h2, h3, h4, h5, h6, h7⟩ := G.ex
  cases h6
  cases h4
  exact pe_WeqO C h7 hr h1 h2 h5 ha hb
theorem pt_WeqM {k : Nat} {ps : List Str} {cn : Str} {S : SF} {a b : Expr} {wa wb : WE} (C : ClsI X.K cn) (G : Mo X.prog X.w X.K X.mg X.base cn "__eq__" k ps [] S) (hr : Room k X.A) (ha : PE X a (tW X.K Fx Wo wa)) (hb : PE X b (tW X.K Fx Wo wb)) : PT X (.Compare a [.Eq] [b] pos) (tWT X.K Fx Wo (wTB (wEqO cn S wa wb))) := by
  obtain ⟨f, fd, dvs, ds, h1, h2, h3, h4, h5, h6, h7⟩ := G.ex
  cases h6
  cases h4
  exact pt_WeqO C h7 hr h1 h2 h5 ha hb
end
end Py
set_option Elab.async false
set_option linter.all false
set_option maxRecDepth 100000
set_option maxHeartbeats 400000
/-! Py, part Z: a display of one pair, defaults that are empty tuples. -/
namespace Py
open PySem PySem.Spec PyProof.Rows L2
def wDic1 (wk wv : WE) : WE := fun env Q E => wk env (fun rk e1 => on1 (lookS e1 rk) fun kc => ∃ k, keyD kc.d = some k ∧ wSh wv e1 (fun r e2 => onTm r fun c => Q (.tm ⟨.dic [(k, c.d)], .nd []⟩) e2) E) E
section
variable {X : Cx} {Fx : List Nat} {Wo : WX} {pos : Pos}
theorem dic1_run {wk wv : WE} : ∀ σ H Q, tW X.K Fx Wo (wDic1 wk wv) σ H Q → tDisp [(tW X.K Fx Wo wk, tW X.K Fx Wo (wSh wv))] σ H Q := fun σ H Q h => by
  obtain ⟨F, own, env, ts, Qp, Ep, hf, st, w, hq, hx⟩ := h
  intro D hD
  have nt : NewT X.K [1, ts.length] own H (setO own D [1, ts.length]) (upd H D (.dK [])) (.ref D) ⟨.dic [], .nd []⟩ := NewT.mk_own st.frm.alive hD (.dic setO_same upd_same rfl .nil)
  have st1 := st.newT nt
  refine ⟨F, _, env, _, _, Ep, hf, st1, w, fun yk H6 own6 rk e6 w6 st7 a7 => ?_, xok_cut hx⟩
  obtain ⟨kc, ek, k, hk, w7⟩ := on1_of w6
  obtain ⟨_, _, ok⟩ := st7.atS a7 ek
  have eyk := own_key ok hk
  refine ⟨F, own6, e6, _, _, Ep, hf, st7, w7, fun yv H7 own7 r e7 w8 st8 a8 => ?_, ?_⟩
  · cases r with
    | pk j => exact w8.elim
    | tm c =>
      have st8' : St X.K F own7 σ e7 (push (ts ++ [(V.ref D, (⟨.dic [], .nd []⟩ : Cl))]) yk rk ++ [(yv, c)]) H7 := st8
      have ot := st8'.tmp _ yv c (by rw [List.getElem?_append_right (Nat.le_refl _)]; simp)
      obtain ⟨ex1, ee1⟩ := push_app (ts ++ [(V.ref D, (⟨.dic [], .nd []⟩ : Cl))]) yk rk
      rw [ee1] at ot
      rw [ee1, List.append_assoc] at st8'
      have st9 := st8'.cut_app
      obtain ⟨l, vs9, e, _, hl, hm, hr⟩ := st9.dicT_get
      cases e
      have rv : Rep X.K (Gm (dropW (fun k i => k == 1 && decide ((ts ++ [(V.ref D, (⟨.dic [], .nd []⟩ : Cl))]).length ≤ i)) own7) H7) yv c.d := ot.gone (by simp)
      have hv : vs9 = [] := by
        cases vs9 with
        | nil => rfl
        | cons _ _ => cases hm
      subst hv
      have st10 := st9.set_dicT (ws := [(k, yv)]) (ys := [(k, c.d)]) rfl (.cons rv .nil)
      refine ⟨hl, [(k, yv)], by rw [eyk]; rfl, by simp, ?_⟩
      exact hq _ _ _ (.tm ⟨.dic [(k, c.d)], .nd []⟩) _ w8 st10 .last
  · obtain ⟨ex1, ee1⟩ := push_app (ts ++ [(V.ref D, (⟨.dic [], .nd []⟩ : Cl))]) yk rk
    rw [ee1, List.append_assoc]
    exact xok_cut hx
theorem pe_Wdic1 {k v : Expr} {wk wv : WE} (hk : PE X k (tW X.K Fx Wo wk)) (hv : PE X v (tW X.K Fx Wo wv)) : PE X (.Dict [some k] [v] pos) (tW X.K Fx Wo (wDic1 wk wv)) := PE.imp dic1_run (pe_disp (pps_cons hk (PE.sh hv) pps_nil) rfl rfl (by simp) (by simp))
end
/-! ### a default that is the empty tuple -/
def emptyB (p : PySem.W.Frag → Addr) : Ex := fun K => match K.lookup (p K) with
  | some ⟨.type c, _, .seq its _, _⟩ => decide (c = "tuple") && decide (its.size = 0)
  | _ => false
theorem emptyB_ok {p : PySem.W.Frag → Addr} {K : PySem.W.Frag} (h : emptyB p K = true) (H : Hp) : SqT K H (p K) [] := by
  unfold emptyB at h
  cases q : K.lookup (p K) with
  | none => rw [q] at h; cases h
  | some o =>
    obtain ⟨oc, od, dt, osl⟩ := o
    rw [q] at h
    cases oc with
    | type c =>
      cases dt with
      | seq its n =>
        obtain ⟨h1, h2⟩ := He.ba (show (decide (c = "tuple") && decide (its.size = 0)) = true from h)
        have h3 : its.size = 0 := of_decide_eq_true h2
        refine .inr ⟨_, its, n, q, congrArg Value.type (of_decide_eq_true h1), rfl, by rw [h3]; exact Nat.zero_le _, ?_⟩
        have : its.toList = [] := List.eq_nil_of_length_eq_zero (by rw [Array.length_toList]; exact h3)
        rw [this]
        exact .nil
      | _ => cases h
    | _ => cases dt <;> cases h
theorem empty_rep {p : PySem.W.Frag → Addr} {K : PySem.W.Frag} (h : emptyB p K = true) (G : Hp) : Rep K G (.ref (p K)) (.tup []) := .tup (emptyB_ok h G) .nil
/-- the statement j of a class's body -/
def inCls (s : Stmt) (j : Nat) : Stmt := match s with
  | .ClassDef _ _ _ body _ _ _ _ _ _ _ => body.getD j (.Pass ⟨0, 0, 0, 0⟩)
  | s => s
/-! ### list(range(a, b)) -/
def rRg2 : R2 := fun x y H Q => ∃ i j, x = .int i ∧ y = .int j ∧ RgOk i j ∧ ∀ q, H q = none → Q (.ref q) (upd H q (.lst (rgV i j)))
def gRg2 : G2 := fun a b k => match a, b with
  | ⟨.int i, _⟩, ⟨.int j, _⟩ => (-1000000 ≤ i ∧ i ≤ 1000000 ∧ -1000000 ≤ j ∧ j ≤ 1000000) ∧ k ⟨.lst (rngD i (j - i).toNat), .nd []⟩
  | _, _ => False
theorem rg_reps {K : PySem.W.Frag} {G : Hp} (i j : Int) : Reps K G (rgV i j) (rngD i (j - i).toNat) := by
  unfold rgV rngD
  generalize List.range (j - i).toNat = l
  induction l with
  | nil => exact .nil
  | cons x l ih => exact .cons (.int _) ih
theorem s_rg2 {K : PySem.W.Frag} : Sem2 K rRg2 gRg2 := fun p0 own H x y a b p q k Q al ha hb hg fin => by
  unfold gRg2 at hg
  split at hg
  · obtain ⟨⟨h1, h2, h3, h4⟩, h5⟩ := hg
    rw [ha.int, hb.int]
    exact ⟨_, _, rfl, rfl, ⟨by omega, by omega, by omega, by omega, by omega⟩, fun z hz => fin.lst al h5 (rg_reps _ _) hz⟩
  · exact hg.elim
section
variable {X : Cx} {Fx : List Nat} {Wo : WX} {pos : Pos}
theorem pt_WTBnf {e : Expr} {w : WE} (h : PT X e (tWT X.K Fx Wo (wTB w))) : PT X e (tWT X.K Fx Wo (wTB (wNf w))) := by rw [wNf_eq]; exact h
end
end Py
set_option Elab.async false
set_option linter.all false
set_option maxRecDepth 100000
set_option maxHeartbeats 400000
/-! The drawing of numbers: what each def of the laws' common beginning does. -/
namespace Py
open PySem PySem.Spec PyProof.Rows L2
set_option exponentiation.threshold 9000
local macro_rules | `(tactic| walk_at "mul") => `(tactic| first | exact Or.inl (Or.inr ⟨by decide, by decide⟩) | exact Or.inl (Or.inl ⟨by decide, by decide⟩) | exact Or.inl (Or.inl ⟨by omega, by omega⟩) | exact Or.inl (Or.inr ⟨by omega, by omega⟩))
local macro_rules | `(tactic| walk_at "side") => `(tactic| first | rfl | exact ⟨_, rfl⟩ | decide | exact Nat.le_of_ble_eq_true rfl | omega | (walk_at "mul") | exact nat_small (by omega) (by omega))
local macro_rules | `(tactic| walk_at "go") => `(tactic| repeat (first | refine And.intro (by walk_at "side") ?_ | refine ex_ix rfl ?_ | refine ex_ixS rfl ?_ | refine ex_n rfl ?_))

@[irreducible] def S_law_mixed : SF := fun cs Q _ => ∃ s t m : Int, cs = [cI s, cI t, cI m] ∧ ∀ r : Int, 0 ≤ r → r < max 1 m → Q (cI r) [cI s, cI t, cI m]
theorem S_law_mixed_i {s t m : Int} {Q E} (h : ∀ r : Int, 0 ≤ r → r < max 1 m → Q (cI r) [cI s, cI t, cI m]) : S_law_mixed [cI s, cI t, cI m] Q E := by unfold S_law_mixed; exact ⟨s, t, m, rfl, h⟩
/-- _law_mixed: slots _law_state _law_turn _law_many _law_number _law_k _law_first _law_second _law_third -/
def w_law_mixed : WS := (wSeq (wNfS (wAsg 3 (wC (.int 0))))
  (wSeq (wFor (wItR1 (waCons (w2 gAdd (wC (.int 1)) (w2 gMul (wC (.int 7)) (wN gInt (waCons (w2 gGt (wVar 2) (w2 gPow (wC (.int 10)) (wC (.int 9)))) waNil)))) waNil)) (tgN 4) (wSeq (wNfS (wAsg 5 (w2 gMod (wN gInt (waCons (w2 gAdd (w2 gAdd (w2 gAdd (w2 gMul (wVar 0) (wC (.int 48271))) (w2 gMul (wVar 1) (wC (.int 69621)))) (w2 gMul (wVar 4) (wC (.int 7919)))) (wC (.int 11))) waNil)) (wC (.int 2147483647)))))
  (wSeq (wNfS (wAsg 6 (w2 gMod (wN gInt (waCons (w2 gAdd (w2 gAdd (w2 gMul (wVar 5) (wVar 5)) (w2 gMul (wVar 1) (wC (.int 40014)))) (wC (.int 7))) waNil)) (wC (.int 2147483399)))))
  (wSeq (wNfS (wAsg 7 (w2 gMod (wN gInt (waCons (w2 gAdd (w2 gMul (wVar 6) (w2 gAdd (wVar 6) (wC (.int 40692)))) (wVar 5)) waNil)) (wC (.int 2147483563)))))
  (wNfS (wAsg 3 (w2 gAdd (w2 gMul (wVar 3) (wC (.int 2147483563))) (wVar 7))))))))
  (wRet (w2 gMod (wN gInt (waCons (wVar 3) waNil)) (wN gMax2 (waCons (wC (.int 1)) (waCons (wVar 2) waNil)))))))
theorem pure_law_mixed : ∀ cs Q E, S_law_mixed cs Q E → cs.length = 3 ∧ w_law_mixed (fnWD [0, 1, 2] cs Q E) (env0 [0, 1, 2] 8 cs) := by
  intro cs Q E h
  unfold S_law_mixed at h
  obtain ⟨s, t, m, rfl, hQ⟩ := h
  refine ⟨rfl, ?_⟩
  walk_at "go"
  refine ⟨fun _ e => ∃ n x4 x5 x6 x7, e = [some (cI s), some (cI t), some (cI m), some (cI n), x4, x5, x6, x7], ⟨0, none, none, none, none, rfl⟩, fun _ _ _ => trivial, ?_, ?_⟩
  · rintro i d e hd ⟨n, x4, x5, x6, x7, rfl⟩
    obtain ⟨_, rfl⟩ := rngD_some hd
    walk_at "go"
    exact ⟨_, _, _, _, _, rfl⟩
  · rintro e ⟨n, x4, x5, x6, x7, rfl⟩
    walk_at "go"
    exact hQ _ (Int.emod_nonneg _ (by omega)) (Int.emod_lt_of_pos _ (by omega))

/-- the store of drawn numbers -/
structure Sto where
  ns : List Int
  place : Nat
  state : Int
  turns : Int
  num : Int
  left : Int
abbrev Sto.d (s : Sto) : Dv := .lst [.lst (s.ns.map .int), .int (s.place : Nat), .int s.state, .int s.turns, .int s.num, .int s.left]
abbrev Sto.cl (s : Sto) : Cl := ⟨.lst [.lst (s.ns.map .int), .int (s.place : Nat), .int s.state, .int s.turns, .int s.num, .int s.left], .nd []⟩
@[irreducible] def S_law_store : SF := fun cs Q _ => ∃ ns : List Int, cs = [⟨.scr ns, .sh⟩] ∧ ns.length ≤ 1000 ∧ ∀ s : Sto, Q s.cl cs
theorem S_law_store_i {ns : List Int} {Q E} (hl : ns.length ≤ 1000) (h : ∀ s : Sto, Q s.cl [⟨.scr ns, .sh⟩]) : S_law_store [⟨.scr ns, .sh⟩] Q E := by unfold S_law_store; exact ⟨ns, rfl, hl, h⟩
/-- _law_store: slots _law_script _law_state _law_cell -/
def w_law_store : WS := (wSeq (wNfS (wAsg 1 (wC (.int 20261118))))
  (wSeq (wFor (wItP 0) (tgN 2) (wNfS (wAsg 1 (wNf (wCall S_law_mixed [] (waCons (w2 gAdd (wVar 1) (w2 gMod (wN gInt (waCons (wVar 2) waNil)) (wC (.int 2147483629)))) (waCons (wC (.int 5)) (waCons (wC (.int 999999937)) waNil))))))))
  (wRet (wLst (waCons (wSh (wLcS (wItP 0) (tgN 2) wYes (wN gInt (waCons (wVar 2) waNil)) [2])) (waCons (wSh (wC (.int 0))) (waCons (wSh (wVar 1)) (waCons (wSh (wC (.int 0))) (waCons (wSh (wC (.int 0))) (waCons (wSh (wC (.int 0))) waNil))))))))))
theorem pure_law_store : ∀ cs Q E, S_law_store cs Q E → cs.length = 1 ∧ w_law_store (fnWD [0] cs Q E) (env0 [0] 3 cs) := by
  intro cs Q E h
  unfold S_law_store at h
  obtain ⟨ns, rfl, hl, hQ⟩ := h
  refine ⟨rfl, ?_⟩
  refine ⟨rfl, fun _ e => ∃ n x2, e = [some ⟨.scr ns, .sh⟩, some (cI n), x2], ⟨_, none, rfl⟩, ?_, ?_, ?_⟩
  · rintro i e ⟨n, x2, rfl⟩
    rfl
  · rintro i d e hd ⟨n, x2, rfl⟩
    have hd' : (ns.map Dv.int)[i]? = some d := hd
    rw [List.getElem?_map] at hd'
    cases hn : ns[i]? with
    | none => rw [hn] at hd'; cases hd'
    | some k =>
      rw [hn] at hd'
      cases (Option.some.inj hd')
      walk_at "go"
      exact S_law_mixed_i fun r h0 h1 => ⟨_, _, rfl⟩
  · rintro e ⟨n, x2, rfl⟩
    walk_at "go"
    refine ⟨fun i acc e => acc = (ns.take i).map Dv.int ∧ e = [some ⟨.scr ns, .sh⟩, some (cI n), none], ?_, fun i acc e h => ?_, fun i d acc e hd h N N0 hN hN0 => ?_, fun acc e h => ?_⟩
    · exact ⟨rfl, rfl⟩
    · obtain ⟨rfl, rfl⟩ := h
      refine ⟨rfl, ?_⟩
      rw [List.length_map, List.length_take]
      omega
    · obtain ⟨rfl, rfl⟩ := h
      have hd' : (ns.map Dv.int)[i]? = some d := hd
      rw [List.getElem?_map] at hd'
      cases hn : ns[i]? with
      | none => rw [hn] at hd'; cases hd'
      | some k =>
        rw [hn] at hd'
        cases (Option.some.inj hd')
        refine ⟨rfl, hN _ _ ⟨?_, rfl⟩⟩
        rw [List.take_succ, hn, List.map_append]
        rfl
    · obtain ⟨rfl, rfl⟩ := h
      have e : List.take (ns.map Dv.int).length ns = ns := by rw [List.length_map, List.take_length]
      rw [e]
      walk_at "go"
      exact hQ ⟨ns, 0, n, 0, 0, 0⟩

@[irreducible] def S_law_advance : SF := fun cs Q _ => ∃ s : Sto, cs = [s.cl] ∧ ∀ s' : Sto, Q cN [s'.cl]
theorem S_law_advance_i {s : Sto} {Q E} (h : ∀ s' : Sto, Q cN [s'.cl]) : S_law_advance [s.cl] Q E := by unfold S_law_advance; exact ⟨s, rfl, h⟩
/-- _law_advance: slots _law_store_here _law_cells _law_place _law_cell -/
def w_law_advance : WS := (wSeq (wNfS (wAsg 1 (w2 gIx (wVar 0) (wC (.int 0)))))
  (wSeq (wNfS (wAsg 2 (w2 gIx (wVar 0) (wC (.int 1)))))
  (wIf (wTB (w2 gLt (wVar 2) (wN gLen (waCons (wVar 1) waNil)))) (wSeq (wNfS (wAsg 3 (w2 gIx (wVar 1) (wVar 2))))
  (wSeq (wNfS (wSetI 0 (wC (.int 1)) (wSh (w2 gAdd (wVar 2) (wC (.int 1))))))
  (wSeq (wNfS (wSetI 0 (wC (.int 2)) (wSh (wNf (wCall S_law_mixed [] (waCons (w2 gAdd (w2 gIx (wVar 0) (wC (.int 2))) (w2 gMod (wN gInt (waCons (wVar 3) waNil)) (wC (.int 2147483629)))) (waCons (w2 gAdd (wVar 2) (wC (.int 1))) (waCons (wC (.int 999999937)) waNil))))))))
  (wSeq (wNfS (wSetI 0 (wC (.int 4)) (wSh (wC (.int 0)))))
  (wSeq (wNfS (wSetI 0 (wC (.int 5)) (wSh (wC (.int 0)))))
  (wIf (wTB (w2 gGe (wVar 3) (w2 gPow (wC (.int 10)) (wC (.int 18))))) (wSeq (wNfS (wSetI 0 (wC (.int 4)) (wSh (wVar 3))))
  (wNfS (wSetI 0 (wC (.int 5)) (wSh (wC (.int 60)))))) wNext)))))) wNext)))
theorem pure_law_advance : ∀ cs Q E, S_law_advance cs Q E → cs.length = 1 ∧ w_law_advance (fnWD [0] cs Q E) (env0 [0] 4 cs) := by
  intro cs Q E h
  unfold S_law_advance at h
  obtain ⟨s, rfl, hQ⟩ := h
  refine ⟨rfl, ?_⟩
  walk_at "go"
  refine ite_d (fun hp => ?_) fun hp => ?_
  · have hp' : s.place < s.ns.length := by
      have := hp
      rw [List.length_map] at this
      omega
    obtain ⟨k, hk⟩ : ∃ k, s.ns[s.place]? = some k := ⟨_, List.getElem?_eq_getElem hp'⟩
    have hat : atI (s.ns.map Dv.int) ((s.place : Nat) : Int) = some (.int k) := atI_nat (by rw [List.getElem?_map, hk]; rfl)
    walk_at "go"
    refine ex_ix hat ?_
    walk_at "go"
    refine S_law_mixed_i fun r h0 h1 => ?_
    walk_at "go"
    refine ite_d (fun hb => ?_) fun hb => ?_
    · walk_at "go"
      exact hQ ⟨s.ns, s.place + 1, r, s.turns, k, 60⟩
    · exact hQ ⟨s.ns, s.place + 1, r, s.turns, 0, 0⟩
  · exact hQ s

@[irreducible] def S_law_take : SF := fun cs Q _ => ∃ (s : Sto) (n : Int), cs = [s.cl, cI n] ∧ n ≤ 10 ^ 70 ∧ ∀ (s' : Sto) (r : Int), 0 ≤ r → r < max 1 n → Q (cI r) [s'.cl, cI n]
theorem S_law_take_i {s : Sto} {n : Int} {Q E} (hn : n ≤ 10 ^ 70) (h : ∀ (s' : Sto) (r : Int), 0 ≤ r → r < max 1 n → Q (cI r) [s'.cl, cI n]) : S_law_take [s.cl, cI n] Q E := by unfold S_law_take; exact ⟨s, n, rfl, hn, h⟩
/-- _law_take: slots _law_store_here _law_many _law_size_here _law_number -/
def w_law_take : WS := (wSeq (wNfS (wAsg 2 (wN gMax2 (waCons (wC (.int 1)) (waCons (wVar 1) waNil)))))
  (wSeqC (wIf (wOrT (wTB (w2 gLe (w2 gIx (wVar 0) (wC (.int 4))) (wC (.int 0)))) (wTB (w2 gLe (w2 gIx (wVar 0) (wC (.int 5))) (wC (.int 0))))) (wNfS (wDrop (wNf (wCall S_law_advance [] (waCons (wVar 0) waNil))))) wNext)
  (wSeq (wIf (wAndT (wTB (w2 gGt (w2 gIx (wVar 0) (wC (.int 4))) (wC (.int 0)))) (wTB (w2 gGt (w2 gIx (wVar 0) (wC (.int 5))) (wC (.int 0))))) (wSeq (wNfS (wAsg 3 (w2 gIx (wVar 0) (wC (.int 4)))))
  (wSeq (wNfS (wSetI 0 (wC (.int 4)) (wSh (w2 gFdiv (wVar 3) (wVar 2)))))
  (wSeq (wNfS (wSetI 0 (wC (.int 5)) (wSh (w2 gMinus (w2 gIx (wVar 0) (wC (.int 5))) (wC (.int 1))))))
  (wRet (w2 gMod (wN gInt (waCons (wVar 3) waNil)) (wVar 2)))))) wNext)
  (wSeq (wNfS (wSetI 0 (wC (.int 3)) (wSh (w2 gAdd (w2 gIx (wVar 0) (wC (.int 3))) (wC (.int 1))))))
  (wRet (wNf (wCall S_law_mixed [] (waCons (w2 gIx (wVar 0) (wC (.int 2))) (waCons (w2 gIx (wVar 0) (wC (.int 3))) (waCons (wVar 2) waNil))))))))))
theorem pure_law_take : ∀ cs Q E, S_law_take cs Q E → cs.length = 2 ∧ w_law_take (fnWD [0, 1] cs Q E) (env0 [0, 1] 4 cs) := by
  intro cs Q E h
  unfold S_law_take at h
  obtain ⟨s, n, rfl, hn, hQ⟩ := h
  refine ⟨rfl, ?_⟩
  walk_at "go"
  refine ⟨fun e => ∃ s' : Sto, e = [some s'.cl, some (cI n), some (cI (max 1 n)), none], ?_, ?_⟩
  · walk_at "go"
    refine ite_d (fun h1 => ?_) fun h1 => ?_
    · walk_at "go"
      refine S_law_advance_i fun s' => ?_
      exact ⟨s', rfl⟩
    · walk_at "go"
      refine ite_d (fun h2 => ?_) fun h2 => ?_
      · walk_at "go"
        refine S_law_advance_i fun s' => ?_
        exact ⟨s', rfl⟩
      · exact ⟨s, rfl⟩
  · rintro e ⟨s1, rfl⟩
    have rest : ∀ e0 : Option Cl, (wSeq (wNfS (wSetI 0 (wC (.int 3)) (wSh (w2 gAdd (w2 gIx (wVar 0) (wC (.int 3))) (wC (.int 1))))))
  (wRet (wNf (wCall S_law_mixed [] (waCons (w2 gIx (wVar 0) (wC (.int 2))) (waCons (w2 gIx (wVar 0) (wC (.int 3))) (waCons (wVar 2) waNil))))))) (fnWD [0, 1] [s.cl, cI n] Q E) [some s1.cl, some (cI n), some (cI (max 1 n)), e0] := by
      intro e0
      walk_at "go"
      refine S_law_mixed_i fun r h0 h1 => ?_
      exact hQ ⟨s1.ns, s1.place, s1.state, s1.turns + 1, s1.num, s1.left⟩ r h0 (by omega)
    walk_at "go"
    refine ite_d (fun h1 => ?_) fun h1 => ?_
    · walk_at "go"
      refine ite_d (fun h2 => ?_) fun h2 => ?_
      · walk_at "go"
        exact hQ ⟨s1.ns, s1.place, s1.state, s1.turns, s1.num / max 1 n, s1.left - 1⟩ _ (Int.emod_nonneg _ (by omega)) (Int.emod_lt_of_pos _ (by omega))
      · exact rest _
    · exact rest _
end Py
set_option Elab.async false
set_option linter.all false
set_option maxRecDepth 100000
set_option maxHeartbeats 400000
/-! Texts that are drawn. -/
namespace Py
open PySem PySem.Spec PyProof.Rows L2
set_option exponentiation.threshold 9000
local macro_rules | `(tactic| walk_at "mul") => `(tactic| first | exact Or.inl (Or.inr ⟨by decide, by decide⟩) | exact Or.inl (Or.inl ⟨by decide, by decide⟩) | exact Or.inl (Or.inl ⟨by omega, by omega⟩) | exact Or.inl (Or.inr ⟨by omega, by omega⟩))
local macro_rules | `(tactic| walk_at "side") => `(tactic| first | rfl | exact ⟨_, rfl⟩ | decide | exact Nat.le_of_ble_eq_true rfl | omega | (walk_at "mul") | exact nat_small (by omega) (by omega))
local macro_rules | `(tactic| walk_at "go") => `(tactic| repeat (first | refine And.intro (by walk_at "side") ?_ | refine ex_ix rfl ?_ | refine ex_ixS rfl ?_ | refine ex_n rfl ?_))


@[irreducible] def S_law_pick : SF := fun cs Q _ => ∃ (s : Sto) (it : Cl), cs = [s.cl, it] ∧ ((∃ z o, it = ⟨.str z, o⟩ ∧ 1 ≤ z.length ∧ z.length ≤ 1000000 ∧ ∀ (s' : Sto) (c : Nat), c ∈ tl z → Q (cS ⟨#[c]⟩) [s'.cl, it]) ∨
  (∃ ds o, it = ⟨.lst ds, o⟩ ∧ o.flat = true ∧ 1 ≤ ds.length ∧ ds.length ≤ 1000000 ∧ ∀ (s' : Sto) (d : Dv), d ∈ ds → Q ⟨d, .sh⟩ [s'.cl, it]))
theorem S_law_pick_s {s : Sto} {z : Str} {o : Ow} {Q E} (h1 : 1 ≤ z.length) (h2 : z.length ≤ 1000000) (h : ∀ (s' : Sto) (c : Nat), c ∈ tl z → Q (cS ⟨#[c]⟩) [s'.cl, ⟨.str z, o⟩]) : S_law_pick [s.cl, ⟨.str z, o⟩] Q E := by unfold S_law_pick; exact ⟨s, _, rfl, .inl ⟨z, o, rfl, h1, h2, h⟩⟩
theorem S_law_pick_l {s : Sto} {ds : List Dv} {o : Ow} {Q E} (ho : o.flat = true) (h1 : 1 ≤ ds.length) (h2 : ds.length ≤ 1000000) (h : ∀ (s' : Sto) (d : Dv), d ∈ ds → Q ⟨d, .sh⟩ [s'.cl, ⟨.lst ds, o⟩]) : S_law_pick [s.cl, ⟨.lst ds, o⟩] Q E := by unfold S_law_pick; exact ⟨s, _, rfl, .inr ⟨ds, o, rfl, ho, h1, h2, h⟩⟩
/-- _law_pick: slots _law_store_here _law_items -/
def w_law_pick : WS := (wRet (w2 gIx (wVar 1) (wNf (wCall S_law_take [] (waCons (wVar 0) (waCons (wN gLen (waCons (wVar 1) waNil)) waNil))))))
theorem pure_law_pick : ∀ cs Q E, S_law_pick cs Q E → cs.length = 2 ∧ w_law_pick (fnWD [0, 1] cs Q E) (env0 [0, 1] 2 cs) := by
  intro cs Q E h
  unfold S_law_pick at h
  obtain ⟨s, it, rfl, h⟩ := h
  refine ⟨rfl, ?_⟩
  rcases h with ⟨z, o, rfl, h1, h2, hQ⟩ | ⟨ds, o, rfl, ho, h1, h2, hQ⟩
  · walk_at "go"
    refine S_law_take_i (by omega) fun s' r r0 r1 => ?_
    obtain ⟨c, hc, hm⟩ := atI_in (xs := tl z) r0 (by rw [tl_len]; omega)
    walk_at "go"
    refine ex_ixS hc ?_
    exact hQ s' c hm
  · walk_at "go"
    refine S_law_take_i (by omega) fun s' r r0 r1 => ?_
    obtain ⟨c, hc, hm⟩ := atI_in (xs := ds) r0 (by omega)
    walk_at "go"
    refine ex_ix hc ?_
    exact hQ s' c hm

@[irreducible] def S_law_size : SF := fun cs Q _ => ∃ (s : Sto) (u m : Int), cs = [s.cl, cI u, cI m] ∧ m ≤ 10 ^ 60 ∧ ∀ (s' : Sto) (r : Int), 0 ≤ r → r ≤ max 0 m → Q (cI r) [s'.cl, cI u, cI m]
theorem S_law_size_i {s : Sto} {u m : Int} {Q E} (hm : m ≤ 10 ^ 60) (h : ∀ (s' : Sto) (r : Int), 0 ≤ r → r ≤ max 0 m → Q (cI r) [s'.cl, cI u, cI m]) : S_law_size [s.cl, cI u, cI m] Q E := by unfold S_law_size; exact ⟨s, u, m, rfl, hm, h⟩
/-- _law_size: slots _law_store_here _law_usual _law_most _law_kind _law_top -/
def w_law_size : WS := (wSeq (wNfS (wAsg 3 (wNf (wCall S_law_take [] (waCons (wVar 0) (waCons (wC (.int 12)) waNil))))))
  (wSeq (wNfS (wAsg 4 (wN gMax2 (waCons (wC (.int 0)) (waCons (wVar 2) waNil)))))
  (wSeq (wIf (wTB (w2 gEqS (wVar 3) (wC (.int 0)))) (wRet (wC (.int 0))) wNext)
  (wSeq (wIf (wTB (w2 gEqS (wVar 3) (wC (.int 1)))) (wRet (wN gMin2 (waCons (wC (.int 1)) (waCons (wVar 4) waNil)))) wNext)
  (wSeq (wIf (wTB (w2 gEqS (wVar 3) (wC (.int 2)))) (wRet (wVar 4)) wNext)
  (wSeq (wIf (wTB (w2 gEqS (wVar 3) (wC (.int 3)))) (wRet (wNf (wCall S_law_take [] (waCons (wVar 0) (waCons (w2 gAdd (wVar 4) (wC (.int 1))) waNil))))) wNext)
  (wRet (wNf (wCall S_law_take [] (waCons (wVar 0) (waCons (w2 gAdd (wN gMin2 (waCons (wN gMax2 (waCons (wC (.int 0)) (waCons (wVar 1) waNil))) (waCons (wVar 4) waNil))) (wC (.int 1))) waNil)))))))))))
theorem pure_law_size : ∀ cs Q E, S_law_size cs Q E → cs.length = 3 ∧ w_law_size (fnWD [0, 1, 2] cs Q E) (env0 [0, 1, 2] 5 cs) := by
  intro cs Q E h
  unfold S_law_size at h
  obtain ⟨s, u, m, rfl, hm, hQ⟩ := h
  refine ⟨rfl, ?_⟩
  walk_at "go"
  refine S_law_take_i (by decide) fun s1 r r0 r1 => ?_
  walk_at "go"
  refine ite_d (fun h1 => ?_) fun h1 => ?_
  · exact hQ s1 0 (by omega) (by omega)
  walk_at "go"
  refine ite_d (fun h1 => ?_) fun h1 => ?_
  · walk_at "go"
    exact hQ s1 (min 1 (max 0 m)) (by omega) (by omega)
  walk_at "go"
  refine ite_d (fun h1 => ?_) fun h1 => ?_
  · walk_at "go"
    exact hQ s1 (max 0 m) (by omega) (by omega)
  walk_at "go"
  refine ite_d (fun h1 => ?_) fun h1 => ?_
  · walk_at "go"
    refine S_law_take_i (by omega) fun s2 r2 r3 r4 => ?_
    exact hQ s2 _ r3 (by omega)
  walk_at "go"
  refine S_law_take_i (by omega) fun s2 r2 r3 r4 => ?_
  exact hQ s2 _ r3 (by omega)

@[irreducible] def S_law_shuffled : SF := fun cs Q _ => ∃ (s : Sto) (ds : List Dv) (o : Ow), cs = [s.cl, ⟨.lst ds, o⟩] ∧ o.flat = true ∧ ds.length ≤ 90000 ∧ ∀ (s' : Sto) (xs : List Dv), xs.Perm ds → Q ⟨.lst xs, .nd []⟩ [s'.cl, ⟨.lst ds, o⟩]
theorem S_law_shuffled_i {s : Sto} {ds : List Dv} {o : Ow} {Q E} (ho : o.flat = true) (hl : ds.length ≤ 90000) (h : ∀ (s' : Sto) (xs : List Dv), xs.Perm ds → Q ⟨.lst xs, .nd []⟩ [s'.cl, ⟨.lst ds, o⟩]) : S_law_shuffled [s.cl, ⟨.lst ds, o⟩] Q E := by unfold S_law_shuffled; exact ⟨s, ds, o, rfl, ho, hl, h⟩
/-- _law_shuffled: slots _law_store_here _law_items _law_rest _law_found _law_k -/
def w_law_shuffled : WS := (wSeq (wNfS (wAsg 2 (wN gList (waCons (wVar 1) waNil))))
  (wSeq (wNfS (wAsg 3 (wLst waNil)))
  (wSeq (wFor (wItR1 (waCons (wN gLen (waCons (wVar 1) waNil)) waNil)) (tgN 4) (wNfS (wDrop (wApp 3 (wSh (wPopAt 2 (wNf (wCall S_law_take [] (waCons (wVar 0) (waCons (wN gLen (waCons (wVar 2) waNil)) waNil))))))))))
  (wRet (wVar 3)))))
theorem pure_law_shuffled : ∀ cs Q E, S_law_shuffled cs Q E → cs.length = 2 ∧ w_law_shuffled (fnWD [0, 1] cs Q E) (env0 [0, 1] 5 cs) := by
  intro cs Q E h
  unfold S_law_shuffled at h
  obtain ⟨s, ds, o, rfl, ho, hl, hQ⟩ := h
  refine ⟨rfl, ?_⟩
  walk_at "go"
  refine ⟨fun i e => ∃ (s1 : Sto) (rest found : List Dv) (x4 : Option Cl), e = [some s1.cl, some ⟨.lst ds, o⟩, some ⟨.lst rest, .nd []⟩, some ⟨.lst found, .nd []⟩, x4] ∧ rest.length + i = ds.length ∧ (found ++ rest).Perm ds,
    ⟨s, ds, [], none, rfl, rfl, List.Perm.refl _⟩, fun _ _ _ => trivial, ?_, ?_⟩
  · rintro i d e hd ⟨s1, rest, found, x4, rfl, hr, hp⟩
    obtain ⟨hi, rfl⟩ := rngD_some hd
    have hfl : found.length + rest.length = ds.length := by rw [← List.length_append]; exact hp.length_eq
    walk_at "go"
    refine S_law_take_i (by omega) fun s2 r r0 r1 => ?_
    have hi' : i < ds.length := by omega
    have hrl : r < rest.length := by omega
    obtain ⟨c, hc⟩ : ∃ c, rest[r.toNat]? = some c := ⟨_, List.getElem?_eq_getElem (by omega)⟩
    walk_at "go"
    refine ⟨r.toNat, c, ixN_in r0 hrl, hc, ?_⟩
    walk_at "go"
    refine ⟨s2, rest.eraseIdx r.toNat, found ++ [c], _, rfl, ?_, ?_⟩
    · rw [List.length_eraseIdx_of_lt (by omega)]; omega
    · have h1 : (c :: rest.eraseIdx r.toNat).Perm rest := erase_perm _ _ _ hc
      rw [List.append_assoc]
      exact (List.Perm.append_left found h1).trans hp
  · rintro e ⟨s1, rest, found, x4, rfl, hr, hp⟩
    rw [rngD_len] at hr
    have : rest = [] := List.eq_nil_of_length_eq_zero (by omega)
    subst this
    rw [List.append_nil] at hp
    walk_at "go"
    exact hQ s1 found hp

@[irreducible] def S_law_sign : SF := fun cs Q _ => ∃ (s : Sto), cs = [s.cl] ∧ ∀ (s' : Sto) (c : Nat), Q (cS ⟨#[c]⟩) [s'.cl]
theorem S_law_sign_i {s : Sto} {Q E} (h : ∀ (s' : Sto) (c : Nat), Q (cS ⟨#[c]⟩) [s'.cl]) : S_law_sign [s.cl] Q E := by unfold S_law_sign; exact ⟨s, rfl, h⟩
/-- _law_sign: slots _law_store_here _law_signs -/
def w_law_sign : WS := (wSeq (wNfS (wAsg 1 (wC (.str " !\"#$&'()*+,-./0123456789:;<=>?\x40ABCDEFGHIJKLMNOPQRSTUVWXYZ[\\]^_`"))))
  (wRet (wNf (wCall S_law_pick [] (waCons (wVar 0) (waCons (w2 gAdd (wVar 1) (wC (.str "abcdefghijklmnopqrstuvwxyz{|}~\n"))) waNil))))))
theorem pure_law_sign : ∀ cs Q E, S_law_sign cs Q E → cs.length = 1 ∧ w_law_sign (fnWD [0] cs Q E) (env0 [0] 2 cs) := by
  intro cs Q E h
  unfold S_law_sign at h
  obtain ⟨s, rfl, hQ⟩ := h
  refine ⟨rfl, ?_⟩
  walk_at "go"
  refine S_law_pick_s (by decide +kernel) (by decide +kernel) fun s' c _ => ?_
  exact hQ s' c
end Py
set_option Elab.async false
set_option linter.all false
set_option maxRecDepth 100000
set_option maxHeartbeats 400000
/-! Names that are drawn. -/
namespace Py
open PySem PySem.Spec PyProof.Rows L2
set_option exponentiation.threshold 9000
local macro_rules | `(tactic| walk_at "mul") => `(tactic| first | exact Or.inl (Or.inr ⟨by decide, by decide⟩) | exact Or.inl (Or.inl ⟨by decide, by decide⟩) | exact Or.inl (Or.inl ⟨by omega, by omega⟩) | exact Or.inl (Or.inr ⟨by omega, by omega⟩))
local macro_rules | `(tactic| walk_at "side") => `(tactic| first | rfl | exact ⟨_, rfl⟩ | decide | exact Nat.le_of_ble_eq_true rfl | omega | (walk_at "mul") | exact nat_small (by omega) (by omega) | exact nat_small2 (by omega) (by omega))
local macro_rules | `(tactic| walk_at "go") => `(tactic| repeat (first | refine And.intro (by walk_at "side") ?_ | refine ex_ix rfl ?_ | refine ex_ixS rfl ?_ | refine ex_n rfl ?_))


theorem nat_small2 {j : Int} (h : 0 ≤ j) (h2 : j ≤ 10 ^ 70) : j.natAbs < 2 ^ 1900 := Nat.lt_of_le_of_lt (show j.natAbs ≤ 10 ^ 70 by omega) (by decide)
theorem let26 : ∀ c ∈ tl ("abcdefghijklmnopqrstuvwxyz" : Str), isLet c = true := by decide +kernel
theorem let26_len : (tl ("abcdefghijklmnopqrstuvwxyz" : Str)).length = 26 := by decide +kernel
theorem ld36 : ∀ c ∈ tl ("abcdefghijklmnopqrstuvwxyz0123456789" : Str), isLD c = true := by decide +kernel
theorem ld36_len : (tl ("abcdefghijklmnopqrstuvwxyz0123456789" : Str)).length = 36 := by decide +kernel
theorem ld36b : ∀ c ∈ tl ("0123456789abcdefghijklmnopqrstuvwxyz" : Str), isLD c = true := by decide +kernel
theorem len_one (c : Nat) : (⟨#[c]⟩ : Str).length = 1 := rfl

@[irreducible] def S_law_text : SF := fun cs Q _ => ∃ (s : Sto) (m : Int), cs = [s.cl, cI m] ∧ m ≤ 100000 ∧ ∀ (s' : Sto) (x : Str), x.length ≤ m.toNat → Q (cS x) [s'.cl, cI m]
theorem S_law_text_i {s : Sto} {m : Int} {Q E} (hm : m ≤ 100000) (h : ∀ (s' : Sto) (x : Str), x.length ≤ m.toNat → Q (cS x) [s'.cl, cI m]) : S_law_text [s.cl, cI m] Q E := by unfold S_law_text; exact ⟨s, m, rfl, hm, h⟩
theorem texts_ones : ∀ cs : List Nat, texts (cs.map fun c => Dv.str ⟨#[c]⟩) = some (cs.map fun c => (⟨#[c]⟩ : Str))
  | [] => rfl
  | c :: cs => by rw [List.map_cons]; show (texts _).map _ = _; rw [texts_ones cs]; rfl
theorem sum_ones : ∀ cs : List Nat, ((cs.map fun c => (⟨#[c]⟩ : Str)).map (·.length)).sum = cs.length
  | [] => rfl
  | c :: cs => by rw [List.map_cons, List.map_cons, List.sum_cons, sum_ones cs]; show 1 + _ = _; rw [List.length_cons]; omega
theorem join_onesL (cs : List Nat) : (Txt.join ("" : Str) (cs.map fun c => (⟨#[c]⟩ : Str))).length = cs.length := by
  rw [show (Str.ofString "") = ⟨#[]⟩ from by decide +kernel]
  show (Builtin.Str.glued ⟨#[]⟩ _).length = _
  rw [StrLaws.glued_eq_join, join_ones]
  exact List.size_toArray ..
/-- _law_text: slots _law_store_here _law_most _law_k -/
def w_law_text : WS := (wRet (wM "str" gJoin (wC (.str "")) (waCons (wLcS (wItR1 (waCons (wNf (wCall S_law_size [] (waCons (wVar 0) (waCons (wC (.int 6)) (waCons (wVar 1) waNil))))) waNil)) (tgN 2) wYes (wNf (wCall S_law_sign [] (waCons (wVar 0) waNil))) [2]) waNil)))
theorem pure_law_text : ∀ cs Q E, S_law_text cs Q E → cs.length = 2 ∧ w_law_text (fnWD [0, 1] cs Q E) (env0 [0, 1] 3 cs) := by
  intro cs Q E h
  unfold S_law_text at h
  obtain ⟨s, m, rfl, hm, hQ⟩ := h
  refine ⟨rfl, ?_⟩
  walk_at "go"
  refine S_law_size_i (by omega) fun s1 r r0 r1 => ?_
  walk_at "go"
  refine ⟨fun i acc e => ∃ (s2 : Sto) (cs : List Nat) (x2 : Option Cl), acc = cs.map (fun c => Dv.str ⟨#[c]⟩) ∧ cs.length = i ∧ i ≤ r.toNat ∧ e = [some s2.cl, some (cI m), x2], ?_, fun i acc e h => ?_, fun i d acc e hd h N N0 hN hN0 => ?_, fun acc e h => ?_⟩
  · exact ⟨s1, [], none, rfl, rfl, Nat.zero_le _, rfl⟩
  · obtain ⟨s2, cs, x2, rfl, hl, hi, rfl⟩ := h
    refine ⟨trivial, ?_⟩
    rw [List.length_map]
    omega
  · obtain ⟨s2, cs, x2, rfl, hl, hi, rfl⟩ := h
    obtain ⟨hi, rfl⟩ := rngD_some hd
    walk_at "go"
    refine S_law_sign_i fun s3 c => ?_
    refine hN _ _ ⟨s3, cs ++ [c], _, ?_, ?_, ?_, rfl⟩
    · rw [List.map_append]; rfl
    · rw [List.length_append, hl]; rfl
    · omega
  · obtain ⟨s2, cs, x2, rfl, hl, hi, rfl⟩ := h
    rw [rngD_len] at hl hi
    walk_at "go"
    refine ⟨_, texts_ones cs, ?_, ?_⟩
    · rw [sum_ones, List.length_map]
      show _ + _ * 0 ≤ _
      omega
    · refine hQ s2 _ ?_
      rw [join_onesL]
      omega

@[irreducible] def S_law_free_name : SF := fun cs Q _ => ∃ (s : Sto) (m : Int), cs = [s.cl, cI m] ∧ 1 ≤ m ∧ m ≤ 100 ∧ ∀ (s' : Sto) (x : Str), Nm m.toNat x → Q (cS x) [s'.cl, cI m]
theorem S_law_free_name_i {s : Sto} {m : Int} {Q E} (h1 : 1 ≤ m) (h2 : m ≤ 100) (h : ∀ (s' : Sto) (x : Str), Nm m.toNat x → Q (cS x) [s'.cl, cI m]) : S_law_free_name [s.cl, cI m] Q E := by unfold S_law_free_name; exact ⟨s, m, rfl, h1, h2, h⟩
theorem three_at {a b c r : Int} (h0 : 0 ≤ r) (h1 : r < 6) : ∃ z, atI [Dv.int a, Dv.int b, Dv.int c] (r / 2) = some (.int z) ∧ (z = a ∨ z = b ∨ z = c) := by
  have : r / 2 = 0 ∨ r / 2 = 1 ∨ r / 2 = 2 := by omega
  rcases this with e | e | e <;> rw [e]
  · exact ⟨a, rfl, .inl rfl⟩
  · exact ⟨b, rfl, .inr (.inl rfl)⟩
  · exact ⟨c, rfl, .inr (.inr rfl)⟩
/-- _law_free_name: slots _law_store_here _law_most _law_size_here _law_number _law_name _law_k -/
def w_law_free_name : WS := (wSeq (wNfS (wAsg 2 (w2 gIx (wLst (waCons (wSh (wC (.int 1))) (waCons (wSh (wVar 1)) (waCons (wSh (w2 gAdd (wC (.int 1)) (wNf (wCall S_law_take [] (waCons (wVar 0) (waCons (wVar 1) waNil)))))) waNil)))) (w2 gFdiv (wNf (wCall S_law_take [] (waCons (wVar 0) (waCons (wC (.int 6)) waNil)))) (wC (.int 2))))))
  (wSeq (wNfS (wAsg 3 (wNf (wCall S_law_take [] (waCons (wVar 0) (waCons (w2 gPow (wC (.int 10)) (wC (.int 13))) waNil))))))
  (wSeq (wNfS (wAsg 4 (w2 gIx (wC (.str "abcdefghijklmnopqrstuvwxyz")) (w2 gMod (wN gInt (waCons (wVar 3) waNil)) (wC (.int 26))))))
  (wSeq (wNfS (wAsg 3 (w2 gFdiv (wVar 3) (wC (.int 26)))))
  (wSeq (wFor (wItR1 (waCons (w2 gMinus (wVar 2) (wC (.int 1))) waNil)) (tgN 5) (wSeq (wNfS (wAsg 4 (w2 gAdd (wVar 4) (w2 gIx (wC (.str "abcdefghijklmnopqrstuvwxyz0123456789")) (w2 gMod (wN gInt (waCons (wVar 3) waNil)) (wC (.int 36)))))))
  (wNfS (wAsg 3 (w2 gFdiv (wVar 3) (wC (.int 36)))))))
  (wRet (wVar 4)))))))
theorem pure_law_free_name : ∀ cs Q E, S_law_free_name cs Q E → cs.length = 2 ∧ w_law_free_name (fnWD [0, 1] cs Q E) (env0 [0, 1] 6 cs) := by
  intro cs Q E h
  unfold S_law_free_name at h
  obtain ⟨s, m, rfl, hm1, hm2, hQ⟩ := h
  refine ⟨rfl, ?_⟩
  walk_at "go"
  refine S_law_take_i (by omega) fun s1 r r0 r1 => ?_
  walk_at "go"
  refine S_law_take_i (by omega) fun s2 r2 r3 r4 => ?_
  obtain ⟨z, hz, hzz⟩ := three_at (a := 1) (b := m) (c := 1 + r) r3 (by omega)
  walk_at "go"
  refine ex_ix hz ?_
  walk_at "go"
  refine S_law_take_i (by decide) fun s3 n n0 n1 => ?_
  obtain ⟨c, hc, hcm⟩ := atI_in (xs := tl ("abcdefghijklmnopqrstuvwxyz" : Str)) (r := n % 26) (by omega) (by rw [let26_len]; omega)
  walk_at "go"
  refine ex_ixS hc ?_
  walk_at "go"
  refine ⟨fun i e => ∃ (x : Str) (n : Int) (x5 : Option Cl), e = [some s3.cl, some (cI m), some (cI z), some (cI n), some (cS x), x5] ∧ x.length = i + 1 ∧ Nm (i + 1) x, ⟨_, _, none, rfl, rfl, nm_one (let26 c hcm)⟩, fun _ _ _ => trivial, ?_, ?_⟩
  · rintro i d e hd ⟨x, n, x5, rfl, hl, hx⟩
    obtain ⟨hi, rfl⟩ := rngD_some hd
    obtain ⟨c, hc, hcm⟩ := atI_in (xs := tl ("abcdefghijklmnopqrstuvwxyz0123456789" : Str)) (r := n % 36) (by omega) (by rw [ld36_len]; omega)
    walk_at "go"
    refine ex_ixS hc ?_
    refine ⟨by rw [hl, len_one]; omega, ?_⟩
    walk_at "go"
    refine ⟨_, _, _, rfl, ?_, hx.app (ld_one (ld36 c hcm)) (by rw [hl, len_one]; omega)⟩
    rw [len_app, hl, len_one]
  · rintro e ⟨x, n, x5, rfl, hl, hx⟩
    rw [rngD_len] at hl hx
    walk_at "go"
    exact hQ s3 x (hx.mono (by omega))
end Py
set_option Elab.async false
set_option linter.all false
set_option maxRecDepth 100000
set_option maxHeartbeats 400000
/-! Fresh names. -/
namespace Py
open PySem PySem.Spec PyProof.Rows L2
set_option exponentiation.threshold 9000
local macro_rules | `(tactic| walk_at "mul") => `(tactic| first | exact Or.inl (Or.inr ⟨by decide, by decide⟩) | exact Or.inl (Or.inl ⟨by decide, by decide⟩) | exact Or.inl (Or.inl ⟨by omega, by omega⟩) | exact Or.inl (Or.inr ⟨by omega, by omega⟩))
local macro_rules | `(tactic| walk_at "side") => `(tactic| first | rfl | exact ⟨_, rfl⟩ | decide | exact Nat.le_of_ble_eq_true rfl | omega | (walk_at "mul") | exact nat_small (by omega) (by omega) | exact nat_small2 (by omega) (by omega) | exact all_scal _ | assumption)
local macro_rules | `(tactic| walk_at "go") => `(tactic| repeat (first | refine And.intro (by walk_at "side") ?_ | refine ex_ix rfl ?_ | refine ex_ixS rfl ?_ | refine ex_n rfl ?_))


/-! k-th name -/
def cand (x : Str) (k : Int) : Str := cutS x none (some 5) ++ ((toString k : String) : Str)
theorem cand_inj {x : Str} {i j : Nat} (h : cand x ((i : Nat) : Int) = cand x ((j : Nat) : Int)) : i = j := by
  have h2 := congrArg tl h
  unfold cand at h2
  rw [tl_app, tl_app, tl_int (by omega), tl_int (by omega)] at h2
  have := dig_inj (List.append_cancel_left h2)
  simpa using this
theorem cand_nm {x : Str} {m : Nat} (h : Nm m x) {k : Int} (h0 : 0 ≤ k) (h1 : k < 1000) : Nm 8 (cand x k) := by
  refine (h.cut (n := 5) (by decide)).app (ld_int h0) ?_
  rw [cut0_len _ (by decide), ← tl_len ((toString k : String) : Str), tl_int h0]
  have := dig_len (n := k.toNat) (k := 3) (by decide) (by omega)
  have : (5 : Int).toNat = 5 := rfl
  omega
theorem cand_hit {x : Str} {us : List Str} (h : ∀ k : Nat, k < us.length + 1 → cand x ((k : Nat) : Int) ∈ us) : False := by
  have h1 := pigeon ((List.range (us.length + 1)).map fun k => cand x ((k : Nat) : Int)) us ?_ ?_
  · rw [List.length_map, List.length_range] at h1
    omega
  · rw [List.nodup_iff_pairwise_ne, List.pairwise_map]
    refine List.Pairwise.imp (fun {a b} hab e => ?_) List.pairwise_lt_range
    have := cand_inj e
    omega
  · intro y hy
    rw [List.mem_map] at hy
    obtain ⟨k, hk, rfl⟩ := hy
    exact h k (List.mem_range.mp hk)
theorem ite_nin {us : List Str} {x : Str} {A B : Prop} (h1 : x ∉ us → A) (h2 : x ∈ us → B) : if (!(us.map Dv.str).any fun e => eqD e (.str x)) = true then A else B := by
  rw [any_str]
  exact ite_b (fun h => h1 (by simpa using h)) fun h => h2 (by simpa using h)
theorem ite_in {us : List Str} {x : Str} {A B : Prop} (h1 : x ∈ us → A) (h2 : x ∉ us → B) : if ((us.map Dv.str).any fun e => eqD e (.str x)) = true then A else B := by
  rw [any_str]
  exact ite_b (fun h => h1 (by simpa using h)) fun h => h2 (by simpa using h)
@[irreducible] def S_law_fresh : SF := fun cs Q _ => ∃ (x : Str) (us : List Str) (o : Ow), cs = [cS x, ⟨.lst (us.map .str), o⟩] ∧ o.flat = true ∧ us.length ≤ 900 ∧ Nm 8 x ∧ ∀ y : Str, Nm 8 y → y ∉ us → Q (cS y) cs
theorem S_law_fresh_i {x : Str} {us : List Str} {o : Ow} {Q E} (h1 : o.flat = true) (h2 : us.length ≤ 900) (h3 : Nm 8 x) (h : ∀ y : Str, Nm 8 y → y ∉ us → Q (cS y) [cS x, ⟨.lst (us.map .str), o⟩]) : S_law_fresh [cS x, ⟨.lst (us.map .str), o⟩] Q E := by unfold S_law_fresh; exact ⟨x, us, o, rfl, h1, h2, h3, h⟩
/-- _law_fresh: slots _law_name _law_used _law_k -/
def w_law_fresh : WS := (wSeq (wIf (wTB (w2 gNMem (wVar 0) (wVar 1))) (wRet (wVar 0)) wNext)
  (wSeq (wFor (wItR1 (waCons (w2 gAdd (wN gLen (waCons (wVar 1) waNil)) (wC (.int 1))) waNil)) (tgN 2) (wIf (wTB (w2 gNMem (w2 gAdd (wSl (wVar 0) wNoPart (wPart (wC (.int 5)))) (wN gStrI (waCons (wVar 2) waNil))) (wVar 1))) (wRet (w2 gAdd (wSl (wVar 0) wNoPart (wPart (wC (.int 5)))) (wN gStrI (waCons (wVar 2) waNil)))) wNext))
  (wRet (wVar 0))))
theorem pure_law_fresh : ∀ cs Q E, S_law_fresh cs Q E → cs.length = 2 ∧ w_law_fresh (fnWD [0, 1] cs Q E) (env0 [0, 1] 3 cs) := by
  intro cs Q E h
  unfold S_law_fresh at h
  obtain ⟨x, us, o, rfl, ho, hl, hx, hQ⟩ := h
  refine ⟨rfl, ?_⟩
  walk_at "go"
  refine ite_nin (fun h1 => ?_) fun h1 => ?_
  · walk_at "go"
    exact hQ x hx h1
  walk_at "go"
  refine ⟨by rw [List.length_map]; omega, ?_⟩
  refine ⟨fun i e => (∃ x2, e = [some (cS x), some ⟨.lst (us.map .str), o⟩, x2]) ∧ ∀ k : Nat, k < i → cand x ((k : Nat) : Int) ∈ us, ⟨⟨none, rfl⟩, fun k hk => absurd hk (Nat.not_lt_zero _)⟩, fun _ _ _ => trivial, ?_, ?_⟩
  · rintro i d e hd ⟨⟨x2, rfl⟩, hk⟩
    obtain ⟨hi, rfl⟩ := rngD_some hd
    rw [List.length_map] at hi
    have e0 : (0 : Int) + ((i : Nat) : Int) = ((i : Nat) : Int) := Int.zero_add _
    rw [e0]
    have hxl := hx.len
    have hb : (cutS x none (some 5)).length + ((toString ((i : Nat) : Int) : String) : Str).length ≤ 1000000 := by
      have := (cand_nm hx (k := ((i : Nat) : Int)) (by omega) (by omega)).len.2
      unfold cand at this
      rw [len_app] at this
      omega
    walk_at "go"
    refine ite_nin (us := us) (x := cand x ((i : Nat) : Int)) (fun h1 => ?_) fun h1 => ?_
    · walk_at "go"
      exact hQ (cand x ((i : Nat) : Int)) (cand_nm hx (by omega) (by omega)) h1
    · refine ⟨⟨_, rfl⟩, fun k hk2 => ?_⟩
      rcases Nat.lt_succ_iff_lt_or_eq.mp hk2 with h | rfl
      · exact hk k h
      · exact h1
  · rintro e ⟨⟨x2, rfl⟩, hk⟩
    rw [rngD_len, List.length_map] at hk
    exact (cand_hit fun k hk2 => hk k (by omega)).elim
end Py
set_option Elab.async false
set_option linter.all false
set_option maxRecDepth 100000
set_option maxHeartbeats 400000
/-! Lists of names and of texts. -/
namespace Py
open PySem PySem.Spec PyProof.Rows L2
set_option exponentiation.threshold 9000
local macro_rules | `(tactic| walk_at "mul") => `(tactic| first | exact Or.inl (Or.inr ⟨by decide, by decide⟩) | exact Or.inl (Or.inl ⟨by decide, by decide⟩) | exact Or.inl (Or.inl ⟨by omega, by omega⟩) | exact Or.inl (Or.inr ⟨by omega, by omega⟩))
local macro_rules | `(tactic| walk_at "side") => `(tactic| first | rfl | exact ⟨_, rfl⟩ | decide | exact Nat.le_of_ble_eq_true rfl | omega | (walk_at "mul") | exact nat_small (by omega) (by omega) | exact nat_small2 (by omega) (by omega) | exact all_scal _ | assumption)
local macro_rules | `(tactic| walk_at "go") => `(tactic| repeat (first | refine And.intro (by walk_at "side") ?_ | refine ex_ix rfl ?_ | refine ex_ixS rfl ?_ | refine ex_n rfl ?_))


theorem two_at {a b : Int} {c : Bool} : ∃ z, atI [Dv.int a, Dv.int b] (if c then 1 else 0) = some (.int z) ∧ (z = a ∨ z = b) := by
  cases c with
  | true => exact ⟨b, rfl, .inr rfl⟩
  | false => exact ⟨a, rfl, .inl rfl⟩
@[irreducible] def S_law_names : SF := fun cs Q _ => ∃ (s : Sto) (n m : Int) (us : List Str) (o : Ow), cs = [s.cl, cI n, ⟨.lst (us.map .str), o⟩, cI m] ∧ o.flat = true ∧ 0 ≤ n ∧ n ≤ 400 ∧ us.length + n.toNat ≤ 900 ∧ 1 ≤ m ∧ m ≤ 8 ∧
  ∀ (s' : Sto) (fs : List Str), fs.length = n.toNat → fs.Nodup → (∀ f ∈ fs, Nm 8 f ∧ f ∉ us) → Q ⟨.lst (fs.map .str), .nd []⟩ [s'.cl, cI n, ⟨.lst (us.map .str), o⟩, cI m]
theorem S_law_names_i {s : Sto} {n m : Int} {us : List Str} {o : Ow} {Q E} (ho : o.flat = true) (h0 : 0 ≤ n) (h1 : n ≤ 400) (h2 : us.length + n.toNat ≤ 900) (h3 : 1 ≤ m) (h4 : m ≤ 8) (h : ∀ (s' : Sto) (fs : List Str), fs.length = n.toNat → fs.Nodup → (∀ f ∈ fs, Nm 8 f ∧ f ∉ us) → Q ⟨.lst (fs.map .str), .nd []⟩ [s'.cl, cI n, ⟨.lst (us.map .str), o⟩, cI m]) :
    S_law_names [s.cl, cI n, ⟨.lst (us.map .str), o⟩, cI m] Q E := by unfold S_law_names; exact ⟨s, n, m, us, o, rfl, ho, h0, h1, h2, h3, h4, h⟩
theorem a1b2 : LDs ("a1b2c3d4" : Str) := by unfold LDs; decide +kernel
theorem zyx9 : LDs ("zyx9876z" : Str) := by unfold LDs; decide +kernel
/-- _law_names: slots _law_store_here _law_many _law_used _law_most _law_style _law_stem _law_place _law_taken _law_found _law_k _law_name -/
def w_law_names : WS := (wSeq (wNfS (wAsg 4 (wNf (wCall S_law_take [] (waCons (wVar 0) (waCons (wC (.int 6)) waNil))))))
  (wSeq (wNfS (wAsg 5 (wSl (w2 gAdd (wNf (wCall S_law_free_name [] (waCons (wVar 0) (waCons (wVar 3) waNil)))) (wC (.str "a1b2c3d4"))) wNoPart (wPart (w2 gAdd (wC (.int 2)) (wNf (wCall S_law_take [] (waCons (wVar 0) (waCons (w2 gMinus (wVar 3) (wC (.int 1))) waNil)))))))))
  (wSeq (wNfS (wAsg 6 (wNf (wCall S_law_take [] (waCons (wVar 0) (waCons (wN gLen (waCons (wVar 5) waNil)) waNil))))))
  (wSeq (wNfS (wAsg 7 (wN gList (waCons (wVar 2) waNil))))
  (wSeq (wNfS (wAsg 8 (wLst waNil)))
  (wSeq (wFor (wItR1 (waCons (wVar 1) waNil)) (tgN 9) (wSeq (wNfS (wAsg 10 (wNf (wCall S_law_free_name [] (waCons (wVar 0) (waCons (w2 gIx (wLst (waCons (wSh (wC (.int 1))) (waCons (wSh (wVar 3)) waNil))) (wN gInt (waCons (w2 gGt (wVar 4) (wC (.int 0))) waNil))) waNil))))))
  (wSeqC (wIf (wAndT (wTB (w2 gEqS (wVar 4) (wC (.int 2)))) (wTB (w2 gEqS (wVar 6) (wC (.int 0))))) (wNfS (wAsg 10 (w2 gAdd (w2 gIx (wVar 10) (wC (.int 0))) (wSl (wVar 5) (wPart (wC (.int 1))) wNoPart)))) wNext)
  (wSeqC (wIf (wAndT (wTB (w2 gEqS (wVar 4) (wC (.int 2)))) (wTB (w2 gGt (wVar 6) (wC (.int 0))))) (wNfS (wAsg 10 (w2 gAdd (w2 gAdd (wSl (wVar 5) wNoPart (wPart (wVar 6))) (wNf (wCall S_law_pick [] (waCons (wVar 0) (waCons (wC (.str "0123456789abcdefghijklmnopqrstuvwxyz")) waNil))))) (wSl (wVar 5) (wPart (w2 gAdd (wVar 6) (wC (.int 1)))) wNoPart)))) wNext)
  (wSeqC (wIf (wTB (w2 gEqS (wVar 4) (wC (.int 3)))) (wNfS (wAsg 10 (wSl (wVar 5) wNoPart (wPart (w2 gAdd (wC (.int 1)) (wNf (wCall S_law_take [] (waCons (wVar 0) (waCons (wN gLen (waCons (wVar 5) waNil)) waNil))))))))) wNext)
  (wSeqC (wIf (wTB (w2 gEqS (wVar 4) (wC (.int 4)))) (wNfS (wAsg 10 (wSl (w2 gAdd (wVar 10) (wC (.str "zyx9876z"))) wNoPart (wPart (wVar 3))))) wNext)
  (wSeqC (wIf (wTB (w2 gEqS (wVar 4) (wC (.int 5)))) (wNfS (wAsg 10 (w2 gAdd (w2 gIx (wVar 10) (wC (.int 0))) (wN gStrI (waCons (wNf (wCall S_law_take [] (waCons (wVar 0) (waCons (wC (.int 12)) waNil)))) waNil))))) wNext)
  (wSeq (wNfS (wAsg 10 (wNf (wCall S_law_fresh [] (waCons (wVar 10) (waCons (wVar 7) waNil))))))
  (wSeq (wNfS (wDrop (wApp 7 (wSh (wVar 10)))))
  (wNfS (wDrop (wApp 8 (wSh (wVar 10))))))))))))))
  (wRet (wVar 8))))))))
/-- the frame of the loop's body -/
def namesM (n m st pl : Int) (us fs : List Str) (o : Ow) (stem : Str) : Env → Prop := fun e => ∃ (s : Sto) (y : Str) (x9 : Option Cl), e = [some s.cl, some (cI n), some ⟨.lst (us.map .str), o⟩, some (cI m), some (cI st), some (cS stem), some (cI pl),
  some ⟨.lst ((us ++ fs).map .str), .nd []⟩, some ⟨.lst (fs.map .str), .nd []⟩, x9, some (cS y)] ∧ Nm 8 y
theorem pure_law_names : ∀ cs Q E, S_law_names cs Q E → cs.length = 4 ∧ w_law_names (fnWD [0, 1, 2, 3] cs Q E) (env0 [0, 1, 2, 3] 11 cs) := by
  intro cs Q E h
  unfold S_law_names at h
  obtain ⟨s, n, m, us, o, rfl, ho, hn0, hn, hun, hm1, hm2, hQ⟩ := h
  refine ⟨rfl, ?_⟩
  walk_at "go"
  refine S_law_take_i (by decide) fun s1 st st0 st1 => ?_
  walk_at "go"
  refine S_law_free_name_i hm1 (by omega) fun s2 x hx => ?_
  have hxl := hx.len
  have ea : ("a1b2c3d4" : Str).length = 8 := by decide +kernel
  walk_at "go"
  refine S_law_take_i (by omega) fun s3 r r0 r1 => ?_
  have hstem0 : Nm 16 (x ++ ("a1b2c3d4" : Str)) := hx.app a1b2 (by omega)
  have hstem : Nm 8 (cutS (x ++ ("a1b2c3d4" : Str)) none (some (2 + r))) := (hstem0.cut (by omega)).of_len (by rw [cut0_len _ (by omega)]; omega)
  have hxl2 : (x ++ ("a1b2c3d4" : Str)).length ≤ 1000000 := by rw [len_app]; omega
  have hsl := hstem.len
  walk_at "go"
  refine S_law_take_i (by omega) fun s4 pl pl0 pl1 => ?_
  walk_at "go"
  refine ⟨fun i e => ∃ (s : Sto) (fs : List Str) (x9 x10 : Option Cl), e = [some s.cl, some (cI n), some ⟨.lst (us.map .str), o⟩, some (cI m), some (cI st), some (cS (cutS (x ++ ("a1b2c3d4" : Str)) none (some (2 + r)))), some (cI pl),
  some ⟨.lst ((us ++ fs).map .str), .nd []⟩, some ⟨.lst (fs.map .str), .nd []⟩, x9, x10] ∧ fs.length = i ∧ fs.Nodup ∧ ∀ f ∈ fs, Nm 8 f ∧ f ∉ us, ?_, fun _ _ _ => trivial, ?_, ?_⟩
  · refine ⟨s4, [], none, none, ?_, rfl, List.nodup_nil, fun f hf => (by cases hf)⟩
    rw [List.append_nil]
    rfl
  · rintro i d e hd ⟨s5, fs, x9, x10, rfl, hfl, hnd, hfs⟩
    obtain ⟨hi, rfl⟩ := rngD_some hd
    have hpl : pl < (cutS (x ++ ("a1b2c3d4" : Str)) none (some (2 + r))).length := by omega
    clear pl1
    generalize cutS (x ++ ("a1b2c3d4" : Str)) none (some (2 + r)) = stem at hstem hsl hpl
    clear hstem0 hxl2 ea hxl hx
    have hlen : ((us ++ fs).map Dv.str).length ≤ 900 := by rw [List.length_map, List.length_append]; omega
    have hlen2 : (fs.map Dv.str).length ≤ 900 := by rw [List.length_map]; omega
    obtain ⟨z, hz, hzz⟩ := two_at (a := 1) (b := m) (c := decide (st > 0))
    walk_at "go"
    refine ex_ix hz ?_
    walk_at "go"
    refine S_law_free_name_i (by omega) (by omega) fun s6 y0 hy0 => ?_
    have hy8 : Nm 8 y0 := hy0.mono (by omega)
    refine ⟨namesM n m st pl us fs o stem, ?_, ?_⟩
    · have hl := hy8.len
      walk_at "go"
      refine ite_d (fun h1 => ?_) fun h1 => ?_
      · walk_at "go"
        refine ite_d (fun h2 => ?_) fun h2 => ?_
        · obtain ⟨c, hc, hc1⟩ := hy8.first
          have h3 := len_one c
          have h4 := cut1_len stem (n := 1) (by decide)
          walk_at "go"
          refine ex_ixS hc ?_
          walk_at "go"
          exact ⟨s6, _, _, rfl, hc1.app (ld_cut hstem.ld _ _) (by rw [h3, h4]; omega)⟩
        · exact ⟨s6, _, _, rfl, hy8⟩
      · exact ⟨s6, _, _, rfl, hy8⟩
    rintro e ⟨s7, y, x9, rfl, hy⟩
    have hl := hy.len
    refine ⟨namesM n m st pl us fs o stem, ?_, ?_⟩
    · walk_at "go"
      refine ite_d (fun h1 => ?_) fun h1 => ?_
      · walk_at "go"
        refine ite_d (fun h2 => ?_) fun h2 => ?_
        · have h4 := cut0_len stem (n := pl) (by omega)
          have h5 := cut1_len stem (n := pl + 1) (by omega)
          walk_at "go"
          refine S_law_pick_s (by decide +kernel) (by decide +kernel) fun s8 c hc => ?_
          have h3 := len_one c
          have h6 := len_app (cutS stem none (some pl)) ⟨#[c]⟩
          walk_at "go"
          exact ⟨s8, _, _, rfl, ((hstem.cut (by omega)).app (m' := 100) (ld_one (ld36b c hc)) (by omega)).app (ld_cut hstem.ld _ _) (by omega)⟩
        · exact ⟨s7, _, _, rfl, hy⟩
      · exact ⟨s7, _, _, rfl, hy⟩
    clear hl hy
    rintro e ⟨s7, y, x9, rfl, hy⟩
    have hl := hy.len
    refine ⟨namesM n m st pl us fs o stem, ?_, ?_⟩
    · walk_at "go"
      refine ite_d (fun h1 => ?_) fun h1 => ?_
      · walk_at "go"
        refine S_law_take_i (by omega) fun s8 r8 r9 r10 => ?_
        walk_at "go"
        exact ⟨s8, _, _, rfl, hstem.cut (by omega)⟩
      · exact ⟨s7, _, _, rfl, hy⟩
    clear hl hy
    rintro e ⟨s7, y, x9, rfl, hy⟩
    have hl := hy.len
    refine ⟨namesM n m st pl us fs o stem, ?_, ?_⟩
    · walk_at "go"
      refine ite_d (fun h1 => ?_) fun h1 => ?_
      · have h3 : ("zyx9876z" : Str).length = 8 := by decide +kernel
        have h4 := len_app y ("zyx9876z" : Str)
        walk_at "go"
        exact ⟨s7, _, _, rfl, (((hy.app (m' := 100) zyx9 (by omega)).cut hm1).of_len (by rw [cut0_len _ (by omega)]; omega))⟩
      · exact ⟨s7, _, _, rfl, hy⟩
    clear hl hy
    rintro e ⟨s7, y, x9, rfl, hy⟩
    have hl := hy.len
    refine ⟨namesM n m st pl us fs o stem, ?_, ?_⟩
    · walk_at "go"
      refine ite_d (fun h1 => ?_) fun h1 => ?_
      · obtain ⟨c, hc, hc1⟩ := hy.first
        have h3 := len_one c
        walk_at "go"
        refine ex_ixS hc ?_
        walk_at "go"
        refine S_law_take_i (by omega) fun s8 r8 r9 r10 => ?_
        have h4 : ((toString r8 : String) : Str).length ≤ 2 := by
          rw [← tl_len, tl_int r9]
          exact dig_len (by decide) (by omega)
        walk_at "go"
        exact ⟨s8, _, _, rfl, hc1.app (ld_int r9) (by omega)⟩
      · exact ⟨s7, _, _, rfl, hy⟩
    clear hl hy
    rintro e ⟨s7, y, x9, rfl, hy⟩
    walk_at "go"
    refine S_law_fresh_i rfl (by rw [List.length_append]; omega) hy fun f hf hfn => ?_
    walk_at "go"
    have e1 : (us ++ (fs ++ [f])).map Dv.str = (us ++ fs).map Dv.str ++ [.str f] := by simp
    have e2 : (fs ++ [f]).map Dv.str = fs.map Dv.str ++ [.str f] := by simp
    rw [List.mem_append, not_or] at hfn
    refine ⟨s7, fs ++ [f], x9, some (cS f), ?_, ?_, ?_, ?_⟩
    · rw [e1, e2]; rfl
    · rw [List.length_append, hfl]; rfl
    · rw [List.nodup_append]
      refine ⟨hnd, by simp, fun a ha b hb => ?_⟩
      rw [List.mem_singleton] at hb
      rintro rfl
      exact hfn.2 (hb ▸ ha)
    · intro g hg
      rw [List.mem_append, List.mem_singleton] at hg
      rcases hg with hg | rfl
      · exact hfs g hg
      · exact ⟨hf, hfn.1⟩
  · rintro e ⟨s5, fs, x9, x10, rfl, hfl, hnd, hfs⟩
    rw [rngD_len] at hfl
    walk_at "go"
    exact hQ s5 fs (by omega) hnd hfs
end Py
set_option Elab.async false
set_option linter.all false
set_option maxRecDepth 100000
set_option maxHeartbeats 1000000
/-! Nets: worlds as plain data, what sorting does to them. -/
namespace Py
open PySem PySem.Spec PyProof.Rows L2
abbrev sts (xs : List Str) : List Dv := xs.map Dv.str
abbrev Ln := Str × Str × Str
abbrev lnD (l : Ln) : Dv := .tup [.str l.1, .str l.2.1, .str l.2.2]
abbrev lns (ls : List Ln) : List Dv := ls.map lnD
structure Wd where
  home : Str
  oth : List Str
  rows : List Ln
abbrev Wd.d (w : Wd) : Dv := .tup [.str w.home, .lst (sts w.oth), .lst (lns w.rows)]
structure WOk (w : Wd) : Prop where
  nm : ∀ x ∈ w.home :: w.oth, Nm 8 x
  nd : (w.home :: w.oth).Nodup
  ol : w.oth.length ≤ 11
  rl : w.rows.length ≤ 30
  rn : ∀ l ∈ w.rows, Nm 8 l.1
  re : ∀ l ∈ w.rows, l.2.1 ∈ w.home :: w.oth ∧ l.2.2 ∈ w.home :: w.oth
  rd : (w.rows.map (·.1)).Nodup
/-! ### from permuted data back -/
theorem perm_map {α : Type} {f : α → Dv} {xs ys : List Dv} (h : xs.Perm ys) : ∀ {zs : List α}, ys = zs.map f → ∃ ws : List α, xs = ws.map f ∧ ws.Perm zs := by
  induction h with
  | nil =>
    intro zs e
    cases zs with
    | nil => exact ⟨[], rfl, .nil⟩
    | cons z zs => cases e
  | cons x _ ih =>
    intro zs e
    cases zs with
    | nil => cases e
    | cons z zs =>
      rw [List.map_cons, List.cons.injEq] at e
      obtain ⟨ws, rfl, h⟩ := ih e.2
      exact ⟨z :: ws, by rw [e.1]; rfl, h.cons z⟩
  | swap x y l =>
    intro zs e
    cases zs with
    | nil => cases e
    | cons z zs =>
      cases zs with
      | nil => cases e
      | cons z2 zs =>
        rw [List.map_cons, List.cons.injEq, List.map_cons, List.cons.injEq] at e
        obtain ⟨e1, e2, rfl⟩ := e
        exact ⟨z2 :: z :: zs, by rw [e1, e2]; rfl, List.Perm.swap z z2 zs⟩
  | trans _ _ ih1 ih2 =>
    intro zs e
    obtain ⟨ws, rfl, h1⟩ := ih2 e
    obtain ⟨vs, rfl, h2⟩ := ih1 rfl
    exact ⟨vs, rfl, h2.trans h1⟩
/-! ### the order -/
theorem leD_lt (a b : Dv) : leD a b = !PySem.W.dataLt (toP b) (toP a) := rfl
theorem leD_tot : PySem.W.TotalLe leD := by unfold leD PySem.W.dataLe; exact PySem.W.sortLe_total _ _ _
def leS (a b : Str) : Bool := leD (.str a) (.str b)
def leL (a b : Ln) : Bool := leD (lnD a) (lnD b)
theorem leS_tot : PySem.W.TotalLe leS := ⟨fun a b c h k => leD_tot.trans _ _ _ h k, fun a b => leD_tot.total _ _⟩
theorem leL_tot : PySem.W.TotalLe leL := ⟨fun a b c h k => leD_tot.trans _ _ _ h k, fun a b => leD_tot.total _ _⟩
theorem leS_anti {a b : Str} (h : leS a b = true) (k : leS b a = true) : a = b := by
  have h1 : (!PySem.W.dataLt (.str b) (.str a)) = true := by have := h; unfold leS at this; rw [leD_lt] at this; unfold toP at this; exact this
  have k1 : (!PySem.W.dataLt (.str a) (.str b)) = true := by have := k; unfold leS at this; rw [leD_lt] at this; unfold toP at this; exact this
  rw [PySem.W.dataLt_str, Bool.not_eq_true', decide_eq_false_iff_not] at h1 k1
  exact tl_inj (List.le_antisymm (List.not_lt.mp h1) (List.not_lt.mp k1))
theorem toP_ln (l : Ln) : toP (lnD l) = .tuple [.str l.1, .str l.2.1, .str l.2.2] := by simp [toP, toPs]
theorem leL_nm {a b : Ln} (h : leL a b = true) : leS a.1 b.1 = true := by
  unfold leL at h
  rw [leD_lt, toP_ln, toP_ln, PySem.W.dataLt_tuple, PySem.W.dataLt_cons (by simp [PySem.W.alike])] at h
  unfold leS
  rw [leD_lt]
  unfold toP
  cases q : PyData.eqv (.str b.1) (.str a.1) with
  | true =>
    have e : b.1 = a.1 := by simpa [PyData.eqv] using q
    rw [e, PySem.W.dataLt_str]
    simp
  | false =>
    rw [q, if_neg Bool.false_ne_true] at h
    exact h
/-- sorted -/
def srtS (xs : List Str) : List Str := xs.mergeSort leS
def srtL (ls : List Ln) : List Ln := ls.mergeSort leL
theorem sort_sts (xs : List Str) : (sts xs).mergeSort leD = sts (srtS xs) := (List.map_mergeSort (f := Dv.str) (l := xs) (r := leS) (s := leD) fun a _ b _ => rfl).symm
theorem sort_lns (ls : List Ln) : (lns ls).mergeSort leD = lns (srtL ls) := (List.map_mergeSort (f := lnD) (l := ls) (r := leL) (s := leD) fun a _ b _ => rfl).symm
theorem srtS_perm (xs : List Str) : (srtS xs).Perm xs := List.mergeSort_perm _ _
theorem srtL_perm (ls : List Ln) : (srtL ls).Perm ls := List.mergeSort_perm _ _
theorem srtS_pw (xs : List Str) : (srtS xs).Pairwise fun a b => leS a b = true := PySem.W.sort_pairwise leS_tot xs
theorem srtL_pw (ls : List Ln) : (srtL ls).Pairwise fun a b => leL a b = true := PySem.W.sort_pairwise leL_tot ls
theorem srtS_of {xs ys : List Str} (h : xs.Pairwise fun a b => leS a b = true) (p : xs.Perm ys) : xs = srtS ys :=
  List.Perm.eq_of_pairwise (fun a b _ _ h k => leS_anti h k) h (srtS_pw ys) (p.trans (srtS_perm ys).symm)
theorem srtS_eq {xs ys : List Str} (p : xs.Perm ys) : srtS xs = srtS ys := srtS_of (srtS_pw xs) ((srtS_perm xs).trans p)
theorem nodup_fst {ls : List Ln} (h : (ls.map (·.1)).Nodup) {a b : Ln} (ha : a ∈ ls) (hb : b ∈ ls) (e : a.1 = b.1) : a = b := by
  obtain ⟨i, hi⟩ := List.getElem?_of_mem ha
  obtain ⟨j, hj⟩ := List.getElem?_of_mem hb
  have h1 : (ls.map (·.1))[i]? = some a.1 := by rw [List.getElem?_map, hi]; rfl
  have h2 : (ls.map (·.1))[j]? = some a.1 := by rw [List.getElem?_map, hj, e]; rfl
  have hl : i < (ls.map (·.1)).length := (List.getElem?_eq_some_iff.mp h1).1
  have := (List.getElem?_inj hl h).mp (h1.trans h2.symm)
  subst this
  exact Option.some.inj (hi.symm.trans hj)
theorem srtL_eq {xs ys : List Ln} (nd : (xs.map (·.1)).Nodup) (p : xs.Perm ys) : srtL xs = srtL ys :=
  List.Perm.eq_of_pairwise (fun a b ha hb h k => nodup_fst nd ((srtL_perm xs).mem_iff.mp ha) (p.mem_iff.mpr ((srtL_perm ys).mem_iff.mp hb)) (leS_anti (leL_nm h) (leL_nm k))) (srtL_pw xs) (srtL_pw ys) (((srtL_perm xs).trans p).trans (srtL_perm ys).symm)
theorem srtL_nms (ls : List Ln) : (srtL ls).map (·.1) = srtS (ls.map (·.1)) :=
  srtS_of ((List.pairwise_map).mpr ((srtL_pw ls).imp fun h => leL_nm h)) ((srtL_perm ls).map _)
theorem srtS_rest {x : Str} {xs : List Str} (h : x ∉ xs) : (srtS (x :: xs)).filter (fun y => decide (y ≠ x)) = srtS xs := by
  refine srtS_of ((srtS_pw _).filter _) (((srtS_perm _).filter _).trans ?_)
  rw [List.filter_cons_of_neg (by simp)]
  have : xs.filter (fun y => decide (y ≠ x)) = xs := List.filter_eq_self.mpr fun y hy => decide_eq_true fun e => h (e ▸ hy)
  rw [this]
/-! ### what may be sorted and compared -/
theorem toPs_sts (xs : List Str) : toPs (sts xs) = xs.map PyData.str := by
  rw [toPs_map, List.map_map]
  refine List.map_congr_left fun x _ => ?_
  show toP (.str x) = _
  unfold toP; rfl
theorem toPs_lns (ls : List Ln) : toPs (lns ls) = ls.map fun l => PyData.tuple [.str l.1, .str l.2.1, .str l.2.2] := by
  rw [toPs_map, List.map_map]
  exact List.map_congr_left fun l _ => toP_ln l
theorem okPs_sts : ∀ xs : List Str, okPs (sts xs) = true
  | [] => by unfold okPs; rfl
  | x :: xs => by
    show okPs (.str x :: sts xs) = true
    unfold okPs; rw [okPs_sts xs]; unfold okP; rfl
theorem okPs_lns : ∀ ls : List Ln, okPs (lns ls) = true
  | [] => by unfold okPs; rfl
  | l :: ls => by
    show okPs (lnD l :: lns ls) = true
    unfold okPs; rw [okPs_lns ls]; simp [okP, okPs]
theorem sortOk_sts (xs : List Str) : SortOk (sts xs) := by
  refine ⟨okPs_sts xs, ?_, ?_, fun d hd => ?_⟩
  · rw [toPs_sts]; exact PySem.W.AllAlike.of fun b b' => by simp [PySem.W.alike]
  · rw [toPs_sts]; exact PySem.W.Sortable.others fun b => ⟨by simp, fun xs => by simp⟩
  · rw [toPs_sts] at hd
    obtain ⟨b, _, rfl⟩ := List.mem_map.mp hd
    simp [PyData.depth]
theorem sortOk_lns (ls : List Ln) : SortOk (lns ls) := by
  refine ⟨okPs_lns ls, ?_, ?_, fun d hd => ?_⟩
  · rw [toPs_lns]; exact PySem.W.AllAlike.of fun b b' => by simp [PySem.W.alike, PySem.W.alikeAll]
  · rw [toPs_lns]; exact PySem.W.Sortable.tuples fun b => ⟨_, _, rfl⟩
  · rw [toPs_lns] at hd
    obtain ⟨b, _, rfl⟩ := List.mem_map.mp hd
    simp [PyData.depth, PyData.depthAll]
theorem nm_strOk {m : Nat} {x : Str} (h : Nm m x) : PyData.canLay0 (.str x) = true := by
  have hl := h.ld
  unfold PyData.canLay0 PyData.strOk
  rw [← Array.all_toList, List.all_eq_true]
  intro c hc
  have := hl c hc
  unfold isLD isLet at this
  simp only [Bool.or_eq_true, Bool.and_eq_true, decide_eq_true_eq] at this ⊢
  omega
theorem canLay_sts : ∀ {xs : List Str}, (∀ x ∈ xs, Nm 8 x) → PyData.canLayAll0 (xs.map PyData.str) = true
  | [], _ => by simp [PyData.canLayAll0]
  | x :: xs, h => by
    rw [List.map_cons, PyData.canLayAll0, nm_strOk (h x List.mem_cons_self), canLay_sts fun y hy => h y (List.mem_cons_of_mem _ hy)]
    rfl
theorem depth_sts : ∀ xs : List Str, PyData.depthAll (xs.map PyData.str) = 0
  | [] => by simp [PyData.depthAll]
  | x :: xs => by rw [List.map_cons, PyData.depthAll, depth_sts xs]; simp [PyData.depth]
theorem shaped_sts {xs : List Str} (h : ∀ x ∈ xs, Nm 8 x) : SeqAt.shaped (toP (.lst (sts xs))) = true := by
  unfold toP
  rw [toPs_sts]
  unfold SeqAt.shaped PyData.canLay0 PyData.depth
  rw [canLay_sts h, depth_sts]
  rfl
theorem canLay_lns : ∀ {ls : List Ln}, (∀ l ∈ ls, Nm 8 l.1 ∧ Nm 8 l.2.1 ∧ Nm 8 l.2.2) → PyData.canLayAll0 (ls.map fun l => PyData.tuple [.str l.1, .str l.2.1, .str l.2.2]) = true
  | [], _ => by simp [PyData.canLayAll0]
  | l :: ls, h => by
    obtain ⟨h1, h2, h3⟩ := h l List.mem_cons_self
    rw [List.map_cons, PyData.canLayAll0, canLay_lns fun y hy => h y (List.mem_cons_of_mem _ hy)]
    simp [PyData.canLay0, PyData.canLayAll0]
    have a1 := nm_strOk h1
    have a2 := nm_strOk h2
    have a3 := nm_strOk h3
    unfold PyData.canLay0 at a1 a2 a3
    exact ⟨a1, a2, a3⟩
theorem depth_lns : ∀ ls : List Ln, PyData.depthAll (ls.map fun l => PyData.tuple [.str l.1, .str l.2.1, .str l.2.2]) ≤ 1
  | [] => by simp [PyData.depthAll]
  | l :: ls => by
    rw [List.map_cons, PyData.depthAll]
    have := depth_lns ls
    simp only [PyData.depth, PyData.depthAll]
    omega
theorem shaped_lns {ls : List Ln} (h : ∀ l ∈ ls, Nm 8 l.1 ∧ Nm 8 l.2.1 ∧ Nm 8 l.2.2) : SeqAt.shaped (toP (.lst (lns ls))) = true := by
  unfold toP
  rw [toPs_lns]
  unfold SeqAt.shaped PyData.canLay0 PyData.depth
  rw [canLay_lns h]
  have := depth_lns ls
  exact decide_eq_true (by omega)
theorem okP_sts (xs : List Str) : okP (.lst (sts xs)) = true := by unfold okP; exact okPs_sts xs
theorem okP_lns (ls : List Ln) : okP (.lst (lns ls)) = true := by unfold okP; exact okPs_lns ls
theorem eqvAll_sts : ∀ xs ys : List Str, PyData.eqvAll (xs.map PyData.str) (ys.map PyData.str) = decide (xs = ys)
  | [], [] => by simp [PyData.eqvAll]
  | [], y :: ys => by simp [PyData.eqvAll]
  | x :: xs, [] => by simp [PyData.eqvAll]
  | x :: xs, y :: ys => by
    rw [List.map_cons, List.map_cons, PyData.eqvAll, eqvAll_sts xs ys, Bool.eq_iff_iff]
    simp [PyData.eqv]
theorem eqv_sts (xs ys : List Str) : PyData.eqv (toP (.lst (sts xs))) (toP (.lst (sts ys))) = decide (xs = ys) := by
  unfold toP
  rw [toPs_sts, toPs_sts]
  unfold PyData.eqv
  exact eqvAll_sts xs ys
theorem eqvAll_lns : ∀ xs ys : List Ln, PyData.eqvAll (xs.map fun l => PyData.tuple [.str l.1, .str l.2.1, .str l.2.2]) (ys.map fun l => PyData.tuple [.str l.1, .str l.2.1, .str l.2.2]) = decide (xs = ys)
  | [], [] => by simp [PyData.eqvAll]
  | [], y :: ys => by simp [PyData.eqvAll]
  | x :: xs, [] => by simp [PyData.eqvAll]
  | (a, b, c) :: xs, (a', b', c') :: ys => by
    rw [List.map_cons, List.map_cons, PyData.eqvAll, eqvAll_lns xs ys, Bool.eq_iff_iff]
    simp [PyData.eqv, PyData.eqvAll, and_assoc]
theorem eqv_lns (xs ys : List Ln) : PyData.eqv (toP (.lst (lns xs))) (toP (.lst (lns ys))) = decide (xs = ys) := by
  unfold toP
  rw [toPs_lns, toPs_lns]
  unfold PyData.eqv
  exact eqvAll_lns xs ys
theorem cutD0 (ds : List Dv) {n : Int} (h : 0 ≤ n) : cutD ds none (some n) = ds.take n.toNat := by
  unfold cutD
  rw [sIx_pos h]
  show (ds.drop 0).take (min n.toNat ds.length - 0) = _
  rw [List.drop_zero, Nat.sub_zero, List.take_eq_take_iff]
  omega
theorem cutD1 (ds : List Dv) {n : Int} (h : 0 ≤ n) : cutD ds (some n) none = ds.drop n.toNat := by
  unfold cutD
  rw [sIx_pos h]
  show (ds.drop (min n.toNat ds.length)).take (ds.length - min n.toNat ds.length) = _
  rw [List.take_of_length_le (by rw [List.length_drop]; omega)]
  rcases Nat.le_total n.toNat ds.length with h | h
  · rw [Nat.min_eq_left h]
  · rw [Nat.min_eq_right h, List.drop_length, List.drop_eq_nil_of_le h]
theorem map_eraseIdx {α β : Type} (f : α → β) : ∀ (xs : List α) (i : Nat), (xs.map f).eraseIdx i = (xs.eraseIdx i).map f
  | [], i => by simp
  | x :: xs, 0 => by simp
  | x :: xs, i + 1 => by simp [map_eraseIdx f xs i]
theorem flat_cases {o : Ow} (h : o.flat = true) : o = .sh ∨ o = .nd [] := by
  cases o with
  | sh => exact .inl rfl
  | nd os => cases os with
    | nil => exact .inr rfl
    | cons _ _ => cases h
/-! ### comprehensions over a list of known kind -/
theorem lcBS_map {α : Type} {g : α → Dv} {tg : WTg} {t : WT} {w : WE} {vs : List Nat} {Ci : Env → Prop} {e1 : Env} {Q : R → Env → Prop} (xs : List α) (f : α → Dv) (em : Env)
    (h0 : wipeE e1 vs = em) (hC : Ci em) (hl : xs.length ≤ 100000)
    (hs : ∀ x ∈ xs, ∀ (N : Cl → Env → Prop) (N0 : Env → Prop), (∀ e', wipeE e' vs = em → N ⟨f x, .sh⟩ e') → tg ⟨g x, .sh⟩ em fun e2 => t e2 (fun b e3 => if b = true then wSh w e3 (fun r e4 => onTm r fun c => N c e4) NoX else N0 e3) NoX)
    (hq : Q (.tm ⟨.lst (xs.map f), .nd []⟩) (restE e1 vs em)) : lcBS tg t w vs (xs.map g) Ci e1 Q := by
  refine ⟨fun i acc e => acc = (xs.take i).map f ∧ e = em, ⟨rfl, h0⟩, fun i acc e h => ?_, fun i d acc e hd h N N0 hN hN0 => ?_, fun acc e h => ?_⟩
  · obtain ⟨rfl, rfl⟩ := h
    refine ⟨hC, ?_⟩
    rw [List.length_map, List.length_take]
    omega
  · obtain ⟨rfl, rfl⟩ := h
    rw [List.getElem?_map] at hd
    cases hx : xs[i]? with
    | none => rw [hx] at hd; cases hd
    | some x =>
      rw [hx] at hd
      cases (Option.some.inj hd)
      refine hs x (List.mem_of_getElem? hx) N N0 fun e' he' => hN _ _ ⟨?_, he'⟩
      rw [List.take_succ, hx, List.map_append]
      rfl
  · obtain ⟨rfl, rfl⟩ := h
    rw [List.length_map, List.take_length]
    exact hq
theorem lcBS_fil {α : Type} {g : α → Dv} {tg : WTg} {t : WT} {w : WE} {vs : List Nat} {Ci : Env → Prop} {e1 : Env} {Q : R → Env → Prop} (xs : List α) (p : α → Bool) (f : α → Dv) (em : Env)
    (h0 : wipeE e1 vs = em) (hC : Ci em) (hl : xs.length ≤ 100000)
    (hs : ∀ x ∈ xs, ∀ (N : Cl → Env → Prop) (N0 : Env → Prop), (p x = true → ∀ e', wipeE e' vs = em → N ⟨f x, .sh⟩ e') → (p x = false → ∀ e', wipeE e' vs = em → N0 e') → tg ⟨g x, .sh⟩ em fun e2 => t e2 (fun b e3 => if b = true then wSh w e3 (fun r e4 => onTm r fun c => N c e4) NoX else N0 e3) NoX)
    (hq : Q (.tm ⟨.lst ((xs.filter p).map f), .nd []⟩) (restE e1 vs em)) : lcBS tg t w vs (xs.map g) Ci e1 Q := by
  refine ⟨fun i acc e => acc = ((xs.take i).filter p).map f ∧ e = em, ⟨rfl, h0⟩, fun i acc e h => ?_, fun i d acc e hd h N N0 hN hN0 => ?_, fun acc e h => ?_⟩
  · obtain ⟨rfl, rfl⟩ := h
    refine ⟨hC, ?_⟩
    rw [List.length_map]
    have h1 := List.length_filter_le p (xs.take i)
    rw [List.length_take] at h1
    omega
  · obtain ⟨rfl, rfl⟩ := h
    rw [List.getElem?_map] at hd
    cases hx : xs[i]? with
    | none => rw [hx] at hd; cases hd
    | some x =>
      rw [hx] at hd
      cases (Option.some.inj hd)
      refine hs x (List.mem_of_getElem? hx) N N0 (fun hp e' he' => hN _ _ ⟨?_, he'⟩) fun hp e' he' => hN0 _ ⟨?_, he'⟩
      · rw [List.take_succ, hx, List.filter_append, List.map_append]
        simp [hp]
      · rw [List.take_succ, hx, List.filter_append, List.map_append]
        simp [hp]
  · obtain ⟨rfl, rfl⟩ := h
    rw [List.length_map, List.take_length]
    exact hq
end Py
set_option Elab.async false
set_option linter.all false
set_option maxRecDepth 100000
set_option maxHeartbeats 1000000
set_option pp.maxSteps 800
namespace Py
open PySem PySem.Spec PyProof.Rows L2
set_option exponentiation.threshold 9000
local macro_rules | `(tactic| walk_at "mul") => `(tactic| first | exact Or.inl (Or.inr ⟨by decide, by decide⟩) | exact Or.inl (Or.inl ⟨by decide, by decide⟩) | exact Or.inl (Or.inl ⟨by omega, by omega⟩) | exact Or.inl (Or.inr ⟨by omega, by omega⟩))
local macro_rules | `(tactic| walk_at "side") => `(tactic| first | with_reducible assumption | rfl | exact ⟨_, rfl⟩ | decide | exact Nat.le_of_ble_eq_true rfl | omega | (walk_at "mul") | exact nat_small (by omega) (by omega) | exact nat_small2 (by omega) (by omega) | exact all_scal _ | assumption | (show _ + 1 ≤ _; omega) | (show 1 + _ ≤ _; omega) | (show 0 + _ ≤ _; omega))
local macro_rules | `(tactic| walk_at "go") => `(tactic| repeat (first | refine And.intro (by walk_at "side") ?_ | refine ex_ix rfl ?_ | refine ex_ixS rfl ?_ | refine ex_n rfl ?_ | refine ite_f rfl ?_ | refine ite_t rfl ?_))
/-! Nets: pairs of numbers that are drawn. -/
theorem atI_map {α : Type} {f : α → Dv} {xs : List α} {r : Int} (h0 : 0 ≤ r) (h1 : r < xs.length) : ∃ x, atI (xs.map f) r = some (f x) ∧ x ∈ xs := by
  obtain ⟨d, h, hm⟩ := atI_in (xs := xs.map f) h0 (by rw [List.length_map]; exact h1)
  rw [List.mem_map] at hm
  obtain ⟨x, hx, rfl⟩ := hm
  exact ⟨x, h, hx⟩
theorem get_map {α : Type} {f : α → Dv} {xs : List α} {i : Nat} {d : Dv} (h : (xs.map f)[i]? = some d) : ∃ x, xs[i]? = some x ∧ d = f x := by
  rw [List.getElem?_map] at h
  cases hx : xs[i]? with
  | none => rw [hx] at h; cases h
  | some x => rw [hx] at h; exact ⟨x, rfl, (Option.some.inj h).symm⟩
abbrev numD (ns : List Int) : List Dv := ns.map Dv.int
abbrev prD (p : Int × Int) : Dv := .tup [.int p.1, .int p.2]
abbrev prs (ps : List (Int × Int)) : List Dv := ps.map prD
def PB (n : Int) (ps : List (Int × Int)) : Prop := ∀ p ∈ ps, (0 ≤ p.1 ∧ p.1 < n) ∧ 0 ≤ p.2 ∧ p.2 < n
theorem PB.nil {n : Int} : PB n [] := fun p h => (nomatch h)
theorem PB.app {n : Int} {ps qs : List (Int × Int)} (h : PB n ps) (k : PB n qs) : PB n (ps ++ qs) := fun p hp => by
  rw [List.mem_append] at hp
  exact hp.elim (h p) (k p)
theorem PB.one {n a b : Int} (h1 : 0 ≤ a) (h2 : a < n) (h3 : 0 ≤ b) (h4 : b < n) : PB n [(a, b)] := fun p hp => by
  rw [List.mem_singleton] at hp
  subst hp
  exact ⟨⟨h1, h2⟩, h3, h4⟩
theorem PB.sub {n : Int} {ps qs : List (Int × Int)} (h : PB n ps) (k : ∀ q ∈ qs, q ∈ ps) : PB n qs := fun p hp => h p (k p hp)
theorem prs_app (ps qs : List (Int × Int)) : prs ps ++ prs qs = prs (ps ++ qs) := (List.map_append ..).symm
@[irreducible] def S_law_odds : SF := fun cs Q _ => ∃ (s : Sto) (n : Int), cs = [s.cl, cI n] ∧ n ≤ 10 ^ 70 ∧ ∀ (s' : Sto) (b : Bool), Q (cB b) [s'.cl, cI n]
theorem S_law_odds_i {s : Sto} {n : Int} {Q E} (hn : n ≤ 10 ^ 70) (h : ∀ (s' : Sto) (b : Bool), Q (cB b) [s'.cl, cI n]) : S_law_odds [s.cl, cI n] Q E := by unfold S_law_odds; exact ⟨s, n, rfl, hn, h⟩
/-- _law_odds: slots _law_store_here _law_part -/
def w_law_odds : WS := (wRet (w2 gEqS (wNf (wCall S_law_take [] (waCons (wVar 0) (waCons (wVar 1) waNil)))) (wC (.int 0))))
theorem pure_law_odds : ∀ cs Q E, S_law_odds cs Q E → cs.length = 2 ∧ w_law_odds (fnWD [0, 1] cs Q E) (env0 [0, 1] 2 cs) := by
  intro cs Q E h
  unfold S_law_odds at h
  obtain ⟨s, n, rfl, hn, hQ⟩ := h
  refine ⟨rfl, ?_⟩
  walk_at "go"
  refine S_law_take_i hn fun s1 r r0 r1 => ?_
  exact hQ s1 _
@[irreducible] def S_law_tree_pairs : SF := fun cs Q _ => ∃ (s : Sto) (n : Int) (nar : Bool), cs = [s.cl, cI n, cB nar] ∧ 1 ≤ n ∧ n ≤ 12 ∧ ∀ (s' : Sto) (ps : List (Int × Int)), (ps.length : Int) = n - 1 → PB n ps → Q ⟨.lst (prs ps), .nd []⟩ [s'.cl, cI n, cB nar]
theorem S_law_tree_pairs_i {s : Sto} {n : Int} {nar : Bool} {Q E} (h1 : 1 ≤ n) (h2 : n ≤ 12) (h : ∀ (s' : Sto) (ps : List (Int × Int)), (ps.length : Int) = n - 1 → PB n ps → Q ⟨.lst (prs ps), .nd []⟩ [s'.cl, cI n, cB nar]) : S_law_tree_pairs [s.cl, cI n, cB nar] Q E := by unfold S_law_tree_pairs; exact ⟨s, n, nar, rfl, h1, h2, h⟩
/-- _law_tree_pairs: slots _law_store_here _law_n _law_narrow _law_kind _law_inside _law_pairs _law_house _law_head -/
def w_law_tree_pairs : WS := (wSeq (wNfS (wAsg 3 (wNf (wCall S_law_take [] (waCons (wVar 0) (waCons (wC (.int 4)) waNil))))))
  (wSeq (wNfS (wAsg 4 (wLst (waCons (wSh (wC (.int 0))) waNil))))
  (wSeq (wNfS (wAsg 5 (wLst waNil)))
  (wSeq (wFor (wItE (wNf (wCall S_law_shuffled [] (waCons (wVar 0) (waCons (w2 gRg2 (wC (.int 1)) (wVar 1)) waNil))))) (tgN 6) (wSeq (wNfS (wAsg 7 (w2 gIx (wVar 4) (wNf (wCall S_law_take [] (waCons (wVar 0) (waCons (wN gLen (waCons (wVar 4) waNil)) waNil)))))))
  (wSeqC (wIf (wTB (w2 gEqS (wVar 3) (wC (.int 0)))) (wNfS (wAsg 7 (w2 gIx (wVar 4) (w2 gMinus (wN gLen (waCons (wVar 4) waNil)) (wC (.int 1)))))) (wIf (wTB (w2 gEqS (wVar 3) (wC (.int 1)))) (wNfS (wAsg 7 (wC (.int 0)))) wNext))
  (wSeqC (wIf (wAndT (wTB (wVar 2)) (wAndT (wTB (w2 gEqS (wVar 7) (wC (.int 0)))) (wTB (w2 gGt (wN gLen (waCons (wVar 4) waNil)) (wC (.int 1)))))) (wNfS (wAsg 7 (w2 gIx (wVar 4) (w2 gAdd (wC (.int 1)) (wNf (wCall S_law_take [] (waCons (wVar 0) (waCons (w2 gMinus (wN gLen (waCons (wVar 4) waNil)) (wC (.int 1))) waNil)))))))) wNext)
  (wSeq (wNfS (wDrop (wApp 5 (wSh (wTup (waCons (wSh (wVar 6)) (waCons (wSh (wVar 7)) waNil)))))))
  (wNfS (wDrop (wApp 4 (wSh (wVar 6))))))))))
  (wRet (wVar 5))))))
def treeM (n kd hs : Int) (nar : Bool) (ins : List Int) (ps : List (Int × Int)) : Env → Prop := fun e => ∃ (s : Sto) (hd : Int), e = [some s.cl, some (cI n), some (cB nar), some (cI kd), some ⟨.lst (numD ins), .nd []⟩, some ⟨.lst (prs ps), .nd []⟩, some (cI hs), some (cI hd)] ∧ 0 ≤ hd ∧ hd < n
theorem pure_law_tree_pairs : ∀ cs Q E, S_law_tree_pairs cs Q E → cs.length = 3 ∧ w_law_tree_pairs (fnWD [0, 1, 2] cs Q E) (env0 [0, 1, 2] 8 cs) := by
  intro cs Q E h
  unfold S_law_tree_pairs at h
  obtain ⟨s, n, nar, rfl, hn1, hn2, hQ⟩ := h
  refine ⟨rfl, ?_⟩
  walk_at "go"
  refine S_law_take_i (by decide) fun s1 kd kd0 kd1 => ?_
  walk_at "go"
  have hrl : (rngD 1 (n - 1).toNat).length = (n - 1).toNat := rngD_len ..
  refine S_law_shuffled_i rfl (by omega) fun s2 xs hxs => ?_
  have hxl : xs.length = (n - 1).toNat := hxs.length_eq.trans hrl
  walk_at "go"
  refine ⟨fun i e => ∃ (s : Sto) (ins : List Int) (ps : List (Int × Int)) (x6 x7 : Option Cl), e = [some s.cl, some (cI n), some (cB nar), some (cI kd), some ⟨.lst (numD ins), .nd []⟩, some ⟨.lst (prs ps), .nd []⟩, x6, x7] ∧ ins.length = i + 1 ∧ ps.length = i ∧ (∀ z ∈ ins, 0 ≤ z ∧ z < n) ∧ PB n ps,
    ⟨s2, [0], [], none, none, rfl, rfl, rfl, fun z hz => (by rw [List.mem_singleton] at hz; omega), .nil⟩, fun _ _ _ => trivial, ?_, ?_⟩
  · rintro i d e hd ⟨s3, ins, ps, x6, x7, rfl, hil, hpl, hin, hpb⟩
    have hi : i < xs.length := (List.getElem?_eq_some_iff.mp hd).1
    have hm : d ∈ rngD 1 (n - 1).toNat := hxs.mem_iff.mp (List.mem_of_getElem? hd)
    obtain ⟨k, hk⟩ := List.getElem?_of_mem hm
    obtain ⟨hk, rfl⟩ := rngD_some hk
    obtain ⟨hs, ehs⟩ : ∃ hs : Int, hs = 1 + (k : Nat) := ⟨_, rfl⟩
    rw [← ehs]
    have hs0 : 1 ≤ hs ∧ hs < n := by omega
    clear ehs hk hm hd
    have hil2 : (numD ins).length = ins.length := List.length_map ..
    have hpl2 : (prs ps).length = ps.length := List.length_map ..
    walk_at "go"
    refine S_law_take_i (by omega) fun s4 r r0 r1 => ?_
    obtain ⟨z, hz, hzm⟩ := atI_map (f := Dv.int) (xs := ins) r0 (by omega)
    have hz2 := hin z hzm
    walk_at "go"
    refine ex_ix hz ?_
    refine ⟨treeM n kd hs nar ins ps, ?_, ?_⟩
    · walk_at "go"
      refine ite_d (fun h1 => ?_) fun h1 => ?_
      · obtain ⟨y, hy, hym⟩ := atI_map (f := Dv.int) (xs := ins) (r := ((numD ins).length : Int) - 1) (by omega) (by omega)
        walk_at "go"
        refine ex_ix hy ?_
        exact ⟨s4, y, rfl, hin y hym⟩
      · walk_at "go"
        refine ite_d (fun h2 => ?_) fun h2 => ?_
        · walk_at "go"
          exact ⟨s4, 0, rfl, by omega, by omega⟩
        · exact ⟨s4, z, rfl, hz2⟩
    rintro e ⟨s5, hd, rfl, hd0, hd1⟩
    refine ⟨treeM n kd hs nar ins ps, ?_, ?_⟩
    · cases nar with
      | false =>
        walk_at "go"
        exact ⟨s5, hd, rfl, hd0, hd1⟩
      | true =>
        walk_at "go"
        refine ite_d (fun h1 => ?_) fun h1 => ?_
        · walk_at "go"
          refine ite_d (fun h2 => ?_) fun h2 => ?_
          · walk_at "go"
            refine S_law_take_i (by omega) fun s6 r2 r3 r4 => ?_
            obtain ⟨y, hy, hym⟩ := atI_map (f := Dv.int) (xs := ins) (r := 1 + r2) (by omega) (by omega)
            walk_at "go"
            refine ex_ix hy ?_
            exact ⟨s6, y, rfl, hin y hym⟩
          · exact ⟨s5, hd, rfl, hd0, hd1⟩
        · exact ⟨s5, hd, rfl, hd0, hd1⟩
    rintro e ⟨s6, hd, rfl, hd0, hd1⟩
    walk_at "go"
    have e1 : numD (ins ++ [hs]) = numD ins ++ [.int hs] := by simp
    have e2 : prs (ps ++ [(hs, hd)]) = prs ps ++ [.tup [.int hs, .int hd]] := by simp
    refine ⟨s6, ins ++ [hs], ps ++ [(hs, hd)], some (cI hs), some (cI hd), ?_, ?_, ?_, ?_, hpb.app (.one (by omega) (by omega) hd0 hd1)⟩
    · rw [e1, e2]; rfl
    · rw [List.length_append, hil]; rfl
    · rw [List.length_append, hpl]; rfl
    · intro z hz
      rw [List.mem_append, List.mem_singleton] at hz
      rcases hz with hz | rfl
      · exact hin z hz
      · omega
  · rintro e ⟨s3, ins, ps, x6, x7, rfl, hil, hpl, hin, hpb⟩
    walk_at "go"
    exact hQ s3 ps (by omega) hpb
@[irreducible] def S_law_free_pairs : SF := fun cs Q _ => ∃ (s : Sto) (n m : Int), cs = [s.cl, cI n, cI m] ∧ 1 ≤ n ∧ n ≤ 12 ∧ 0 ≤ m ∧ m ≤ 30 ∧ ∀ (s' : Sto) (ps : List (Int × Int)), (ps.length : Int) = m → PB n ps → Q ⟨.lst (prs ps), .nd []⟩ [s'.cl, cI n, cI m]
theorem S_law_free_pairs_i {s : Sto} {n m : Int} {Q E} (h1 : 1 ≤ n) (h2 : n ≤ 12) (h3 : 0 ≤ m) (h4 : m ≤ 30) (h : ∀ (s' : Sto) (ps : List (Int × Int)), (ps.length : Int) = m → PB n ps → Q ⟨.lst (prs ps), .nd []⟩ [s'.cl, cI n, cI m]) : S_law_free_pairs [s.cl, cI n, cI m] Q E := by unfold S_law_free_pairs; exact ⟨s, n, m, rfl, h1, h2, h3, h4, h⟩
/-- _law_free_pairs: slots _law_store_here _law_n _law_many _law_pairs _law_k _law_tail _law_head _law_kind -/
def w_law_free_pairs : WS := (wSeq (wNfS (wAsg 3 (wLst waNil)))
  (wSeq (wFor (wItR1 (waCons (wVar 2) waNil)) (tgN 4) (wSeq (wNfS (wAsg 5 (wNf (wCall S_law_take [] (waCons (wVar 0) (waCons (wVar 1) waNil))))))
  (wSeq (wNfS (wAsg 6 (wNf (wCall S_law_take [] (waCons (wVar 0) (waCons (wVar 1) waNil))))))
  (wSeq (wNfS (wAsg 7 (wNf (wCall S_law_take [] (waCons (wVar 0) (waCons (wC (.int 8)) waNil))))))
  (wSeqC (wIf (wTB (w2 gEqS (wVar 7) (wC (.int 0)))) (wNfS (wAsg 6 (wVar 5))) (wIf (wAndT (wTB (w2 gEqS (wVar 7) (wC (.int 1)))) (wTB (w2 gGt (wVar 4) (wC (.int 0))))) (wNfS (wAsgT [5, 6] (w2 gIx (wVar 3) (wNf (wCall S_law_take [] (waCons (wVar 0) (waCons (wVar 4) waNil))))))) (wIf (wTB (w2 gEqS (wVar 7) (wC (.int 2)))) (wNfS (wAsg 6 (wC (.int 0)))) (wIf (wAndT (wTB (w2 gLt (wVar 7) (wC (.int 7)))) (wTB (w2 gGt (wVar 1) (wC (.int 1))))) (wNfS (wAsg 5 (w2 gAdd (wC (.int 1)) (wNf (wCall S_law_take [] (waCons (wVar 0) (waCons (w2 gMinus (wVar 1) (wC (.int 1))) waNil))))))) wNext))))
  (wNfS (wDrop (wApp 3 (wSh (wTup (waCons (wSh (wVar 5)) (waCons (wSh (wVar 6)) waNil))))))))))))
  (wRet (wVar 3))))
def freeM (n m k kd : Int) (ps : List (Int × Int)) : Env → Prop := fun e => ∃ (s : Sto) (t h : Int), e = [some s.cl, some (cI n), some (cI m), some ⟨.lst (prs ps), .nd []⟩, some (cI k), some (cI t), some (cI h), some (cI kd)] ∧ (0 ≤ t ∧ t < n) ∧ 0 ≤ h ∧ h < n
theorem pure_law_free_pairs : ∀ cs Q E, S_law_free_pairs cs Q E → cs.length = 3 ∧ w_law_free_pairs (fnWD [0, 1, 2] cs Q E) (env0 [0, 1, 2] 8 cs) := by
  intro cs Q E h
  unfold S_law_free_pairs at h
  obtain ⟨s, n, m, rfl, hn1, hn2, hm1, hm2, hQ⟩ := h
  refine ⟨rfl, ?_⟩
  walk_at "go"
  refine ⟨fun i e => ∃ (s : Sto) (ps : List (Int × Int)) (x4 x5 x6 x7 : Option Cl), e = [some s.cl, some (cI n), some (cI m), some ⟨.lst (prs ps), .nd []⟩, x4, x5, x6, x7] ∧ ps.length = i ∧ PB n ps,
    ⟨s, [], none, none, none, none, rfl, rfl, .nil⟩, fun _ _ _ => trivial, ?_, ?_⟩
  · rintro i d e hd ⟨s3, ps, x4, x5, x6, x7, rfl, hpl, hpb⟩
    obtain ⟨hi, rfl⟩ := rngD_some hd
    have e0 : (0 : Int) + ((i : Nat) : Int) = ((i : Nat) : Int) := Int.zero_add _
    rw [e0]
    have hpl2 : (prs ps).length = ps.length := List.length_map ..
    walk_at "go"
    refine S_law_take_i (by omega) fun s4 t t0 t1 => ?_
    walk_at "go"
    refine S_law_take_i (by omega) fun s5 h h0 h1 => ?_
    walk_at "go"
    refine S_law_take_i (by decide) fun s6 kd kd0 kd1 => ?_
    refine ⟨freeM n m ((i : Nat) : Int) kd ps, ?_, ?_⟩
    · walk_at "go"
      refine ite_d (fun c1 => ?_) fun c1 => ?_
      · walk_at "go"
        exact ⟨s6, t, t, rfl, ⟨t0, by omega⟩, t0, by omega⟩
      walk_at "go"
      have rest : ((wIf (wTB (w2 gEqS (wVar 7) (wC (.int 2)))) (wNfS (wAsg 6 (wC (.int 0)))) (wIf (wAndT (wTB (w2 gLt (wVar 7) (wC (.int 7)))) (wTB (w2 gGt (wVar 1) (wC (.int 1))))) (wNfS (wAsg 5 (w2 gAdd (wC (.int 1)) (wNf (wCall S_law_take [] (waCons (wVar 0) (waCons (w2 gMinus (wVar 1) (wC (.int 1))) waNil))))))) wNext)) : WS)
          { (fnWD [0, 1, 2] [s.cl, cI n, cI m] Q E) with nx := freeM n m ((i : Nat) : Int) kd ps } [some s6.cl, some (cI n), some (cI m), some ⟨.lst (prs ps), .nd []⟩, some (cI ((i : Nat) : Int)), some (cI t), some (cI h), some (cI kd)] := by
        walk_at "go"
        refine ite_d (fun c3 => ?_) fun c3 => ?_
        · walk_at "go"
          exact ⟨s6, t, 0, rfl, ⟨t0, by omega⟩, by omega, by omega⟩
        walk_at "go"
        refine ite_d (fun c4 => ?_) fun c4 => ?_
        · walk_at "go"
          refine ite_d (fun c5 => ?_) fun c5 => ?_
          · walk_at "go"
            refine S_law_take_i (by omega) fun s7 r r0 r1 => ?_
            walk_at "go"
            exact ⟨s7, 1 + r, h, rfl, ⟨by omega, by omega⟩, h0, by omega⟩
          · exact ⟨s6, t, h, rfl, ⟨t0, by omega⟩, h0, by omega⟩
        · exact ⟨s6, t, h, rfl, ⟨t0, by omega⟩, h0, by omega⟩
      refine ite_d (fun c2 => ?_) fun c2 => ?_
      · walk_at "go"
        refine ite_d (fun c3 => ?_) fun c3 => ?_
        · walk_at "go"
          refine S_law_take_i (by omega) fun s7 r r0 r1 => ?_
          obtain ⟨p, hp, hpm⟩ := atI_map (f := prD) (xs := ps) r0 (by omega)
          walk_at "go"
          refine ex_ix hp ?_
          walk_at "go"
          exact ⟨s7, p.1, p.2, rfl, hpb p hpm⟩
        · exact rest
      · exact rest
    rintro e ⟨s7, t, h, rfl, ht, hh⟩
    walk_at "go"
    have e2 : prs (ps ++ [(t, h)]) = prs ps ++ [.tup [.int t, .int h]] := by simp
    refine ⟨s7, ps ++ [(t, h)], some (cI ((i : Nat) : Int)), some (cI t), some (cI h), some (cI kd), ?_, ?_, hpb.app (.one ht.1 ht.2 hh.1 hh.2)⟩
    · rw [e2]; rfl
    · rw [List.length_append, hpl]; rfl
  · rintro e ⟨s3, ps, x4, x5, x6, x7, rfl, hpl, hpb⟩
    rw [rngD_len] at hpl
    walk_at "go"
    exact hQ s3 ps (by omega) hpb
end Py
set_option Elab.async false
set_option linter.all false
set_option maxRecDepth 100000
set_option maxHeartbeats 1000000
set_option pp.maxSteps 800
namespace Py
open PySem PySem.Spec PyProof.Rows L2
set_option exponentiation.threshold 9000
local macro_rules | `(tactic| walk_at "mul") => `(tactic| first | exact Or.inl (Or.inr ⟨by decide, by decide⟩) | exact Or.inl (Or.inl ⟨by decide, by decide⟩) | exact Or.inl (Or.inl ⟨by omega, by omega⟩) | exact Or.inl (Or.inr ⟨by omega, by omega⟩))
local macro_rules | `(tactic| walk_at "side") => `(tactic| first | with_reducible assumption | rfl | exact ⟨_, rfl⟩ | decide | exact Nat.le_of_ble_eq_true rfl | omega | (walk_at "mul") | exact nat_small (by omega) (by omega) | exact nat_small2 (by omega) (by omega) | exact all_scal _ | assumption | (show _ + 1 ≤ _; omega) | (show 1 + _ ≤ _; omega) | (show 0 + _ ≤ _; omega))
local macro_rules | `(tactic| walk_at "go") => `(tactic| repeat (first | refine And.intro (by walk_at "side") ?_ | refine ex_ix rfl ?_ | refine ex_ixS rfl ?_ | refine ex_n rfl ?_ | refine ite_f rfl ?_ | refine ite_t rfl ?_))
/-! Nets: shapes. -/
theorem ite_sh {c A B : Prop} [Decidable c] (hB : B) (h : c → B → A) : if decide c = true then A else B := ite_d (fun k => h k hB) fun _ => hB
@[irreducible] def S_law_shape : SF := fun cs Q _ => ∃ (s : Sto), cs = [s.cl, cI 12, cI 30] ∧ ∀ (s' : Sto) (n : Int) (ps : List (Int × Int)), 1 ≤ n → n ≤ 12 → PB n ps → ps.length ≤ 30 → Q ⟨.tup [.int n, .lst (prs ps)], .sh⟩ [s'.cl, cI 12, cI 30]
theorem S_law_shape_i {s : Sto} {Q E} (h : ∀ (s' : Sto) (n : Int) (ps : List (Int × Int)), 1 ≤ n → n ≤ 12 → PB n ps → ps.length ≤ 30 → Q ⟨.tup [.int n, .lst (prs ps)], .sh⟩ [s'.cl, cI 12, cI 30]) : S_law_shape [s.cl, cI 12, cI 30] Q E := by unfold S_law_shape; exact ⟨s, rfl, h⟩
/-- _law_shape: slots _law_store_here _law_most _law_room _law_plan _law_n _law_pairs _law_many _law_k _law_tail _law_half _law_pair -/
def w_law_shape : WS := (wSeq (wNfS (wAsg 3 (wNf (wCall S_law_take [] (waCons (wVar 0) (waCons (wC (.int 12)) waNil))))))
  (wSeq (wNfS (wAsg 4 (w2 gAdd (wC (.int 1)) (wNf (wCall S_law_size [] (waCons (wVar 0) (waCons (wC (.int 4)) (waCons (w2 gMinus (wVar 1) (wC (.int 1))) waNil))))))))
  (wSeqC (wIf (wTB (w2 gEqS (wVar 3) (wC (.int 0)))) (wNfS (wAsg 4 (wC (.int 1)))) (wIf (wTB (w2 gEqS (wVar 4) (wC (.int 1)))) (wNfS (wAsg 4 (wN gMin2 (waCons (w2 gAdd (wC (.int 2)) (wNf (wCall S_law_take [] (waCons (wVar 0) (waCons (wC (.int 3)) waNil))))) (waCons (wVar 1) waNil))))) wNext))
  (wSeq (wNfS (wAsg 5 (wLst waNil)))
  (wSeq (wNfS (wAsg 6 (wNf (wCall S_law_size [] (waCons (wVar 0) (waCons (wC (.int 3)) (waCons (wVar 2) waNil)))))))
  (wSeqC (wIf (wAndT (wTB (w2 gGt (wVar 3) (wC (.int 2)))) (wTB (w2 gLt (wVar 3) (wC (.int 7))))) (wSeq (wFor (wItR1 (waCons (w2 gAdd (wC (.int 1)) (wNf (wCall S_law_take [] (waCons (wVar 0) (waCons (wC (.int 3)) waNil))))) waNil)) (tgN 7) (wIf (wTB (w2 gLe (w2 gMinus (w2 gAdd (wN gLen (waCons (wVar 5) waNil)) (wVar 4)) (wC (.int 1))) (wVar 2))) (wNfS (wAsg 5 (w2 gAdd (wVar 5) (wNf (wCall S_law_tree_pairs [] (waCons (wVar 0) (waCons (wVar 4) (waCons (wNf (wCall S_law_odds [] (waCons (wVar 0) (waCons (wC (.int 3)) waNil)))) waNil)))))))) wNext))
  (wIf (wAndT (wTB (w2 gEqS (wVar 3) (wC (.int 3)))) (wTB (w2 gGt (wN gLen (waCons (wVar 5) waNil)) (wC (.int 0))))) (wNfS (wDrop (wPopAt 5 (wNf (wCall S_law_take [] (waCons (wVar 0) (waCons (wN gLen (waCons (wVar 5) waNil)) waNil))))))) wNext)) (wIf (wAndT (wTB (w2 gEqS (wVar 3) (wC (.int 7)))) (wTB (w2 gGt (wVar 4) (wC (.int 1))))) (wFor (wItR1 (waCons (wNf (wCall S_law_size [] (waCons (wVar 0) (waCons (wC (.int 6)) (waCons (wVar 2) waNil))))) waNil)) (tgN 7) (wSeq (wNfS (wAsg 8 (w2 gAdd (wC (.int 1)) (wNf (wCall S_law_take [] (waCons (wVar 0) (waCons (w2 gMinus (wVar 4) (wC (.int 1))) waNil)))))))
  (wNfS (wDrop (wApp 5 (wSh (wTup (waCons (wSh (wVar 8)) (waCons (wSh (wNf (wCall S_law_take [] (waCons (wVar 0) (waCons (wVar 8) waNil))))) waNil))))))))) (wIf (wTB (w2 gEqS (wVar 3) (wC (.int 8)))) (wNfS (wAsg 5 (w2 gAdd (wLcS (wItR2 (waCons (wC (.int 1)) (waCons (wVar 4) waNil))) (tgN 7) wYes (wTup (waCons (wSh (wVar 7)) (waCons (wSh (wC (.int 0))) waNil))) [7]) (wLcS (wItR2 (waCons (wC (.int 1)) (waCons (wVar 4) waNil))) (tgN 7) wYes (wTup (waCons (wSh (wVar 7)) (waCons (wSh (w2 gAdd (wC (.int 1)) (w2 gMod (wN gInt (waCons (wVar 7) waNil)) (wN gMax2 (waCons (wC (.int 1)) (waCons (w2 gMinus (wVar 4) (wC (.int 1))) waNil)))))) waNil))) [7])))) (wIf (wTB (w2 gEqS (wVar 3) (wC (.int 9)))) (wSeq (wNfS (wAsg 9 (wNf (wCall S_law_free_pairs [] (waCons (wVar 0) (waCons (wVar 4) (waCons (wNf (wCall S_law_size [] (waCons (wVar 0) (waCons (wC (.int 3)) (waCons (w2 gFdiv (wVar 2) (wC (.int 2))) waNil))))) waNil)))))))
  (wNfS (wAsg 5 (w2 gAdd (wVar 9) (wLcS (wItE (wVar 9)) (tgN 10) wYes (wTup (waCons (wSh (w2 gIx (wVar 10) (wC (.int 1)))) (waCons (wSh (w2 gIx (wVar 10) (wC (.int 0)))) waNil))) [10]))))) (wIf (wTB (w2 gGt (wVar 3) (wC (.int 0)))) (wNfS (wAsg 6 (wNf (wCall S_law_size [] (waCons (wVar 0) (waCons (w2 gMul (wC (.int 2)) (wVar 4)) (waCons (wVar 2) waNil))))))) wNext)))))
  (wSeqC (wIf (wTB (w2 gNeS (wVar 3) (wC (.int 7)))) (wNfS (wAsg 5 (w2 gAdd (wVar 5) (wNf (wCall S_law_free_pairs [] (waCons (wVar 0) (waCons (wVar 4) (waCons (wN gMin2 (waCons (wVar 6) (waCons (wN gMax2 (waCons (wC (.int 0)) (waCons (w2 gMinus (wVar 2) (wN gLen (waCons (wVar 5) waNil))) waNil))) waNil))) waNil)))))))) wNext)
  (wRet (wTup (waCons (wSh (wVar 4)) (waCons (wSh (wSl (wNf (wCall S_law_shuffled [] (waCons (wVar 0) (waCons (wVar 5) waNil)))) wNoPart (wPart (wVar 2)))) waNil)))))))))))
def shapeM (plan n : Int) : Env → Prop := fun e => ∃ (s : Sto) (ps : List (Int × Int)) (m : Int) (x7 x8 x9 x10 : Option Cl), e = [some s.cl, some (cI 12), some (cI 30), some (cI plan), some (cI n), some ⟨.lst (prs ps), .nd []⟩, some (cI m), x7, x8, x9, x10] ∧ PB n ps ∧ ps.length ≤ 100 ∧ 0 ≤ m ∧ m ≤ 30
theorem PB.map {α : Type} {n : Int} {xs : List α} {f : α → Int × Int} (h : ∀ x ∈ xs, (0 ≤ (f x).1 ∧ (f x).1 < n) ∧ 0 ≤ (f x).2 ∧ (f x).2 < n) : PB n (xs.map f) := fun p hp => by
  obtain ⟨x, hx, rfl⟩ := List.mem_map.mp hp
  exact h x hx
theorem pure_law_shape : ∀ cs Q E, S_law_shape cs Q E → cs.length = 3 ∧ w_law_shape (fnWD [0, 1, 2] cs Q E) (env0 [0, 1, 2] 11 cs) := by
  intro cs Q E h
  unfold S_law_shape at h
  obtain ⟨s, rfl, hQ⟩ := h
  refine ⟨rfl, ?_⟩
  walk_at "go"
  refine S_law_take_i (by decide) fun s1 plan plan0 plan1 => ?_
  walk_at "go"
  refine S_law_size_i (by decide) fun s2 n0 n00 n01 => ?_
  walk_at "go"
  refine ⟨fun e => ∃ (s : Sto) (n : Int), e = [some s.cl, some (cI 12), some (cI 30), some (cI plan), some (cI n), none, none, none, none, none, none] ∧ 1 ≤ n ∧ n ≤ 12, ?_, ?_⟩
  · walk_at "go"
    refine ite_d (fun h1 => ?_) fun h1 => ?_
    · walk_at "go"
      exact ⟨s2, 1, rfl, by decide, by decide⟩
    walk_at "go"
    refine ite_d (fun h2 => ?_) fun h2 => ?_
    · walk_at "go"
      refine S_law_take_i (by decide) fun s3 r r0 r1 => ?_
      walk_at "go"
      exact ⟨s3, min (2 + r) 12, rfl, by omega, by omega⟩
    · exact ⟨s2, 1 + n0, rfl, by omega, by omega⟩
  rintro e ⟨s3, n, rfl, hn1, hn2⟩
  clear n01 n00 n0
  walk_at "go"
  refine S_law_size_i (by decide) fun s4 m m0 m1 => ?_
  have hm : m ≤ 30 := by omega
  clear m1
  refine ⟨shapeM plan n, ?_, ?_⟩
  · walk_at "go"
    refine ite_sh ?_ fun c1 rest => ?_
    · walk_at "go"
      refine ite_sh ?_ fun c2 rest => ?_
      · walk_at "go"
        refine ite_d (fun c3 => ?_) fun c3 => ?_
        · walk_at "go"
          have hl : (rngD 1 (n - 1).toNat).length ≤ 12 := by rw [rngD_len]; omega
          refine lcBS_map (List.range (n - 1).toNat) (fun k => prD (1 + ((k : Nat) : Int), 0)) _ rfl trivial (by rw [List.length_range]; omega) (fun k hk N N0 hN => ?_) ?_
          · walk_at "go"
            exact hN _ rfl
          walk_at "go"
          refine lcBS_map (List.range (n - 1).toNat) (fun k => prD (1 + ((k : Nat) : Int), 1 + (1 + ((k : Nat) : Int)) % max 1 (n - 1))) _ rfl trivial (by rw [List.length_range]; omega) (fun k hk N N0 hN => ?_) ?_
          · walk_at "go"
            exact hN _ rfl
          have q1 : (List.map (fun k => prD (1 + ((k : Nat) : Int), 0)) (List.range (n - 1).toNat)) = prs ((List.range (n - 1).toNat).map fun k => (1 + ((k : Nat) : Int), (0 : Int))) := by simp [prs]
          have q2 : (List.map (fun k => prD (1 + ((k : Nat) : Int), 1 + (1 + ((k : Nat) : Int)) % max 1 (n - 1))) (List.range (n - 1).toNat)) = prs ((List.range (n - 1).toNat).map fun k => (1 + ((k : Nat) : Int), 1 + (1 + ((k : Nat) : Int)) % max 1 (n - 1))) := by simp [prs]
          have l1 : (List.map (fun k => prD (1 + ((k : Nat) : Int), 0)) (List.range (n - 1).toNat)).length ≤ 11 := by rw [List.length_map, List.length_range]; omega
          have l2 : (List.map (fun k => prD (1 + ((k : Nat) : Int), 1 + (1 + ((k : Nat) : Int)) % max 1 (n - 1))) (List.range (n - 1).toNat)).length ≤ 11 := by rw [List.length_map, List.length_range]; omega
          walk_at "go"
          rw [q1, q2, prs_app]
          refine ⟨s4, _, m, _, none, none, none, rfl, ?_, ?_, m0, hm⟩
          · refine .app (.map fun k hk => ?_) (.map fun k hk => ?_)
            · rw [List.mem_range] at hk
              dsimp only
              omega
            · rw [List.mem_range] at hk
              dsimp only
              have h1 := Int.emod_nonneg (1 + ((k : Nat) : Int)) (b := max 1 (n - 1)) (by omega)
              have h2 := Int.emod_lt_of_pos (1 + ((k : Nat) : Int)) (b := max 1 (n - 1)) (by omega)
              omega
          · rw [List.length_append, List.length_map, List.length_map, List.length_range]; omega
        walk_at "go"
        refine ite_d (fun c4 => ?_) fun c4 => ?_
        · walk_at "go"
          refine S_law_size_i (by decide) fun s5 h h0 h1 => ?_
          walk_at "go"
          refine S_law_free_pairs_i hn1 hn2 h0 (by omega) fun s6 ps hl hp => ?_
          have hl2 : (prs ps).length = ps.length := List.length_map ..
          walk_at "go"
          refine lcBS_map ps (fun p => prD (p.2, p.1)) _ rfl trivial (by omega) (fun p hp N N0 hN => ?_) ?_
          · walk_at "go"
            exact hN _ rfl
          have q1 : (List.map (fun p : Int × Int => prD (p.2, p.1)) ps) = prs (ps.map fun p => (p.2, p.1)) := by simp [prs]
          have l1 : (List.map (fun p : Int × Int => prD (p.2, p.1)) ps).length = ps.length := List.length_map ..
          walk_at "go"
          rw [q1, prs_app]
          refine ⟨s6, _, m, none, none, _, _, rfl, hp.app (.map fun p hp2 => ?_), ?_, m0, hm⟩
          · exact ⟨(hp p hp2).2, (hp p hp2).1⟩
          · rw [List.length_append, List.length_map]; omega
        walk_at "go"
        refine ite_d (fun c5 => ?_) fun c5 => ?_
        · walk_at "go"
          refine S_law_size_i (by decide) fun s5 h h0 h1 => ?_
          walk_at "go"
          exact ⟨s5, [], h, none, none, none, none, rfl, .nil, Nat.zero_le _, h0, by omega⟩
        · exact ⟨s4, [], m, none, none, none, none, rfl, .nil, Nat.zero_le _, m0, hm⟩
      walk_at "go"
      refine ite_d (fun c3 => ?_) fun _ => rest
      walk_at "go"
      refine S_law_size_i (by decide) fun s5 h h0 h1 => ?_
      walk_at "go"
      refine ⟨fun i e => ∃ (s : Sto) (ps : List (Int × Int)) (x7 x8 : Option Cl), e = [some s.cl, some (cI 12), some (cI 30), some (cI plan), some (cI n), some ⟨.lst (prs ps), .nd []⟩, some (cI m), x7, x8, none, none] ∧ PB n ps ∧ ps.length = i,
        ⟨s5, [], none, none, rfl, .nil, rfl⟩, fun _ _ _ => trivial, ?_, ?_⟩
      · rintro i d e hd ⟨s6, ps, x7, x8, rfl, hp, hl⟩
        obtain ⟨hi, rfl⟩ := rngD_some hd
        have hl2 : (prs ps).length = ps.length := List.length_map ..
        walk_at "go"
        refine S_law_take_i (by omega) fun s7 t t0 t1 => ?_
        walk_at "go"
        refine S_law_take_i (by omega) fun s8 u u0 u1 => ?_
        walk_at "go"
        have e2 : prs (ps ++ [(1 + t, u)]) = prs ps ++ [.tup [.int (1 + t), .int u]] := by simp
        refine ⟨s8, ps ++ [(1 + t, u)], some (cI (0 + ((i : Nat) : Int))), some (cI (1 + t)), ?_, hp.app (.one (by omega) (by omega) u0 (by omega)), ?_⟩
        · rw [e2]; rfl
        · rw [List.length_append, hl]; rfl
      · rintro e ⟨s6, ps, x7, x8, rfl, hp, hl⟩
        rw [rngD_len] at hl
        exact ⟨s6, ps, m, x7, x8, none, none, rfl, hp, by omega, m0, hm⟩
    walk_at "go"
    refine ite_d (fun c3 => ?_) fun _ => rest
    clear rest
    walk_at "go"
    refine S_law_take_i (by decide) fun s5 r r0 r1 => ?_
    walk_at "go"
    refine ⟨fun i e => ∃ (s : Sto) (ps : List (Int × Int)) (x7 : Option Cl), e = [some s.cl, some (cI 12), some (cI 30), some (cI plan), some (cI n), some ⟨.lst (prs ps), .nd []⟩, some (cI m), x7, none, none, none] ∧ PB n ps ∧ ps.length ≤ 30,
        ⟨s5, [], none, rfl, .nil, Nat.zero_le _⟩, fun _ _ _ => trivial, ?_, ?_⟩
    · rintro i d e hd ⟨s6, ps, x7, rfl, hp, hl⟩
      obtain ⟨hi, rfl⟩ := rngD_some hd
      have hl2 : (prs ps).length = ps.length := List.length_map ..
      walk_at "go"
      refine ite_d (fun c4 => ?_) fun c4 => ?_
      · walk_at "go"
        refine S_law_odds_i (by decide) fun s7 b => ?_
        walk_at "go"
        refine S_law_tree_pairs_i hn1 hn2 fun s8 qs ql qp => ?_
        have ql2 : (prs qs).length = qs.length := List.length_map ..
        walk_at "go"
        rw [prs_app]
        refine ⟨s8, ps ++ qs, _, rfl, hp.app qp, ?_⟩
        rw [List.length_append]
        omega
      · exact ⟨s6, ps, _, rfl, hp, hl⟩
    · rintro e ⟨s6, ps, x7, rfl, hp, hl⟩
      have hl2 : (prs ps).length = ps.length := List.length_map ..
      have rest : shapeM plan n [some s6.cl, some (cI 12), some (cI 30), some (cI plan), some (cI n), some ⟨.lst (prs ps), .nd []⟩, some (cI m), x7, none, none, none] := ⟨s6, ps, m, x7, none, none, none, rfl, hp, by omega, m0, hm⟩
      walk_at "go"
      refine ite_d (fun c4 => ?_) fun _ => rest
      walk_at "go"
      refine ite_d (fun c5 => ?_) fun _ => rest
      walk_at "go"
      refine S_law_take_i (by omega) fun s7 t t0 t1 => ?_
      have ht : t.toNat < ps.length := by omega
      obtain ⟨p, hp2⟩ : ∃ p, ps[t.toNat]? = some p := ⟨_, List.getElem?_eq_getElem ht⟩
      walk_at "go"
      refine ⟨t.toNat, prD p, ixN_in t0 (by omega), by rw [List.getElem?_map, hp2]; rfl, ?_⟩
      have q1 : (prs ps).eraseIdx t.toNat = prs (ps.eraseIdx t.toNat) := map_eraseIdx prD ps t.toNat
      rw [q1]
      walk_at "go"
      refine ⟨s7, _, m, x7, none, none, none, rfl, hp.sub fun q hq => List.mem_of_mem_eraseIdx hq, ?_, m0, hm⟩
      rw [List.length_eraseIdx_of_lt ht]
      omega
  rintro e ⟨s5, ps, m, x7, x8, x9, x10, rfl, hp, hl, hm0, hm1⟩
  have hl2 : (prs ps).length = ps.length := List.length_map ..
  refine ⟨shapeM plan n, ?_, ?_⟩
  · walk_at "go"
    refine ite_b (fun c1 => ?_) fun c1 => ?_
    · walk_at "go"
      refine S_law_free_pairs_i hn1 hn2 (by omega) (by omega) fun s6 qs ql qp => ?_
      have ql2 : (prs qs).length = qs.length := List.length_map ..
      walk_at "go"
      rw [prs_app]
      refine ⟨s6, ps ++ qs, m, x7, x8, x9, x10, rfl, hp.app qp, ?_, hm0, hm1⟩
      rw [List.length_append]
      omega
    · exact ⟨s5, ps, m, x7, x8, x9, x10, rfl, hp, hl, hm0, hm1⟩
  rintro e ⟨s6, ps, m, x7, x8, x9, x10, rfl, hp, hl, hm0, hm1⟩
  have hl2 : (prs ps).length = ps.length := List.length_map ..
  walk_at "go"
  refine S_law_shuffled_i rfl (by omega) fun s7 xs hxs => ?_
  obtain ⟨qs, rfl, hq⟩ := perm_map hxs rfl
  walk_at "go"
  have q1 : cutD (prs qs) none (some 30) = prs (qs.take 30) := by
    rw [cutD0 _ (by decide)]
    exact (List.map_take ..).symm
  rw [q1]
  refine hQ s7 n (qs.take 30) hn1 hn2 (hp.sub fun p hp2 => hq.mem_iff.mp (List.mem_of_mem_take hp2)) ?_
  rw [List.length_take]
  omega
end Py
set_option Elab.async false
set_option linter.all false
set_option maxRecDepth 100000
set_option maxHeartbeats 1000000
set_option pp.maxSteps 800
namespace Py
open PySem PySem.Spec PyProof.Rows L2
set_option exponentiation.threshold 9000
local macro_rules | `(tactic| walk_at "mul") => `(tactic| first | exact Or.inl (Or.inr ⟨by decide, by decide⟩) | exact Or.inl (Or.inl ⟨by decide, by decide⟩) | exact Or.inl (Or.inl ⟨by omega, by omega⟩) | exact Or.inl (Or.inr ⟨by omega, by omega⟩))
local macro_rules | `(tactic| walk_at "side") => `(tactic| first | with_reducible assumption | rfl | exact ⟨_, rfl⟩ | decide | exact Nat.le_of_ble_eq_true rfl | omega | (walk_at "mul") | exact nat_small (by omega) (by omega) | exact nat_small2 (by omega) (by omega) | exact all_scal _ | assumption | (show _ + 1 ≤ _; omega) | (show 1 + _ ≤ _; omega) | (show 0 + _ ≤ _; omega))
local macro_rules | `(tactic| walk_at "go") => `(tactic| repeat (first | refine And.intro (by walk_at "side") ?_ | refine ex_ix rfl ?_ | refine ex_ixS rfl ?_ | refine ex_n rfl ?_ | refine ite_f rfl ?_ | refine ite_t rfl ?_))
/-! Nets: worlds that are drawn. -/
theorem mem_sts {us : List Str} {d : Dv} (h : d ∈ sts us) : ∃ x, x ∈ us ∧ d = .str x := by
  obtain ⟨x, hx, rfl⟩ := List.mem_map.mp h
  exact ⟨x, hx, rfl⟩
theorem fst_lns (ls : List Ln) : (ls.map fun l => Dv.str l.1) = sts (ls.map (·.1)) := (List.map_map (f := fun l : Ln => l.1) (g := Dv.str) (l := ls)).symm
@[irreducible] def S_law_put : SF := fun cs Q _ => ∃ (s : Sto) (ds : List Dv) (o : Ow) (d : Dv), cs = [s.cl, ⟨.lst ds, o⟩, ⟨d, .sh⟩] ∧ o.flat = true ∧ ds.length ≤ 90000 ∧ ∀ (s' : Sto) (xs : List Dv), xs.Perm (d :: ds) → Q ⟨.lst xs, .nd []⟩ [s'.cl, ⟨.lst ds, o⟩, ⟨d, .sh⟩]
theorem S_law_put_i {s : Sto} {ds : List Dv} {o : Ow} {d : Dv} {Q E} (ho : o.flat = true) (hl : ds.length ≤ 90000) (h : ∀ (s' : Sto) (xs : List Dv), xs.Perm (d :: ds) → Q ⟨.lst xs, .nd []⟩ [s'.cl, ⟨.lst ds, o⟩, ⟨d, .sh⟩]) : S_law_put [s.cl, ⟨.lst ds, o⟩, ⟨d, .sh⟩] Q E := by unfold S_law_put; exact ⟨s, ds, o, d, rfl, ho, hl, h⟩
/-- _law_put: slots _law_store_here _law_items _law_item _law_place -/
def w_law_put : WS := (wSeq (wNfS (wAsg 3 (wNf (wCall S_law_take [] (waCons (wVar 0) (waCons (w2 gAdd (wN gLen (waCons (wVar 1) waNil)) (wC (.int 1))) waNil))))))
  (wRet (w2 gAdd (w2 gAdd (wN gList (waCons (wSl (wVar 1) wNoPart (wPart (wVar 3))) waNil)) (wLst (waCons (wSh (wVar 2)) waNil))) (wN gList (waCons (wSl (wVar 1) (wPart (wVar 3)) wNoPart) waNil)))))
theorem pure_law_put : ∀ cs Q E, S_law_put cs Q E → cs.length = 3 ∧ w_law_put (fnWD [0, 1, 2] cs Q E) (env0 [0, 1, 2] 4 cs) := by
  intro cs Q E h
  unfold S_law_put at h
  obtain ⟨s, ds, o, d, rfl, ho, hl, hQ⟩ := h
  refine ⟨rfl, ?_⟩
  walk_at "go"
  refine S_law_take_i (by omega) fun s1 r r0 r1 => ?_
  have l1 : (cutD ds none (some r)).length ≤ 90000 := by rw [cutD0 _ r0, List.length_take]; omega
  have l2 : (cutD ds (some r) none).length ≤ 90000 := by rw [cutD1 _ r0, List.length_drop]; omega
  have l3 : (cutD ds none (some r) ++ [d]).length + (cutD ds (some r) none).length ≤ 90001 := by
    rw [cutD0 _ r0, cutD1 _ r0, List.length_append, List.length_take, List.length_drop]
    show _ + 1 + _ ≤ _
    omega
  walk_at "go"
  refine ⟨show (cutD ds none (some r) ++ [d]).length + (cutD ds (some r) none).length ≤ 100000 by omega, ?_⟩
  refine hQ s1 _ ?_
  show ((cutD ds none (some r) ++ [d]) ++ cutD ds (some r) none).Perm (d :: ds)
  rw [cutD0 _ r0, cutD1 _ r0, List.append_assoc]
  refine List.perm_middle.trans ?_
  show (d :: (List.take r.toNat ds ++ List.drop r.toNat ds)).Perm (d :: ds)
  rw [List.take_append_drop]
@[irreducible] def S_law_listed : SF := fun cs Q _ => ∃ (s : Sto) (ds : List Dv) (o : Ow), cs = [s.cl, ⟨.lst ds, o⟩] ∧ o.flat = true ∧ ∀ (s' : Sto), Q ⟨.lst ds, .nd []⟩ [s'.cl, ⟨.lst ds, o⟩] ∧ Q ⟨.tup ds, .sh⟩ [s'.cl, ⟨.lst ds, o⟩]
theorem S_law_listed_i {s : Sto} {ds : List Dv} {o : Ow} {Q E} (ho : o.flat = true) (h : ∀ (s' : Sto), Q ⟨.lst ds, .nd []⟩ [s'.cl, ⟨.lst ds, o⟩] ∧ Q ⟨.tup ds, .sh⟩ [s'.cl, ⟨.lst ds, o⟩]) : S_law_listed [s.cl, ⟨.lst ds, o⟩] Q E := by unfold S_law_listed; exact ⟨s, ds, o, rfl, ho, h⟩
/-- _law_listed: slots _law_store_here _law_items -/
def w_law_listed : WS := (wSeq (wIf (wTB (wNf (wCall S_law_odds [] (waCons (wVar 0) (waCons (wC (.int 3)) waNil))))) (wRet (wN gTuple (waCons (wVar 1) waNil))) wNext)
  (wRet (wN gList (waCons (wVar 1) waNil))))
theorem pure_law_listed : ∀ cs Q E, S_law_listed cs Q E → cs.length = 2 ∧ w_law_listed (fnWD [0, 1] cs Q E) (env0 [0, 1] 2 cs) := by
  intro cs Q E h
  unfold S_law_listed at h
  obtain ⟨s, ds, o, rfl, ho, hQ⟩ := h
  refine ⟨rfl, ?_⟩
  walk_at "go"
  refine S_law_odds_i (by decide) fun s1 b => ?_
  walk_at "go"
  refine ite_b (fun _ => ?_) fun _ => ?_
  · walk_at "go"
    exact (hQ s1).2
  · walk_at "go"
    exact (hQ s1).1
@[irreducible] def S_law_houses : SF := fun cs Q _ => ∃ (w : Wd), cs = [⟨w.d, .sh⟩] ∧ WOk w ∧ Q ⟨.lst (sts (srtS (w.home :: w.oth))), .nd []⟩ cs
theorem S_law_houses_i {w : Wd} {Q E} (hw : WOk w) (h : Q ⟨.lst (sts (srtS (w.home :: w.oth))), .nd []⟩ [⟨w.d, .sh⟩]) : S_law_houses [⟨w.d, .sh⟩] Q E := by unfold S_law_houses; exact ⟨w, rfl, hw, h⟩
/-- _law_houses: slots _law_world_here -/
def w_law_houses : WS := (wRet (wN gSort (waCons (w2 gAdd (wLst (waCons (wSh (w2 gIx (wVar 0) (wC (.int 0)))) waNil)) (wN gList (waCons (w2 gIx (wVar 0) (wC (.int 1))) waNil))) waNil)))
theorem pure_law_houses : ∀ cs Q E, S_law_houses cs Q E → cs.length = 1 ∧ w_law_houses (fnWD [0] cs Q E) (env0 [0] 1 cs) := by
  intro cs Q E h
  unfold S_law_houses at h
  obtain ⟨w, rfl, hw, hQ⟩ := h
  refine ⟨rfl, ?_⟩
  have l1 : (sts w.oth).length ≤ 11 := by rw [List.length_map]; exact hw.ol
  walk_at "go"
  refine ⟨sortOk_sts (w.home :: w.oth), ?_⟩
  have e : ([Dv.str w.home] ++ sts w.oth).mergeSort leD = sts (srtS (w.home :: w.oth)) := sort_sts (w.home :: w.oth)
  rw [← e] at hQ
  exact hQ
@[irreducible] def S_law_named : SF := fun cs Q _ => ∃ (s : Sto) (n : Int) (ps : List (Int × Int)), cs = [s.cl, cI n, ⟨.lst (prs ps), .sh⟩, ⟨.tup [.lst [], .lst []], .sh⟩, cI 8] ∧ 1 ≤ n ∧ n ≤ 12 ∧ PB n ps ∧ ps.length ≤ 30 ∧ ∀ (s' : Sto) (w : Wd), WOk w → Q ⟨w.d, .sh⟩ [s'.cl, cI n, ⟨.lst (prs ps), .sh⟩, ⟨.tup [.lst [], .lst []], .sh⟩, cI 8]
theorem S_law_named_i {s : Sto} {n : Int} {ps : List (Int × Int)} {Q E} (h1 : 1 ≤ n) (h2 : n ≤ 12) (h3 : PB n ps) (h4 : ps.length ≤ 30) (h : ∀ (s' : Sto) (w : Wd), WOk w → Q ⟨w.d, .sh⟩ [s'.cl, cI n, ⟨.lst (prs ps), .sh⟩, ⟨.tup [.lst [], .lst []], .sh⟩, cI 8]) : S_law_named [s.cl, cI n, ⟨.lst (prs ps), .sh⟩, ⟨.tup [.lst [], .lst []], .sh⟩, cI 8] Q E := by unfold S_law_named; exact ⟨s, n, ps, rfl, h1, h2, h3, h4, h⟩
/-- _law_named: slots _law_store_here _law_n _law_pairs _law_shun _law_most _law_names_here _law_lent _law_lines _law_k _law_name -/
def w_law_named : WS := (wSeq (wNfS (wAsg 5 (wNf (wCall S_law_names [] (waCons (wVar 0) (waCons (wVar 1) (waCons (w2 gIx (wVar 3) (wC (.int 0))) (waCons (wVar 4) waNil))))))))
  (wSeq (wNfS (wAsg 6 (wLst waNil)))
  (wSeqC (wIf (wTB (wNf (wCall S_law_odds [] (waCons (wVar 0) (waCons (wC (.int 4)) waNil))))) (wNfS (wAsg 6 (wSl (wLcS (wItE (wNf (wCall S_law_shuffled [] (waCons (wVar 0) (waCons (wVar 5) waNil))))) (tgN 9) (wTB (w2 gNMem (wVar 9) (w2 gIx (wVar 3) (wC (.int 1))))) (wVar 9) [9]) wNoPart (wPart (wN gLen (waCons (wVar 2) waNil)))))) wNext)
  (wSeq (wNfS (wAsg 7 (w2 gAdd (wVar 6) (wNf (wCall S_law_names [] (waCons (wVar 0) (waCons (w2 gMinus (wN gLen (waCons (wVar 2) waNil)) (wN gLen (waCons (wVar 6) waNil))) (waCons (w2 gAdd (wN gList (waCons (w2 gIx (wVar 3) (wC (.int 1))) waNil)) (wVar 6)) (waCons (wVar 4) waNil)))))))))
  (wRet (wTup (waCons (wSh (w2 gIx (wVar 5) (wC (.int 0)))) (waCons (wSh (wSl (wVar 5) (wPart (wC (.int 1))) wNoPart)) (waCons (wSh (wLcS (wItR1 (waCons (wN gLen (waCons (wVar 2) waNil)) waNil)) (tgN 8) wYes (wTup (waCons (wSh (w2 gIx (wVar 7) (wVar 8))) (waCons (wSh (w2 gIx (wVar 5) (w2 gIx (w2 gIx (wVar 2) (wVar 8)) (wC (.int 0))))) (waCons (wSh (w2 gIx (wVar 5) (w2 gIx (w2 gIx (wVar 2) (wVar 8)) (wC (.int 1))))) waNil)))) [8])) waNil)))))))))
theorem pure_law_named : ∀ cs Q E, S_law_named cs Q E → cs.length = 5 ∧ w_law_named (fnWD [0, 1, 2, 3, 4] cs Q E) (env0 [0, 1, 2, 3, 4] 10 cs) := by
  intro cs Q E h
  unfold S_law_named at h
  obtain ⟨s, n, ps, rfl, hn1, hn2, hp, hpl, hQ⟩ := h
  refine ⟨rfl, ?_⟩
  walk_at "go"
  refine S_law_names_i (us := []) rfl (by omega) (by omega) (by show 0 + n.toNat ≤ 900; omega) (by decide) (by decide) fun s1 fs fl fnd fnm => ?_
  have hpl2 : (prs ps).length = ps.length := List.length_map ..
  have hfl2 : (sts fs).length = fs.length := List.length_map ..
  have hfl3 : (fs.map Dv.str).length = fs.length := List.length_map ..
  walk_at "go"
  refine ⟨fun e => ∃ (s : Sto) (ls : List Str), e = [some s.cl, some (cI n), some ⟨.lst (prs ps), .sh⟩, some ⟨.tup [.lst [], .lst []], .sh⟩, some (cI 8), some ⟨.lst (sts fs), .nd []⟩, some ⟨.lst (sts ls), .nd []⟩, none, none, none] ∧ ls.Nodup ∧ (∀ x ∈ ls, Nm 8 x) ∧ ls.length ≤ ps.length, ?_, ?_⟩
  · walk_at "go"
    refine S_law_odds_i (by decide) fun s2 b => ?_
    walk_at "go"
    refine ite_b (fun _ => ?_) fun _ => ?_
    · walk_at "go"
      refine S_law_shuffled_i rfl (by omega) fun s3 xs hxs => ?_
      obtain ⟨gs, rfl, hg⟩ := perm_map hxs rfl
      have hgl := hg.length_eq
      walk_at "go"
      refine lcBS_map gs Dv.str _ rfl trivial (by omega) (fun x hx N N0 hN => ?_) ?_
      · walk_at "go"
        exact hN _ rfl
      walk_at "go"
      have q1 : cutD (gs.map Dv.str) none (some (((prs ps).length : Nat) : Int)) = sts (gs.take ps.length) := by
        rw [cutD0 _ (by omega), hpl2]
        exact (List.map_take ..).symm
      rw [q1]
      refine ⟨s3, gs.take ps.length, rfl, (hg.nodup_iff.mpr fnd).sublist (List.take_sublist _ _), fun x hx => (fnm x (hg.mem_iff.mp (List.mem_of_mem_take hx))).1, ?_⟩
      rw [List.length_take]
      omega
    · exact ⟨s2, [], rfl, List.nodup_nil, fun x hx => (nomatch hx), Nat.zero_le _⟩
  rintro e ⟨s4, ls, rfl, lnd, lnm, ll⟩
  have ll2 : (sts ls).length = ls.length := List.length_map ..
  walk_at "go"
  refine S_law_names_i (us := ls) rfl (by omega) (by omega) (by omega) (by decide) (by decide) fun s5 gs gl gnd gnm => ?_
  have gl2 : (sts gs).length = gs.length := List.length_map ..
  have gl3 : (gs.map Dv.str).length = gs.length := List.length_map ..
  walk_at "go"
  have q0 : sts ls ++ sts gs = sts (ls ++ gs) := (List.map_append ..).symm
  rw [q0]
  have al : (ls ++ gs).length = ps.length := by rw [List.length_append]; omega
  have and_ : (ls ++ gs).Nodup := by
    rw [List.nodup_append]
    refine ⟨lnd, gnd, fun a ha b hb e => ?_⟩
    exact (gnm b hb).2 (e ▸ ha)
  have anm : ∀ x ∈ ls ++ gs, Nm 8 x := fun x hx => by
    rw [List.mem_append] at hx
    exact hx.elim (lnm x) fun h => (gnm x h).1
  generalize ls ++ gs = as at al and_ anm
  clear gnm gnd gl gl2 gl3 lnd lnm ll ll2 q0
  cases fs with
  | nil => exact absurd fl (by show 0 ≠ _; omega)
  | cons x r =>
    walk_at "go"
    refine ex_ix (d := .str x) (atI_nat (j := 0) rfl) ?_
    walk_at "go"
    have q1 : cutD (sts (x :: r)) (some 1) none = sts r := by rw [cutD1 _ (by decide)]; rfl
    rw [q1]
    refine ⟨fun i acc e => e = [some s5.cl, some (cI n), some ⟨.lst (prs ps), .sh⟩, some ⟨.tup [.lst [], .lst []], .sh⟩, some (cI 8), some ⟨.lst (sts (x :: r)), .nd []⟩, some ⟨.lst (sts ls), .nd []⟩, some ⟨.lst (sts as), .nd []⟩, none, none] ∧ ∃ ks : List Ln, acc = lns ks ∧ i ≤ ps.length ∧ ks.map (·.1) = as.take i ∧ ∀ l ∈ ks, l.2.1 ∈ x :: r ∧ l.2.2 ∈ x :: r,
      ⟨rfl, [], rfl, Nat.zero_le _, rfl, fun l hl => (nomatch hl)⟩, fun i acc e h => ?_, fun i d acc e hd h N N0 hN hN0 => ?_, fun acc e h => ?_⟩
    · obtain ⟨rfl, ks, rfl, hi, hk, he⟩ := h
      refine ⟨trivial, ?_⟩
      have := congrArg List.length hk
      rw [List.length_map, List.length_take] at this
      rw [List.length_map]
      omega
    · obtain ⟨rfl, ks, rfl, hi, hk, he⟩ := h
      obtain ⟨hi2, rfl⟩ := rngD_some hd
      have e0 : (0 : Int) + ((i : Nat) : Int) = ((i : Nat) : Int) := Int.zero_add _
      rw [e0]
      have hi3 : i < ps.length := by omega
      obtain ⟨a, ha⟩ : ∃ a, as[i]? = some a := ⟨_, List.getElem?_eq_getElem (by omega)⟩
      obtain ⟨p, hpi⟩ : ∃ p, ps[i]? = some p := ⟨_, List.getElem?_eq_getElem hi3⟩
      have a1 : atI (sts as) ((i : Nat) : Int) = some (.str a) := atI_nat (by rw [List.getElem?_map, ha]; rfl)
      have a2 : atI (prs ps) ((i : Nat) : Int) = some (prD p) := atI_nat (by rw [List.getElem?_map, hpi]; rfl)
      have hpb := hp p (List.mem_of_getElem? hpi)
      have hxl : (x :: r).length = n.toNat := fl
      obtain ⟨t, ht, htm⟩ := atI_map (f := Dv.str) (xs := x :: r) hpb.1.1 (by omega)
      obtain ⟨u, hu, hum⟩ := atI_map (f := Dv.str) (xs := x :: r) hpb.2.1 (by omega)
      walk_at "go"
      refine ex_ix a1 ?_
      walk_at "go"
      refine ex_ix a2 ?_
      walk_at "go"
      refine ex_ix ht ?_
      walk_at "go"
      refine ex_ix a2 ?_
      walk_at "go"
      refine ex_ix hu ?_
      walk_at "go"
      refine hN _ _ ⟨rfl, ks ++ [(a, t, u)], ?_, by omega, ?_, fun l hl => ?_⟩
      · simp
      · rw [List.map_append, hk, List.take_succ, ha]
        rfl
      · rw [List.mem_append, List.mem_singleton] at hl
        rcases hl with hl | rfl
        · exact he l hl
        · exact ⟨htm, hum⟩
    · obtain ⟨rfl, ks, rfl, hi, hk, he⟩ := h
      rw [rngD_len, hpl2, Int.toNat_natCast, ← al, List.take_length] at hk
      walk_at "go"
      refine hQ s5 ⟨x, r, ks⟩ ⟨fun y hy => (fnm y hy).1, fnd, ?_, ?_, fun l hl => anm _ (hk ▸ List.mem_map.mpr ⟨l, hl, rfl⟩), he, hk ▸ and_⟩
      · have hxl : (x :: r).length = n.toNat := fl
        rw [List.length_cons] at hxl
        show r.length ≤ 11
        omega
      · have := congrArg List.length hk
        rw [List.length_map] at this
        show ks.length ≤ 30
        omega
@[irreducible] def S_law_world : SF := fun cs Q _ => ∃ (s : Sto), cs = [s.cl, cI 12, cI 30] ∧ ∀ (s' : Sto) (w : Wd), WOk w → Q ⟨w.d, .sh⟩ [s'.cl, cI 12, cI 30]
theorem S_law_world_i {s : Sto} {Q E} (h : ∀ (s' : Sto) (w : Wd), WOk w → Q ⟨w.d, .sh⟩ [s'.cl, cI 12, cI 30]) : S_law_world [s.cl, cI 12, cI 30] Q E := by unfold S_law_world; exact ⟨s, rfl, h⟩
/-- _law_world: slots _law_store_here _law_most _law_room _law_n _law_pairs -/
def w_law_world : WS := (wSeq (wNfS (wAsgT [3, 4] (wNf (wCall S_law_shape [] (waCons (wVar 0) (waCons (wVar 1) (waCons (wVar 2) waNil)))))))
  (wRet (wNf (wCall S_law_named [] (waCons (wVar 0) (waCons (wVar 3) (waCons (wVar 4) (waCons (wTup (waCons (wSh (wLst waNil)) (waCons (wSh (wLst waNil)) waNil))) (waCons (wC (.int 8)) waNil)))))))))
theorem pure_law_world : ∀ cs Q E, S_law_world cs Q E → cs.length = 3 ∧ w_law_world (fnWD [0, 1, 2] cs Q E) (env0 [0, 1, 2] 5 cs) := by
  intro cs Q E h
  unfold S_law_world at h
  obtain ⟨s, rfl, hQ⟩ := h
  refine ⟨rfl, ?_⟩
  walk_at "go"
  refine S_law_shape_i fun s1 n ps n1 n2 hp hpl => ?_
  walk_at "go"
  refine S_law_named_i n1 n2 hp hpl fun s2 w hw => ?_
  exact hQ s2 w hw
end Py
set_option Elab.async false
set_option linter.all false
set_option maxRecDepth 100000
set_option maxHeartbeats 1000000
set_option pp.maxSteps 800
namespace Py
open PySem PySem.Spec PyProof.Rows L2
set_option exponentiation.threshold 9000
local macro_rules | `(tactic| walk_at "mul") => `(tactic| first | exact Or.inl (Or.inr ⟨by decide, by decide⟩) | exact Or.inl (Or.inl ⟨by decide, by decide⟩) | exact Or.inl (Or.inl ⟨by omega, by omega⟩) | exact Or.inl (Or.inr ⟨by omega, by omega⟩))
local macro_rules | `(tactic| walk_at "side") => `(tactic| first | with_reducible assumption | rfl | exact ⟨_, rfl⟩ | decide | exact Nat.le_of_ble_eq_true rfl | omega | (walk_at "mul") | exact nat_small (by omega) (by omega) | exact nat_small2 (by omega) (by omega) | exact all_scal _ | assumption | (show _ + 1 ≤ _; omega) | (show 1 + _ ≤ _; omega) | (show 0 + _ ≤ _; omega))
local macro_rules | `(tactic| walk_at "go") => `(tactic| repeat (first | refine And.intro (by walk_at "side") ?_ | refine ex_ix rfl ?_ | refine ex_ixS rfl ?_ | refine ex_n rfl ?_ | refine ite_f rfl ?_ | refine ite_t rfl ?_))
/-! Nets: worlds that are filled, worlds that are near. -/
theorem nm_h {x : Str} (hx : Nm 1 x) {i : Nat} (hi : i < 100) : Nm 8 (x ++ ((toString ((i : Nat) : Int) : String) : Str)) ∧ ((toString ((i : Nat) : Int) : String) : Str).length ≤ 2 := by
  have h4 : ((toString ((i : Nat) : Int) : String) : Str).length ≤ 2 := by
    rw [← tl_len, tl_int (by omega)]
    exact dig_len (by decide) (by omega)
  have := hx.len
  exact ⟨hx.app (ld_int (by omega)) (by omega), h4⟩
theorem nm_hh : Nm 1 ("h" : Str) := nm_one (c := 104) rfl
theorem nm_nn : Nm 1 ("n" : Str) := nm_one (c := 110) rfl
theorem len_hh : ("h" : Str).length = 1 := by decide +kernel
theorem len_nn : ("n" : Str).length = 1 := by decide +kernel
@[irreducible] def S_law_full : SF := fun cs Q _ => ∃ (s : Sto) (w : Wd), cs = [s.cl, ⟨w.d, .sh⟩] ∧ WOk w ∧ ∀ (s' : Sto) (w' : Wd), WOk w' → Q ⟨w'.d, .sh⟩ [s'.cl, ⟨w.d, .sh⟩]
theorem S_law_full_i {s : Sto} {w : Wd} {Q E} (hw : WOk w) (h : ∀ (s' : Sto) (w' : Wd), WOk w' → Q ⟨w'.d, .sh⟩ [s'.cl, ⟨w.d, .sh⟩]) : S_law_full [s.cl, ⟨w.d, .sh⟩] Q E := by unfold S_law_full; exact ⟨s, w, rfl, hw, h⟩
/-- _law_full: slots _law_store_here _law_world_here _law_home _law_others _law_lines _law_k _law_houses_here _law_name _law_line -/
def w_law_full : WS := (wSeq (wNfS (wAsgT [2, 3, 4] (wVar 1)))
  (wSeq (wFor (wItR1 (waCons (w2 gMinus (wC (.int 11)) (wN gLen (waCons (wVar 3) waNil))) waNil)) (tgN 5) (wNfS (wAsg 3 (wNf (wCall S_law_put [] (waCons (wVar 0) (waCons (wVar 3) (waCons (wNf (wCall S_law_fresh [] (waCons (w2 gAdd (wC (.str "h")) (wN gStrI (waCons (wVar 5) waNil))) (waCons (w2 gAdd (wLst (waCons (wSh (wVar 2)) waNil)) (wN gList (waCons (wVar 3) waNil))) waNil)))) waNil))))))))
  (wSeq (wNfS (wAsg 6 (w2 gAdd (wLst (waCons (wSh (wVar 2)) waNil)) (wN gList (waCons (wVar 3) waNil)))))
  (wSeq (wFor (wItR1 (waCons (w2 gMinus (wC (.int 30)) (wN gLen (waCons (wVar 4) waNil))) waNil)) (tgN 5) (wSeq (wNfS (wAsg 7 (wNf (wCall S_law_fresh [] (waCons (w2 gAdd (wC (.str "n")) (wN gStrI (waCons (wVar 5) waNil))) (waCons (wLcS (wItE (wVar 4)) (tgN 8) wYes (w2 gIx (wVar 8) (wC (.int 0))) [8]) waNil))))))
  (wNfS (wAsg 4 (wNf (wCall S_law_put [] (waCons (wVar 0) (waCons (wVar 4) (waCons (wTup (waCons (wSh (wVar 7)) (waCons (wSh (wNf (wCall S_law_pick [] (waCons (wVar 0) (waCons (wVar 6) waNil))))) (waCons (wSh (wNf (wCall S_law_pick [] (waCons (wVar 0) (waCons (wVar 6) waNil))))) waNil)))) waNil)))))))))
  (wRet (wTup (waCons (wSh (wVar 2)) (waCons (wSh (wN gList (waCons (wVar 3) waNil))) (waCons (wSh (wN gList (waCons (wVar 4) waNil))) waNil)))))))))
theorem pure_law_full : ∀ cs Q E, S_law_full cs Q E → cs.length = 2 ∧ w_law_full (fnWD [0, 1] cs Q E) (env0 [0, 1] 9 cs) := by
  intro cs Q E h
  unfold S_law_full at h
  obtain ⟨s, w, rfl, hw, hQ⟩ := h
  refine ⟨rfl, ?_⟩
  have l0 : (sts w.oth).length = w.oth.length := List.length_map ..
  have hol : w.oth.length ≤ 11 := hw.ol
  have hrl : w.rows.length ≤ 30 := hw.rl
  walk_at "go"
  refine ⟨fun i e => ∃ (s : Sto) (us : List Str) (o : Ow) (x5 : Option Cl), e = [some s.cl, some ⟨w.d, .sh⟩, some (cS w.home), some ⟨.lst (sts us), o⟩, some ⟨.lst (lns w.rows), .sh⟩, x5, none, none, none] ∧ o.flat = true ∧ us.length = w.oth.length + i ∧ (w.home :: us).Nodup ∧ (∀ x ∈ w.home :: us, Nm 8 x) ∧ ∀ x ∈ w.oth, x ∈ us,
    ⟨s, w.oth, .sh, none, rfl, rfl, rfl, hw.nd, hw.nm, fun x hx => hx⟩, fun _ _ _ => trivial, ?_, ?_⟩
  · rintro i d e hd ⟨s1, us, o, x5, rfl, ho, hl, hnd, hnm, hsub⟩
    obtain ⟨hi, rfl⟩ := rngD_some hd
    have e0 : (0 : Int) + ((i : Nat) : Int) = ((i : Nat) : Int) := Int.zero_add _
    rw [e0]
    obtain ⟨k1, k2⟩ := nm_h nm_hh (i := i) (by omega)
    have k3 := len_hh
    have l1 : (sts us).length = us.length := List.length_map ..
    rcases flat_cases ho with rfl | rfl
    all_goals
      walk_at "go"
      refine S_law_fresh_i (us := w.home :: us) rfl (by show us.length + 1 ≤ 900; omega) k1 fun y hy hyn => ?_
      walk_at "go"
      refine S_law_put_i (ds := sts us) (d := .str y) rfl (by omega) fun s2 xs hxs => ?_
      obtain ⟨vs, rfl, hv⟩ := perm_map (zs := y :: us) hxs rfl
      rw [List.mem_cons, not_or] at hyn
      walk_at "go"
      have hp : (w.home :: vs).Perm (y :: w.home :: us) := (hv.cons w.home).trans (List.Perm.swap y w.home us)
      refine ⟨s2, vs, _, _, rfl, rfl, ?_, ?_, fun x hx => ?_, fun x hx => hv.mem_iff.mpr (List.mem_cons_of_mem _ (hsub x hx))⟩
      · rw [hv.length_eq, List.length_cons]; omega
      · rw [hp.nodup_iff, List.nodup_cons, List.mem_cons, not_or]
        exact ⟨hyn, hnd⟩
      · have := hp.mem_iff.mp hx
        rw [List.mem_cons] at this
        rcases this with rfl | h
        · exact hy
        · exact hnm x h
  · rintro e ⟨s1, us, o, x5, rfl, ho, hl, hnd, hnm, hsub⟩
    rw [rngD_len] at hl
    have l1 : (sts us).length = us.length := List.length_map ..
    have l2 : (lns w.rows).length = w.rows.length := List.length_map ..
    have hus : us.length ≤ 11 := by omega
    clear hl
    walk_at "go"
    refine ⟨fun i e => ∃ (s : Sto) (ks : List Ln) (o2 : Ow) (x5 x7 : Option Cl), e = [some s.cl, some ⟨w.d, .sh⟩, some (cS w.home), some ⟨.lst (sts us), o⟩, some ⟨.lst (lns ks), o2⟩, x5, some ⟨.lst ([.str w.home] ++ sts us), .nd []⟩, x7, none] ∧ o2.flat = true ∧ ks.length = w.rows.length + i ∧ (ks.map (·.1)).Nodup ∧ (∀ l ∈ ks, Nm 8 l.1) ∧ ∀ l ∈ ks, l.2.1 ∈ w.home :: us ∧ l.2.2 ∈ w.home :: us,
      ⟨s1, w.rows, .sh, x5, none, rfl, rfl, rfl, hw.rd, hw.rn, fun l hl => ?_⟩, fun _ _ _ => trivial, ?_, ?_⟩
    · have hs : ∀ x ∈ w.home :: w.oth, x ∈ w.home :: us := fun x hx => by
        rw [List.mem_cons] at hx ⊢
        exact hx.imp id (hsub x)
      have := hw.re l hl
      exact ⟨hs _ this.1, hs _ this.2⟩
    · rintro i d e hd ⟨s2, ks, o2, x5, x7, rfl, ho2, hkl, hknd, hkn, hke⟩
      obtain ⟨hi, rfl⟩ := rngD_some hd
      have e0 : (0 : Int) + ((i : Nat) : Int) = ((i : Nat) : Int) := Int.zero_add _
      rw [e0]
      obtain ⟨k1, k2⟩ := nm_h nm_nn (i := i) (by omega)
      have k3 := len_nn
      have l3 : (lns ks).length = ks.length := List.length_map ..
      rcases flat_cases ho2 with rfl | rfl
      all_goals
        walk_at "go"
        refine lcBS_map ks (fun l => .str l.1) _ rfl trivial (by omega) (fun l hl N N0 hN => ?_) ?_
        · walk_at "go"
          exact hN _ rfl
        rw [fst_lns]
        walk_at "go"
        refine S_law_fresh_i (us := ks.map (·.1)) (o := .nd []) rfl (by rw [List.length_map]; omega) k1 fun y hy hyn => ?_
        walk_at "go"
        refine S_law_pick_l (ds := sts (w.home :: us)) rfl (by rw [List.length_map]; exact Nat.succ_le_succ (Nat.zero_le _)) (by rw [List.length_map]; show us.length + 1 ≤ _; omega) fun s3 t ht => ?_
        obtain ⟨t, htm, rfl⟩ := mem_sts ht
        walk_at "go"
        refine S_law_pick_l (ds := sts (w.home :: us)) rfl (by rw [List.length_map]; exact Nat.succ_le_succ (Nat.zero_le _)) (by rw [List.length_map]; show us.length + 1 ≤ _; omega) fun s4 u hu => ?_
        obtain ⟨u, hum, rfl⟩ := mem_sts hu
        walk_at "go"
        refine S_law_put_i (ds := lns ks) (d := lnD (y, t, u)) ?_ (by omega) fun s5 xs hxs => ?_
        · rfl
        obtain ⟨vs, rfl, hv⟩ := perm_map (zs := (y, t, u) :: ks) hxs rfl
        walk_at "go"
        have hp : (vs.map (·.1)).Perm (y :: ks.map (·.1)) := hv.map _
        refine ⟨s5, vs, _, _, _, rfl, rfl, ?_, ?_, fun l hl => ?_, fun l hl => ?_⟩
        · rw [hv.length_eq, List.length_cons]; omega
        · rw [hp.nodup_iff, List.nodup_cons]
          exact ⟨hyn, hknd⟩
        · have := hv.mem_iff.mp hl
          rw [List.mem_cons] at this
          rcases this with rfl | h
          · exact hy
          · exact hkn l h
        · have := hv.mem_iff.mp hl
          rw [List.mem_cons] at this
          rcases this with rfl | h
          · exact ⟨htm, hum⟩
          · exact hke l h
    · rintro e ⟨s2, ks, o2, x5, x7, rfl, ho2, hkl, hknd, hkn, hke⟩
      rw [rngD_len] at hkl
      walk_at "go"
      refine hQ s2 ⟨w.home, us, ks⟩ ⟨hnm, hnd, hus, ?_, hkn, hke, hknd⟩
      show ks.length ≤ 30
      omega
end Py
set_option Elab.async false
set_option linter.all false
set_option maxRecDepth 100000
set_option maxHeartbeats 1000000
set_option pp.maxSteps 800
namespace Py
open PySem PySem.Spec PyProof.Rows L2
set_option exponentiation.threshold 9000
local macro_rules | `(tactic| walk_at "mul") => `(tactic| first | exact Or.inl (Or.inr ⟨by decide, by decide⟩) | exact Or.inl (Or.inl ⟨by decide, by decide⟩) | exact Or.inl (Or.inl ⟨by omega, by omega⟩) | exact Or.inl (Or.inr ⟨by omega, by omega⟩))
local macro_rules | `(tactic| walk_at "side") => `(tactic| first | with_reducible assumption | rfl | exact ⟨_, rfl⟩ | decide | exact Nat.le_of_ble_eq_true rfl | omega | (walk_at "mul") | exact nat_small (by omega) (by omega) | exact nat_small2 (by omega) (by omega) | exact all_scal _ | assumption | (show _ + 1 ≤ _; omega) | (show 1 + _ ≤ _; omega) | (show 0 + _ ≤ _; omega))
local macro_rules | `(tactic| walk_at "go") => `(tactic| repeat (first | refine And.intro (by walk_at "side") ?_ | refine ex_ix rfl ?_ | refine ex_ixS rfl ?_ | refine ex_n rfl ?_ | refine ite_f rfl ?_ | refine ite_t rfl ?_))
/-! Nets: a world that is near another. -/
theorem boolsM {α : Type} (g : α → Bool) : ∀ xs : List α, bools (xs.map fun x => Dv.bl (g x)) = some (xs.map g)
  | [] => rfl
  | x :: xs => by
    show (bools (xs.map fun x => Dv.bl (g x))).map (g x :: ·) = _
    rw [boolsM g xs]
    rfl
/-- x is an end of l -/
def endB (x : Str) (l : Ln) : Bool := [Dv.str l.2.1, Dv.str l.2.2].any fun e => eqD e (.str x)
theorem endB_not {x : Str} {l : Ln} (h : endB x l = false) : l.2.1 ≠ x ∧ l.2.2 ≠ x := by
  have e : endB x l = decide (x ∈ [l.2.1, l.2.2]) := any_str [l.2.1, l.2.2] x
  rw [e, decide_eq_false_iff_not, List.mem_cons, List.mem_singleton, not_or] at h
  exact ⟨fun z => h.1 z.symm, fun z => h.2 z.symm⟩
theorem pop_on {ds : List Dv} {t : Dv} {K : Cl → Prop} (h : K ⟨t, .sh⟩) : on1 (((ds ++ [t]).getLast?).map fun d => ⟨d, .sh⟩) K := by
  rw [List.getLast?_concat]; exact h
theorem cut_one {α : Type} (f : α → Dv) (x : α) (b : Bool) : cutD [f x] none (some (if b then 1 else 0)) = (if b then [x] else []).map f := by cases b <;> rfl
theorem filter_le {x : Str} {us : List Str} (h : x ∈ us) : (us.filter fun y => !decide (y = x)).length + 1 ≤ us.length := by
  have := (List.length_filter_lt_length_iff_exists (p := fun y => !decide (y = x)) (l := us)).mpr ⟨x, h, by simp⟩
  omega
theorem cutD_le (ds : List Dv) (lo hi : Option Int) : (cutD ds lo hi).length ≤ ds.length := by
  unfold cutD
  rw [List.length_take, List.length_drop]
  omega
theorem WOk.put {w : Wd} (hw : WOk w) {y : Str} {vs base : List Str} (hv : vs.Perm (y :: base)) (hb : ∀ x ∈ base, x ∈ w.oth) (bn : base.Nodup) (bl : base.length ≤ 10) (hy : Nm 8 y) (hyn : y ∉ w.home :: w.oth) (he : ∀ l ∈ w.rows, l.2.1 ∈ w.home :: base ∧ l.2.2 ∈ w.home :: base) : WOk ⟨w.home, vs, w.rows⟩ := by
  rw [List.mem_cons, not_or] at hyn
  have hs : ∀ x ∈ w.home :: base, x ∈ w.home :: vs := fun x hx => by
    rw [List.mem_cons] at hx ⊢
    exact hx.imp id fun h => hv.mem_iff.mpr (List.mem_cons_of_mem _ h)
  have hnd := List.nodup_cons.mp hw.nd
  refine ⟨fun x hx => ?_, ?_, ?_, hw.rl, hw.rn, fun l hl => ⟨hs _ (he l hl).1, hs _ (he l hl).2⟩, hw.rd⟩
  · rw [List.mem_cons] at hx
    rcases hx with rfl | hx
    · exact hw.nm _ List.mem_cons_self
    · have := hv.mem_iff.mp hx
      rw [List.mem_cons] at this
      rcases this with rfl | h
      · exact hy
      · exact hw.nm _ (List.mem_cons_of_mem _ (hb x h))
  · show (w.home :: vs).Nodup
    rw [List.nodup_cons]
    refine ⟨fun h => ?_, hv.nodup_iff.mpr (List.nodup_cons.mpr ⟨fun h => hyn.2 (hb y h), bn⟩)⟩
    have := hv.mem_iff.mp h
    rw [List.mem_cons] at this
    rcases this with e | h
    · exact hyn.1 e.symm
    · exact hnd.1 (hb _ h)
  · show vs.length ≤ 11
    rw [hv.length_eq, List.length_cons]
    omega
theorem WOk.turn {w : Wd} (hw : WOk w) {g : Str} (hg : g ∈ w.oth) : WOk ⟨g, (w.home :: w.oth).filter fun y => !decide (y = g), w.rows⟩ := by
  have hm : ∀ x, x ∈ w.home :: w.oth → x ∈ g :: (w.home :: w.oth).filter fun y => !decide (y = g) := fun x hx => by
    rw [List.mem_cons, List.mem_filter]
    by_cases h : x = g
    · exact .inl h
    · exact .inr ⟨hx, by simp [h]⟩
  refine ⟨fun x hx => ?_, ?_, ?_, hw.rl, hw.rn, fun l hl => ⟨hm _ (hw.re l hl).1, hm _ (hw.re l hl).2⟩, hw.rd⟩
  · rw [List.mem_cons, List.mem_filter] at hx
    rcases hx with rfl | hx
    · exact hw.nm _ (List.mem_cons_of_mem _ hg)
    · exact hw.nm _ hx.1
  · show (g :: _).Nodup
    rw [List.nodup_cons, List.mem_filter]
    refine ⟨fun h => ?_, hw.nd.sublist List.filter_sublist⟩
    have := h.2
    simp at this
  · have := filter_le (x := g) (us := w.home :: w.oth) (List.mem_cons_of_mem _ hg)
    have h2 := hw.ol
    rw [List.length_cons] at this
    show ((w.home :: w.oth).filter fun y => !decide (y = g)).length ≤ 11
    omega
theorem WOk.mix {w : Wd} (hw : WOk w) {us : List Str} {ks : List Ln} (hu : us.Perm w.oth) (hk : ks.Perm w.rows) : WOk ⟨w.home, us, ks⟩ := by
  have hp := hu.cons w.home
  refine ⟨fun x hx => hw.nm x (hp.mem_iff.mp hx), hp.nodup_iff.mpr hw.nd, ?_, ?_, fun l hl => hw.rn l (hk.mem_iff.mp hl), fun l hl => ?_, (hk.map _).nodup_iff.mpr hw.rd⟩
  · show us.length ≤ 11
    rw [hu.length_eq]; exact hw.ol
  · show ks.length ≤ 30
    rw [hk.length_eq]; exact hw.rl
  · have := hw.re l (hk.mem_iff.mp hl)
    exact ⟨hp.mem_iff.mpr this.1, hp.mem_iff.mpr this.2⟩
theorem WOk.swap {w : Wd} (hw : WOk w) {ks : List Ln} {l0 l : Ln} (hk : (ks ++ [l0]).Perm w.rows) (b : Bool) (h1 : Nm 8 l.1) (h2 : l.1 ∉ ks.map (·.1)) (h3 : l.2.1 ∈ w.home :: w.oth) (h4 : l.2.2 ∈ w.home :: w.oth) : WOk ⟨w.home, w.oth, ks ++ if b = true then [l] else []⟩ := by
  have hl := hk.length_eq
  rw [List.length_append] at hl
  have hl2 : ks.length + 1 = w.rows.length := hl
  have hrl := hw.rl
  have hs : ∀ m ∈ ks, m ∈ w.rows := fun m hm => hk.mem_iff.mp (List.mem_append_left _ hm)
  have hnd : (ks.map (·.1)).Nodup := ((hk.map (·.1)).nodup_iff.mpr hw.rd).sublist (by rw [List.map_append]; exact List.sublist_append_left _ _)
  cases b with
  | false =>
    rw [if_neg Bool.false_ne_true, List.append_nil]
    refine ⟨hw.nm, hw.nd, hw.ol, ?_, fun m hm => hw.rn m (hs m hm), fun m hm => hw.re m (hs m hm), hnd⟩
    show ks.length ≤ 30
    omega
  | true =>
    rw [if_pos rfl]
    refine ⟨hw.nm, hw.nd, hw.ol, ?_, fun m hm => ?_, fun m hm => ?_, ?_⟩
    · show (ks ++ [l]).length ≤ 30
      rw [List.length_append]
      show ks.length + 1 ≤ 30
      omega
    · rw [List.mem_append, List.mem_singleton] at hm
      rcases hm with hm | rfl
      · exact hw.rn m (hs m hm)
      · exact h1
    · rw [List.mem_append, List.mem_singleton] at hm
      rcases hm with hm | rfl
      · exact hw.re m (hs m hm)
      · exact ⟨h3, h4⟩
    · show ((ks ++ [l]).map (·.1)).Nodup
      rw [List.map_append, List.nodup_append]
      refine ⟨hnd, by simp, fun a ha b hb e => ?_⟩
      rw [List.map_cons, List.map_nil, List.mem_singleton] at hb
      exact h2 (hb ▸ e ▸ ha)
@[irreducible] def S_law_near_world : SF := fun cs Q _ => ∃ (s : Sto) (w : Wd), cs = [s.cl, ⟨w.d, .sh⟩] ∧ WOk w ∧ ∀ (s' : Sto) (w' : Wd), WOk w' → Q ⟨w'.d, .sh⟩ [s'.cl, ⟨w.d, .sh⟩]
theorem S_law_near_world_i {s : Sto} {w : Wd} {Q E} (hw : WOk w) (h : ∀ (s' : Sto) (w' : Wd), WOk w' → Q ⟨w'.d, .sh⟩ [s'.cl, ⟨w.d, .sh⟩]) : S_law_near_world [s.cl, ⟨w.d, .sh⟩] Q E := by unfold S_law_near_world; exact ⟨s, w, rfl, hw, h⟩
/-- _law_near_world: slots _law_store_here _law_world_here _law_home _law_others _law_lines _law_houses_here _law_kind _law_free _law_gone _law_rest _law_other _law_name _law_tail _law_head _law_line -/
def w_law_near_world : WS := (wSeq (wNfS (wAsgT [2, 3, 4] (wVar 1)))
  (wSeq (wNfS (wAsg 5 (w2 gAdd (wLst (waCons (wSh (wVar 2)) waNil)) (wN gList (waCons (wVar 3) waNil)))))
  (wSeq (wNfS (wAsg 6 (wNf (wCall S_law_take [] (waCons (wVar 0) (waCons (wC (.int 10)) waNil))))))
  (wSeq (wNfS (wAsg 7 (wLcS (wItE (wVar 3)) (tgN 11) (wNotT (wTB (wN gAny (waCons (wLcS (wItE (wVar 4)) (tgN 14) wYes (w2 gMem (wVar 11) (wSl (wVar 14) (wPart (wC (.int 1))) wNoPart)) [14]) waNil)))) (wVar 11) [11])))
  (wSeq (wIf (wAndT (wTB (w2 gGt (wVar 6) (wC (.int 7)))) (wTB (w2 gGt (wN gLen (waCons (wVar 7) waNil)) (wC (.int 0))))) (wSeq (wNfS (wAsg 8 (wNf (wCall S_law_pick [] (waCons (wVar 0) (waCons (wVar 7) waNil))))))
  (wSeq (wNfS (wAsg 9 (wLcS (wItE (wVar 3)) (tgN 11) (wTB (w2 gNeS (wVar 11) (wVar 8))) (wVar 11) [11])))
  (wRet (wTup (waCons (wSh (wVar 2)) (waCons (wSh (wNf (wCall S_law_put [] (waCons (wVar 0) (waCons (wVar 9) (waCons (wNf (wCall S_law_fresh [] (waCons (wSl (wVar 8) wNoPart (wPart (wC (.int 4)))) (waCons (wVar 5) waNil)))) waNil)))))) (waCons (wSh (wN gList (waCons (wVar 4) waNil))) waNil))))))) wNext)
  (wSeq (wIf (wAndT (wTB (w2 gEqS (wVar 6) (wC (.int 0)))) (wTB (w2 gGt (wN gLen (waCons (wVar 3) waNil)) (wC (.int 0))))) (wSeq (wNfS (wAsg 10 (wNf (wCall S_law_pick [] (waCons (wVar 0) (waCons (wVar 3) waNil))))))
  (wRet (wTup (waCons (wSh (wVar 10)) (waCons (wSh (wLcS (wItE (wVar 5)) (tgN 11) (wTB (w2 gNeS (wVar 11) (wVar 10))) (wVar 11) [11])) (waCons (wSh (wN gList (waCons (wVar 4) waNil))) waNil)))))) wNext)
  (wSeq (wIf (wAndT (wTB (w2 gEqS (wVar 6) (wC (.int 1)))) (wTB (w2 gLt (wN gLen (waCons (wVar 5) waNil)) (wC (.int 12))))) (wRet (wTup (waCons (wSh (wVar 2)) (waCons (wSh (wNf (wCall S_law_put [] (waCons (wVar 0) (waCons (wVar 3) (waCons (wNf (wCall S_law_fresh [] (waCons (wC (.str "h")) (waCons (wVar 5) waNil)))) waNil)))))) (waCons (wSh (wN gList (waCons (wVar 4) waNil))) waNil))))) wNext)
  (wSeq (wIf (wTB (w2 gEqS (wVar 6) (wC (.int 2)))) (wRet (wTup (waCons (wSh (wVar 2)) (waCons (wSh (wNf (wCall S_law_shuffled [] (waCons (wVar 0) (waCons (wVar 3) waNil))))) (waCons (wSh (wNf (wCall S_law_shuffled [] (waCons (wVar 0) (waCons (wVar 4) waNil))))) waNil))))) wNext)
  (wSeq (wIf (wOrT (wTB (w2 gGt (wVar 6) (wC (.int 6)))) (wTB (w2 gEqS (wN gLen (waCons (wVar 4) waNil)) (wC (.int 0))))) (wRet (wNf (wCall S_law_world [] (waCons (wVar 0) (waCons (wC (.int 12)) (waCons (wC (.int 30)) waNil)))))) wNext)
  (wSeq (wNfS (wAsg 9 (wNf (wCall S_law_shuffled [] (waCons (wVar 0) (waCons (wVar 4) waNil))))))
  (wSeq (wNfS (wAsgT [11, 12, 13] (wPop 9)))
  (wSeqC (wIf (wTB (w2 gEqS (wVar 6) (wC (.int 4)))) (wNfS (wAsg 11 (wNf (wCall S_law_fresh [] (waCons (wSl (wVar 11) wNoPart (wPart (wC (.int 4)))) (waCons (wLcS (wItE (wVar 4)) (tgN 14) wYes (w2 gIx (wVar 14) (wC (.int 0))) [14]) waNil)))))) (wIf (wTB (w2 gEqS (wVar 6) (wC (.int 5)))) (wNfS (wAsg 12 (wNf (wCall S_law_pick [] (waCons (wVar 0) (waCons (wVar 5) waNil)))))) (wIf (wTB (w2 gEqS (wVar 6) (wC (.int 6)))) (wNfS (wAsg 13 (wNf (wCall S_law_pick [] (waCons (wVar 0) (waCons (wVar 5) waNil)))))) wNext)))
  (wRet (wTup (waCons (wSh (wVar 2)) (waCons (wSh (wN gList (waCons (wVar 3) waNil))) (waCons (wSh (w2 gAdd (wVar 9) (wSl (wLst (waCons (wSh (wTup (waCons (wSh (wVar 11)) (waCons (wSh (wVar 12)) (waCons (wSh (wVar 13)) waNil))))) waNil)) wNoPart (wPart (wN gInt (waCons (w2 gGt (wVar 6) (wC (.int 3))) waNil)))))) waNil)))))))))))))))))
def nearM (w : Wd) (kind : Int) (free us : List Dv) (ks : List Ln) : Env → Prop := fun e => ∃ (s : Sto) (l : Ln) (x14 : Option Cl), e = [some s.cl, some ⟨w.d, .sh⟩, some (cS w.home), some ⟨.lst (sts w.oth), .sh⟩, some ⟨.lst (lns w.rows), .sh⟩, some ⟨.lst us, .nd []⟩, some (cI kind), some ⟨.lst free, .nd []⟩, none, some ⟨.lst (lns ks), .nd []⟩, none, some (cS l.1), some (cS l.2.1), some (cS l.2.2), x14] ∧ Nm 8 l.1 ∧ l.1 ∉ ks.map (·.1) ∧ l.2.1 ∈ w.home :: w.oth ∧ l.2.2 ∈ w.home :: w.oth
theorem pure_law_near_world : ∀ cs Q E, S_law_near_world cs Q E → cs.length = 2 ∧ w_law_near_world (fnWD [0, 1] cs Q E) (env0 [0, 1] 15 cs) := by
  intro cs Q E h
  unfold S_law_near_world at h
  obtain ⟨s, w, rfl, hw, hQ⟩ := h
  refine ⟨rfl, ?_⟩
  have l0 : (sts w.oth).length = w.oth.length := List.length_map ..
  have l1 : (lns w.rows).length = w.rows.length := List.length_map ..
  have hol : w.oth.length ≤ 11 := hw.ol
  have hrl : w.rows.length ≤ 30 := hw.rl
  walk_at "go"
  refine S_law_take_i (by decide) fun s1 kind kind0 kind1 => ?_
  walk_at "go"
  refine lcBS_fil w.oth (fun x => !(w.rows.map (endB x)).any id) Dv.str _ rfl trivial (by omega) (fun x hx N N0 hN hN0 => ?_) ?_
  · walk_at "go"
    refine lcBS_map w.rows (fun l => .bl (endB x l)) _ rfl trivial (by omega) (fun l hl N N0 hN => ?_) ?_
    · walk_at "go"
      exact hN _ rfl
    walk_at "go"
    refine ⟨_, boolsM (endB x) w.rows, ?_⟩
    refine ite_b (fun h => ?_) fun h => ?_
    · walk_at "go"
      exact hN h _ rfl
    · exact hN0 h _ rfl
  obtain ⟨fr, hfr⟩ : ∃ fr : List Str, fr = w.oth.filter fun x => !(w.rows.map (endB x)).any id := ⟨_, rfl⟩
  rw [← hfr]
  have hfm : ∀ x ∈ fr, x ∈ w.oth ∧ ∀ l ∈ w.rows, l.2.1 ≠ x ∧ l.2.2 ≠ x := fun x hx => by
    rw [hfr, List.mem_filter] at hx
    refine ⟨hx.1, fun l hl => endB_not ?_⟩
    have h2 : (w.rows.map (endB x)).any id = false := by simpa using hx.2
    cases q : endB x l with
    | false => rfl
    | true =>
      have : (w.rows.map (endB x)).any id = true := List.any_eq_true.mpr ⟨true, List.mem_map.mpr ⟨l, hl, q⟩, rfl⟩
      rw [h2] at this; cases this
  have hfl : fr.length ≤ 11 := by rw [hfr]; exact Nat.le_trans (List.length_filter_le _ _) hol
  clear hfr
  have l2 : (fr.map Dv.str).length = fr.length := List.length_map ..
  walk_at "go"
  refine ite_sh ?_ fun c1 rest => ?_
  rotate_left
  · walk_at "go"
    refine ite_d (fun c2 => ?_) fun _ => rest
    clear rest
    walk_at "go"
    refine S_law_pick_l (ds := fr.map Dv.str) rfl (by omega) (by omega) fun s2 g hg => ?_
    obtain ⟨g, hgm, rfl⟩ := mem_sts hg
    obtain ⟨hgo, hge⟩ := hfm g hgm
    have hgl := (hw.nm g (List.mem_cons_of_mem _ hgo)).len
    walk_at "go"
    refine lcBS_fil w.oth (fun y => !decide (y = g)) Dv.str _ rfl trivial (by omega) (fun y hy N N0 hN hN0 => ?_) ?_
    · walk_at "go"
      refine ite_b (fun h => ?_) fun h => ?_
      · walk_at "go"
        exact hN h _ rfl
      · exact hN0 h _ rfl
    have hfl2 := filter_le hgo
    have l3 : ((w.oth.filter fun y => !decide (y = g)).map Dv.str).length = (w.oth.filter fun y => !decide (y = g)).length := List.length_map ..
    walk_at "go"
    refine S_law_fresh_i (us := w.home :: w.oth) (o := .nd []) rfl (by show w.oth.length + 1 ≤ 900; omega) ((hw.nm g (List.mem_cons_of_mem _ hgo)).cut (n := 4) (by decide)) fun y hy hyn => ?_
    walk_at "go"
    refine S_law_put_i (ds := (w.oth.filter fun y => !decide (y = g)).map Dv.str) (d := .str y) (o := .nd []) rfl (by omega) fun s3 xs hxs => ?_
    obtain ⟨vs, rfl, hv⟩ := perm_map (zs := y :: w.oth.filter fun y => !decide (y = g)) hxs rfl
    walk_at "go"
    refine hQ s3 ⟨w.home, vs, w.rows⟩ (hw.put hv (fun x hx => (List.mem_filter.mp hx).1) ((List.nodup_cons.mp hw.nd).2.sublist List.filter_sublist) (by omega) hy hyn fun l hl => ?_)
    obtain ⟨n1, n2⟩ := hge l hl
    obtain ⟨m1, m2⟩ := hw.re l hl
    rw [List.mem_cons] at m1 m2
    rw [List.mem_cons, List.mem_cons, List.mem_filter, List.mem_filter]
    exact ⟨m1.imp id fun h => ⟨h, by simp [n1]⟩, m2.imp id fun h => ⟨h, by simp [n2]⟩⟩
  walk_at "go"
  refine ite_sh ?_ fun c1 rest => ?_
  rotate_left
  · walk_at "go"
    refine ite_d (fun c2 => ?_) fun _ => rest
    clear rest
    walk_at "go"
    refine S_law_pick_l (ds := sts w.oth) rfl (by omega) (by omega) fun s2 g hg => ?_
    obtain ⟨g, hgm, rfl⟩ := mem_sts hg
    walk_at "go"
    refine lcBS_fil (w.home :: w.oth) (fun y => !decide (y = g)) Dv.str _ rfl trivial (by show w.oth.length + 1 ≤ 100000; omega) (fun y hy N N0 hN hN0 => ?_) ?_
    · walk_at "go"
      refine ite_b (fun h => ?_) fun h => ?_
      · walk_at "go"
        exact hN h _ rfl
      · exact hN0 h _ rfl
    walk_at "go"
    exact hQ s2 _ (hw.turn hgm)
  walk_at "go"
  refine ite_sh ?_ fun c1 rest => ?_
  rotate_left
  · walk_at "go"
    refine ite_d (fun c2 => ?_) fun _ => rest
    clear rest
    have c2' : (((sts w.oth).length + 1 : Nat) : Int) < 12 := c2
    walk_at "go"
    refine S_law_fresh_i (us := w.home :: w.oth) (o := .nd []) rfl (by show w.oth.length + 1 ≤ 900; omega) (nm_hh.mono (by decide)) fun y hy hyn => ?_
    walk_at "go"
    refine S_law_put_i (ds := sts w.oth) (d := .str y) (o := .sh) rfl (by omega) fun s3 xs hxs => ?_
    obtain ⟨vs, rfl, hv⟩ := perm_map (zs := y :: w.oth) hxs rfl
    walk_at "go"
    exact hQ s3 ⟨w.home, vs, w.rows⟩ (hw.put hv (fun x hx => hx) (List.nodup_cons.mp hw.nd).2 (by omega) hy hyn hw.re)
  walk_at "go"
  refine ite_d (fun c1 => ?_) fun c1 => ?_
  · walk_at "go"
    refine S_law_shuffled_i (ds := sts w.oth) (o := .sh) rfl (by omega) fun s2 xs hxs => ?_
    obtain ⟨us, rfl, hu⟩ := perm_map (zs := w.oth) hxs rfl
    walk_at "go"
    refine S_law_shuffled_i (ds := lns w.rows) (o := .sh) rfl (by omega) fun s3 ys hys => ?_
    obtain ⟨ks, rfl, hk⟩ := perm_map (zs := w.rows) hys rfl
    walk_at "go"
    exact hQ s3 ⟨w.home, us, ks⟩ (hw.mix hu hk)
  walk_at "go"
  refine ite_d (fun c2 => ?_) fun c2 => ?_
  · walk_at "go"
    refine S_law_world_i fun s2 w' hw' => ?_
    exact hQ s2 w' hw'
  walk_at "go"
  refine ite_d (fun c3 => ?_) fun c3 => ?_
  · walk_at "go"
    refine S_law_world_i fun s2 w' hw' => ?_
    exact hQ s2 w' hw'
  walk_at "go"
  refine S_law_shuffled_i (ds := lns w.rows) (o := .sh) rfl (by omega) fun s2 xs hxs => ?_
  obtain ⟨ks0, rfl, hk⟩ := perm_map (zs := w.rows) hxs rfl
  rcases List.eq_nil_or_concat ks0 with rfl | ⟨ks, l, rfl⟩
  · have := hk.length_eq
    exact absurd this (by rw [List.length_nil]; intro e; exact c3 (by rw [l1, ← e]; rfl))
  rw [List.concat_eq_append] at hk ⊢
  have e1 : (ks ++ [l]).map lnD = lns ks ++ [lnD l] := List.map_append ..
  rw [e1]
  have hkl := hk.length_eq
  rw [List.length_append] at hkl
  have hkl2 : ks.length + 1 = w.rows.length := hkl
  have l3 : (lns ks).length = ks.length := List.length_map ..
  have hlm : l ∈ w.rows := hk.mem_iff.mp (List.mem_append_right _ List.mem_cons_self)
  have hln : l.1 ∉ ks.map (·.1) := by
    have := (hk.map (·.1)).nodup_iff.mpr hw.rd
    rw [List.map_append, List.nodup_append] at this
    exact fun h => this.2.2 _ h _ (by simp) rfl
  walk_at "go"
  refine pop_on ?_
  simp only [List.dropLast_concat]
  walk_at "go"
  refine ⟨nearM w kind (fr.map Dv.str) ([.str w.home] ++ sts w.oth) ks, ?_, ?_⟩
  · have hnl := (hw.rn l hlm).len
    walk_at "go"
    refine ite_d (fun c4 => ?_) fun c4 => ?_
    · walk_at "go"
      refine lcBS_map w.rows (fun l => .str l.1) _ rfl trivial (by omega) (fun l hl N N0 hN => ?_) ?_
      · walk_at "go"
        exact hN _ rfl
      rw [fst_lns]
      walk_at "go"
      refine S_law_fresh_i (us := w.rows.map (·.1)) (o := .nd []) rfl (by rw [List.length_map]; omega) ((hw.rn l hlm).cut (n := 4) (by decide)) fun y hy hyn => ?_
      walk_at "go"
      refine ⟨s2, (y, l.2.1, l.2.2), none, rfl, hy, fun h => ?_, hw.re l hlm⟩
      obtain ⟨m, hm, e⟩ := List.mem_map.mp h
      exact hyn (List.mem_map.mpr ⟨m, hk.mem_iff.mp (List.mem_append_left _ hm), e⟩)
    walk_at "go"
    refine ite_d (fun c5 => ?_) fun c5 => ?_
    · walk_at "go"
      refine S_law_pick_l (ds := sts (w.home :: w.oth)) (o := .nd []) rfl (by rw [List.length_map]; exact Nat.succ_le_succ (Nat.zero_le _)) (by rw [List.length_map]; show w.oth.length + 1 ≤ _; omega) fun s3 t ht => ?_
      obtain ⟨t, htm, rfl⟩ := mem_sts ht
      walk_at "go"
      exact ⟨s3, (l.1, t, l.2.2), none, rfl, hw.rn l hlm, hln, htm, (hw.re l hlm).2⟩
    walk_at "go"
    refine ite_d (fun c6 => ?_) fun c6 => ?_
    · walk_at "go"
      refine S_law_pick_l (ds := sts (w.home :: w.oth)) (o := .nd []) rfl (by rw [List.length_map]; exact Nat.succ_le_succ (Nat.zero_le _)) (by rw [List.length_map]; show w.oth.length + 1 ≤ _; omega) fun s3 t ht => ?_
      obtain ⟨t, htm, rfl⟩ := mem_sts ht
      walk_at "go"
      exact ⟨s3, (l.1, l.2.1, t), none, rfl, hw.rn l hlm, hln, (hw.re l hlm).1, htm⟩
    · exact ⟨s2, l, none, rfl, hw.rn l hlm, hln, hw.re l hlm⟩
  rintro e ⟨s3, m, x14, rfl, m1, m2, m3, m4⟩
  walk_at "go"
  refine ⟨Nat.le_trans (Nat.add_le_add_left (cutD_le _ _ _) _) (show (lns ks).length + 1 ≤ 100000 by omega), ?_⟩
  walk_at "go"
  have h9 := hQ s3 ⟨w.home, w.oth, ks ++ if decide (kind > 3) = true then [m] else []⟩ (hw.swap hk _ m1 m2 m3 m4)
  have e2 : lns (ks ++ if decide (kind > 3) = true then [m] else []) = lns ks ++ cutD [lnD m] none (some (if decide (kind > 3) = true then 1 else 0)) := by
    rw [cut_one lnD m]
    exact List.map_append ..
  have h10 : Q ⟨.tup [.str w.home, .lst (sts w.oth), .lst (lns (ks ++ if decide (kind > 3) = true then [m] else []))], .sh⟩ [s3.cl, ⟨w.d, .sh⟩] := h9
  rw [e2] at h10
  exact h10
end Py
set_option Elab.async false
set_option linter.all false
set_option maxRecDepth 100000
set_option maxHeartbeats 1000000
set_option pp.maxSteps 800
namespace Py
open PySem PySem.Spec PyProof.Rows L2
set_option exponentiation.threshold 9000
local macro_rules | `(tactic| walk_at "mul") => `(tactic| first | exact Or.inl (Or.inr ⟨by decide, by decide⟩) | exact Or.inl (Or.inl ⟨by decide, by decide⟩) | exact Or.inl (Or.inl ⟨by omega, by omega⟩) | exact Or.inl (Or.inr ⟨by omega, by omega⟩))
local macro_rules | `(tactic| walk_at "side") => `(tactic| first | with_reducible assumption | rfl | exact ⟨_, rfl⟩ | decide | exact Nat.le_of_ble_eq_true rfl | omega | (walk_at "mul") | exact nat_small (by omega) (by omega) | exact nat_small2 (by omega) (by omega) | exact all_scal _ | assumption | (show _ + 1 ≤ _; omega) | (show 1 + _ ≤ _; omega) | (show 0 + _ ≤ _; omega))
local macro_rules | `(tactic| walk_at "go") => `(tactic| repeat (first | refine And.intro (by walk_at "side") ?_ | refine ex_ix rfl ?_ | refine ex_ixS rfl ?_ | refine ex_n rfl ?_ | refine ite_f rfl ?_ | refine ite_t rfl ?_))
/-! Nets: the program's checks, Net's making, its properties. -/
inductive SeqD : Dv → List Dv → Prop
  | lst (xs : List Dv) : SeqD (.lst xs) xs
  | tup (xs : List Dv) : SeqD (.tup xs) xs
  | lck (xs : List Dv) : SeqD (.lck xs) xs
theorem onSeq_i {d : Dv} {xs : List Dv} {k : List Dv → Prop} (s : SeqD d xs) (h : k xs) : onSeq d k := by cases s <;> exact h
theorem gLen_i {d : Dv} {o : Ow} {xs : List Dv} {k : Cl → Prop} (s : SeqD d xs) (h : k (cI (xs.length : Nat))) : gLen [⟨d, o⟩] k := by cases s <;> exact h
theorem fld_i {cn f : Str} {fs : List (Str × Dv)} {o : Ow} {d : Dv} {k : Cl → Prop} (ho : o.flat = true) (h : fs.lookup f = some d) (hk : k ⟨d, .sh⟩) : gFld cn f ⟨.ins cn fs, o⟩ k := ⟨fs, rfl, ho, d, h, hk⟩
theorem tms_map : ∀ ds : List Dv, tms (ds.map (fun d => R.tm ⟨d, .sh⟩) ++ []) = some (ds.map fun d => ⟨d, .sh⟩)
  | [] => rfl
  | d :: ds => by
    show (tms (ds.map (fun d => R.tm ⟨d, .sh⟩) ++ [])).map _ = _
    rw [tms_map ds]
    rfl
theorem ds_map (ds : List Dv) : (ds.map fun d => (⟨d, .sh⟩ : Cl)).map (·.d) = ds := by rw [List.map_map]; exact List.map_id _
theorem nrm_map (ds : List Dv) : nrm ((ds.map fun d => (⟨d, .sh⟩ : Cl)).map (·.o)) = [] := by
  unfold nrm
  rw [if_pos]
  rw [List.all_eq_true]
  intro o ho
  rw [List.map_map, List.mem_map] at ho
  obtain ⟨d, _, rfl⟩ := ho
  rfl
/-- dict comprehensions, their keys new each time -/
theorem dcBS_map {α : Type} {g : α → Dv} {tg : WTg} {t : WT} {wk wv : WE} {vs : List Nat} {Ci : Env → Prop} {e1 : Env} {Q : R → Env → Prop} (xs : List α) (key : α → Str) (f : α → Dv) (em : Env)
    (h0 : wipeE e1 vs = em) (hC : Ci em) (hl : xs.length ≤ 100000) (nd : (xs.map key).Nodup)
    (hs : ∀ x ∈ xs, ∀ (N : Key → Cl → Env → Prop) (N0 : Env → Prop), (∀ e', wipeE e' vs = em → N (.inr (key x)) ⟨f x, .sh⟩ e') → tg ⟨g x, .sh⟩ em fun e2 => t e2 (fun b e3 => if b = true then wk e3 (fun rk e4 => on1 (lookS e4 rk) fun kc => ∃ k, keyD kc.d = some k ∧ wSh wv e4 (fun r e5 => onTm r fun c => N k c e5) NoX) NoX else N0 e3) NoX)
    (hq : Q (.tm ⟨.dic (xs.map fun x => (.inr (key x), f x)), .nd []⟩) (restE e1 vs em)) : dcBS tg t wk wv vs (xs.map g) Ci e1 Q := by
  refine ⟨fun i acc e => acc = (xs.take i).map (fun x => ((.inr (key x) : Key), f x)) ∧ e = em, ⟨rfl, h0⟩, fun i acc e h => ?_, fun i d acc e hd h => ?_, fun acc e h => ?_⟩
  · obtain ⟨rfl, rfl⟩ := h
    refine ⟨hC, ?_⟩
    rw [List.length_map, List.length_take]
    omega
  · obtain ⟨rfl, rfl⟩ := h
    rw [List.getElem?_map] at hd
    cases hx : xs[i]? with
    | none => rw [hx] at hd; cases hd
    | some x =>
      rw [hx] at hd
      cases (Option.some.inj hd)
      refine hs x (List.mem_of_getElem? hx) (fun k c e' => putD ((xs.take i).map fun x => ((.inr (key x) : Key), f x)) k c.d = (xs.take (i + 1)).map (fun x => ((.inr (key x) : Key), f x)) ∧ wipeE e' vs = e) _ fun e' he' => ⟨?_, he'⟩
      have hno : ((xs.take i).map fun x => ((.inr (key x) : Key), f x)).any (fun kv => decide (kv.1 = (.inr (key x) : Key))) = false := by
        rw [List.any_eq_false]
        intro kv hkv
        obtain ⟨y, hy, rfl⟩ := List.mem_map.mp hkv
        obtain ⟨j, hj⟩ := List.getElem?_of_mem hy
        have hji : j < i := by
          have := (List.getElem?_eq_some_iff.mp hj).1
          rw [List.length_take] at this
          omega
        rw [List.getElem?_take_of_lt hji] at hj
        intro h
        have h2 : key y = key x := Sum.inr.inj (of_decide_eq_true h)
        have a1 : (xs.map key)[j]? = some (key y) := by rw [List.getElem?_map, hj]; rfl
        have a2 : (xs.map key)[i]? = some (key y) := by rw [List.getElem?_map, hx, h2]; rfl
        have hlt : j < (xs.map key).length := (List.getElem?_eq_some_iff.mp a1).1
        have := (List.getElem?_inj hlt nd).mp (a1.trans a2.symm)
        omega
      unfold putD
      rw [hno, if_neg Bool.false_ne_true, List.take_succ, hx, List.map_append]
      rfl
  · obtain ⟨rfl, rfl⟩ := h
    rw [List.length_map, List.take_length]
    exact hq
/-! ### is_name and the checks -/
@[irreducible] def S_is_name : SF := fun cs Q _ => ∃ x : Str, cs = [cS x] ∧ Nm 8 x ∧ Q (cB true) cs
theorem S_is_name_i {x : Str} {Q E} (hx : Nm 8 x) (h : Q (cB true) [cS x]) : S_is_name [cS x] Q E := by unfold S_is_name; exact ⟨x, rfl, hx, h⟩
/-- is_name: slots value sign -/
def w_is_name : WS := (wSeq (wIf (wNotT (wTB (w1 (gIsi ["str"]) (wVar 0)))) (wRet (wC (.bl false))) wNext)
  (wSeq (wIf (wNotT (wTB (wChain gLe gLe (wC (.int 1)) (wN gLen (waCons (wVar 0) waNil)) (wC (.int 8))))) (wRet (wC (.bl false))) wNext)
  (wRet (wAndV (w2 gMem (w2 gIx (wVar 0) (wC (.int 0))) (wC (.str "abcdefghijklmnopqrstuvwxyz"))) (wN gAll (waCons (wLcS (wItS (wVar 0)) (tgN 1) wYes (w2 gMem (wVar 1) (wC (.str "abcdefghijklmnopqrstuvwxyz0123456789"))) [1]) waNil))))))
theorem let26m {c : Nat} (h : isLet c = true) : c ∈ tl ("abcdefghijklmnopqrstuvwxyz" : Str) := by
  unfold isLet at h
  simp only [Bool.and_eq_true, decide_eq_true_eq] at h
  have e : ∀ k : _root_.Fin 26, (97 + k.val) ∈ tl ("abcdefghijklmnopqrstuvwxyz" : Str) := by decide +kernel
  have := e ⟨c - 97, by omega⟩
  have h2 : 97 + (c - 97) = c := by omega
  rw [← h2]
  exact this
theorem ld36m {c : Nat} (h : isLD c = true) : c ∈ tl ("abcdefghijklmnopqrstuvwxyz0123456789" : Str) := by
  unfold isLD at h
  rw [Bool.or_eq_true] at h
  rcases h with h | h
  · unfold isLet at h
    simp only [Bool.and_eq_true, decide_eq_true_eq] at h
    have e : ∀ k : _root_.Fin 26, (97 + k.val) ∈ tl ("abcdefghijklmnopqrstuvwxyz0123456789" : Str) := by decide +kernel
    have := e ⟨c - 97, by omega⟩
    have h2 : 97 + (c - 97) = c := by omega
    rw [← h2]
    exact this
  · simp only [Bool.and_eq_true, decide_eq_true_eq] at h
    have e : ∀ k : _root_.Fin 10, (48 + k.val) ∈ tl ("abcdefghijklmnopqrstuvwxyz0123456789" : Str) := by decide +kernel
    have := e ⟨c - 48, by omega⟩
    have h2 : 48 + (c - 48) = c := by omega
    rw [← h2]
    exact this
theorem bools_t {α : Type} : ∀ xs : List α, bools (xs.map fun _ => Dv.bl true) = some (xs.map fun _ => true)
  | [] => rfl
  | x :: xs => by
    show (bools (xs.map fun _ => Dv.bl true)).map (true :: ·) = _
    rw [bools_t xs]
    rfl
theorem all_t {α : Type} (xs : List α) : (xs.map fun _ => true).all id = true := by
  rw [List.all_eq_true]
  intro b hb
  obtain ⟨_, _, rfl⟩ := List.mem_map.mp hb
  rfl
theorem pure_is_name : ∀ cs Q E, S_is_name cs Q E → cs.length = 1 ∧ w_is_name (fnWD [0] cs Q E) (env0 [0] 2 cs) := by
  intro cs Q E h
  unfold S_is_name at h
  obtain ⟨x, rfl, hx, hQ⟩ := h
  refine ⟨rfl, ?_⟩
  have hl := hx.len
  have hld := hx.ld
  obtain ⟨c, hc, hc1⟩ := hx.first
  obtain ⟨c', r, e1, e2, e3, e4⟩ := hx
  have ec : c = c' := by
    rw [e1] at hc
    have : atI (c' :: r) 0 = some c' := atI_nat (j := 0) rfl
    exact (Option.some.inj (hc.symm.trans this))
  subst ec
  walk_at "go"
  refine ite_d (fun _ => ?_) fun h => absurd (by omega) h
  walk_at "go"
  refine ite_b (fun h => ?_) fun _ => ?_
  · have h2 : ((x.length : Nat) : Int) ≤ 8 := by omega
    rw [decide_eq_true h2] at h
    cases h
  walk_at "go"
  refine ex_ixS hc ?_
  refine ⟨rfl, ?_⟩
  refine ite_d (fun _ => ?_) fun h => absurd (let26m e2) h
  walk_at "go"
  suffices hS : lcBS (tgN 1) wYes (w2 gMem (wVar 1) (wC (.str "abcdefghijklmnopqrstuvwxyz0123456789"))) [1] ((tl x).map fun k => Dv.str ⟨#[k]⟩) (fun _ => True) (env0 [0] 2 [cS x]) (fun r e1 => onN (looksS e1 [r]) fun as => gAll as fun c => (fnWD [0] [cS x] Q E).rt (R.tm c) e1) from hS
  refine lcBS_map (tl x) (fun _ => .bl true) _ rfl trivial (by rw [tl_len]; omega) (fun k hk N N0 hN => ?_) ?_
  · walk_at "go"
    have hd : decide (k ∈ tl ("abcdefghijklmnopqrstuvwxyz0123456789" : Str)) = true := decide_eq_true (ld36m (hld k hk))
    have := hN [some (cS x), some (cS ⟨#[k]⟩)] rfl
    rw [← hd] at this
    exact this
  walk_at "go"
  refine ⟨_, bools_t (tl x), ?_⟩
  rw [all_t]
  exact hQ
@[irreducible] def S_check_names : SF := fun cs Q _ => ∃ (w : Wd) (x y : Dv) (o1 o2 : Ow), cs = [cS w.home, ⟨x, o1⟩, ⟨y, o2⟩] ∧ SeqD x (sts w.oth) ∧ SeqD y (lns w.rows) ∧ o1.flat = true ∧ o2.flat = true ∧ WOk w ∧ Q cN cs
theorem S_check_names_i {w : Wd} {x y : Dv} {o1 o2 : Ow} {Q E} (h1 : SeqD x (sts w.oth)) (h2 : SeqD y (lns w.rows)) (h3 : o1.flat = true) (h4 : o2.flat = true) (hw : WOk w) (h : Q cN [cS w.home, ⟨x, o1⟩, ⟨y, o2⟩]) : S_check_names [cS w.home, ⟨x, o1⟩, ⟨y, o2⟩] Q E := by unfold S_check_names; exact ⟨w, x, y, o1, o2, rfl, h1, h2, h3, h4, hw, h⟩
/-- check_names: slots home houses lines house line word -/
def w_check_names : WS := (wSeq (wIf (wNotT (wTB (wNf (wCall S_is_name [] (waCons (wVar 0) waNil))))) wBadS wNext)
  (wSeq (wFor (wItP 1) (tgN 3) (wIf (wNotT (wTB (wNf (wCall S_is_name [] (waCons (wVar 3) waNil))))) wBadS wNext))
  (wFor (wItP 2) (tgN 4) (wFor (wItE (wVar 4)) (tgN 5) (wIf (wNotT (wTB (wNf (wCall S_is_name [] (waCons (wVar 5) waNil))))) wBadS wNext)))))
theorem pure_check_names : ∀ cs Q E, S_check_names cs Q E → cs.length = 3 ∧ w_check_names (fnWD [0, 1, 2] cs Q E) (env0 [0, 1, 2] 6 cs) := by
  intro cs Q E h
  unfold S_check_names at h
  obtain ⟨w, x, y, o1, o2, rfl, hx, hy, ho1, ho2, hw, hQ⟩ := h
  refine ⟨rfl, ?_⟩
  walk_at "go"
  refine S_is_name_i (hw.nm _ List.mem_cons_self) ?_
  walk_at "go"
  refine onSeq_i hx ?_
  walk_at "go"
  refine ⟨fun i e => ∃ x3 : Option Cl, e = [some (cS w.home), some ⟨x, o1⟩, some ⟨y, o2⟩, x3, none, none], ⟨none, rfl⟩, ?_, ?_, ?_⟩
  · rintro i e ⟨x3, rfl⟩
    rfl
  · rintro i d e hd ⟨x3, rfl⟩
    obtain ⟨u, hu, rfl⟩ := get_map hd
    walk_at "go"
    refine S_is_name_i (hw.nm _ (List.mem_cons_of_mem _ (List.mem_of_getElem? hu))) ?_
    walk_at "go"
    exact ⟨_, rfl⟩
  · rintro e ⟨x3, rfl⟩
    walk_at "go"
    refine onSeq_i hy ?_
    walk_at "go"
    refine ⟨fun i e => ∃ x4 x5 : Option Cl, e = [some (cS w.home), some ⟨x, o1⟩, some ⟨y, o2⟩, x3, x4, x5], ⟨none, none, rfl⟩, ?_, ?_, ?_⟩
    · rintro i e ⟨x4, x5, rfl⟩
      rfl
    · rintro i d e hd ⟨x4, x5, rfl⟩
      obtain ⟨l, hl, rfl⟩ := get_map hd
      have hlm := List.mem_of_getElem? hl
      have hends : ∀ z ∈ [l.1, l.2.1, l.2.2], Nm 8 z := fun z hz => by
        rw [List.mem_cons, List.mem_cons, List.mem_singleton] at hz
        rcases hz with rfl | rfl | rfl
        · exact hw.rn l hlm
        · exact hw.nm _ (hw.re l hlm).1
        · exact hw.nm _ (hw.re l hlm).2
      walk_at "go"
      refine ⟨fun i e => ∃ x5 : Option Cl, e = [some (cS w.home), some ⟨x, o1⟩, some ⟨y, o2⟩, x3, some ⟨lnD l, .sh⟩, x5], ⟨_, rfl⟩, fun _ _ _ => trivial, ?_, ?_⟩
      · rintro j d e hd ⟨x5, rfl⟩
        obtain ⟨z, hz, rfl⟩ := get_map (f := Dv.str) (xs := [l.1, l.2.1, l.2.2]) hd
        walk_at "go"
        refine S_is_name_i (hends z (List.mem_of_getElem? hz)) ?_
        walk_at "go"
        exact ⟨_, rfl⟩
      · rintro e ⟨x5, rfl⟩
        exact ⟨_, _, rfl⟩
    · rintro e ⟨x4, x5, rfl⟩
      exact hQ
@[irreducible] def S_check_sizes : SF := fun cs Q _ => ∃ (w : Wd) (x y : Dv) (o1 o2 : Ow), cs = [⟨x, o1⟩, ⟨y, o2⟩] ∧ SeqD x (sts w.oth) ∧ SeqD y (lns w.rows) ∧ WOk w ∧ Q cN cs
theorem S_check_sizes_i {w : Wd} {x y : Dv} {o1 o2 : Ow} {Q E} (h1 : SeqD x (sts w.oth)) (h2 : SeqD y (lns w.rows)) (hw : WOk w) (h : Q cN [⟨x, o1⟩, ⟨y, o2⟩]) : S_check_sizes [⟨x, o1⟩, ⟨y, o2⟩] Q E := by unfold S_check_sizes; exact ⟨w, x, y, o1, o2, rfl, h1, h2, hw, h⟩
/-- check_sizes: slots houses lines -/
def w_check_sizes : WS := (wSeq (wIf (wTB (w2 gGt (w2 gAdd (wN gLen (waCons (wVar 0) waNil)) (wC (.int 1))) (wC (.int 12)))) wBadS wNext)
  (wIf (wTB (w2 gGt (wN gLen (waCons (wVar 1) waNil)) (wC (.int 30)))) wBadS wNext))
theorem pure_check_sizes : ∀ cs Q E, S_check_sizes cs Q E → cs.length = 2 ∧ w_check_sizes (fnWD [0, 1] cs Q E) (env0 [0, 1] 2 cs) := by
  intro cs Q E h
  unfold S_check_sizes at h
  obtain ⟨w, x, y, o1, o2, rfl, hx, hy, hw, hQ⟩ := h
  refine ⟨rfl, ?_⟩
  have l0 : (sts w.oth).length = w.oth.length := List.length_map ..
  have l1 : (lns w.rows).length = w.rows.length := List.length_map ..
  have hol : w.oth.length ≤ 11 := hw.ol
  have hrl : w.rows.length ≤ 30 := hw.rl
  cases hx <;> cases hy
  all_goals
    walk_at "go"
    refine ite_d (fun h => absurd h (by omega)) fun _ => ?_
    walk_at "go"
    refine ite_d (fun h => absurd h (by omega)) fun _ => ?_
    exact hQ
@[irreducible] def S_check_repeats : SF := fun cs Q _ => ∃ (us ps : List Str) (x : Dv) (o1 o2 : Ow), cs = [⟨x, o1⟩, ⟨.lst (sts ps), o2⟩] ∧ SeqD x (sts us) ∧ o1.flat = true ∧ o2.flat = true ∧ (ps ++ us).length ≤ 1000 ∧ (ps ++ us).Nodup ∧ Q cN cs
theorem S_check_repeats_i {us ps : List Str} {x : Dv} {o1 o2 : Ow} {Q E} (h1 : SeqD x (sts us)) (h2 : o1.flat = true) (h3 : o2.flat = true) (h4 : (ps ++ us).length ≤ 1000) (h5 : (ps ++ us).Nodup) (h : Q cN [⟨x, o1⟩, ⟨.lst (sts ps), o2⟩]) : S_check_repeats [⟨x, o1⟩, ⟨.lst (sts ps), o2⟩] Q E := by unfold S_check_repeats; exact ⟨us, ps, x, o1, o2, rfl, h1, h2, h3, h4, h5, h⟩
/-- check_repeats: slots names present seen name -/
def w_check_repeats : WS := (wSeq (wNfS (wAsg 2 (wN gList (waCons (wVar 1) waNil))))
  (wFor (wItP 0) (tgN 3) (wSeq (wIf (wTB (w2 gMem (wVar 3) (wVar 2))) wBadS wNext)
  (wNfS (wDrop (wApp 2 (wSh (wVar 3))))))))
theorem pure_check_repeats : ∀ cs Q E, S_check_repeats cs Q E → cs.length = 2 ∧ w_check_repeats (fnWD [0, 1] cs Q E) (env0 [0, 1] 4 cs) := by
  intro cs Q E h
  unfold S_check_repeats at h
  obtain ⟨us, ps, x, o1, o2, rfl, hx, ho1, ho2, hl, hnd, hQ⟩ := h
  refine ⟨rfl, ?_⟩
  walk_at "go"
  refine onSeq_i hx ?_
  walk_at "go"
  refine ⟨fun i e => ∃ x3 : Option Cl, e = [some ⟨x, o1⟩, some ⟨.lst (sts ps), o2⟩, some ⟨.lst (sts (ps ++ us.take i)), .nd []⟩, x3], ⟨none, ?_⟩, ?_, ?_, ?_⟩
  · rw [List.take_zero, List.append_nil]
    rfl
  · rintro i e ⟨x3, rfl⟩
    rfl
  · rintro i d e hd ⟨x3, rfl⟩
    obtain ⟨u, hu, rfl⟩ := get_map hd
    have htk : us.take (i + 1) = us.take i ++ [u] := by rw [List.take_succ, hu]; rfl
    have hnin : u ∉ ps ++ us.take i := fun h => by
      have h2 : (ps ++ us.take (i + 1)).Nodup := hnd.sublist (List.Sublist.append_left (List.take_sublist _ _) _)
      rw [htk, ← List.append_assoc, List.nodup_append] at h2
      exact h2.2.2 u h u List.mem_cons_self rfl
    have hlen : (sts (ps ++ us.take i)).length ≤ 1000 := by
      rw [List.length_map]
      rw [List.length_append] at hl ⊢
      rw [List.length_take]
      omega
    walk_at "go"
    refine ite_in (us := ps ++ us.take i) (x := u) (fun h => absurd h hnin) fun _ => ?_
    walk_at "go"
    refine ⟨some (cS u), ?_⟩
    rw [htk]
    simp
    rfl
  · rintro e ⟨x3, rfl⟩
    exact hQ
@[irreducible] def S_check_ends : SF := fun cs Q _ => ∃ (rows : List Ln) (hs : List Str) (y : Dv) (o1 o2 : Ow), cs = [⟨y, o1⟩, ⟨.lst (sts hs), o2⟩] ∧ SeqD y (lns rows) ∧ o1.flat = true ∧ o2.flat = true ∧ (∀ l ∈ rows, l.2.1 ∈ hs ∧ l.2.2 ∈ hs) ∧ Q cN cs
theorem S_check_ends_i {rows : List Ln} {hs : List Str} {y : Dv} {o1 o2 : Ow} {Q E} (h1 : SeqD y (lns rows)) (h2 : o1.flat = true) (h3 : o2.flat = true) (h4 : ∀ l ∈ rows, l.2.1 ∈ hs ∧ l.2.2 ∈ hs) (h : Q cN [⟨y, o1⟩, ⟨.lst (sts hs), o2⟩]) : S_check_ends [⟨y, o1⟩, ⟨.lst (sts hs), o2⟩] Q E := by unfold S_check_ends; exact ⟨rows, hs, y, o1, o2, rfl, h1, h2, h3, h4, h⟩
/-- check_ends: slots lines houses line house -/
def w_check_ends : WS := (wFor (wItP 0) (tgN 2) (wFor (wItE (wSl (wVar 2) (wPart (wC (.int 1))) wNoPart)) (tgN 3) (wIf (wTB (w2 gNMem (wVar 3) (wVar 1))) wBadS wNext)))
theorem pure_check_ends : ∀ cs Q E, S_check_ends cs Q E → cs.length = 2 ∧ w_check_ends (fnWD [0, 1] cs Q E) (env0 [0, 1] 4 cs) := by
  intro cs Q E h
  unfold S_check_ends at h
  obtain ⟨rows, hs, y, o1, o2, rfl, hy, ho1, ho2, he, hQ⟩ := h
  refine ⟨rfl, ?_⟩
  walk_at "go"
  refine onSeq_i hy ?_
  walk_at "go"
  refine ⟨fun i e => ∃ x2 x3 : Option Cl, e = [some ⟨y, o1⟩, some ⟨.lst (sts hs), o2⟩, x2, x3], ⟨none, none, rfl⟩, ?_, ?_, ?_⟩
  · rintro i e ⟨x2, x3, rfl⟩
    rfl
  · rintro i d e hd ⟨x2, x3, rfl⟩
    obtain ⟨l, hl, rfl⟩ := get_map hd
    have hle := he l (List.mem_of_getElem? hl)
    walk_at "go"
    refine ⟨fun i e => ∃ x3 : Option Cl, e = [some ⟨y, o1⟩, some ⟨.lst (sts hs), o2⟩, some ⟨lnD l, .sh⟩, x3], ⟨_, rfl⟩, fun _ _ _ => trivial, ?_, ?_⟩
    · rintro j d e hd ⟨x3, rfl⟩
      obtain ⟨z, hz, rfl⟩ := get_map (f := Dv.str) (xs := [l.2.1, l.2.2]) hd
      have hzm : z ∈ hs := by
        have := List.mem_of_getElem? hz
        rw [List.mem_cons, List.mem_singleton] at this
        rcases this with rfl | rfl
        · exact hle.1
        · exact hle.2
      walk_at "go"
      refine ite_nin (us := hs) (x := z) (fun h => absurd hzm h) fun _ => ?_
      exact ⟨_, rfl⟩
    · rintro e ⟨x3, rfl⟩
      exact ⟨_, _, rfl⟩
  · rintro e ⟨x2, x3, rfl⟩
    exact hQ
end Py
set_option Elab.async false
set_option linter.all false
set_option maxRecDepth 100000
set_option maxHeartbeats 1000000
set_option pp.maxSteps 800
namespace Py
open PySem PySem.Spec PyProof.Rows L2
set_option exponentiation.threshold 9000
local macro_rules | `(tactic| walk_at "mul") => `(tactic| first | exact Or.inl (Or.inr ⟨by decide, by decide⟩) | exact Or.inl (Or.inl ⟨by decide, by decide⟩) | exact Or.inl (Or.inl ⟨by omega, by omega⟩) | exact Or.inl (Or.inr ⟨by omega, by omega⟩))
local macro_rules | `(tactic| walk_at "side") => `(tactic| first | with_reducible assumption | rfl | exact ⟨_, rfl⟩ | decide | exact Nat.le_of_ble_eq_true rfl | omega | (walk_at "mul") | exact nat_small (by omega) (by omega) | exact nat_small2 (by omega) (by omega) | exact all_scal _ | assumption | (show _ + 1 ≤ _; omega) | (show 1 + _ ≤ _; omega) | (show 0 + _ ≤ _; omega))
local macro_rules | `(tactic| walk_at "go") => `(tactic| repeat (first | refine And.intro (by walk_at "side") ?_ | refine ex_ix rfl ?_ | refine ex_ixS rfl ?_ | refine ex_n rfl ?_ | refine ite_f rfl ?_ | refine ite_t rfl ?_))
/-! Nets: Net's making, its properties. -/
theorem star_i {c : Cl} {d : Dv} {ds : List Dv} {k : List Cl → Prop} (hd : c.d = d) (ho : c.o = .sh) (h : ∀ cs : List Cl, cs.map (·.d) = d :: ds → nrm (cs.map (·.o)) = [] → cs.length = ds.length + 1 → k cs) : onN (tms (R.tm c :: (ds.map (fun d => R.tm ⟨d, .sh⟩) ++ []))) k := by
  have e : tms (R.tm c :: (ds.map (fun d => R.tm ⟨d, .sh⟩) ++ [])) = some (c :: ds.map fun d => ⟨d, .sh⟩) := by
    show (tms (ds.map (fun d => R.tm ⟨d, .sh⟩) ++ [])).map _ = _
    rw [tms_map]
    rfl
  rw [e]
  subst hd
  refine h _ (by rw [List.map_cons, ds_map]) ?_ (by rw [List.length_cons, List.length_map])
  have e2 := nrm_map ds
  unfold nrm at e2 ⊢
  by_cases q : ((ds.map fun d => (⟨d, .sh⟩ : Cl)).map (·.o)).all Ow.isSh = true
  · rw [if_pos]
    rw [List.map_cons, List.all_cons, q, ho]
    rfl
  · rw [if_neg q] at e2
    rw [e2] at q
    exact absurd rfl q
theorem stF {e1 : Env} {i : Nat} {cn f : Str} {d : Dv} {k : Env → Prop} (fs : List (Str × Dv)) (h : (e1[i]?).join = some ⟨.ins cn fs, .nd []⟩) (hl : fs.lookup f = none) (hn : fs.length < 900) (hk : k (e1.set i (some ⟨.ins cn (fs ++ [(f, d)]), .nd []⟩))) :
    ∃ fs os, (e1[i]?).join = some ⟨.ins cn fs, .nd os⟩ ∧ fs.lookup f = none ∧ fs.length < 900 ∧ k (e1.set i (some ⟨.ins cn (fs ++ [(f, d)]), .nd (appO os fs.length .sh)⟩)) := ⟨fs, [], h, hl, hn, hk⟩
def tailsD (ls : List Ln) : List (Key × Dv) := ls.map fun l => (.inr l.1, .str l.2.1)
def headsD (ls : List Ln) : List (Key × Dv) := ls.map fun l => (.inr l.1, .str l.2.2)
def outD (hs : List Str) (ls : List Ln) : List (Key × Dv) := hs.map fun h => (.inr h, .lst ((ls.filter fun l => decide (l.2.1 = h)).map fun l => .str l.1))
def intoD (hs : List Str) (ls : List Ln) : List (Key × Dv) := hs.map fun h => (.inr h, .lst ((ls.filter fun l => decide (l.2.2 = h)).map fun l => .str l.1))
def netF (w : Wd) : List (Str × Dv) := [("own_home", .str w.home), ("own_houses", .lst (sts (srtS (w.home :: w.oth)))), ("own_rows", .lst (lns (srtL w.rows))), ("own_tails", .dic (tailsD (srtL w.rows))), ("own_heads", .dic (headsD (srtL w.rows))),
  ("own_out", .dic (outD (srtS (w.home :: w.oth)) (srtL w.rows))), ("own_into", .dic (intoD (srtS (w.home :: w.oth)) (srtL w.rows)))]
abbrev Wd.net (w : Wd) : Dv := .ins "Net" (netF w)
theorem net_home (w : Wd) : (netF w).lookup ("own_home" : Str) = some (Dv.str w.home) := by kernel_rfl
theorem net_houses (w : Wd) : (netF w).lookup ("own_houses" : Str) = some (Dv.lst (sts (srtS (w.home :: w.oth)))) := by kernel_rfl
theorem net_rows (w : Wd) : (netF w).lookup ("own_rows" : Str) = some (Dv.lst (lns (srtL w.rows))) := by kernel_rfl
@[irreducible] def S_Net_init : SF := fun cs Q _ => ∃ (w : Wd) (x y : Dv) (o1 o2 : Ow), cs = [⟨.ins "Net" [], .nd []⟩, cS w.home, ⟨x, o1⟩, ⟨y, o2⟩] ∧ SeqD x (sts w.oth) ∧ SeqD y (lns w.rows) ∧ WOk w ∧ Q cN [⟨w.net, .nd []⟩, cS w.home, ⟨x, .sh⟩, ⟨y, .sh⟩]
theorem S_Net_init_i {w : Wd} {x y : Dv} {o1 o2 : Ow} {Q E} (h1 : SeqD x (sts w.oth)) (h2 : SeqD y (lns w.rows)) (hw : WOk w) (h : Q cN [⟨w.net, .nd []⟩, cS w.home, ⟨x, .sh⟩, ⟨y, .sh⟩]) : S_Net_init [⟨.ins "Net" [], .nd []⟩, cS w.home, ⟨x, o1⟩, ⟨y, o2⟩] Q E := by unfold S_Net_init; exact ⟨w, x, y, o1, o2, rfl, h1, h2, hw, h⟩
/-- Net.__init__: slots self home houses lines all_houses rows row house line name tail head -/
def w_Net_init : WS := (wSeq (wNfS (wDrop (wNf (wCall S_check_names [] (waCons (wVar 1) (waCons (wVar 2) (waCons (wVar 3) waNil)))))))
  (wSeq (wNfS (wDrop (wNf (wCall S_check_sizes [] (waCons (wVar 2) (waCons (wVar 3) waNil))))))
  (wSeq (wNfS (wDrop (wNf (wCall S_check_repeats [] (waCons (wVar 2) (waCons (wLst (waCons (wSh (wVar 1)) waNil)) waNil))))))
  (wSeq (wNfS (wDrop (wNf (wCall S_check_repeats [] (waCons (wLcS (wItE (wVar 3)) (tgN 8) wYes (w2 gIx (wVar 8) (wC (.int 0))) [8]) (waCons (wLst waNil) waNil))))))
  (wSeq (wNfS (wAsg 4 (wN gSort (waCons (wLst (waCons (wSh (wVar 1)) (waStar (wVar 2) waNil))) waNil))))
  (wSeq (wNfS (wDrop (wNf (wCall S_check_ends [] (waCons (wVar 3) (waCons (wVar 4) waNil))))))
  (wSeq (wNfS (wAsg 5 (wN gSort (waCons (wLcS (wItE (wVar 3)) (tgT [9, 10, 11]) wYes (wTup (waCons (wSh (wVar 9)) (waCons (wSh (wVar 10)) (waCons (wSh (wVar 11)) waNil)))) [9, 10, 11]) waNil))))
  (wSeq (wNfS (wSetF "Net" "own_home" 0 (wSh (wVar 1))))
  (wSeq (wNfS (wSetF "Net" "own_houses" 0 (wSh (wVar 4))))
  (wSeq (wNfS (wSetF "Net" "own_rows" 0 (wSh (wVar 5))))
  (wSeq (wNfS (wSetF "Net" "own_tails" 0 (wSh (wDcS (wItE (wVar 5)) (tgN 6) wYes (w2 gIx (wVar 6) (wC (.int 0))) (w2 gIx (wVar 6) (wC (.int 1))) [6]))))
  (wSeq (wNfS (wSetF "Net" "own_heads" 0 (wSh (wDcS (wItE (wVar 5)) (tgN 6) wYes (w2 gIx (wVar 6) (wC (.int 0))) (w2 gIx (wVar 6) (wC (.int 2))) [6]))))
  (wSeq (wNfS (wSetF "Net" "own_out" 0 (wSh (wDcS (wItE (wVar 4)) (tgN 7) wYes (wVar 7) (wLcS (wItE (wVar 5)) (tgN 6) (wTB (w2 gEqS (w2 gIx (wVar 6) (wC (.int 1))) (wVar 7))) (w2 gIx (wVar 6) (wC (.int 0))) [6]) [7]))))
  (wNfS (wSetF "Net" "own_into" 0 (wSh (wDcS (wItE (wVar 4)) (tgN 7) wYes (wVar 7) (wLcS (wItE (wVar 5)) (tgN 6) (wTB (w2 gEqS (w2 gIx (wVar 6) (wC (.int 2))) (wVar 7))) (w2 gIx (wVar 6) (wC (.int 0))) [6]) [7])))))))))))))))))
theorem pure_Net_init : ∀ cs Q E, S_Net_init cs Q E → cs.length = 4 ∧ w_Net_init (fnWD [0] cs Q E) (env0 [0] 12 cs) := by
  intro cs Q E h
  unfold S_Net_init at h
  obtain ⟨w, x, y, o1, o2, rfl, hx, hy, hw, hQ⟩ := h
  refine ⟨rfl, ?_⟩
  have l0 : (sts w.oth).length = w.oth.length := List.length_map ..
  have l1 : (lns w.rows).length = w.rows.length := List.length_map ..
  have hol : w.oth.length ≤ 11 := hw.ol
  have hrl : w.rows.length ≤ 30 := hw.rl
  walk_at "go"
  refine S_check_names_i (w := w) hx hy rfl rfl hw ?_
  walk_at "go"
  refine S_check_sizes_i (w := w) hx hy hw ?_
  walk_at "go"
  refine S_check_repeats_i (us := w.oth) (ps := [w.home]) (o2 := .nd []) hx rfl rfl (by show w.oth.length + 1 ≤ 1000; omega) hw.nd ?_
  walk_at "go"
  refine onSeq_i hy ?_
  walk_at "go"
  refine lcBS_map w.rows (fun l => .str l.1) _ rfl trivial (by omega) (fun l hl N N0 hN => ?_) ?_
  · walk_at "go"
    exact hN _ rfl
  rw [fst_lns]
  walk_at "go"
  refine S_check_repeats_i (us := w.rows.map fun l : Ln => l.1) (ps := []) (o1 := .nd []) (o2 := .nd []) (.lst _) rfl rfl (by rw [List.nil_append, List.length_map]; omega) hw.rd ?_
  walk_at "go"
  refine onSeq_i hx ?_
  walk_at "go"
  refine star_i (d := .str w.home) rfl rfl fun cs e1 e2 e3 => ?_
  walk_at "go"
  rw [e1]
  refine ⟨sortOk_sts (w.home :: w.oth), ?_⟩
  rw [show (Dv.str w.home :: sts w.oth).mergeSort leD = sts (srtS (w.home :: w.oth)) from sort_sts (w.home :: w.oth)]
  clear e1 e2 e3 cs
  have hsl : (srtS (w.home :: w.oth)).length ≤ 12 := by rw [(srtS_perm _).length_eq, List.length_cons]; omega
  have hsn : (srtS (w.home :: w.oth)).Nodup := (srtS_perm _).nodup_iff.mpr hw.nd
  have hsm : ∀ u ∈ w.home :: w.oth, u ∈ srtS (w.home :: w.oth) := fun u hu => (srtS_perm _).mem_iff.mpr hu
  obtain ⟨hs, ehs⟩ : ∃ hs, hs = srtS (w.home :: w.oth) := ⟨_, rfl⟩
  rw [← ehs] at hsl hsn hsm ⊢
  have hsl2 : (sts hs).length = hs.length := List.length_map ..
  walk_at "go"
  refine S_check_ends_i (rows := w.rows) (hs := hs) (o2 := .nd []) hy rfl rfl (fun l hl => ⟨hsm _ (hw.re l hl).1, hsm _ (hw.re l hl).2⟩) ?_
  walk_at "go"
  refine onSeq_i hy ?_
  walk_at "go"
  refine lcBS_map w.rows lnD _ rfl trivial (by omega) (fun l hl N N0 hN => ?_) ?_
  · walk_at "go"
    exact hN _ rfl
  walk_at "go"
  refine ⟨sortOk_lns w.rows, ?_⟩
  rw [sort_lns]
  have hrn : ((srtL w.rows).map (·.1)).Nodup := ((srtL_perm w.rows).map _).nodup_iff.mpr hw.rd
  have hrl2 : (srtL w.rows).length ≤ 30 := by rw [(srtL_perm _).length_eq]; exact hw.rl
  obtain ⟨ls, els⟩ : ∃ ls, ls = srtL w.rows := ⟨_, rfl⟩
  rw [← els] at hrn hrl2 ⊢
  have hrl3 : (lns ls).length = ls.length := List.length_map ..
  walk_at "go"
  refine stF [] rfl (by kernel_rfl) (Nat.le_of_ble_eq_true rfl) ?_
  walk_at "go"
  refine stF [("own_home", .str w.home)] rfl (by kernel_rfl) (Nat.le_of_ble_eq_true rfl) ?_
  walk_at "go"
  refine stF [("own_home", .str w.home), ("own_houses", .lst (sts hs))] rfl (by kernel_rfl) (Nat.le_of_ble_eq_true rfl) ?_
  walk_at "go"
  refine dcBS_map ls (·.1) (fun l => .str l.2.1) _ rfl trivial (by omega) hrn (fun l hl N N0 hN => ?_) ?_
  · walk_at "go"
    refine ⟨.inr l.1, rfl, ?_⟩
    walk_at "go"
    exact hN _ rfl
  walk_at "go"
  refine stF [("own_home", .str w.home), ("own_houses", .lst (sts hs)), ("own_rows", .lst (lns ls))] rfl (by kernel_rfl) (Nat.le_of_ble_eq_true rfl) ?_
  walk_at "go"
  refine dcBS_map ls (·.1) (fun l => .str l.2.2) _ rfl trivial (by omega) hrn (fun l hl N N0 hN => ?_) ?_
  · walk_at "go"
    refine ⟨.inr l.1, rfl, ?_⟩
    walk_at "go"
    exact hN _ rfl
  walk_at "go"
  refine stF [("own_home", .str w.home), ("own_houses", .lst (sts hs)), ("own_rows", .lst (lns ls)), ("own_tails", .dic (tailsD ls))] rfl (by kernel_rfl) (Nat.le_of_ble_eq_true rfl) ?_
  walk_at "go"
  refine dcBS_map hs (fun h => h) (fun h => .lst ((ls.filter fun l => decide (l.2.1 = h)).map fun l => .str l.1)) _ rfl trivial (by omega) (by rw [List.map_id']; exact hsn) (fun h hh N N0 hN => ?_) ?_
  · walk_at "go"
    refine ⟨.inr h, rfl, ?_⟩
    walk_at "go"
    refine lcBS_fil ls (fun l => decide (l.2.1 = h)) (fun l => .str l.1) _ rfl trivial (by omega) (fun l hl N2 N02 hN2 hN02 => ?_) ?_
    · walk_at "go"
      refine ite_b (fun q => ?_) fun q => ?_
      · walk_at "go"
        exact hN2 q _ rfl
      · exact hN02 q _ rfl
    exact hN _ rfl
  walk_at "go"
  refine stF [("own_home", .str w.home), ("own_houses", .lst (sts hs)), ("own_rows", .lst (lns ls)), ("own_tails", .dic (tailsD ls)), ("own_heads", .dic (headsD ls))] rfl (by kernel_rfl) (Nat.le_of_ble_eq_true rfl) ?_
  walk_at "go"
  refine dcBS_map hs (fun h => h) (fun h => .lst ((ls.filter fun l => decide (l.2.2 = h)).map fun l => .str l.1)) _ rfl trivial (by omega) (by rw [List.map_id']; exact hsn) (fun h hh N N0 hN => ?_) ?_
  · walk_at "go"
    refine ⟨.inr h, rfl, ?_⟩
    walk_at "go"
    refine lcBS_fil ls (fun l => decide (l.2.2 = h)) (fun l => .str l.1) _ rfl trivial (by omega) (fun l hl N2 N02 hN2 hN02 => ?_) ?_
    · walk_at "go"
      refine ite_b (fun q => ?_) fun q => ?_
      · walk_at "go"
        exact hN2 q _ rfl
      · exact hN02 q _ rfl
    exact hN _ rfl
  walk_at "go"
  refine stF [("own_home", .str w.home), ("own_houses", .lst (sts hs)), ("own_rows", .lst (lns ls)), ("own_tails", .dic (tailsD ls)), ("own_heads", .dic (headsD ls)), ("own_out", .dic (outD hs ls))] rfl (by kernel_rfl) (Nat.le_of_ble_eq_true rfl) ?_
  unfold Wd.net netF at hQ
  rw [← ehs, ← els] at hQ
  exact hQ
end Py
set_option Elab.async false
set_option linter.all false
set_option maxRecDepth 100000
set_option maxHeartbeats 1000000
set_option pp.maxSteps 800
namespace Py
open PySem PySem.Spec PyProof.Rows L2
set_option exponentiation.threshold 9000
local macro_rules | `(tactic| walk_at "mul") => `(tactic| first | exact Or.inl (Or.inr ⟨by decide, by decide⟩) | exact Or.inl (Or.inl ⟨by decide, by decide⟩) | exact Or.inl (Or.inl ⟨by omega, by omega⟩) | exact Or.inl (Or.inr ⟨by omega, by omega⟩))
local macro_rules | `(tactic| walk_at "side") => `(tactic| first | with_reducible assumption | rfl | exact ⟨_, rfl⟩ | decide | exact Nat.le_of_ble_eq_true rfl | omega | (walk_at "mul") | exact nat_small (by omega) (by omega) | exact nat_small2 (by omega) (by omega) | exact all_scal _ | assumption | (show _ + 1 ≤ _; omega) | (show 1 + _ ≤ _; omega) | (show 0 + _ ≤ _; omega))
local macro_rules | `(tactic| walk_at "go") => `(tactic| repeat (first | refine And.intro (by walk_at "side") ?_ | refine ex_ix rfl ?_ | refine ex_ixS rfl ?_ | refine ex_n rfl ?_ | refine ite_f rfl ?_ | refine ite_t rfl ?_))
/-! Nets: the law's copies and its judge of equal data. -/
theorem boolsRep : ∀ n : Nat, bools (List.replicate n (Dv.bl true)) = some (List.replicate n true)
  | 0 => rfl
  | n + 1 => by rw [List.replicate_succ, List.replicate_succ]; show (bools _).map _ = _; rw [boolsRep n]; rfl
theorem allRep (n : Nat) : (List.replicate n true).all id = true := by
  rw [List.all_eq_true]
  intro x hx
  rw [List.mem_replicate] at hx
  rw [hx.2]; rfl
def plainB : Dv → Bool
  | .bl _ => true
  | .int _ => true
  | .str _ => true
  | _ => false
/-- equal data, locked lists told apart no more -/
def sameD : Nat → Dv → Dv → Prop
  | 0, _, _ => False
  | n + 1, a, b => (plainB b = true ∧ a = b) ∨ ∃ xs ys, xs.length = ys.length ∧ ys.length ≤ 90000 ∧ (∀ (i : Nat) (x y : Dv), xs[i]? = some x → ys[i]? = some y → sameD n x y) ∧ (((a = .lst xs ∨ a = .lck xs) ∧ (b = .lst ys ∨ b = .lck ys)) ∨ (a = .tup xs ∧ b = .tup ys))
@[irreducible] def S_sm (n : Nat) : SF := fun cs Q _ => ∃ (a b : Dv) (oa ob : Ow), cs = [⟨a, oa⟩, ⟨b, ob⟩] ∧ sameD (n + 1) a b ∧ Q (cB true) [⟨a, .sh⟩, ⟨b, .sh⟩]
def S_same : Nat → SF
  | 0 => S_no
  | n + 1 => S_sm n
theorem S_same_i : ∀ {n : Nat} {a b : Dv} {oa ob : Ow} {Q E}, sameD n a b → Q (cB true) [⟨a, .sh⟩, ⟨b, .sh⟩] → S_same n [⟨a, oa⟩, ⟨b, ob⟩] Q E
  | 0, _, _, _, _, _, _, h, _ => h.elim
  | n + 1, a, b, oa, ob, Q, E, h, q => by
    show S_sm n _ Q E
    unfold S_sm
    exact ⟨a, b, oa, ob, rfl, h, q⟩
/-- _law_same: slots _law_told _law_due _law_labels _law_label _law_k -/
def w_law_same (Sr : SF) : WS := (wSeq (wIf (wTB (w2 gIs (wVar 1) (wC .non))) (wRet (w2 gIs (wVar 0) (wC .non))) wNext)
  (wSeq (wIf (wTB (w1 (gIsi ["bool"]) (wVar 1))) (wRet (wAndV (w1 (gIsi ["bool"]) (wVar 0)) (w2 gEqS (wVar 0) (wVar 1)))) wNext)
  (wSeq (wIf (wTB (w1 (gIsi ["int"]) (wVar 1))) (wRet (wAndV (w1 (gIsi ["int"]) (wVar 0)) (wAndV (wNotV (w1 (gIsi ["bool"]) (wVar 0))) (w2 gEqS (wVar 0) (wVar 1))))) wNext)
  (wSeq (wIf (wTB (w1 (gIsi ["str"]) (wVar 1))) (wRet (wAndV (w1 (gIsi ["str"]) (wVar 0)) (w2 gEqS (wVar 0) (wVar 1)))) wNext)
  (wSeq (wIf (wOrT (wAndT (wTB (w1 (gIsi ["list"]) (wVar 1))) (wNotT (wTB (w1 (gIsi ["list"]) (wVar 0))))) (wAndT (wTB (w1 (gIsi ["tuple"]) (wVar 1))) (wNotT (wTB (w1 (gIsi ["tuple"]) (wVar 0)))))) (wRet (wC (.bl false))) wNext)
  (wSeq (wIf (wTB (w1 (gIsi ["dict"]) (wVar 1))) wBadS wNext)
  (wRet (wAndV (w2 gEqS (wN gLen (waCons (wVar 0) waNil)) (wN gLen (waCons (wVar 1) waNil))) (wN gAll (waCons (wLcS (wItR1 (waCons (wN gLen (waCons (wVar 1) waNil)) waNil)) (tgN 4) wYes (wNf (wCall Sr [] (waCons (w2 gIx (wVar 0) (wVar 4)) (waCons (w2 gIx (wVar 1) (wVar 4)) waNil)))) [4]) waNil))))))))))
theorem pure_same : ∀ (n : Nat) cs Q E, S_same (n + 1) cs Q E → cs.length = 2 ∧ w_law_same (S_same n) (fnWD [] cs Q E) (env0 [] 5 cs) := by
  intro n cs Q E h
  have h2 : S_sm n cs Q E := h
  unfold S_sm at h2
  obtain ⟨a, b, oa, ob, rfl, hs, hQ⟩ := h2
  refine ⟨rfl, ?_⟩
  rcases hs with ⟨hp, rfl⟩ | ⟨xs, ys, hl, hb, hxy, hk⟩
  · cases a with
    | bl i =>
      walk_at "go"
      have e : (decide (i = i)) = true := decide_eq_true rfl
      show Q (cB (decide (i = i))) _
      rw [e]
      exact hQ
    | int i =>
      walk_at "go"
      have e : (decide (i = i)) = true := decide_eq_true rfl
      show Q (cB (decide (i = i))) _
      rw [e]
      exact hQ
    | str i =>
      walk_at "go"
      have e : (decide (i = i)) = true := decide_eq_true rfl
      show Q (cB (decide (i = i))) _
      rw [e]
      exact hQ
    | _ => cases hp
  · have step : ∀ i : Nat, i < ys.length → ∃ x y, atI xs ((i : Nat) : Int) = some x ∧ atI ys ((i : Nat) : Int) = some y ∧ sameD n x y := fun i hi => by
      obtain ⟨x, hx⟩ : ∃ x, xs[i]? = some x := ⟨_, List.getElem?_eq_getElem (by omega)⟩
      obtain ⟨y, hy⟩ : ∃ y, ys[i]? = some y := ⟨_, List.getElem?_eq_getElem hi⟩
      exact ⟨x, y, atI_nat hx, atI_nat hy, hxy i x y hx hy⟩
    rcases hk with ⟨rfl | rfl, rfl | rfl⟩ | ⟨rfl, rfl⟩
    · walk_at "go"
      refine ite_d (fun _ => ?_) fun h => absurd (by omega) h
      walk_at "go"
      refine ⟨fun i acc e => acc = List.replicate i (Dv.bl true) ∧ i ≤ ys.length ∧ e = [some ⟨.lst xs, .sh⟩, some ⟨.lst ys, .sh⟩, none, none, none], ?_, fun i acc e h => ?_, fun i d acc e hd h N N0 hN hN0 => ?_, fun acc e h => ?_⟩
      · exact ⟨rfl, Nat.zero_le _, rfl⟩
      · obtain ⟨rfl, hi, rfl⟩ := h
        refine ⟨trivial, ?_⟩
        rw [List.length_replicate]
        omega
      · obtain ⟨rfl, hi, rfl⟩ := h
        obtain ⟨hi, rfl⟩ := rngD_some hd
        have e0 : (0 : Int) + ((i : Nat) : Int) = ((i : Nat) : Int) := Int.zero_add _
        rw [e0]
        obtain ⟨x, y, hx, hy, hs⟩ := step i (by omega)
        walk_at "go"
        refine ex_ix hx ?_
        walk_at "go"
        refine ex_ix hy ?_
        walk_at "go"
        refine S_same_i hs ?_
        refine hN _ _ ⟨?_, by omega, rfl⟩
        rw [List.replicate_succ']
      · obtain ⟨rfl, hi, rfl⟩ := h
        rw [rngD_len]
        walk_at "go"
        refine ⟨_, boolsRep _, ?_⟩
        rw [allRep]
        exact hQ
    · walk_at "go"
      refine ite_d (fun _ => ?_) fun h => absurd (by omega) h
      walk_at "go"
      refine ⟨fun i acc e => acc = List.replicate i (Dv.bl true) ∧ i ≤ ys.length ∧ e = [some ⟨.lst xs, .sh⟩, some ⟨.lck ys, .sh⟩, none, none, none], ?_, fun i acc e h => ?_, fun i d acc e hd h N N0 hN hN0 => ?_, fun acc e h => ?_⟩
      · exact ⟨rfl, Nat.zero_le _, rfl⟩
      · obtain ⟨rfl, hi, rfl⟩ := h
        refine ⟨trivial, ?_⟩
        rw [List.length_replicate]
        omega
      · obtain ⟨rfl, hi, rfl⟩ := h
        obtain ⟨hi, rfl⟩ := rngD_some hd
        have e0 : (0 : Int) + ((i : Nat) : Int) = ((i : Nat) : Int) := Int.zero_add _
        rw [e0]
        obtain ⟨x, y, hx, hy, hs⟩ := step i (by omega)
        walk_at "go"
        refine ex_ix hx ?_
        walk_at "go"
        refine ex_ix hy ?_
        walk_at "go"
        refine S_same_i hs ?_
        refine hN _ _ ⟨?_, by omega, rfl⟩
        rw [List.replicate_succ']
      · obtain ⟨rfl, hi, rfl⟩ := h
        rw [rngD_len]
        walk_at "go"
        refine ⟨_, boolsRep _, ?_⟩
        rw [allRep]
        exact hQ
    · walk_at "go"
      refine ite_d (fun _ => ?_) fun h => absurd (by omega) h
      walk_at "go"
      refine ⟨fun i acc e => acc = List.replicate i (Dv.bl true) ∧ i ≤ ys.length ∧ e = [some ⟨.lck xs, .sh⟩, some ⟨.lst ys, .sh⟩, none, none, none], ?_, fun i acc e h => ?_, fun i d acc e hd h N N0 hN hN0 => ?_, fun acc e h => ?_⟩
      · exact ⟨rfl, Nat.zero_le _, rfl⟩
      · obtain ⟨rfl, hi, rfl⟩ := h
        refine ⟨trivial, ?_⟩
        rw [List.length_replicate]
        omega
      · obtain ⟨rfl, hi, rfl⟩ := h
        obtain ⟨hi, rfl⟩ := rngD_some hd
        have e0 : (0 : Int) + ((i : Nat) : Int) = ((i : Nat) : Int) := Int.zero_add _
        rw [e0]
        obtain ⟨x, y, hx, hy, hs⟩ := step i (by omega)
        walk_at "go"
        refine ex_ix hx ?_
        walk_at "go"
        refine ex_ix hy ?_
        walk_at "go"
        refine S_same_i hs ?_
        refine hN _ _ ⟨?_, by omega, rfl⟩
        rw [List.replicate_succ']
      · obtain ⟨rfl, hi, rfl⟩ := h
        rw [rngD_len]
        walk_at "go"
        refine ⟨_, boolsRep _, ?_⟩
        rw [allRep]
        exact hQ
    · walk_at "go"
      refine ite_d (fun _ => ?_) fun h => absurd (by omega) h
      walk_at "go"
      refine ⟨fun i acc e => acc = List.replicate i (Dv.bl true) ∧ i ≤ ys.length ∧ e = [some ⟨.lck xs, .sh⟩, some ⟨.lck ys, .sh⟩, none, none, none], ?_, fun i acc e h => ?_, fun i d acc e hd h N N0 hN hN0 => ?_, fun acc e h => ?_⟩
      · exact ⟨rfl, Nat.zero_le _, rfl⟩
      · obtain ⟨rfl, hi, rfl⟩ := h
        refine ⟨trivial, ?_⟩
        rw [List.length_replicate]
        omega
      · obtain ⟨rfl, hi, rfl⟩ := h
        obtain ⟨hi, rfl⟩ := rngD_some hd
        have e0 : (0 : Int) + ((i : Nat) : Int) = ((i : Nat) : Int) := Int.zero_add _
        rw [e0]
        obtain ⟨x, y, hx, hy, hs⟩ := step i (by omega)
        walk_at "go"
        refine ex_ix hx ?_
        walk_at "go"
        refine ex_ix hy ?_
        walk_at "go"
        refine S_same_i hs ?_
        refine hN _ _ ⟨?_, by omega, rfl⟩
        rw [List.replicate_succ']
      · obtain ⟨rfl, hi, rfl⟩ := h
        rw [rngD_len]
        walk_at "go"
        refine ⟨_, boolsRep _, ?_⟩
        rw [allRep]
        exact hQ
    · walk_at "go"
      refine ite_d (fun _ => ?_) fun h => absurd (by omega) h
      walk_at "go"
      refine ⟨fun i acc e => acc = List.replicate i (Dv.bl true) ∧ i ≤ ys.length ∧ e = [some ⟨.tup xs, .sh⟩, some ⟨.tup ys, .sh⟩, none, none, none], ?_, fun i acc e h => ?_, fun i d acc e hd h N N0 hN hN0 => ?_, fun acc e h => ?_⟩
      · exact ⟨rfl, Nat.zero_le _, rfl⟩
      · obtain ⟨rfl, hi, rfl⟩ := h
        refine ⟨trivial, ?_⟩
        rw [List.length_replicate]
        omega
      · obtain ⟨rfl, hi, rfl⟩ := h
        obtain ⟨hi, rfl⟩ := rngD_some hd
        have e0 : (0 : Int) + ((i : Nat) : Int) = ((i : Nat) : Int) := Int.zero_add _
        rw [e0]
        obtain ⟨x, y, hx, hy, hs⟩ := step i (by omega)
        walk_at "go"
        refine ex_ix hx ?_
        walk_at "go"
        refine ex_ix hy ?_
        walk_at "go"
        refine S_same_i hs ?_
        refine hN _ _ ⟨?_, by omega, rfl⟩
        rw [List.replicate_succ']
      · obtain ⟨rfl, hi, rfl⟩ := h
        rw [rngD_len]
        walk_at "go"
        refine ⟨_, boolsRep _, ?_⟩
        rw [allRep]
        exact hQ
/-! ### copies -/
def rO : Dv → Ow
  | .lst _ => .nd []
  | _ => .sh
def cpyD : Nat → Dv → Dv → Prop
  | 0, _, _ => False
  | n + 1, d, r => (plainB d = true ∧ r = d) ∨ ∃ xs ys, xs.length = ys.length ∧ xs.length ≤ 90000 ∧ (∀ (i : Nat) (x : Dv), xs[i]? = some x → ∃ y, ys[i]? = some y ∧ cpyD n x y) ∧ (((d = .lst xs ∨ d = .lck xs) ∧ r = .lst ys) ∨ (d = .tup xs ∧ r = .tup ys))
@[irreducible] def S_cp (n : Nat) : SF := fun cs Q _ => ∃ (d r : Dv) (o : Ow), cs = [⟨d, o⟩] ∧ cpyD (n + 1) d r ∧ Q ⟨r, rO r⟩ [⟨d, .sh⟩]
def S_copy : Nat → SF
  | 0 => S_no
  | n + 1 => S_cp n
theorem S_copy_i : ∀ {n : Nat} {d r : Dv} {o : Ow} {Q E}, cpyD n d r → Q ⟨r, rO r⟩ [⟨d, .sh⟩] → S_copy n [⟨d, o⟩] Q E
  | 0, _, _, _, _, _, h, _ => h.elim
  | n + 1, d, r, o, Q, E, h, q => by
    show S_cp n _ Q E
    unfold S_cp
    exact ⟨d, r, o, rfl, h, q⟩
/-- _law_copy: slots _law_value _law_found _law_label _law_item -/
def w_law_copy (Sr : SF) : WS := (wSeq (wIf (wTB (w1 (gIsi ["list"]) (wVar 0))) (wRet (wLcS (wItE (wVar 0)) (tgN 3) wYes (wNf (wCall Sr [] (waCons (wVar 3) waNil))) [3])) wNext)
  (wSeq (wIf (wTB (w1 (gIsi ["tuple"]) (wVar 0))) (wRet (wN gTuple (waCons (wLcS (wItE (wVar 0)) (tgN 3) wYes (wNf (wCall Sr [] (waCons (wVar 3) waNil))) [3]) waNil))) wNext)
  (wSeq (wIf (wTB (w1 (gIsi ["dict"]) (wVar 0))) wBadS wNext)
  (wRet (wVar 0)))))
theorem pure_copy : ∀ (n : Nat) cs Q E, S_copy (n + 1) cs Q E → cs.length = 1 ∧ w_law_copy (S_copy n) (fnWD [] cs Q E) (env0 [] 4 cs) := by
  intro n cs Q E h
  have h2 : S_cp n cs Q E := h
  unfold S_cp at h2
  obtain ⟨d, r, o, rfl, hs, hQ⟩ := h2
  refine ⟨rfl, ?_⟩
  rcases hs with ⟨hp, rfl⟩ | ⟨xs, ys, hl, hb, hxy, hk⟩
  · cases r with
    | bl i =>
      walk_at "go"
      exact hQ
    | int i =>
      walk_at "go"
      exact hQ
    | str i =>
      walk_at "go"
      exact hQ
    | _ => cases hp
  · rcases hk with ⟨rfl | rfl, rfl⟩ | ⟨rfl, rfl⟩
    · walk_at "go"
      refine ⟨fun i acc e => acc = ys.take i ∧ i ≤ xs.length ∧ e = [some ⟨.lst xs, .sh⟩, none, none, none], ?_, fun i acc e h => ?_, fun i d acc e hd h N N0 hN hN0 => ?_, fun acc e h => ?_⟩
      · exact ⟨rfl, Nat.zero_le _, rfl⟩
      · obtain ⟨rfl, hi, rfl⟩ := h
        refine ⟨trivial, ?_⟩
        rw [List.length_take]
        omega
      · obtain ⟨rfl, hi, rfl⟩ := h
        obtain ⟨y, hy, hc⟩ := hxy i d hd
        walk_at "go"
        refine S_copy_i hc ?_
        refine hN _ _ ⟨?_, ?_, rfl⟩
        · rw [List.take_succ, hy]
          rfl
        · have := (List.getElem?_eq_some_iff.mp hd).1
          omega
      · obtain ⟨rfl, hi, rfl⟩ := h
        have e : ys.take xs.length = ys := by rw [hl, List.take_length]
        rw [e]
        walk_at "go"
        exact hQ
    · walk_at "go"
      refine ⟨fun i acc e => acc = ys.take i ∧ i ≤ xs.length ∧ e = [some ⟨.lck xs, .sh⟩, none, none, none], ?_, fun i acc e h => ?_, fun i d acc e hd h N N0 hN hN0 => ?_, fun acc e h => ?_⟩
      · exact ⟨rfl, Nat.zero_le _, rfl⟩
      · obtain ⟨rfl, hi, rfl⟩ := h
        refine ⟨trivial, ?_⟩
        rw [List.length_take]
        omega
      · obtain ⟨rfl, hi, rfl⟩ := h
        obtain ⟨y, hy, hc⟩ := hxy i d hd
        walk_at "go"
        refine S_copy_i hc ?_
        refine hN _ _ ⟨?_, ?_, rfl⟩
        · rw [List.take_succ, hy]
          rfl
        · have := (List.getElem?_eq_some_iff.mp hd).1
          omega
      · obtain ⟨rfl, hi, rfl⟩ := h
        have e : ys.take xs.length = ys := by rw [hl, List.take_length]
        rw [e]
        walk_at "go"
        exact hQ
    · walk_at "go"
      refine ⟨fun i acc e => acc = ys.take i ∧ i ≤ xs.length ∧ e = [some ⟨.tup xs, .sh⟩, none, none, none], ?_, fun i acc e h => ?_, fun i d acc e hd h N N0 hN hN0 => ?_, fun acc e h => ?_⟩
      · exact ⟨rfl, Nat.zero_le _, rfl⟩
      · obtain ⟨rfl, hi, rfl⟩ := h
        refine ⟨trivial, ?_⟩
        rw [List.length_take]
        omega
      · obtain ⟨rfl, hi, rfl⟩ := h
        obtain ⟨y, hy, hc⟩ := hxy i d hd
        walk_at "go"
        refine S_copy_i hc ?_
        refine hN _ _ ⟨?_, ?_, rfl⟩
        · rw [List.take_succ, hy]
          rfl
        · have := (List.getElem?_eq_some_iff.mp hd).1
          omega
      · obtain ⟨rfl, hi, rfl⟩ := h
        have e : ys.take xs.length = ys := by rw [hl, List.take_length]
        rw [e]
        walk_at "go"
        exact hQ
end Py
set_option Elab.async false
set_option linter.all false
set_option maxRecDepth 100000
set_option maxHeartbeats 1000000
set_option pp.maxSteps 800
namespace Py
open PySem PySem.Spec PyProof.Rows L2
set_option exponentiation.threshold 9000
local macro_rules | `(tactic| walk_at "mul") => `(tactic| first | exact Or.inl (Or.inr ⟨by decide, by decide⟩) | exact Or.inl (Or.inl ⟨by decide, by decide⟩) | exact Or.inl (Or.inl ⟨by omega, by omega⟩) | exact Or.inl (Or.inr ⟨by omega, by omega⟩))
local macro_rules | `(tactic| walk_at "side") => `(tactic| first | with_reducible assumption | rfl | exact ⟨_, rfl⟩ | decide | exact Nat.le_of_ble_eq_true rfl | omega | (walk_at "mul") | exact nat_small (by omega) (by omega) | exact nat_small2 (by omega) (by omega) | exact all_scal _ | assumption | (show _ + 1 ≤ _; omega) | (show 1 + _ ≤ _; omega) | (show 0 + _ ≤ _; omega))
local macro_rules | `(tactic| walk_at "go") => `(tactic| repeat (first | refine And.intro (by walk_at "side") ?_ | refine ex_ix rfl ?_ | refine ex_ixS rfl ?_ | refine ex_n rfl ?_ | refine ite_f rfl ?_ | refine ite_t rfl ?_))
/-! Nets: Net's properties, Net's ==, the law's judges. -/
theorem srtS_rest2 {x : Str} {xs : List Str} (h : x ∉ xs) : (srtS (x :: xs)).filter (fun y => !decide (y = x)) = srtS xs := by
  rw [← srtS_rest h]
  refine List.filter_congr fun y _ => ?_
  simp
@[irreducible] def S_Net_home : SF := fun cs Q _ => ∃ (w : Wd) (o : Ow), cs = [⟨w.net, o⟩] ∧ Q (cS w.home) [⟨w.net, .sh⟩]
theorem S_Net_home_i {w : Wd} {o : Ow} {Q E} (h : Q (cS w.home) [⟨w.net, .sh⟩]) : S_Net_home [⟨w.net, o⟩] Q E := by unfold S_Net_home; exact ⟨w, o, rfl, h⟩
/-- Net.home: slots self -/
def w_Net_home : WS := (wRet (wFld "Net" "own_home" (wVar 0)))
theorem pure_Net_home : ∀ cs Q E, S_Net_home cs Q E → cs.length = 1 ∧ w_Net_home (fnWD [] cs Q E) (env0 [] 1 cs) := by
  intro cs Q E h
  unfold S_Net_home at h
  obtain ⟨w, o, rfl, hQ⟩ := h
  refine ⟨rfl, ?_⟩
  walk_at "go"
  refine ⟨netF w, rfl, rfl, _, net_home w, ?_⟩
  exact hQ
@[irreducible] def S_Net_houses : SF := fun cs Q _ => ∃ (w : Wd) (o : Ow), cs = [⟨w.net, o⟩] ∧ Q ⟨.lst (sts (srtS (w.home :: w.oth))), .nd []⟩ [⟨w.net, .sh⟩]
theorem S_Net_houses_i {w : Wd} {o : Ow} {Q E} (h : Q ⟨.lst (sts (srtS (w.home :: w.oth))), .nd []⟩ [⟨w.net, .sh⟩]) : S_Net_houses [⟨w.net, o⟩] Q E := by unfold S_Net_houses; exact ⟨w, o, rfl, h⟩
/-- Net.houses: slots self -/
def w_Net_houses : WS := (wRet (wN gList (waCons (wFld "Net" "own_houses" (wVar 0)) waNil)))
theorem pure_Net_houses : ∀ cs Q E, S_Net_houses cs Q E → cs.length = 1 ∧ w_Net_houses (fnWD [] cs Q E) (env0 [] 1 cs) := by
  intro cs Q E h
  unfold S_Net_houses at h
  obtain ⟨w, o, rfl, hQ⟩ := h
  refine ⟨rfl, ?_⟩
  walk_at "go"
  refine ⟨netF w, rfl, rfl, _, net_houses w, ?_⟩
  walk_at "go"
  exact hQ
@[irreducible] def S_Net_others : SF := fun cs Q _ => ∃ (w : Wd) (o : Ow), cs = [⟨w.net, o⟩] ∧ WOk w ∧ Q ⟨.lst (sts (srtS w.oth)), .nd []⟩ [⟨w.net, .sh⟩]
theorem S_Net_others_i {w : Wd} {o : Ow} {Q E} (hw : WOk w) (h : Q ⟨.lst (sts (srtS w.oth)), .nd []⟩ [⟨w.net, .sh⟩]) : S_Net_others [⟨w.net, o⟩] Q E := by unfold S_Net_others; exact ⟨w, o, rfl, hw, h⟩
/-- Net.others: slots self house -/
def w_Net_others : WS := (wRet (wLcS (wItE (wFld "Net" "own_houses" (wVar 0))) (tgN 1) (wTB (w2 gNeS (wVar 1) (wFld "Net" "own_home" (wVar 0)))) (wVar 1) [1]))
theorem pure_Net_others : ∀ cs Q E, S_Net_others cs Q E → cs.length = 1 ∧ w_Net_others (fnWD [] cs Q E) (env0 [] 2 cs) := by
  intro cs Q E h
  unfold S_Net_others at h
  obtain ⟨w, o, rfl, hw, hQ⟩ := h
  refine ⟨rfl, ?_⟩
  have hsl : (srtS (w.home :: w.oth)).length ≤ 12 := by have := hw.ol; rw [(srtS_perm _).length_eq, List.length_cons]; omega
  walk_at "go"
  refine ⟨netF w, rfl, rfl, _, net_houses w, ?_⟩
  walk_at "go"
  refine lcBS_fil (srtS (w.home :: w.oth)) (fun y => !decide (y = w.home)) Dv.str _ rfl trivial (by omega) (fun y hy N N0 hN hN0 => ?_) ?_
  · walk_at "go"
    refine ⟨netF w, rfl, rfl, _, net_home w, ?_⟩
    refine ite_b (fun q => ?_) fun q => ?_
    · walk_at "go"
      exact hN q _ rfl
    · exact hN0 q _ rfl
  rw [srtS_rest2 (List.nodup_cons.mp hw.nd).1]
  exact hQ
@[irreducible] def S_Net_lines : SF := fun cs Q _ => ∃ (w : Wd) (o : Ow), cs = [⟨w.net, o⟩] ∧ Q ⟨.lst (lns (srtL w.rows)), .nd []⟩ [⟨w.net, .sh⟩]
theorem S_Net_lines_i {w : Wd} {o : Ow} {Q E} (h : Q ⟨.lst (lns (srtL w.rows)), .nd []⟩ [⟨w.net, .sh⟩]) : S_Net_lines [⟨w.net, o⟩] Q E := by unfold S_Net_lines; exact ⟨w, o, rfl, h⟩
/-- Net.lines: slots self -/
def w_Net_lines : WS := (wRet (wN gList (waCons (wFld "Net" "own_rows" (wVar 0)) waNil)))
theorem pure_Net_lines : ∀ cs Q E, S_Net_lines cs Q E → cs.length = 1 ∧ w_Net_lines (fnWD [] cs Q E) (env0 [] 1 cs) := by
  intro cs Q E h
  unfold S_Net_lines at h
  obtain ⟨w, o, rfl, hQ⟩ := h
  refine ⟨rfl, ?_⟩
  walk_at "go"
  refine ⟨netF w, rfl, rfl, _, net_rows w, ?_⟩
  walk_at "go"
  exact hQ
@[irreducible] def S_Net_line_names : SF := fun cs Q _ => ∃ (w : Wd) (o : Ow), cs = [⟨w.net, o⟩] ∧ WOk w ∧ Q ⟨.lst (sts (srtS (w.rows.map (·.1)))), .nd []⟩ [⟨w.net, .sh⟩]
theorem S_Net_line_names_i {w : Wd} {o : Ow} {Q E} (hw : WOk w) (h : Q ⟨.lst (sts (srtS (w.rows.map (·.1)))), .nd []⟩ [⟨w.net, .sh⟩]) : S_Net_line_names [⟨w.net, o⟩] Q E := by unfold S_Net_line_names; exact ⟨w, o, rfl, hw, h⟩
/-- Net.line_names: slots self row -/
def w_Net_line_names : WS := (wRet (wLcS (wItE (wFld "Net" "own_rows" (wVar 0))) (tgN 1) wYes (w2 gIx (wVar 1) (wC (.int 0))) [1]))
theorem pure_Net_line_names : ∀ cs Q E, S_Net_line_names cs Q E → cs.length = 1 ∧ w_Net_line_names (fnWD [] cs Q E) (env0 [] 2 cs) := by
  intro cs Q E h
  unfold S_Net_line_names at h
  obtain ⟨w, o, rfl, hw, hQ⟩ := h
  refine ⟨rfl, ?_⟩
  have hrl : (srtL w.rows).length ≤ 30 := by rw [(srtL_perm _).length_eq]; exact hw.rl
  walk_at "go"
  refine ⟨netF w, rfl, rfl, _, net_rows w, ?_⟩
  walk_at "go"
  refine lcBS_map (srtL w.rows) (fun l => .str l.1) _ rfl trivial (by omega) (fun l hl N N0 hN => ?_) ?_
  · walk_at "go"
    exact hN _ rfl
  rw [fst_lns, srtL_nms]
  exact hQ
@[irreducible] def S_law_line_names : SF := fun cs Q _ => ∃ (w : Wd), cs = [⟨w.d, .sh⟩] ∧ WOk w ∧ Q ⟨.lst (sts (srtS (w.rows.map (·.1)))), .nd []⟩ [⟨w.d, .sh⟩]
theorem S_law_line_names_i {w : Wd} {Q E} (hw : WOk w) (h : Q ⟨.lst (sts (srtS (w.rows.map (·.1)))), .nd []⟩ [⟨w.d, .sh⟩]) : S_law_line_names [⟨w.d, .sh⟩] Q E := by unfold S_law_line_names; exact ⟨w, rfl, hw, h⟩
/-- _law_line_names: slots _law_world_here _law_line -/
def w_law_line_names : WS := (wRet (wN gSort (waCons (wLcS (wItE (w2 gIx (wVar 0) (wC (.int 2)))) (tgN 1) wYes (w2 gIx (wVar 1) (wC (.int 0))) [1]) waNil)))
theorem pure_law_line_names : ∀ cs Q E, S_law_line_names cs Q E → cs.length = 1 ∧ w_law_line_names (fnWD [0] cs Q E) (env0 [0] 2 cs) := by
  intro cs Q E h
  unfold S_law_line_names at h
  obtain ⟨w, rfl, hw, hQ⟩ := h
  refine ⟨rfl, ?_⟩
  have hrl := hw.rl
  walk_at "go"
  refine lcBS_map w.rows (fun l => .str l.1) _ rfl trivial (by omega) (fun l hl N N0 hN => ?_) ?_
  · walk_at "go"
    exact hN _ rfl
  rw [fst_lns]
  walk_at "go"
  refine ⟨sortOk_sts _, ?_⟩
  rw [sort_sts]
  exact hQ
/-! ### equal data -/
theorem same_str {n : Nat} (x : Str) : sameD (n + 1) (.str x) (.str x) := .inl ⟨rfl, rfl⟩
theorem same_bl {n : Nat} (b : Bool) : sameD (n + 1) (.bl b) (.bl b) := .inl ⟨rfl, rfl⟩
theorem same_list {n : Nat} {xs : List Dv} (hl : xs.length ≤ 90000) (h : ∀ x ∈ xs, sameD n x x) : sameD (n + 1) (.lst xs) (.lst xs) :=
  .inr ⟨xs, xs, rfl, hl, fun i x y hx hy => by
    rw [hx] at hy
    cases hy
    exact h x (List.mem_of_getElem? hx), .inl ⟨.inl rfl, .inl rfl⟩⟩
theorem same_tup {n : Nat} {xs : List Dv} (hl : xs.length ≤ 90000) (h : ∀ x ∈ xs, sameD n x x) : sameD (n + 1) (.tup xs) (.tup xs) :=
  .inr ⟨xs, xs, rfl, hl, fun i x y hx hy => by
    rw [hx] at hy
    cases hy
    exact h x (List.mem_of_getElem? hx), .inr ⟨rfl, rfl⟩⟩
theorem same_sts {n : Nat} {us : List Str} (hl : us.length ≤ 90000) : sameD (n + 2) (.lst (sts us)) (.lst (sts us)) :=
  same_list (by rw [List.length_map]; exact hl) fun x hx => by
    obtain ⟨y, _, rfl⟩ := mem_sts hx
    exact same_str y
theorem same_ln {n : Nat} (l : Ln) : sameD (n + 2) (lnD l) (lnD l) := same_tup (by show 3 ≤ 90000; decide) fun x hx => by
  rw [List.mem_cons, List.mem_cons, List.mem_singleton] at hx
  rcases hx with rfl | rfl | rfl <;> exact same_str _
theorem same_lns {n : Nat} {ls : List Ln} (hl : ls.length ≤ 90000) : sameD (n + 3) (.lst (lns ls)) (.lst (lns ls)) :=
  same_list (by rw [List.length_map]; exact hl) fun x hx => by
    obtain ⟨l, _, rfl⟩ := List.mem_map.mp hx
    exact same_ln l
@[irreducible] def S_law_is_world : SF := fun cs Q _ => ∃ (w : Wd) (o : Ow), cs = [⟨w.net, o⟩, ⟨w.d, .sh⟩] ∧ WOk w ∧ Q (cB true) [⟨w.net, .sh⟩, ⟨w.d, .sh⟩]
theorem S_law_is_world_i {w : Wd} {o : Ow} {Q E} (hw : WOk w) (h : Q (cB true) [⟨w.net, .sh⟩, ⟨w.d, .sh⟩]) : S_law_is_world [⟨w.net, o⟩, ⟨w.d, .sh⟩] Q E := by unfold S_law_is_world; exact ⟨w, o, rfl, hw, h⟩
/-- _law_is_world: slots _law_net _law_world_here _law_good -/
def w_law_is_world : WS := (wSeq (wNfS (wAsg 2 (wAndV (wNf (wCall (S_same 6) [] (waCons (wNf (wProp "Net" S_Net_home (wVar 0))) (waCons (w2 gIx (wVar 1) (wC (.int 0))) waNil)))) (wNf (wCall (S_same 6) [] (waCons (wNf (wProp "Net" S_Net_houses (wVar 0))) (waCons (wNf (wCall S_law_houses [] (waCons (wVar 1) waNil))) waNil)))))))
  (wSeq (wNfS (wAsg 2 (wAndV (wVar 2) (wAndV (wNf (wCall (S_same 6) [] (waCons (wNf (wProp "Net" S_Net_others (wVar 0))) (waCons (wN gSort (waCons (w2 gIx (wVar 1) (wC (.int 1))) waNil)) waNil)))) (wNf (wCall (S_same 6) [] (waCons (wNf (wProp "Net" S_Net_lines (wVar 0))) (waCons (wN gSort (waCons (w2 gIx (wVar 1) (wC (.int 2))) waNil)) waNil))))))))
  (wRet (wAndV (wVar 2) (wNf (wCall (S_same 6) [] (waCons (wNf (wProp "Net" S_Net_line_names (wVar 0))) (waCons (wNf (wCall S_law_line_names [] (waCons (wVar 1) waNil))) waNil))))))))
theorem pure_law_is_world : ∀ cs Q E, S_law_is_world cs Q E → cs.length = 2 ∧ w_law_is_world (fnWD [] cs Q E) (env0 [] 3 cs) := by
  intro cs Q E h
  unfold S_law_is_world at h
  obtain ⟨w, o, rfl, hw, hQ⟩ := h
  refine ⟨rfl, ?_⟩
  have hol := hw.ol
  have hrl := hw.rl
  have k1 : (srtS (w.home :: w.oth)).length ≤ 90000 := by rw [(srtS_perm _).length_eq, List.length_cons]; omega
  have k2 : (srtS w.oth).length ≤ 90000 := by rw [(srtS_perm _).length_eq]; omega
  have k3 : (srtL w.rows).length ≤ 90000 := by rw [(srtL_perm _).length_eq]; omega
  have k4 : (srtS (w.rows.map (·.1))).length ≤ 90000 := by rw [(srtS_perm _).length_eq, List.length_map]; omega
  walk_at "go"
  refine S_Net_home_i ?_
  walk_at "go"
  refine S_same_i (same_str _) ?_
  walk_at "go"
  refine S_Net_houses_i ?_
  walk_at "go"
  refine S_law_houses_i hw ?_
  walk_at "go"
  refine S_same_i (same_sts k1) ?_
  walk_at "go"
  refine S_Net_others_i hw ?_
  walk_at "go"
  refine ⟨sortOk_sts w.oth, ?_⟩
  rw [sort_sts]
  walk_at "go"
  refine S_same_i (same_sts k2) ?_
  walk_at "go"
  refine S_Net_lines_i ?_
  walk_at "go"
  refine ⟨sortOk_lns w.rows, ?_⟩
  rw [sort_lns]
  walk_at "go"
  refine S_same_i (same_lns k3) ?_
  walk_at "go"
  refine S_Net_line_names_i hw ?_
  walk_at "go"
  refine S_law_line_names_i hw ?_
  walk_at "go"
  refine S_same_i (same_sts k4) ?_
  exact hQ
/-! ### == -/
def alW (w v : Wd) : Bool := decide (w.home = v.home) && (decide (srtS w.oth = srtS v.oth) && decide (srtL w.rows = srtL v.rows))
theorem alW_self (w : Wd) : alW w w = true := by simp [alW]
theorem alW_symm (w v : Wd) : alW w v = alW v w := by
  have e1 : decide (w.home = v.home) = decide (v.home = w.home) := decide_eq_decide.mpr ⟨Eq.symm, Eq.symm⟩
  have e2 : decide (srtS w.oth = srtS v.oth) = decide (srtS v.oth = srtS w.oth) := decide_eq_decide.mpr ⟨Eq.symm, Eq.symm⟩
  have e3 : decide (srtL w.rows = srtL v.rows) = decide (srtL v.rows = srtL w.rows) := decide_eq_decide.mpr ⟨Eq.symm, Eq.symm⟩
  unfold alW
  rw [e1, e2, e3]
theorem srtS_head {x : Str} {us vs : List Str} : srtS (x :: us) = srtS (x :: vs) ↔ srtS us = srtS vs := by
  constructor
  · intro h
    have p : (x :: us).Perm (x :: vs) := ((srtS_perm _).symm.trans (h ▸ List.Perm.refl _)).trans (srtS_perm _)
    exact srtS_eq ((List.perm_cons x).mp p)
  · intro h
    have p : us.Perm vs := ((srtS_perm us).symm.trans (h ▸ List.Perm.refl _)).trans (srtS_perm vs)
    exact srtS_eq (p.cons x)
theorem ok_names {w : Wd} (hw : WOk w) : ∀ l ∈ w.rows, Nm 8 l.1 ∧ Nm 8 l.2.1 ∧ Nm 8 l.2.2 := fun l hl => ⟨hw.rn l hl, hw.nm _ (hw.re l hl).1, hw.nm _ (hw.re l hl).2⟩
theorem shp_oth {w : Wd} (hw : WOk w) : SeqAt.shaped (toP (.lst (sts (srtS w.oth)))) = true := shaped_sts fun x hx => hw.nm x (List.mem_cons_of_mem _ ((srtS_perm _).mem_iff.mp hx))
theorem shp_all {w : Wd} (hw : WOk w) : SeqAt.shaped (toP (.lst (sts (srtS (w.home :: w.oth))))) = true := shaped_sts fun x hx => hw.nm x ((srtS_perm _).mem_iff.mp hx)
theorem shp_rows {w : Wd} (hw : WOk w) : SeqAt.shaped (toP (.lst (lns (srtL w.rows)))) = true := shaped_lns fun l hl => ok_names hw l ((srtL_perm _).mem_iff.mp hl)
@[irreducible] def S_law_alike : SF := fun cs Q _ => ∃ (w v : Wd), cs = [⟨w.d, .sh⟩, ⟨v.d, .sh⟩] ∧ WOk w ∧ WOk v ∧ Q (cB (alW w v)) [⟨w.d, .sh⟩, ⟨v.d, .sh⟩]
theorem S_law_alike_i {w v : Wd} {Q E} (hw : WOk w) (hv : WOk v) (h : Q (cB (alW w v)) [⟨w.d, .sh⟩, ⟨v.d, .sh⟩]) : S_law_alike [⟨w.d, .sh⟩, ⟨v.d, .sh⟩] Q E := by unfold S_law_alike; exact ⟨w, v, rfl, hw, hv, h⟩
/-- _law_alike: slots _law_first _law_second -/
def w_law_alike : WS := (wSeq (wIf (wOrT (wTB (w2 gNeS (w2 gIx (wVar 0) (wC (.int 0))) (w2 gIx (wVar 1) (wC (.int 0))))) (wTB (w2 gNeD (wN gSort (waCons (w2 gIx (wVar 0) (wC (.int 1))) waNil)) (wN gSort (waCons (w2 gIx (wVar 1) (wC (.int 1))) waNil))))) (wRet (wC (.bl false))) wNext)
  (wRet (w2 gEqD (wN gSort (waCons (w2 gIx (wVar 0) (wC (.int 2))) waNil)) (wN gSort (waCons (w2 gIx (wVar 1) (wC (.int 2))) waNil)))))
theorem pure_law_alike : ∀ cs Q E, S_law_alike cs Q E → cs.length = 2 ∧ w_law_alike (fnWD [0, 1] cs Q E) (env0 [0, 1] 2 cs) := by
  intro cs Q E h
  unfold S_law_alike at h
  obtain ⟨w, v, rfl, hw, hv, hQ⟩ := h
  refine ⟨rfl, ?_⟩
  walk_at "go"
  refine ite_b (fun q => ?_) fun q => ?_
  · have e : alW w v = false := by
      have q2 : (!decide (w.home = v.home)) = true := q
      unfold alW
      cases h : decide (w.home = v.home) with
      | true => rw [h] at q2; cases q2
      | false => rfl
    rw [e] at hQ
    walk_at "go"
    exact hQ
  have q1 : decide (w.home = v.home) = true := by
    have q2 : (!decide (w.home = v.home)) = false := q
    simpa using q2
  walk_at "go"
  refine ⟨sortOk_sts w.oth, ?_⟩
  rw [sort_sts]
  walk_at "go"
  refine ⟨sortOk_sts v.oth, ?_⟩
  rw [sort_sts]
  refine ⟨okP_sts _, okP_sts _, shp_oth hw, shp_oth hv, ?_⟩
  rw [eqv_sts]
  refine ite_b (fun q => ?_) fun q => ?_
  · have e : alW w v = false := by
      unfold alW
      cases h : decide (srtS w.oth = srtS v.oth) with
      | true => rw [h] at q; cases q
      | false => simp
    rw [e] at hQ
    walk_at "go"
    exact hQ
  have q2 : decide (srtS w.oth = srtS v.oth) = true := by simpa using q
  walk_at "go"
  refine ⟨sortOk_lns w.rows, ?_⟩
  rw [sort_lns]
  walk_at "go"
  refine ⟨sortOk_lns v.rows, ?_⟩
  rw [sort_lns]
  refine ⟨okP_lns _, okP_lns _, shp_rows hw, shp_rows hv, ?_⟩
  rw [eqv_lns]
  have e : alW w v = decide (srtL w.rows = srtL v.rows) := by unfold alW; rw [q1, q2]; rfl
  rw [e] at hQ
  exact hQ
theorem isIns_net (fs : List (Str × Dv)) : Dv.isIns "Net" (.ins "Net" fs) = true := by
  unfold Dv.isIns
  exact decide_eq_true rfl
theorem kindOk_net (fs : List (Str × Dv)) : Dv.kindOk "Net" (.ins "Net" fs) = true := by
  unfold Dv.kindOk
  exact decide_eq_true rfl
theorem isi_w {i : Nat} {env : Env} {cn : Str} {d : Dv} {o : Ow} {Q : R → Env → Prop} {E : XQ} (hd : (env[i]?).join = some ⟨d, o⟩) (b : Bool) (h1 : d.kindOk cn = true) (h2 : d.isIns cn = b) (hk : Q (.tm ⟨.bl b, .sh⟩) env) : w1 (gIsiO cn) (wVar i) env Q E := by
  subst h2
  refine ⟨by rw [hd]; rfl, ?_⟩
  show on1 (env[i]?).join _
  rw [hd]
  exact ⟨h1, hk⟩
@[irreducible] def S_Net_eq : SF := fun cs Q _ => (∃ (w v : Wd) (o1 o2 : Ow), cs = [⟨w.net, o1⟩, ⟨v.net, o2⟩] ∧ WOk w ∧ WOk v ∧ Q (cB (alW w v)) [⟨w.net, .sh⟩, ⟨v.net, .sh⟩]) ∨
  ∃ (w : Wd) (d : Dv) (o1 o2 : Ow), cs = [⟨w.net, o1⟩, ⟨d, o2⟩] ∧ d.kindOk "Net" = true ∧ d.isIns "Net" = false ∧ Q (cB false) [⟨w.net, .sh⟩, ⟨d, .sh⟩]
theorem S_Net_eq_i {w v : Wd} {o1 o2 : Ow} {Q E} {b : Bool} (hb : alW w v = b) (hw : WOk w) (hv : WOk v) (h : Q (cB b) [⟨w.net, .sh⟩, ⟨v.net, .sh⟩]) : S_Net_eq [⟨w.net, o1⟩, ⟨v.net, o2⟩] Q E := by unfold S_Net_eq; exact .inl ⟨w, v, o1, o2, rfl, hw, hv, by rw [hb]; exact h⟩
theorem S_Net_eq_n {w : Wd} {d : Dv} {o1 o2 : Ow} {Q E} (h1 : d.kindOk "Net" = true) (h2 : d.isIns "Net" = false) (h : Q (cB false) [⟨w.net, .sh⟩, ⟨d, .sh⟩]) : S_Net_eq [⟨w.net, o1⟩, ⟨d, o2⟩] Q E := by unfold S_Net_eq; exact .inr ⟨w, d, o1, o2, rfl, h1, h2, h⟩
/-- Net.__eq__: slots self other -/
def w_Net_eq : WS := (wRet (wAndV (w1 (gIsiO "Net") (wVar 1)) (wAndV (w2 gEqS (wFld "Net" "own_home" (wVar 0)) (wFld "Net" "own_home" (wVar 1))) (wAndV (w2 gEqD (wFld "Net" "own_houses" (wVar 0)) (wFld "Net" "own_houses" (wVar 1))) (w2 gEqD (wFld "Net" "own_rows" (wVar 0)) (wFld "Net" "own_rows" (wVar 1)))))))
theorem pure_Net_eq : ∀ cs Q E, S_Net_eq cs Q E → cs.length = 2 ∧ w_Net_eq (fnWD [] cs Q E) (env0 [] 2 cs) := by
  intro cs Q E h
  unfold S_Net_eq at h
  rcases h with ⟨w, v, o1, o2, rfl, hw, hv, hQ⟩ | ⟨w, d, o1, o2, rfl, h1, h2, hQ⟩
  · refine ⟨rfl, ?_⟩
    unfold w_Net_eq wRet wAndV
    refine isi_w (i := 1) (env := env0 [] 2 [⟨w.net, o1⟩, ⟨v.net, o2⟩]) (o := .sh) (d := v.net) rfl true (kindOk_net _) (isIns_net _) ?_
    walk_at "go"
    refine ⟨netF w, rfl, rfl, _, net_home w, ?_⟩
    walk_at "go"
    refine ⟨netF v, rfl, rfl, _, net_home v, ?_⟩
    refine ite_b (fun q => ?_) fun q => ?_
    rotate_left
    · have q2 : decide (w.home = v.home) = false := q
      have e : alW w v = false := by unfold alW; rw [q2]; rfl
      rw [e] at hQ
      exact hQ
    have q1 : decide (w.home = v.home) = true := q
    walk_at "go"
    refine ⟨netF w, rfl, rfl, _, net_houses w, ?_⟩
    walk_at "go"
    refine ⟨netF v, rfl, rfl, _, net_houses v, ?_⟩
    refine ⟨okP_sts _, okP_sts _, shp_all hw, shp_all hv, ?_⟩
    rw [eqv_sts]
    have e2 : decide (srtS (w.home :: w.oth) = srtS (v.home :: v.oth)) = decide (srtS w.oth = srtS v.oth) := by
      rw [of_decide_eq_true q1, Bool.eq_iff_iff, decide_eq_true_iff, decide_eq_true_iff]
      exact srtS_head
    refine ite_b (fun q => ?_) fun q => ?_
    rotate_left
    · have e : alW w v = false := by unfold alW; rw [← e2, q]; simp
      rw [e] at hQ
      exact hQ
    walk_at "go"
    refine ⟨netF w, rfl, rfl, _, net_rows w, ?_⟩
    walk_at "go"
    refine ⟨netF v, rfl, rfl, _, net_rows v, ?_⟩
    refine ⟨okP_lns _, okP_lns _, shp_rows hw, shp_rows hv, ?_⟩
    rw [eqv_lns]
    have e : alW w v = decide (srtL w.rows = srtL v.rows) := by unfold alW; rw [← e2, q, q1]; rfl
    rw [e] at hQ
    exact hQ
  · refine ⟨rfl, ?_⟩
    unfold w_Net_eq wRet wAndV
    refine isi_w (i := 1) (env := env0 [] 2 [⟨w.net, o1⟩, ⟨d, o2⟩]) (o := .sh) (d := d) rfl false h1 h2 ?_
    exact hQ
/-! ### _law_compared -/
theorem lcBS_id {tg : WTg} {t : WT} {w : WE} {vs : List Nat} {Ci : Env → Prop} {e1 : Env} {Q : R → Env → Prop} (xs : List Dv) (f : Dv → Dv) (em : Env)
    (h0 : wipeE e1 vs = em) (hC : Ci em) (hl : xs.length ≤ 100000)
    (hs : ∀ x ∈ xs, ∀ (N : Cl → Env → Prop) (N0 : Env → Prop), (∀ e', wipeE e' vs = em → N ⟨f x, .sh⟩ e') → tg ⟨x, .sh⟩ em fun e2 => t e2 (fun b e3 => if b = true then wSh w e3 (fun r e4 => onTm r fun c => N c e4) NoX else N0 e3) NoX)
    (hq : Q (.tm ⟨.lst (xs.map f), .nd []⟩) (restE e1 vs em)) : lcBS tg t w vs xs Ci e1 Q := by
  have := lcBS_map (g := fun x : Dv => x) xs f em h0 hC hl hs hq
  rwa [List.map_id'] at this
end Py
set_option Elab.async false
set_option linter.all false
set_option maxRecDepth 100000
set_option maxHeartbeats 1000000
set_option pp.maxSteps 800
namespace Py
open PySem PySem.Spec PyProof.Rows L2
set_option exponentiation.threshold 9000
local macro_rules | `(tactic| walk_at "mul") => `(tactic| first | exact Or.inl (Or.inr ⟨by decide, by decide⟩) | exact Or.inl (Or.inl ⟨by decide, by decide⟩) | exact Or.inl (Or.inl ⟨by omega, by omega⟩) | exact Or.inl (Or.inr ⟨by omega, by omega⟩))
local macro_rules | `(tactic| walk_at "side") => `(tactic| first | with_reducible assumption | rfl | exact ⟨_, rfl⟩ | decide | exact Nat.le_of_ble_eq_true rfl | omega | (walk_at "mul") | exact nat_small (by omega) (by omega) | exact nat_small2 (by omega) (by omega) | exact all_scal _ | assumption | (show _ + 1 ≤ _; omega) | (show 1 + _ ≤ _; omega) | (show 0 + _ ≤ _; omega))
local macro_rules | `(tactic| walk_at "go") => `(tactic| repeat (first | refine And.intro (by walk_at "side") ?_ | refine ex_ix rfl ?_ | refine ex_ixS rfl ?_ | refine ex_n rfl ?_ | refine ite_f rfl ?_ | refine ite_t rfl ?_))
/-! Nets: the law's comparisons. -/
@[irreducible] def S_law_compared : SF := fun cs Q _ => ∃ (w v : Wd) (o1 o2 o3 : Ow), cs = [⟨w.net, o1⟩, ⟨w.net, o2⟩, ⟨v.net, o3⟩, ⟨w.d, .sh⟩, ⟨v.d, .sh⟩] ∧ WOk w ∧ WOk v ∧ Q (cB true) [⟨w.net, .sh⟩, ⟨w.net, .sh⟩, ⟨v.net, .sh⟩, ⟨w.d, .sh⟩, ⟨v.d, .sh⟩]
theorem S_law_compared_i {w v : Wd} {o1 o2 o3 : Ow} {Q E} (hw : WOk w) (hv : WOk v) (h : Q (cB true) [⟨w.net, .sh⟩, ⟨w.net, .sh⟩, ⟨v.net, .sh⟩, ⟨w.d, .sh⟩, ⟨v.d, .sh⟩]) : S_law_compared [⟨w.net, o1⟩, ⟨w.net, o2⟩, ⟨v.net, o3⟩, ⟨w.d, .sh⟩, ⟨v.d, .sh⟩] Q E := by unfold S_law_compared; exact ⟨w, v, o1, o2, o3, rfl, hw, hv, h⟩
theorem eqO_args {a b : Dv} {o1 o2 : Ow} (h1 : a.isIns "Net" = true) (h2 : b.kindOk "Net" = true) : ∃ c0 c1 : Cl, [(⟨a, o1⟩ : Cl), ⟨b, o2⟩] = [c0, c1] ∧ c0.d.isIns "Net" = true ∧ c1.d.kindOk "Net" = true := ⟨_, _, rfl, h1, h2⟩
theorem lcBS_idE {tg : WTg} {t : WT} {w : WE} {vs : List Nat} {Ci : Env → Prop} {e1 : Env} {Q : R → Env → Prop} {its : List Dv} (xs : List Dv) (f : Dv → Dv) (em : Env) (he : its = xs)
    (h0 : wipeE e1 vs = em) (hC : Ci em) (hl : xs.length ≤ 100000)
    (hs : ∀ x ∈ xs, ∀ (N : Cl → Env → Prop) (N0 : Env → Prop), (∀ e', wipeE e' vs = em → N ⟨f x, .sh⟩ e') → tg ⟨x, .sh⟩ em fun e2 => t e2 (fun b e3 => if b = true then wSh w e3 (fun r e4 => onTm r fun c => N c e4) NoX else N0 e3) NoX)
    (hq : Q (.tm ⟨.lst (xs.map f), .nd []⟩) (restE e1 vs em)) : lcBS tg t w vs its Ci e1 Q := by
  subst he
  exact lcBS_id its f em h0 hC hl hs hq
/-- _law_compared: slots _law_net _law_twin _law_beside _law_world_here _law_other _law_due _law_told _law_odd _law_value -/
def w_law_compared : WS := (wSeq (wNfS (wAsg 5 (wNf (wCall S_law_alike [] (waCons (wVar 3) (waCons (wVar 4) waNil))))))
  (wSeq (wNfS (wAsg 6 (wLst (waCons (wSh (wNf (wEqO "Net" S_Net_eq (wVar 0) (wVar 1)))) (waCons (wSh (wNf (wEqO "Net" S_Net_eq (wVar 1) (wVar 0)))) (waCons (wSh (wNf (wEqO "Net" S_Net_eq (wVar 0) (wVar 0)))) (waCons (wSh (wNf (wEqO "Net" S_Net_eq (wVar 0) (wVar 2)))) (waCons (wSh (wNf (wEqO "Net" S_Net_eq (wVar 2) (wVar 0)))) (waCons (wSh (wNf (wEqO "Net" S_Net_eq (wVar 1) (wVar 2)))) (waCons (wSh (wNf (wEqO "Net" S_Net_eq (wVar 2) (wVar 1)))) waNil))))))))))
  (wSeq (wIf (wNotT (wTB (wNf (wCall (S_same 6) [] (waCons (wVar 6) (waCons (wLst (waCons (wSh (wC (.bl true))) (waCons (wSh (wC (.bl true))) (waCons (wSh (wC (.bl true))) (waCons (wSh (wVar 5)) (waCons (wSh (wVar 5)) (waCons (wSh (wVar 5)) (waCons (wSh (wVar 5)) waNil)))))))) waNil)))))) (wRet (wC (.bl false))) wNext)
  (wSeq (wNfS (wAsg 7 (wLst (waCons (wSh (wC .non)) (waCons (wSh (wC (.bl true))) (waCons (wSh (wC (.int 0))) (waCons (wSh (wC (.int 1))) (waCons (wSh (wC (.str ""))) (waCons (wSh (w2 gIx (wVar 3) (wC (.int 0)))) (waCons (wSh (wLst waNil)) (waCons (wSh (wTup waNil)) (waCons (wSh wDic0) (waCons (wSh (wVar 3)) (waCons (wSh (wLst (waCons (wSh (wVar 3)) waNil))) (waCons (wSh (wNf (wProp "Net" S_Net_lines (wVar 0)))) (waCons (wSh (wNf (wProp "Net" S_Net_houses (wVar 0)))) (waCons (wSh (wNf (wProp "Net" S_Net_line_names (wVar 0)))) waNil)))))))))))))))))
  (wSeq (wNfS (wAsg 7 (w2 gAdd (wVar 7) (wLst (waCons (wSh (wLst (waCons (wSh (wVar 0)) waNil))) (waCons (wSh (wTup (waCons (wSh (wVar 0)) waNil))) (waCons (wSh (wDic1 (w2 gIx (wVar 3) (wC (.int 0))) (wVar 0))) (waCons (wSh (wDic1 (wC (.int 1)) (wLst (waCons (wSh (wVar 0)) (waCons (wSh (wVar 1)) waNil))))) waNil))))))))
  (wRet (wNf (wCall (S_same 6) [] (waCons (wLcS (wItE (wVar 7)) (tgN 8) wYes (wNf (wEqO "Net" S_Net_eq (wVar 0) (wVar 8))) [8]) (waCons (w2 gMul (wLst (waCons (wSh (wC (.bl false))) waNil)) (wN gLen (waCons (wVar 7) waNil))) waNil))))))))))
theorem pure_law_compared : ∀ cs Q E, S_law_compared cs Q E → cs.length = 5 ∧ w_law_compared (fnWD [] cs Q E) (env0 [] 9 cs) := by
  intro cs Q E h
  unfold S_law_compared at h
  obtain ⟨w, v, o1, o2, o3, rfl, hw, hv, hQ⟩ := h
  refine ⟨rfl, ?_⟩
  have k1 := isIns_net (netF w)
  have k2 := isIns_net (netF v)
  have k3 := kindOk_net (netF w)
  have k4 := kindOk_net (netF v)
  walk_at "go"
  refine S_law_alike_i hw hv ?_
  obtain ⟨b, hb⟩ : ∃ b, b = alW w v := ⟨_, rfl⟩
  have hb2 : alW v w = b := by rw [hb]; exact alW_symm v w
  rw [← hb]
  have e0 := alW_self w
  walk_at "go"
  refine ⟨⟨_, _, rfl, k1, k3⟩, ?_⟩
  refine S_Net_eq_i e0 hw hw ?_
  walk_at "go"
  refine ⟨⟨_, _, rfl, k1, k3⟩, ?_⟩
  refine S_Net_eq_i e0 hw hw ?_
  walk_at "go"
  refine ⟨⟨_, _, rfl, k1, k3⟩, ?_⟩
  refine S_Net_eq_i e0 hw hw ?_
  walk_at "go"
  refine ⟨⟨_, _, rfl, k1, k4⟩, ?_⟩
  refine S_Net_eq_i hb.symm hw hv ?_
  walk_at "go"
  refine ⟨⟨_, _, rfl, k2, k3⟩, ?_⟩
  refine S_Net_eq_i hb2 hv hw ?_
  walk_at "go"
  refine ⟨⟨_, _, rfl, k1, k4⟩, ?_⟩
  refine S_Net_eq_i hb.symm hw hv ?_
  walk_at "go"
  refine ⟨⟨_, _, rfl, k2, k3⟩, ?_⟩
  refine S_Net_eq_i hb2 hv hw ?_
  walk_at "go"
  refine S_same_i (same_list (n := 5) (xs := [.bl true, .bl true, .bl true, .bl b, .bl b, .bl b, .bl b]) (by simp) fun x hx => ?_) ?_
  · simp only [List.mem_cons, List.not_mem_nil, or_false] at hx
    rcases hx with rfl | rfl | rfl | rfl | rfl | rfl | rfl <;> exact same_bl _
  walk_at "go"
  refine S_Net_lines_i ?_
  walk_at "go"
  refine S_Net_houses_i ?_
  walk_at "go"
  refine S_Net_line_names_i hw ?_
  walk_at "go"
  refine ⟨.inr w.home, rfl, ?_⟩
  walk_at "go"
  refine ⟨.inl 1, rfl, ?_⟩
  walk_at "go"
  refine lcBS_idE [.non, .bl true, .int 0, .int 1, .str "", .str w.home, .lst [], .tup [], .dic [], w.d, .lst [w.d], .lst (lns (srtL w.rows)), .lst (sts (srtS (w.home :: w.oth))), .lst (sts (srtS (w.rows.map (·.1)))), .lst [w.net], .tup [w.net], .dic [(.inr w.home, w.net)], .dic [(.inl 1, .lst [w.net, w.net])]] (fun _ => .bl false) _ rfl rfl trivial (by simp) (fun x hx N N0 hN => ?_) ?_
  · have hk : x.kindOk "Net" = true ∧ x.isIns "Net" = false := by
      simp only [List.mem_cons, List.not_mem_nil, or_false] at hx
      rcases hx with rfl | rfl | rfl | rfl | rfl | rfl | rfl | rfl | rfl | rfl | rfl | rfl | rfl | rfl | rfl | rfl | rfl | rfl <;> exact ⟨rfl, rfl⟩
    walk_at "go"
    refine ⟨⟨_, _, rfl, k1, hk.1⟩, ?_⟩
    refine S_Net_eq_n hk.1 hk.2 ?_
    walk_at "go"
    exact hN _ rfl
  walk_at "go"
  refine ⟨show (18 : Int) < 2 ^ 63 by decide, show 1 * 18 ≤ 100000 by decide, ?_⟩
  walk_at "go"
  refine S_same_i (same_list (n := 5) (xs := List.replicate 18 (.bl false)) (by simp) fun x hx => ?_) ?_
  · rw [(List.mem_replicate.mp hx).2]
    exact same_bl _
  exact hQ
end Py
set_option Elab.async false
set_option linter.all false
set_option maxRecDepth 100000
set_option maxHeartbeats 1000000
set_option pp.maxSteps 800
namespace Py
open PySem PySem.Spec PyProof.Rows L2
set_option exponentiation.threshold 9000
local macro_rules | `(tactic| walk_at "mul") => `(tactic| first | exact Or.inl (Or.inr ⟨by decide, by decide⟩) | exact Or.inl (Or.inl ⟨by decide, by decide⟩) | exact Or.inl (Or.inl ⟨by omega, by omega⟩) | exact Or.inl (Or.inr ⟨by omega, by omega⟩))
local macro_rules | `(tactic| walk_at "side") => `(tactic| first | with_reducible assumption | rfl | exact ⟨_, rfl⟩ | decide | exact Nat.le_of_ble_eq_true rfl | omega | (walk_at "mul") | exact nat_small (by omega) (by omega) | exact nat_small2 (by omega) (by omega) | exact all_scal _ | assumption | (show _ + 1 ≤ _; omega) | (show 1 + _ ≤ _; omega) | (show 0 + _ ≤ _; omega))
local macro_rules | `(tactic| walk_at "go") => `(tactic| repeat (first | refine And.intro (by walk_at "side") ?_ | refine ex_ix rfl ?_ | refine ex_ixS rfl ?_ | refine ex_n rfl ?_ | refine ite_f rfl ?_ | refine ite_t rfl ?_))
/-! Nets: the law k02. -/
theorem noLcks_of : ∀ {ds : List Dv}, (∀ d ∈ ds, noLck d = true) → noLcks ds = true
  | [], _ => by unfold noLcks; rfl
  | d :: ds, h => by
    unfold noLcks
    rw [h d List.mem_cons_self, noLcks_of fun x hx => h x (List.mem_cons_of_mem _ hx)]
    rfl
theorem noLck_str (x : Str) : noLck (.str x) = true := by unfold noLck; rfl
theorem noLck_sts (us : List Str) : noLck (.lst (sts us)) = true := by
  unfold noLck
  exact noLcks_of fun d hd => by
    obtain ⟨x, _, rfl⟩ := mem_sts hd
    exact noLck_str x
theorem noLck_tsts (us : List Str) : noLck (.tup (sts us)) = true := by
  unfold noLck
  exact noLcks_of fun d hd => by
    obtain ⟨x, _, rfl⟩ := mem_sts hd
    exact noLck_str x
theorem noLck_ln (l : Ln) : noLck (lnD l) = true := noLck_tsts [l.1, l.2.1, l.2.2]
theorem noLck_lns (ls : List Ln) : noLck (.lst (lns ls)) = true := by
  unfold noLck
  exact noLcks_of fun d hd => by
    obtain ⟨l, _, rfl⟩ := List.mem_map.mp hd
    exact noLck_ln l
theorem noLck_tlns (ls : List Ln) : noLck (.tup (lns ls)) = true := by
  unfold noLck
  exact noLcks_of fun d hd => by
    obtain ⟨l, _, rfl⟩ := List.mem_map.mp hd
    exact noLck_ln l
theorem noLck_dic {α : Type} (xs : List α) (k : α → Key) (f : α → Dv) (h : ∀ x, noLck (f x) = true) : noLck (.dic (xs.map fun x => (k x, f x))) = true := by
  unfold noLck
  rw [noLckK_map, List.map_map]
  exact noLcks_of fun d hd => by
    obtain ⟨x, _, rfl⟩ := List.mem_map.mp hd
    exact h x
theorem noLck_net (w : Wd) : noLck w.net = true := by
  unfold Wd.net noLck
  rw [noLckF_map]
  refine noLcks_of fun d hd => ?_
  unfold netF at hd
  simp only [List.map_cons, List.map_nil, List.mem_cons, List.not_mem_nil, or_false] at hd
  rcases hd with rfl | rfl | rfl | rfl | rfl | rfl | rfl
  · exact noLck_str _
  · exact noLck_sts _
  · exact noLck_lns _
  · exact noLck_dic _ _ _ fun l => noLck_str _
  · exact noLck_dic _ _ _ fun l => noLck_str _
  · refine noLck_dic _ _ _ fun h => ?_
    rw [fst_lns]
    exact noLck_sts _
  · refine noLck_dic _ _ _ fun h => ?_
    rw [fst_lns]
    exact noLck_sts _
/-- one of the two ways to list: as it is given, as it is locked, as it is copied -/
inductive Ls (ds : List Dv) : Dv → Ow → Dv → Prop
  | lst : Ls ds (.lst ds) (.nd []) (.lck ds)
  | tup : Ls ds (.tup ds) .sh (.tup ds)
theorem S_law_listed_c {s : Sto} {ds : List Dv} {o : Ow} {Q E} (ho : o.flat = true) (h : ∀ (s' : Sto) (d : Dv) (o' : Ow) (l : Dv), Ls ds d o' l → Q ⟨d, o'⟩ [s'.cl, ⟨.lst ds, o⟩]) : S_law_listed [s.cl, ⟨.lst ds, o⟩] Q E := S_law_listed_i ho fun s' => ⟨h s' _ _ _ .lst, h s' _ _ _ .tup⟩
theorem cpy_str {n : Nat} (x : Str) : cpyD (n + 1) (.str x) (.str x) := .inl ⟨rfl, rfl⟩
theorem cpy_self {n : Nat} {ds : List Dv} (h : ∀ d ∈ ds, cpyD n d d) : ∀ (i : Nat) (x : Dv), ds[i]? = some x → ∃ y, ds[i]? = some y ∧ cpyD n x y := fun i x hx => ⟨x, hx, h x (List.mem_of_getElem? hx)⟩
theorem cpy_Ls {n : Nat} {ds : List Dv} {d l : Dv} {o : Ow} (hl : Ls ds d o l) (hn : ds.length ≤ 90000) (h : ∀ d ∈ ds, cpyD n d d) : cpyD (n + 1) l d := by
  cases hl with
  | lst => exact .inr ⟨ds, ds, rfl, hn, cpy_self h, .inl ⟨.inr rfl, rfl⟩⟩
  | tup => exact .inr ⟨ds, ds, rfl, hn, cpy_self h, .inr ⟨rfl, rfl⟩⟩
theorem cpy_ln {n : Nat} (l : Ln) : cpyD (n + 2) (lnD l) (lnD l) := .inr ⟨[.str l.1, .str l.2.1, .str l.2.2], [.str l.1, .str l.2.1, .str l.2.2], rfl, by show 3 ≤ 90000; decide, cpy_self fun d hd => by
  rw [List.mem_cons, List.mem_cons, List.mem_singleton] at hd
  rcases hd with rfl | rfl | rfl <;> exact cpy_str _, .inr ⟨rfl, rfl⟩⟩
theorem cpy_sts {n : Nat} (us : List Str) : ∀ d ∈ sts us, cpyD (n + 1) d d := fun d hd => by
  obtain ⟨x, _, rfl⟩ := mem_sts hd
  exact cpy_str x
theorem cpy_lns {n : Nat} (ls : List Ln) : ∀ d ∈ lns ls, cpyD (n + 2) d d := fun d hd => by
  obtain ⟨l, _, rfl⟩ := List.mem_map.mp hd
  exact cpy_ln l
theorem same_self {n : Nat} {ds : List Dv} (h : ∀ d ∈ ds, sameD n d d) : ∀ (i : Nat) (x y : Dv), ds[i]? = some x → ds[i]? = some y → sameD n x y := fun i x y hx hy => by
  rw [hx] at hy
  cases hy
  exact h x (List.mem_of_getElem? hx)
theorem same_Ls {n : Nat} {ds : List Dv} {d l : Dv} {o : Ow} (hl : Ls ds d o l) (hn : ds.length ≤ 90000) (h : ∀ d ∈ ds, sameD n d d) : sameD (n + 1) l d := by
  cases hl with
  | lst => exact .inr ⟨ds, ds, rfl, hn, same_self h, .inl ⟨.inr rfl, .inl rfl⟩⟩
  | tup => exact .inr ⟨ds, ds, rfl, hn, same_self h, .inr ⟨rfl, rfl⟩⟩
theorem sam_sts {n : Nat} (us : List Str) : ∀ d ∈ sts us, sameD (n + 1) d d := fun d hd => by
  obtain ⟨x, _, rfl⟩ := mem_sts hd
  exact same_str x
theorem sam_lns {n : Nat} (ls : List Ln) : ∀ d ∈ lns ls, sameD (n + 2) d d := fun d hd => by
  obtain ⟨l, _, rfl⟩ := List.mem_map.mp hd
  exact same_ln l
theorem Ls.seq {ds : List Dv} {d l : Dv} {o : Ow} (h : Ls ds d o l) : SeqD l ds := by cases h <;> constructor
/-- two lists of four, place by place -/
theorem four {P : Dv → Dv → Prop} {a b c d a' b' c' d' : Dv} (h1 : P a a') (h2 : P b b') (h3 : P c c') (h4 : P d d') : ∀ (i : Nat) (x y : Dv), [a, b, c, d][i]? = some x → [a', b', c', d'][i]? = some y → P x y
  | 0, x, y, hx, hy => by cases hx; cases hy; exact h1
  | 1, x, y, hx, hy => by cases hx; cases hy; exact h2
  | 2, x, y, hx, hy => by cases hx; cases hy; exact h3
  | 3, x, y, hx, hy => by cases hx; cases hy; exact h4
  | i + 4, x, y, hx, hy => by cases hx
theorem four_c {P : Dv → Dv → Prop} {a b c d a' b' c' d' : Dv} (h1 : P a a') (h2 : P b b') (h3 : P c c') (h4 : P d d') : ∀ (i : Nat) (x : Dv), [a, b, c, d][i]? = some x → ∃ y, [a', b', c', d'][i]? = some y ∧ P x y
  | 0, x, hx => by cases hx; exact ⟨_, rfl, h1⟩
  | 1, x, hx => by cases hx; exact ⟨_, rfl, h2⟩
  | 2, x, hx => by cases hx; exact ⟨_, rfl, h3⟩
  | 3, x, hx => by cases hx; exact ⟨_, rfl, h4⟩
  | i + 4, x, hx => by cases hx
theorem deep_sts (us : List Str) (h : us.length ≤ 1000) : deepP 2 (.lst (sts us)) (.nd []) 1 :=
  .inr (.inr (.inl ⟨sts us, [], 0, rfl, rfl, by rw [List.length_map]; omega, fun j x hx => .inl (by obtain ⟨y, _, rfl⟩ := mem_sts (List.mem_of_getElem? hx); rfl), by omega⟩))
theorem deep_lns (ls : List Ln) (h : ls.length ≤ 1000) : deepP 2 (.lst (lns ls)) (.nd []) 1 :=
  .inr (.inr (.inl ⟨lns ls, [], 0, rfl, rfl, by rw [List.length_map]; omega, fun j x hx => .inr (.inl (by obtain ⟨l, _, rfl⟩ := List.mem_map.mp (List.mem_of_getElem? hx); exact ⟨_, rfl, rfl⟩)), by omega⟩))
theorem deep_Ls {us : List Str} {d l : Dv} {o : Ow} (hl : Ls (sts us) d o l) (h : us.length ≤ 1000) : deepP 2 d o 1 := by
  cases hl with
  | lst => exact deep_sts us h
  | tup => exact .inr (.inl ⟨_, rfl, all_scal us⟩)
theorem deep_Lls {ls : List Ln} {d l : Dv} {o : Ow} (hl : Ls (lns ls) d o l) (h : ls.length ≤ 1000) : deepP 2 d o 1 := by
  cases hl with
  | lst => exact deep_lns ls h
  | tup =>
    refine .inr (.inr (.inr ⟨rfl, .inr ⟨_, rfl, fun x hx => ?_⟩⟩))
    obtain ⟨l, _, rfl⟩ := List.mem_map.mp hx
    refine .inr ⟨_, rfl, fun y hy => ?_⟩
    rw [List.mem_cons, List.mem_cons, List.mem_singleton] at hy
    rcases hy with rfl | rfl | rfl <;> rfl
theorem twelve {x1 x2 x3 x4 x5 x6 x7 x8 x9 x10 x11 x12 : Dv} {o9 o10 : Ow} (h1 : deepP 2 x1 (.nd []) 1) (h2 : deepP 2 x2 (.nd []) 1) (h3 : deepP 2 x3 (.nd []) 1) (h4 : deepP 2 x4 (.nd []) 1) (h5 : deepP 2 x5 (.nd []) 1) (h6 : deepP 2 x6 (.nd []) 1) (h7 : deepP 2 x7 (.nd []) 1) (h8 : deepP 2 x8 (.nd []) 1) (h9 : deepP 2 x9 o9 1) (h10 : deepP 2 x10 o10 1) (h11 : deepP 2 x11 (.nd []) 1) (h12 : deepP 2 x12 (.nd []) 1) :
    deepP 3 (.lst [x1, x2, x3, x4, x5, x6, x7, x8, x9, x10, x11, x12]) (.nd [.nd [], .nd [], .nd [], .nd [], .nd [], .nd [], .nd [], .nd [], o9, o10, .nd [], .nd []]) 80000 := by
  refine .inr (.inr (.inl ⟨_, _, 1, rfl, rfl, by simp, fun j x hx => ?_, by simp⟩))
  match j, hx with
  | 0, hx => cases hx; exact h1
  | 1, hx => cases hx; exact h2
  | 2, hx => cases hx; exact h3
  | 3, hx => cases hx; exact h4
  | 4, hx => cases hx; exact h5
  | 5, hx => cases hx; exact h6
  | 6, hx => cases hx; exact h7
  | 7, hx => cases hx; exact h8
  | 8, hx => cases hx; exact h9
  | 9, hx => cases hx; exact h10
  | 10, hx => cases hx; exact h11
  | 11, hx => cases hx; exact h12
  | j + 12, hx => simp at hx
theorem WOk.cutO {w : Wd} (hw : WOk w) : WOk ⟨w.home, w.oth, []⟩ := ⟨hw.nm, hw.nd, hw.ol, Nat.zero_le _, fun l hl => (nomatch hl), fun l hl => (nomatch hl), List.nodup_nil⟩
theorem WOk.cutA {w : Wd} (hw : WOk w) : WOk ⟨w.home, [], []⟩ := ⟨fun x hx => hw.nm x (by rw [List.mem_singleton] at hx; rw [hx]; exact List.mem_cons_self), by simp, Nat.zero_le _, Nat.zero_le _, fun l hl => (nomatch hl), fun l hl => (nomatch hl), List.nodup_nil⟩
theorem net_mix {w : Wd} (hw : WOk w) {us : List Str} {ks : List Ln} (hu : us.Perm w.oth) (hk : ks.Perm w.rows) : (⟨w.home, us, ks⟩ : Wd).net = w.net := by
  have e1 : srtS (w.home :: us) = srtS (w.home :: w.oth) := srtS_eq (hu.cons _)
  have e2 : srtL ks = srtL w.rows := srtL_eq ((hk.map _).nodup_iff.mpr hw.rd) hk
  unfold Wd.net netF
  rw [e1, e2]
theorem S_Net_init_e {w v : Wd} {x y : Dv} {o1 o2 : Ow} {Q E} (hn : w.net = v.net) (h1 : SeqD x (sts w.oth)) (h2 : SeqD y (lns w.rows)) (hw : WOk w) (h : Q cN [⟨v.net, .nd []⟩, cS w.home, ⟨x, .sh⟩, ⟨y, .sh⟩]) : S_Net_init [⟨.ins "Net" [], .nd []⟩, cS w.home, ⟨x, o1⟩, ⟨y, o2⟩] Q E := S_Net_init_i h1 h2 hw (by rw [hn]; exact h)
theorem al_oth {w : Wd} (h : ((sts w.oth).length : Int) > 0) : alW ⟨w.home, [], []⟩ ⟨w.home, w.oth, []⟩ = false := by
  have hn : srtS ([] : List Str) ≠ srtS w.oth := fun e => by
    have := congrArg List.length e
    rw [(srtS_perm _).length_eq, (srtS_perm _).length_eq] at this
    rw [List.length_map, ← this] at h
    exact absurd h (by decide)
  unfold alW
  rw [decide_eq_false hn]
  simp
theorem al_rows {w : Wd} (h : ((lns w.rows).length : Int) > 0) : alW ⟨w.home, w.oth, []⟩ w = false := by
  have hn : srtL ([] : List Ln) ≠ srtL w.rows := fun e => by
    have := congrArg List.length e
    rw [(srtL_perm _).length_eq, (srtL_perm _).length_eq] at this
    rw [List.length_map, ← this] at h
    exact absurd h (by decide)
  unfold alW
  rw [decide_eq_false hn]
  simp
@[irreducible] def S_law : SF := fun cs Q _ => ∃ ns : List Int, cs = [⟨.scr ns, .sh⟩] ∧ ns.length ≤ 1000 ∧ Q (cB true) cs
/-- law: slots _law_script _law_store_here _law_world_here _law_house _law_other _law_given _law_kept _law_net _law_beside _law_told _law_twin _law_alone _law_bare -/
def w_law : WS := (wSeq (wNfS (wAsg 1 (wNf (wCall S_law_store [] (waCons (wVar 0) waNil)))))
  (wSeq (wNfS (wAsg 2 (wNf (wCall S_law_world [] (waCons (wVar 1) (waCons (wC (.int 12)) (waCons (wC (.int 30)) waNil)))))))
  (wSeqC (wIf (wTB (wNf (wCall S_law_odds [] (waCons (wVar 1) (waCons (wC (.int 8)) waNil))))) (wNfS (wAsg 2 (wNf (wCall S_law_full [] (waCons (wVar 1) (waCons (wVar 2) waNil)))))) wNext)
  (wSeqC (wIf (wAndT (wTB (w2 gLt (wN gLen (waCons (w2 gIx (wVar 2) (wC (.int 1))) waNil)) (wC (.int 11)))) (wTB (wNf (wCall S_law_odds [] (waCons (wVar 1) (waCons (wC (.int 6)) waNil)))))) (wSeq (wNfS (wAsg 3 (wNf (wCall S_law_fresh [] (waCons (wNf (wCall S_law_free_name [] (waCons (wVar 1) (waCons (wC (.int 8)) waNil)))) (waCons (wNf (wCall S_law_houses [] (waCons (wVar 2) waNil))) waNil))))))
  (wNfS (wAsg 2 (wTup (waCons (wSh (w2 gIx (wVar 2) (wC (.int 0)))) (waCons (wSh (wNf (wCall S_law_put [] (waCons (wVar 1) (waCons (w2 gIx (wVar 2) (wC (.int 1))) (waCons (wVar 3) waNil)))))) (waCons (wSh (w2 gIx (wVar 2) (wC (.int 2)))) waNil))))))) wNext)
  (wSeq (wNfS (wAsg 4 (wNf (wCall S_law_near_world [] (waCons (wVar 1) (waCons (wVar 2) waNil))))))
  (wSeq (wNfS (wAsg 5 (wLst (waCons (wFz (wNf (wCall S_law_listed [] (waCons (wVar 1) (waCons (w2 gIx (wVar 2) (wC (.int 1))) waNil))))) (waCons (wFz (wNf (wCall S_law_listed [] (waCons (wVar 1) (waCons (w2 gIx (wVar 2) (wC (.int 2))) waNil))))) (waCons (wFz (wN gList (waCons (w2 gIx (wVar 4) (wC (.int 1))) waNil))) (waCons (wFz (wN gList (waCons (w2 gIx (wVar 4) (wC (.int 2))) waNil))) waNil)))))))
  (wSeq (wNfS (wAsg 6 (wBor (wNf (wCall (S_copy 4) [] (waCons (wVar 5) waNil))))))
  (wSeq (wNfS (wAsg 7 (wBor (wNf (wMake "Net" S_Net_init [] (waCons (w2 gIx (wVar 2) (wC (.int 0))) (waCons (w2 gIx (wVar 5) (wC (.int 0))) (waCons (w2 gIx (wVar 5) (wC (.int 1))) waNil))))))))
  (wSeq (wNfS (wAsg 8 (wBor (wNf (wMake "Net" S_Net_init [] (waCons (w2 gIx (wVar 4) (wC (.int 0))) (waCons (w2 gIx (wVar 5) (wC (.int 2))) (waCons (w2 gIx (wVar 5) (wC (.int 3))) waNil))))))))
  (wSeq (wIf (wOrT (wNotT (wTB (wNf (wCall S_law_is_world [] (waCons (wVar 7) (waCons (wVar 2) waNil)))))) (wOrT (wNotT (wTB (wNf (wCall S_law_is_world [] (waCons (wVar 8) (waCons (wVar 4) waNil)))))) (wNotT (wTB (wBor (wNf (wCall (S_same 6) [] (waCons (wVar 5) (waCons (wVar 6) waNil))))))))) (wRet (wC (.bl false))) wNext)
  (wSeq (wNfS (wAsg 9 (wLst (waCons (wFz (wNf (wProp "Net" S_Net_houses (wVar 7)))) (waCons (wFz (wNf (wProp "Net" S_Net_others (wVar 7)))) (waCons (wFz (wNf (wProp "Net" S_Net_lines (wVar 7)))) (waCons (wFz (wNf (wProp "Net" S_Net_line_names (wVar 7)))) (waCons (wFz (wNf (wProp "Net" S_Net_houses (wVar 8)))) (waCons (wFz (wNf (wProp "Net" S_Net_others (wVar 8)))) (waCons (wFz (wNf (wProp "Net" S_Net_lines (wVar 8)))) waNil))))))))))
  (wSeq (wIf (wNotT (wTB (wSpoilT 3 (wCat (wCat (wMov 9) (wLst (waCons (wFz (wNf (wProp "Net" S_Net_line_names (wVar 8)))) waNil))) (wMov 5))))) (wRet (wC (.bl false))) wNext)
  (wSeq (wNfS (wAsg 10 (wNf (wMake "Net" S_Net_init [] (waCons (w2 gIx (wVar 2) (wC (.int 0))) (waCons (wN gTuple (waCons (wNf (wCall S_law_shuffled [] (waCons (wVar 1) (waCons (w2 gIx (wVar 2) (wC (.int 1))) waNil)))) waNil)) (waCons (wNf (wCall S_law_shuffled [] (waCons (wVar 1) (waCons (w2 gIx (wVar 2) (wC (.int 2))) waNil)))) waNil)))))))
  (wSeq (wIf (wOrT (wNotT (wTB (wNf (wCall S_law_is_world [] (waCons (wVar 10) (waCons (wVar 2) waNil)))))) (wNotT (wTB (wNf (wCall S_law_compared [] (waCons (wVar 7) (waCons (wVar 10) (waCons (wVar 8) (waCons (wVar 2) (waCons (wVar 4) waNil)))))))))) (wRet (wC (.bl false))) wNext)
  (wSeq (wNfS (wAsg 11 (wNf (wMake "Net" S_Net_init [⟨.tup [], .sh⟩, ⟨.tup [], .sh⟩] (waCons (w2 gIx (wVar 2) (wC (.int 0))) waNil)))))
  (wSeq (wNfS (wAsg 12 (wNf (wMake "Net" S_Net_init [⟨.tup [], .sh⟩] (waCons (w2 gIx (wVar 2) (wC (.int 0))) (waCons (wN gList (waCons (w2 gIx (wVar 2) (wC (.int 1))) waNil)) waNil))))))
  (wSeq (wIf (wOrT (wNotT (wTB (wNf (wCall S_law_is_world [] (waCons (wVar 11) (waCons (wTup (waCons (wSh (w2 gIx (wVar 2) (wC (.int 0)))) (waCons (wSh (wLst waNil)) (waCons (wSh (wLst waNil)) waNil)))) waNil)))))) (wNotT (wTB (wNf (wCall S_law_is_world [] (waCons (wVar 12) (waCons (wTup (waCons (wSh (w2 gIx (wVar 2) (wC (.int 0)))) (waCons (wSh (w2 gIx (wVar 2) (wC (.int 1)))) (waCons (wSh (wLst waNil)) waNil)))) waNil))))))) (wRet (wC (.bl false))) wNext)
  (wSeq (wIf (wOrT (wAndT (wTB (w2 gGt (wN gLen (waCons (w2 gIx (wVar 2) (wC (.int 1))) waNil)) (wC (.int 0)))) (wTB (wNf (wEqO "Net" S_Net_eq (wVar 11) (wVar 12))))) (wAndT (wTB (w2 gGt (wN gLen (waCons (w2 gIx (wVar 2) (wC (.int 2))) waNil)) (wC (.int 0)))) (wTB (wNf (wEqO "Net" S_Net_eq (wVar 12) (wVar 7)))))) (wRet (wC (.bl false))) wNext)
  (wRet (wAndV (wNf (wCall S_law_is_world [] (waCons (wVar 7) (waCons (wVar 2) waNil)))) (wNf (wCall S_law_is_world [] (waCons (wVar 8) (waCons (wVar 4) waNil))))))))))))))))))))))))
theorem pure_law : ∀ cs Q E, S_law cs Q E → cs.length = 1 ∧ w_law (fnWD [0] cs Q E) (env0 [0] 13 cs) := by
  intro cs Q E h
  unfold S_law at h
  obtain ⟨ns, rfl, hns, hQ⟩ := h
  refine ⟨rfl, ?_⟩
  walk_at "go"
  refine S_law_store_i hns fun s0 => ?_
  walk_at "go"
  refine S_law_world_i fun s1 w0 hw0 => ?_
  walk_at "go"
  refine ⟨fun e => ∃ (s : Sto) (w : Wd), e = [some ⟨.scr ns, .sh⟩, some s.cl, some ⟨w.d, .sh⟩, none, none, none, none, none, none, none, none, none, none] ∧ WOk w, ?_, ?_⟩
  · walk_at "go"
    refine S_law_odds_i (by decide) fun s2 b => ?_
    walk_at "go"
    refine ite_b (fun _ => ?_) fun _ => ?_
    · walk_at "go"
      refine S_law_full_i hw0 fun s3 w hw => ?_
      walk_at "go"
      exact ⟨s3, w, rfl, hw⟩
    · exact ⟨s2, w0, rfl, hw0⟩
  clear hw0
  rintro e ⟨s2, w1, rfl, hw1⟩
  refine ⟨fun e => ∃ (s : Sto) (w : Wd) (x3 : Option Cl), e = [some ⟨.scr ns, .sh⟩, some s.cl, some ⟨w.d, .sh⟩, x3, none, none, none, none, none, none, none, none, none] ∧ WOk w, ?_, ?_⟩
  · have hol := hw1.ol
    have l0 : (sts w1.oth).length = w1.oth.length := List.length_map ..
    walk_at "go"
    refine ite_d (fun c1 => ?_) fun _ => ?_
    rotate_left
    · exact ⟨s2, w1, none, rfl, hw1⟩
    walk_at "go"
    refine S_law_odds_i (by decide) fun s3 b => ?_
    walk_at "go"
    refine ite_b (fun _ => ?_) fun _ => ?_
    rotate_left
    · exact ⟨s3, w1, none, rfl, hw1⟩
    walk_at "go"
    refine S_law_free_name_i (by decide) (by decide) fun s4 x hx => ?_
    walk_at "go"
    refine S_law_houses_i hw1 ?_
    walk_at "go"
    refine S_law_fresh_i (us := srtS (w1.home :: w1.oth)) (o := .nd []) rfl (by rw [(srtS_perm _).length_eq, List.length_cons]; omega) hx fun y hy hyn => ?_
    have hyn2 : y ∉ w1.home :: w1.oth := fun h => hyn ((srtS_perm _).mem_iff.mpr h)
    walk_at "go"
    refine S_law_put_i (ds := sts w1.oth) (d := .str y) (o := .sh) rfl (by omega) fun s5 xs hxs => ?_
    obtain ⟨vs, rfl, hv⟩ := perm_map (zs := y :: w1.oth) hxs rfl
    walk_at "go"
    exact ⟨s5, ⟨w1.home, vs, w1.rows⟩, some (cS y), rfl, hw1.put hv (fun x hx => hx) (List.nodup_cons.mp hw1.nd).2 (by omega) hy hyn2 hw1.re⟩
  clear hw1
  rintro e ⟨s3, w, x3, rfl, hw⟩
  walk_at "go"
  refine S_law_near_world_i hw fun s4 v hv => ?_
  walk_at "go"
  refine S_law_listed_c (ds := sts w.oth) (o := .sh) rfl fun s5 d1 o1 l1 hl1 => ?_
  walk_at "go"
  refine S_law_listed_c (ds := lns w.rows) (o := .sh) rfl fun s6 d2 o2 l2 hl2 => ?_
  have hwo := hw.ol
  have hwr := hw.rl
  have hvo := hv.ol
  have hvr := hv.rl
  have q1 : (sts w.oth).length ≤ 90000 := by rw [List.length_map]; omega
  have q2 : (lns w.rows).length ≤ 90000 := by rw [List.length_map]; omega
  have q3 : (sts v.oth).length ≤ 90000 := by rw [List.length_map]; omega
  have q4 : (lns v.rows).length ≤ 90000 := by rw [List.length_map]; omega
  have c1 : cpyD 3 l1 d1 := cpy_Ls hl1 q1 (cpy_sts _)
  have c2 : cpyD 3 l2 d2 := cpy_Ls hl2 q2 (cpy_lns _)
  have c3 : cpyD 3 (.lck (sts v.oth)) (.lst (sts v.oth)) := cpy_Ls .lst q3 (cpy_sts _)
  have c4 : cpyD 3 (.lck (lns v.rows)) (.lst (lns v.rows)) := cpy_Ls .lst q4 (cpy_lns _)
  have cc : cpyD 4 (.lck [l1, l2, .lck (sts v.oth), .lck (lns v.rows)]) (.lst [d1, d2, .lst (sts v.oth), .lst (lns v.rows)]) := .inr ⟨[l1, l2, .lck (sts v.oth), .lck (lns v.rows)], [d1, d2, .lst (sts v.oth), .lst (lns v.rows)], rfl, by show 4 ≤ 90000; decide, four_c c1 c2 c3 c4, .inl ⟨.inr rfl, rfl⟩⟩
  have b1 : sameD 5 l1 d1 := same_Ls hl1 q1 (sam_sts _)
  have b2 : sameD 5 l2 d2 := same_Ls hl2 q2 (sam_lns _)
  have b3 : sameD 5 (.lck (sts v.oth)) (.lst (sts v.oth)) := same_Ls .lst q3 (sam_sts _)
  have b4 : sameD 5 (.lck (lns v.rows)) (.lst (lns v.rows)) := same_Ls .lst q4 (sam_lns _)
  have bb : sameD 6 (.lck [l1, l2, .lck (sts v.oth), .lck (lns v.rows)]) (.lck [d1, d2, .lst (sts v.oth), .lst (lns v.rows)]) := .inr ⟨[l1, l2, .lck (sts v.oth), .lck (lns v.rows)], [d1, d2, .lst (sts v.oth), .lst (lns v.rows)], rfl, by show 4 ≤ 90000; decide, four b1 b2 b3 b4, .inl ⟨.inr rfl, .inr rfl⟩⟩
  have n1 : noLck d1 = true := by cases hl1 <;> first | exact noLck_sts _ | exact noLck_tsts _
  have n2 : noLck d2 = true := by cases hl2 <;> first | exact noLck_lns _ | exact noLck_tlns _
  have nn : noLck (.lst [d1, d2, .lst (sts v.oth), .lst (lns v.rows)]) = true := by
    unfold noLck
    refine noLcks_of fun d hd => ?_
    simp only [List.mem_cons, List.not_mem_nil, or_false] at hd
    rcases hd with rfl | rfl | rfl | rfl
    · exact n1
    · exact n2
    · exact noLck_sts _
    · exact noLck_lns _
  have dp1 := deep_Ls hl1 (by omega)
  have dp2 := deep_Lls hl2 (by omega)
  have sq1 := hl1.seq
  have sq2 := hl2.seq
  have s1 := srtS_perm (w.home :: w.oth)
  have g1 : (srtS (w.home :: w.oth)).length ≤ 1000 := by rw [(srtS_perm _).length_eq, List.length_cons]; omega
  have g2 : (srtS w.oth).length ≤ 1000 := by rw [(srtS_perm _).length_eq]; omega
  have g3 : (srtL w.rows).length ≤ 1000 := by rw [(srtL_perm _).length_eq]; omega
  have g4 : (srtS (w.rows.map (·.1))).length ≤ 1000 := by rw [(srtS_perm _).length_eq, List.length_map]; omega
  have f1 : (srtS (v.home :: v.oth)).length ≤ 1000 := by rw [(srtS_perm _).length_eq, List.length_cons]; omega
  have f2 : (srtS v.oth).length ≤ 1000 := by rw [(srtS_perm _).length_eq]; omega
  have f3 : (srtL v.rows).length ≤ 1000 := by rw [(srtL_perm _).length_eq]; omega
  have f4 : (srtS (v.rows.map (·.1))).length ≤ 1000 := by rw [(srtS_perm _).length_eq, List.length_map]; omega
  have dp3 := deep_sts v.oth (by omega)
  have dp4 := deep_lns v.rows (by omega)
  have dd := twelve (deep_sts _ g1) (deep_sts _ g2) (deep_lns _ g3) (deep_sts _ g4) (deep_sts _ f1) (deep_sts _ f2) (deep_lns _ f3) (deep_sts _ f4) dp1 dp2 dp3 dp4
  have hw0 := hw.cutA
  have hw1 := hw.cutO
  have a1 := isIns_net (netF w)
  have a2 := isIns_net (netF ⟨w.home, [], []⟩)
  have a3 := isIns_net (netF ⟨w.home, w.oth, []⟩)
  have a4 := kindOk_net (netF w)
  have a5 := kindOk_net (netF ⟨w.home, w.oth, []⟩)
  have nw := noLck_net w
  have nv := noLck_net v
  cases hl1 <;> cases hl2
  all_goals
    walk_at "go"
    refine S_copy_i cc ?_
    refine ⟨rfl, nn, ?_⟩
    walk_at "go"
    refine S_Net_init_i (w := w) sq1 sq2 hw ?_
    refine ⟨rfl, rfl, nw, ?_⟩
    walk_at "go"
    refine S_Net_init_i (w := v) (.lck _) (.lck _) hv ?_
    refine ⟨rfl, rfl, nv, ?_⟩
    walk_at "go"
    refine S_law_is_world_i hw ?_
    walk_at "go"
    refine S_law_is_world_i hv ?_
    walk_at "go"
    refine S_same_i bb ?_
    refine ⟨rfl, rfl, ?_⟩
    walk_at "go"
    refine S_Net_houses_i ?_
    walk_at "go"
    refine S_Net_others_i hw ?_
    walk_at "go"
    refine S_Net_lines_i ?_
    walk_at "go"
    refine S_Net_line_names_i hw ?_
    walk_at "go"
    refine S_Net_houses_i ?_
    walk_at "go"
    refine S_Net_others_i hv ?_
    walk_at "go"
    refine S_Net_lines_i ?_
    walk_at "go"
    refine S_Net_line_names_i hv ?_
    walk_at "go"
    refine ⟨_, _, _, _, rfl, rfl, Nat.le_of_ble_eq_true rfl, ?_⟩
    walk_at "go"
    refine ⟨_, _, _, _, rfl, rfl, Nat.le_of_ble_eq_true rfl, ?_⟩
    refine ⟨⟨_, _, rfl⟩, dd, ?_⟩
    walk_at "go"
    refine S_law_shuffled_i (ds := sts w.oth) (o := .sh) rfl q1 fun s7 xs hxs => ?_
    obtain ⟨us, rfl, hu⟩ := perm_map (zs := w.oth) hxs rfl
    walk_at "go"
    refine S_law_shuffled_i (ds := lns w.rows) (o := .sh) rfl q2 fun s8 ys hys => ?_
    obtain ⟨ks, rfl, hk⟩ := perm_map (zs := w.rows) hys rfl
    walk_at "go"
    refine S_Net_init_e (w := ⟨w.home, us, ks⟩) (v := w) (net_mix hw hu hk) (.tup _) (.lst _) (hw.mix hu hk) ?_
    refine ⟨rfl, ?_⟩
    walk_at "go"
    refine S_law_is_world_i hw ?_
    walk_at "go"
    refine S_law_compared_i hw hv ?_
    walk_at "go"
    refine S_Net_init_i (w := ⟨w.home, [], []⟩) (.tup []) (.tup []) hw0 ?_
    refine ⟨rfl, ?_⟩
    walk_at "go"
    refine S_Net_init_i (w := ⟨w.home, w.oth, []⟩) (.lst _) (.tup []) hw1 ?_
    refine ⟨rfl, ?_⟩
    walk_at "go"
    refine S_law_is_world_i (w := ⟨w.home, [], []⟩) hw0 ?_
    walk_at "go"
    refine S_law_is_world_i (w := ⟨w.home, w.oth, []⟩) hw1 ?_
    walk_at "go"
    refine ite_sh ?_ fun p1 rest => ?_
    rotate_left
    · walk_at "go"
      refine ⟨⟨_, _, rfl, a2, a5⟩, ?_⟩
      refine S_Net_eq_i (w := ⟨w.home, [], []⟩) (v := ⟨w.home, w.oth, []⟩) (b := false) (al_oth p1) hw0 hw1 ?_
      exact ⟨⟨_, rfl⟩, rest⟩
    walk_at "go"
    refine ite_sh ?_ fun p2 rest => ?_
    rotate_left
    · walk_at "go"
      refine ⟨⟨_, _, rfl, a3, a4⟩, ?_⟩
      refine S_Net_eq_i (w := ⟨w.home, w.oth, []⟩) (v := w) (b := false) (al_rows p2) hw1 hw ?_
      exact ⟨⟨_, rfl⟩, rest⟩
    walk_at "go"
    refine S_law_is_world_i hw ?_
    walk_at "go"
    refine S_law_is_world_i hv ?_
    exact hQ
end Py
set_option Elab.async false
set_option linter.all false
set_option maxRecDepth 100000
set_option maxHeartbeats 400000
namespace Py
open PySem PySem.Spec PyProof.Rows L2
def top (i : Nat) : Stmt := PySem.Challenge.pw_markshome_k02_net_tells_its_parts.main.body.getD i (.Pass ⟨0, 0, 0, 0⟩)
abbrev st_law_mixed : Stmt := top 22
abbrev NN_law_mixed : List Str := ["_law_state", "_law_turn", "_law_many", "_law_number", "_law_k", "_law_first", "_law_second", "_law_third"]
abbrev d_law_mixed : He5.DefA := ⟨fun K => He.ga K "_law_mixed", "_law_mixed", "_law_mixed", defArgs st_law_mixed, defBody st_law_mixed, defScope st_law_mixed, [], []⟩
abbrev st_law_store : Stmt := top 23
abbrev NN_law_store : List Str := ["_law_script", "_law_state", "_law_cell"]
abbrev d_law_store : He5.DefA := ⟨fun K => He.ga K "_law_store", "_law_store", "_law_store", defArgs st_law_store, defBody st_law_store, defScope st_law_store, [], []⟩
abbrev st_law_advance : Stmt := top 24
abbrev NN_law_advance : List Str := ["_law_store_here", "_law_cells", "_law_place", "_law_cell"]
abbrev d_law_advance : He5.DefA := ⟨fun K => He.ga K "_law_advance", "_law_advance", "_law_advance", defArgs st_law_advance, defBody st_law_advance, defScope st_law_advance, [], []⟩
abbrev st_law_take : Stmt := top 25
abbrev NN_law_take : List Str := ["_law_store_here", "_law_many", "_law_size_here", "_law_number"]
abbrev d_law_take : He5.DefA := ⟨fun K => He.ga K "_law_take", "_law_take", "_law_take", defArgs st_law_take, defBody st_law_take, defScope st_law_take, [], []⟩
abbrev st_law_size : Stmt := top 28
abbrev NN_law_size : List Str := ["_law_store_here", "_law_usual", "_law_most", "_law_kind", "_law_top"]
abbrev d_law_size : He5.DefA := ⟨fun K => He.ga K "_law_size", "_law_size", "_law_size", defArgs st_law_size, defBody st_law_size, defScope st_law_size, [], []⟩
abbrev st_law_odds : Stmt := top 27
abbrev NN_law_odds : List Str := ["_law_store_here", "_law_part"]
abbrev d_law_odds : He5.DefA := ⟨fun K => He.ga K "_law_odds", "_law_odds", "_law_odds", defArgs st_law_odds, defBody st_law_odds, defScope st_law_odds, [], []⟩
abbrev st_law_shuffled : Stmt := top 29
abbrev NN_law_shuffled : List Str := ["_law_store_here", "_law_items", "_law_rest", "_law_found", "_law_k"]
abbrev d_law_shuffled : He5.DefA := ⟨fun K => He.ga K "_law_shuffled", "_law_shuffled", "_law_shuffled", defArgs st_law_shuffled, defBody st_law_shuffled, defScope st_law_shuffled, [], []⟩
abbrev st_law_tree_pairs : Stmt := top 40
abbrev NN_law_tree_pairs : List Str := ["_law_store_here", "_law_n", "_law_narrow", "_law_kind", "_law_inside", "_law_pairs", "_law_house", "_law_head"]
abbrev d_law_tree_pairs : He5.DefA := ⟨fun K => He.ga K "_law_tree_pairs", "_law_tree_pairs", "_law_tree_pairs", defArgs st_law_tree_pairs, defBody st_law_tree_pairs, defScope st_law_tree_pairs, [], []⟩
abbrev st_law_free_pairs : Stmt := top 39
abbrev NN_law_free_pairs : List Str := ["_law_store_here", "_law_n", "_law_many", "_law_pairs", "_law_k", "_law_tail", "_law_head", "_law_kind"]
abbrev d_law_free_pairs : He5.DefA := ⟨fun K => He.ga K "_law_free_pairs", "_law_free_pairs", "_law_free_pairs", defArgs st_law_free_pairs, defBody st_law_free_pairs, defScope st_law_free_pairs, [], []⟩
abbrev st_law_shape : Stmt := top 41
abbrev NN_law_shape : List Str := ["_law_store_here", "_law_most", "_law_room", "_law_plan", "_law_n", "_law_pairs", "_law_many", "_law_k", "_law_tail", "_law_half", "_law_pair"]
abbrev d_law_shape : He5.DefA := ⟨fun K => He.ga K "_law_shape", "_law_shape", "_law_shape", defArgs st_law_shape, defBody st_law_shape, defScope st_law_shape, [], []⟩
abbrev st_law_free_name : Stmt := top 32
abbrev NN_law_free_name : List Str := ["_law_store_here", "_law_most", "_law_size_here", "_law_number", "_law_name", "_law_k"]
abbrev d_law_free_name : He5.DefA := ⟨fun K => He.ga K "_law_free_name", "_law_free_name", "_law_free_name", defArgs st_law_free_name, defBody st_law_free_name, defScope st_law_free_name, [], []⟩
abbrev st_law_pick : Stmt := top 26
abbrev NN_law_pick : List Str := ["_law_store_here", "_law_items"]
abbrev d_law_pick : He5.DefA := ⟨fun K => He.ga K "_law_pick", "_law_pick", "_law_pick", defArgs st_law_pick, defBody st_law_pick, defScope st_law_pick, [], []⟩
abbrev st_law_fresh : Stmt := top 33
abbrev NN_law_fresh : List Str := ["_law_name", "_law_used", "_law_k"]
abbrev d_law_fresh : He5.DefA := ⟨fun K => He.ga K "_law_fresh", "_law_fresh", "_law_fresh", defArgs st_law_fresh, defBody st_law_fresh, defScope st_law_fresh, [], []⟩
abbrev st_law_names : Stmt := top 34
abbrev NN_law_names : List Str := ["_law_store_here", "_law_many", "_law_used", "_law_most", "_law_style", "_law_stem", "_law_place", "_law_taken", "_law_found", "_law_k", "_law_name"]
abbrev d_law_names : He5.DefA := ⟨fun K => He.ga K "_law_names", "_law_names", "_law_names", defArgs st_law_names, defBody st_law_names, defScope st_law_names, [], []⟩
abbrev st_law_named : Stmt := top 42
abbrev NN_law_named : List Str := ["_law_store_here", "_law_n", "_law_pairs", "_law_shun", "_law_most", "_law_names_here", "_law_lent", "_law_lines", "_law_k", "_law_name"]
abbrev d_law_named : He5.DefA := ⟨fun K => He.ga K "_law_named", "_law_named", "_law_named", defArgs st_law_named, defBody st_law_named, defScope st_law_named, [], []⟩
abbrev st_law_world : Stmt := top 43
abbrev NN_law_world : List Str := ["_law_store_here", "_law_most", "_law_room", "_law_n", "_law_pairs"]
abbrev d_law_world : He5.DefA := ⟨fun K => He.ga K "_law_world", "_law_world", "_law_world", defArgs st_law_world, defBody st_law_world, defScope st_law_world, [], []⟩
abbrev st_law_put : Stmt := top 30
abbrev NN_law_put : List Str := ["_law_store_here", "_law_items", "_law_item", "_law_place"]
abbrev d_law_put : He5.DefA := ⟨fun K => He.ga K "_law_put", "_law_put", "_law_put", defArgs st_law_put, defBody st_law_put, defScope st_law_put, [], []⟩
abbrev st_law_full : Stmt := top 47
abbrev NN_law_full : List Str := ["_law_store_here", "_law_world_here", "_law_home", "_law_others", "_law_lines", "_law_k", "_law_houses_here", "_law_name", "_law_line"]
abbrev d_law_full : He5.DefA := ⟨fun K => He.ga K "_law_full", "_law_full", "_law_full", defArgs st_law_full, defBody st_law_full, defScope st_law_full, [], []⟩
abbrev st_law_houses : Stmt := top 44
abbrev NN_law_houses : List Str := ["_law_world_here"]
abbrev d_law_houses : He5.DefA := ⟨fun K => He.ga K "_law_houses", "_law_houses", "_law_houses", defArgs st_law_houses, defBody st_law_houses, defScope st_law_houses, [], []⟩
abbrev st_law_near_world : Stmt := top 48
abbrev NN_law_near_world : List Str := ["_law_store_here", "_law_world_here", "_law_home", "_law_others", "_law_lines", "_law_houses_here", "_law_kind", "_law_free", "_law_gone", "_law_rest", "_law_other", "_law_name", "_law_tail", "_law_head", "_law_line"]
abbrev d_law_near_world : He5.DefA := ⟨fun K => He.ga K "_law_near_world", "_law_near_world", "_law_near_world", defArgs st_law_near_world, defBody st_law_near_world, defScope st_law_near_world, [], []⟩
abbrev st_law_listed : Stmt := top 31
abbrev NN_law_listed : List Str := ["_law_store_here", "_law_items"]
abbrev d_law_listed : He5.DefA := ⟨fun K => He.ga K "_law_listed", "_law_listed", "_law_listed", defArgs st_law_listed, defBody st_law_listed, defScope st_law_listed, [], []⟩
abbrev st_law_copy : Stmt := top 36
abbrev NN_law_copy : List Str := ["_law_value", "_law_found", "_law_label", "_law_item"]
abbrev d_law_copy : He5.DefA := ⟨fun K => He.ga K "_law_copy", "_law_copy", "_law_copy", defArgs st_law_copy, defBody st_law_copy, defScope st_law_copy, [], []⟩
abbrev st_is_name : Stmt := top 14
abbrev NN_is_name : List Str := ["value", "sign"]
abbrev d_is_name : He5.DefA := ⟨fun K => He.ga K "is_name", "is_name", "is_name", defArgs st_is_name, defBody st_is_name, defScope st_is_name, [], []⟩
abbrev st_check_names : Stmt := top 16
abbrev NN_check_names : List Str := ["home", "houses", "lines", "house", "line", "word"]
abbrev d_check_names : He5.DefA := ⟨fun K => He.ga K "check_names", "check_names", "check_names", defArgs st_check_names, defBody st_check_names, defScope st_check_names, [], []⟩
abbrev st_check_sizes : Stmt := top 17
abbrev NN_check_sizes : List Str := ["houses", "lines"]
abbrev d_check_sizes : He5.DefA := ⟨fun K => He.ga K "check_sizes", "check_sizes", "check_sizes", defArgs st_check_sizes, defBody st_check_sizes, defScope st_check_sizes, [], []⟩
abbrev st_check_repeats : Stmt := top 18
abbrev NN_check_repeats : List Str := ["names", "present", "seen", "name"]
abbrev d_check_repeats : He5.DefA := ⟨fun K => He.ga K "check_repeats", "check_repeats", "check_repeats", defArgs st_check_repeats, defBody st_check_repeats, defScope st_check_repeats, [], []⟩
abbrev st_check_ends : Stmt := top 19
abbrev NN_check_ends : List Str := ["lines", "houses", "line", "house"]
abbrev d_check_ends : He5.DefA := ⟨fun K => He.ga K "check_ends", "check_ends", "check_ends", defArgs st_check_ends, defBody st_check_ends, defScope st_check_ends, [], []⟩
abbrev st_Net_init : Stmt := inCls (top 20) 0
abbrev NN_Net_init : List Str := ["self", "home", "houses", "lines", "all_houses", "rows", "row", "house", "line", "name", "tail", "head"]
abbrev d_Net_init : He5.DefA := ⟨fun K => He.ma K (He.ga K "Net") "__init__", "__init__", "Net.__init__", defArgs st_Net_init, defBody st_Net_init, defScope st_Net_init, [.adr (He.dflAt ("Net", some "__init__") 0), .adr (He.dflAt ("Net", some "__init__") 1)], []⟩
abbrev st_Net_home : Stmt := inCls (top 20) 1
abbrev NN_Net_home : List Str := ["self"]
abbrev d_Net_home : He5.DefA := ⟨fun K => prG K "Net" "home", "home", "Net.home", defArgs st_Net_home, defBody st_Net_home, defScope st_Net_home, [], []⟩
abbrev st_law_same : Stmt := top 35
abbrev NN_law_same : List Str := ["_law_told", "_law_due", "_law_labels", "_law_label", "_law_k"]
abbrev d_law_same : He5.DefA := ⟨fun K => He.ga K "_law_same", "_law_same", "_law_same", defArgs st_law_same, defBody st_law_same, defScope st_law_same, [], []⟩
abbrev st_Net_houses : Stmt := inCls (top 20) 2
abbrev NN_Net_houses : List Str := ["self"]
abbrev d_Net_houses : He5.DefA := ⟨fun K => prG K "Net" "houses", "houses", "Net.houses", defArgs st_Net_houses, defBody st_Net_houses, defScope st_Net_houses, [], []⟩
abbrev st_Net_others : Stmt := inCls (top 20) 3
abbrev NN_Net_others : List Str := ["self", "house"]
abbrev d_Net_others : He5.DefA := ⟨fun K => prG K "Net" "others", "others", "Net.others", defArgs st_Net_others, defBody st_Net_others, defScope st_Net_others, [], []⟩
abbrev st_Net_lines : Stmt := inCls (top 20) 4
abbrev NN_Net_lines : List Str := ["self"]
abbrev d_Net_lines : He5.DefA := ⟨fun K => prG K "Net" "lines", "lines", "Net.lines", defArgs st_Net_lines, defBody st_Net_lines, defScope st_Net_lines, [], []⟩
abbrev st_law_line_names : Stmt := top 45
abbrev NN_law_line_names : List Str := ["_law_world_here", "_law_line"]
abbrev d_law_line_names : He5.DefA := ⟨fun K => He.ga K "_law_line_names", "_law_line_names", "_law_line_names", defArgs st_law_line_names, defBody st_law_line_names, defScope st_law_line_names, [], []⟩
abbrev st_Net_line_names : Stmt := inCls (top 20) 5
abbrev NN_Net_line_names : List Str := ["self", "row"]
abbrev d_Net_line_names : He5.DefA := ⟨fun K => prG K "Net" "line_names", "line_names", "Net.line_names", defArgs st_Net_line_names, defBody st_Net_line_names, defScope st_Net_line_names, [], []⟩
abbrev st_law_is_world : Stmt := top 46
abbrev NN_law_is_world : List Str := ["_law_net", "_law_world_here", "_law_good"]
abbrev d_law_is_world : He5.DefA := ⟨fun K => He.ga K "_law_is_world", "_law_is_world", "_law_is_world", defArgs st_law_is_world, defBody st_law_is_world, defScope st_law_is_world, [], []⟩
abbrev st_law_holders : Stmt := top 37
abbrev NN_law_holders : List Str := ["_law_value", "_law_found", "_law_item", "_law_label"]
abbrev d_law_holders : He5.DefA := ⟨fun K => He.ga K "_law_holders", "_law_holders", "_law_holders", defArgs st_law_holders, defBody st_law_holders, defScope st_law_holders, [], []⟩
abbrev st_law_spoil : Stmt := top 38
abbrev NN_law_spoil : List Str := ["_law_values", "_law_holders_here", "_law_k", "_law_holder"]
abbrev d_law_spoil : He5.DefA := ⟨fun K => He.ga K "_law_spoil", "_law_spoil", "_law_spoil", defArgs st_law_spoil, defBody st_law_spoil, defScope st_law_spoil, [], []⟩
abbrev st_law_alike : Stmt := top 49
abbrev NN_law_alike : List Str := ["_law_first", "_law_second"]
abbrev d_law_alike : He5.DefA := ⟨fun K => He.ga K "_law_alike", "_law_alike", "_law_alike", defArgs st_law_alike, defBody st_law_alike, defScope st_law_alike, [], []⟩
abbrev st_Net_eq : Stmt := inCls (top 20) 11
abbrev NN_Net_eq : List Str := ["self", "other"]
abbrev d_Net_eq : He5.DefA := ⟨fun K => He.ma K (He.ga K "Net") "__eq__", "__eq__", "Net.__eq__", defArgs st_Net_eq, defBody st_Net_eq, defScope st_Net_eq, [], []⟩
abbrev st_law_compared : Stmt := top 50
abbrev NN_law_compared : List Str := ["_law_net", "_law_twin", "_law_beside", "_law_world_here", "_law_other", "_law_due", "_law_told", "_law_odd", "_law_value"]
abbrev d_law_compared : He5.DefA := ⟨fun K => He.ga K "_law_compared", "_law_compared", "_law_compared", defArgs st_law_compared, defBody st_law_compared, defScope st_law_compared, [], []⟩
abbrev st_law : Stmt := top 51
abbrev NN_law : List Str := ["_law_script", "_law_store_here", "_law_world_here", "_law_house", "_law_other", "_law_given", "_law_kept", "_law_net", "_law_beside", "_law_told", "_law_twin", "_law_alone", "_law_bare"]
abbrev d_law : He5.DefA := ⟨fun K => He.ga K "law", "law", "law", defArgs st_law, defBody st_law, defScope st_law, [], []⟩
abbrev fn : List He5.DefA := [d_law_mixed, d_law_store, d_law_advance, d_law_take, d_law_size, d_law_odds, d_law_shuffled, d_law_tree_pairs, d_law_free_pairs, d_law_shape, d_law_free_name, d_law_pick, d_law_fresh, d_law_names, d_law_named, d_law_world, d_law_put, d_law_full, d_law_houses, d_law_near_world, d_law_listed, d_law_copy, d_is_name, d_check_names, d_check_sizes, d_check_repeats, d_check_ends, d_Net_init, d_Net_home, d_law_same, d_Net_houses, d_Net_others, d_Net_lines, d_law_line_names, d_Net_line_names, d_law_is_world, d_law_holders, d_law_spoil, d_law_alike, d_Net_eq, d_law_compared, d_law]
abbrev fa : List He.Fa := [.free "len", .free "list", .mkr "Net", .glo "Net", .free "tuple", .free "int", .free "range", .free "max", .free "min", .free "str", .free "sorted", .free "any", .free "isinstance", .free "dict", .noat "Net" "own_home", .noat "Net" "own_houses", .noat "Net" "own_rows", .noat "Net" "own_tails", .noat "Net" "own_heads", .noat "Net" "own_out", .noat "Net" "own_into", .int "LONGEST_NAME" 8, .str "LETTERS" "abcdefghijklmnopqrstuvwxyz", .str "LETTERS_AND_DIGITS" "abcdefghijklmnopqrstuvwxyz0123456789", .free "all", .int "MOST_HOUSES" 12, .int "MOST_LINES" 30, .free "bool", .glo "_law_mixed", .glo "_law_store", .glo "_law_advance", .glo "_law_take", .glo "_law_size", .glo "_law_odds", .glo "_law_shuffled", .glo "_law_tree_pairs", .glo "_law_free_pairs", .glo "_law_shape", .glo "_law_free_name", .glo "_law_pick", .glo "_law_fresh", .glo "_law_names", .glo "_law_named", .glo "_law_world", .glo "_law_put", .glo "_law_full", .glo "_law_houses", .glo "_law_near_world", .glo "_law_listed", .glo "_law_copy", .glo "is_name", .glo "check_names", .glo "check_sizes", .glo "check_repeats", .glo "check_ends", .meth "Net" "__init__", .glo "_law_same", .glo "_law_line_names", .glo "_law_is_world", .glo "_law_holders", .glo "_law_spoil", .glo "_law_alike", .meth "Net" "__eq__", .glo "_law_compared", .glo "law"]
abbrev ex : List Ex := [clsB "Net", emptyB (He.dflAt ("Net", some "__init__") 1), emptyB (He.dflAt ("Net", some "__init__") 0), propB "Net" "home", propB "Net" "houses", propB "Net" "others", propB "Net" "lines", propB "Net" "line_names"]
theorem SC_law_mixed : FnScope NN_law_mixed ["_law_state", "_law_turn", "_law_many"] (defScope st_law_mixed) := ⟨rfl, rfl, rfl, by decide +kernel, rfl, by decide +kernel, by decide +kernel⟩
theorem okF_law_mixed {P : Program} {w : World} {K : PySem.W.Frag} {mg : Str → Option Value} {base : Heap} (T : TxM fa fn ex K mg) {f : Addr} {fd : FuncData} (F : FunD K d_law_mixed.name d_law_mixed.qual d_law_mixed.params d_law_mixed.body d_law_mixed.scope (d_law_mixed.dvs K) (d_law_mixed.kws K) f fd) : FnOk P w K mg base (L2.CX P w) 1 f fd ["_law_state", "_law_turn", "_law_many"] (spW K S_law_mixed) :=
  fn_W (N := NN_law_mixed) (ps := ["_law_state", "_law_turn", "_law_many"]) (k := 0) (S := S_law_mixed) (Fx := [0, 1, 2]) F SC_law_mixed (by decide) (fun cdv A outer s H E hr tk =>
    (pss_Wcons (ps_WnfS (ps_Wset (i := 3) (by decide) SC_law_mixed.nd rfl (by first | exact Or.inl rfl | exact Or.inr rfl) pe_Wint))
    (pss_Wcons (ps_Wfor (passes_of rfl) rfl i_R1 (tg_name (by decide)) (pi_range1 (by rfl) (T.mgn 6 _ rfl) (pa_Wcons (PE.imp (w2_run s_add) (pe_op op_Wadd pe_Wint (PE.imp (w2_run s_mul) (pe_op op_Wmul pe_Wint (PE.imp (wN_run s_int) (pe_callTy call_int1 (by rfl) (T.mgn 5 _ rfl) (by decide +kernel) (pa_Wcons (PE.imp (w2_run s_gt) (pe_cmpR op_Wgt (pe_Wvar 2) (PE.imp (w2_run s_pow) (pe_op op_pow pe_Wint pe_Wint)) (nomark _))) pa_Wnil))))))) pa_Wnil)) (pg_name (i := 4) SC_law_mixed.nd rfl (by first | exact Or.inl rfl | exact Or.inr rfl)) (pss_Wcons (ps_WnfS (ps_Wset (i := 5) (by decide) SC_law_mixed.nd rfl (by first | exact Or.inl rfl | exact Or.inr rfl) (PE.imp (w2_run s_mod) (pe_op op_mod (PE.imp (wN_run s_int) (pe_callTy call_int1 (by rfl) (T.mgn 5 _ rfl) (by decide +kernel) (pa_Wcons (PE.imp (w2_run s_add) (pe_op op_Wadd (PE.imp (w2_run s_add) (pe_op op_Wadd (PE.imp (w2_run s_add) (pe_op op_Wadd (PE.imp (w2_run s_mul) (pe_op op_Wmul (pe_Wvar 0) pe_Wint)) (PE.imp (w2_run s_mul) (pe_op op_Wmul (pe_Wvar 1) pe_Wint)))) (PE.imp (w2_run s_mul) (pe_op op_Wmul (pe_Wvar 4) pe_Wint)))) pe_Wint)) pa_Wnil))) pe_Wint))))
    (pss_Wcons (ps_WnfS (ps_Wset (i := 6) (by decide) SC_law_mixed.nd rfl (by first | exact Or.inl rfl | exact Or.inr rfl) (PE.imp (w2_run s_mod) (pe_op op_mod (PE.imp (wN_run s_int) (pe_callTy call_int1 (by rfl) (T.mgn 5 _ rfl) (by decide +kernel) (pa_Wcons (PE.imp (w2_run s_add) (pe_op op_Wadd (PE.imp (w2_run s_add) (pe_op op_Wadd (PE.imp (w2_run s_mul) (pe_op op_Wmul (pe_Wvar 5) (pe_Wvar 5))) (PE.imp (w2_run s_mul) (pe_op op_Wmul (pe_Wvar 1) pe_Wint)))) pe_Wint)) pa_Wnil))) pe_Wint))))
    (pss_Wcons (ps_WnfS (ps_Wset (i := 7) (by decide) SC_law_mixed.nd rfl (by first | exact Or.inl rfl | exact Or.inr rfl) (PE.imp (w2_run s_mod) (pe_op op_mod (PE.imp (wN_run s_int) (pe_callTy call_int1 (by rfl) (T.mgn 5 _ rfl) (by decide +kernel) (pa_Wcons (PE.imp (w2_run s_add) (pe_op op_Wadd (PE.imp (w2_run s_mul) (pe_op op_Wmul (pe_Wvar 6) (PE.imp (w2_run s_add) (pe_op op_Wadd (pe_Wvar 6) pe_Wint)))) (pe_Wvar 5))) pa_Wnil))) pe_Wint))))
    (pss_Wone (ps_WnfS (ps_Wset (i := 3) (by decide) SC_law_mixed.nd rfl (by first | exact Or.inl rfl | exact Or.inr rfl) (PE.imp (w2_run s_add) (pe_op op_Wadd (PE.imp (w2_run s_mul) (pe_op op_Wmul (pe_Wvar 3) pe_Wint)) (pe_Wvar 7))))))))))
    (pss_Wone (ps_Wret (PE.imp (w2_run s_mod) (pe_op op_mod (PE.imp (wN_run s_int) (pe_callTy call_int1 (by rfl) (T.mgn 5 _ rfl) (by decide +kernel) (pa_Wcons (pe_Wvar 3) pa_Wnil))) (PE.imp (wN_run s_max2) (pe_callB (call_max2 rfl) (by rfl) (T.mgn 7 _ rfl) (by decide +kernel) (pa_Wcons pe_Wint (pa_Wcons (pe_Wvar 2) pa_Wnil))))))))))) (pure_law_mixed)
theorem ok_law_mixed {P : Program} {w : World} {K : PySem.W.Frag} {mg : Str → Option Value} {base : Heap} (T : TxM fa fn ex K mg) : Fo P w K mg base "_law_mixed" 1 ["_law_state", "_law_turn", "_law_many"] [] S_law_mixed := by
  obtain ⟨fd, F⟩ := T.c.def_ 0 (d := d_law_mixed) rfl
  exact ⟨_, fd, [], [], T.mgf 28 "_law_mixed" rfl, F.kp, .nil, F.bindsN (fun _ _ _ _ _ _ us hl => match us, hl with | [_, _, _], _ => rfl), .nil, okF_law_mixed T  F⟩
theorem SC_law_store : FnScope NN_law_store ["_law_script"] (defScope st_law_store) := ⟨rfl, rfl, rfl, by decide +kernel, rfl, by decide +kernel, by decide +kernel⟩
theorem okF_law_store {P : Program} {w : World} {K : PySem.W.Frag} {mg : Str → Option Value} {base : Heap} (T : TxM fa fn ex K mg) (G_law_mixed : Fo P w K mg base "_law_mixed" 1 ["_law_state", "_law_turn", "_law_many"] [] S_law_mixed) {f : Addr} {fd : FuncData} (F : FunD K d_law_store.name d_law_store.qual d_law_store.params d_law_store.body d_law_store.scope (d_law_store.dvs K) (d_law_store.kws K) f fd) : FnOk P w K mg base (L2.CX P w) 2 f fd ["_law_script"] (spW K S_law_store) :=
  fn_W (N := NN_law_store) (ps := ["_law_script"]) (k := 1) (S := S_law_store) (Fx := [0]) F SC_law_store (by decide) (fun cdv A outer s H E hr tk =>
    (pss_Wcons (ps_WnfS (ps_Wset (i := 1) (by decide) SC_law_store.nd rfl (by first | exact Or.inl rfl | exact Or.inr rfl) pe_Wint))
    (pss_Wcons (ps_Wfor (passes_of rfl) rfl (itP_run (by decide)) (tg_name (by decide)) (pi_seq (pv 0)) (pg_name (i := 2) SC_law_store.nd rfl (by first | exact Or.inl rfl | exact Or.inr rfl)) (pss_Wone (ps_WnfS (ps_Wset (i := 1) (by decide) SC_law_store.nd rfl (by first | exact Or.inl rfl | exact Or.inr rfl) (pe_Wnf (pe_Wcal G_law_mixed (hr.mono (by decide)) tk (by rfl) (pa_Wcons (PE.imp (w2_run s_add) (pe_op op_Wadd (pe_Wvar 1) (PE.imp (w2_run s_mod) (pe_op op_mod (PE.imp (wN_run s_int) (pe_callTy call_int1 (by rfl) (T.mgn 5 _ rfl) (by decide +kernel) (pa_Wcons (pe_Wvar 2) pa_Wnil))) pe_Wint)))) (pa_Wcons pe_Wint (pa_Wcons pe_Wint pa_Wnil)))))))))
    (pss_Wone (ps_Wret (pe_Wlst (pa_Wcons (PE.sh (pe_WlcS rfl SC_law_store.nd (itP_run (by decide)) (tg_name (by decide)) (by decide) (by decide) (pi_seq (pv 0)) (blkOk_by (own := [(("_law_cell" : Str), 2)]) (N := NN_law_store) (sc := (defScope st_law_store)) (by decide +kernel)) (fun _ _ _ _ _ => (pg_name (i := 2) SC_law_store.nd rfl (by first | exact Or.inl rfl | exact Or.inr rfl))) (fun _ _ _ _ _ => pts_Wnil) (fun _ _ _ _ _ => (PE.imp (wN_run s_int) (pe_callTy call_int1 (by rfl) (T.mgn 5 _ rfl) (by decide +kernel) (pa_Wcons (pe_Wvar 2) pa_Wnil)))))) (pa_Wcons (PE.sh pe_Wint) (pa_Wcons (PE.sh (pe_Wvar 1)) (pa_Wcons (PE.sh pe_Wint) (pa_Wcons (PE.sh pe_Wint) (pa_Wcons (PE.sh pe_Wint) pa_Wnil)))))))))))) (pure_law_store)
theorem ok_law_store {P : Program} {w : World} {K : PySem.W.Frag} {mg : Str → Option Value} {base : Heap} (T : TxM fa fn ex K mg) (G_law_mixed : Fo P w K mg base "_law_mixed" 1 ["_law_state", "_law_turn", "_law_many"] [] S_law_mixed) : Fo P w K mg base "_law_store" 2 ["_law_script"] [] S_law_store := by
  obtain ⟨fd, F⟩ := T.c.def_ 1 (d := d_law_store) rfl
  exact ⟨_, fd, [], [], T.mgf 29 "_law_store" rfl, F.kp, .nil, F.bindsN (fun _ _ _ _ _ _ us hl => match us, hl with | [_], _ => rfl), .nil, okF_law_store T G_law_mixed F⟩
theorem SC_law_advance : FnScope NN_law_advance ["_law_store_here"] (defScope st_law_advance) := ⟨rfl, rfl, rfl, by decide +kernel, rfl, by decide +kernel, by decide +kernel⟩
theorem okF_law_advance {P : Program} {w : World} {K : PySem.W.Frag} {mg : Str → Option Value} {base : Heap} (T : TxM fa fn ex K mg) (G_law_mixed : Fo P w K mg base "_law_mixed" 1 ["_law_state", "_law_turn", "_law_many"] [] S_law_mixed) {f : Addr} {fd : FuncData} (F : FunD K d_law_advance.name d_law_advance.qual d_law_advance.params d_law_advance.body d_law_advance.scope (d_law_advance.dvs K) (d_law_advance.kws K) f fd) : FnOk P w K mg base (L2.CX P w) 2 f fd ["_law_store_here"] (spW K S_law_advance) :=
  fn_W (N := NN_law_advance) (ps := ["_law_store_here"]) (k := 1) (S := S_law_advance) (Fx := [0]) F SC_law_advance (by decide) (fun cdv A outer s H E hr tk =>
    (pss_Wcons (ps_WnfS (ps_Wset (i := 1) (by decide) SC_law_advance.nd rfl (by first | exact Or.inl rfl | exact Or.inr rfl) (PE.imp (w2_run s_ix) (pe_ix ix_seq (pe_Wvar 0) pe_Wint (fun _ _ => rfl)))))
    (pss_Wcons (ps_WnfS (ps_Wset (i := 2) (by decide) SC_law_advance.nd rfl (by first | exact Or.inl rfl | exact Or.inr rfl) (PE.imp (w2_run s_ix) (pe_ix ix_seq (pe_Wvar 0) pe_Wint (fun _ _ => rfl)))))
    (pss_Wone (ps_Wif (pt_Wcmp s_lt op_Wlt (pe_Wvar 2) (PE.imp (wN_run s_len) (pe_callB call_len (by rfl) (T.mgn 0 _ rfl) PySem.boot_len (pa_Wcons (pe_Wvar 1) pa_Wnil))) (nomark _)) (pss_Wcons (ps_WnfS (ps_Wset (i := 3) (by decide) SC_law_advance.nd rfl (by first | exact Or.inl rfl | exact Or.inr rfl) (PE.imp (w2_run s_ix) (pe_ix ix_seq (pe_Wvar 1) (pe_Wvar 2) (fun _ _ => rfl)))))
    (pss_Wcons (ps_WnfS (PS.imp setI_run (ps_asg (PE.sh (PE.imp (w2_run s_add) (pe_op op_Wadd (pe_Wvar 2) pe_Wint))) (pg_sub (pv 0) pe_Wint set_list))))
    (pss_Wcons (ps_WnfS (PS.imp setI_run (ps_asg (PE.sh (pe_Wnf (pe_Wcal G_law_mixed (hr.mono (by decide)) tk (by rfl) (pa_Wcons (PE.imp (w2_run s_add) (pe_op op_Wadd (PE.imp (w2_run s_ix) (pe_ix ix_seq (pe_Wvar 0) pe_Wint (fun _ _ => rfl))) (PE.imp (w2_run s_mod) (pe_op op_mod (PE.imp (wN_run s_int) (pe_callTy call_int1 (by rfl) (T.mgn 5 _ rfl) (by decide +kernel) (pa_Wcons (pe_Wvar 3) pa_Wnil))) pe_Wint)))) (pa_Wcons (PE.imp (w2_run s_add) (pe_op op_Wadd (pe_Wvar 2) pe_Wint)) (pa_Wcons pe_Wint pa_Wnil)))))) (pg_sub (pv 0) pe_Wint set_list))))
    (pss_Wcons (ps_WnfS (PS.imp setI_run (ps_asg (PE.sh pe_Wint) (pg_sub (pv 0) pe_Wint set_list))))
    (pss_Wcons (ps_WnfS (PS.imp setI_run (ps_asg (PE.sh pe_Wint) (pg_sub (pv 0) pe_Wint set_list))))
    (pss_Wone (ps_Wif (pt_Wcmp s_ge op_Wge (pe_Wvar 3) (PE.imp (w2_run s_pow) (pe_op op_pow pe_Wint pe_Wint)) (nomark _)) (pss_Wcons (ps_WnfS (PS.imp setI_run (ps_asg (PE.sh (pe_Wvar 3)) (pg_sub (pv 0) pe_Wint set_list))))
    (pss_Wone (ps_WnfS (PS.imp setI_run (ps_asg (PE.sh pe_Wint) (pg_sub (pv 0) pe_Wint set_list)))))) pss_Wnil))))))) pss_Wnil))))) (pure_law_advance)
theorem ok_law_advance {P : Program} {w : World} {K : PySem.W.Frag} {mg : Str → Option Value} {base : Heap} (T : TxM fa fn ex K mg) (G_law_mixed : Fo P w K mg base "_law_mixed" 1 ["_law_state", "_law_turn", "_law_many"] [] S_law_mixed) : Fo P w K mg base "_law_advance" 2 ["_law_store_here"] [] S_law_advance := by
  obtain ⟨fd, F⟩ := T.c.def_ 2 (d := d_law_advance) rfl
  exact ⟨_, fd, [], [], T.mgf 30 "_law_advance" rfl, F.kp, .nil, F.bindsN (fun _ _ _ _ _ _ us hl => match us, hl with | [_], _ => rfl), .nil, okF_law_advance T G_law_mixed F⟩
theorem SC_law_take : FnScope NN_law_take ["_law_store_here", "_law_many"] (defScope st_law_take) := ⟨rfl, rfl, rfl, by decide +kernel, rfl, by decide +kernel, by decide +kernel⟩
theorem okF_law_take {P : Program} {w : World} {K : PySem.W.Frag} {mg : Str → Option Value} {base : Heap} (T : TxM fa fn ex K mg) (G_law_advance : Fo P w K mg base "_law_advance" 2 ["_law_store_here"] [] S_law_advance) (G_law_mixed : Fo P w K mg base "_law_mixed" 1 ["_law_state", "_law_turn", "_law_many"] [] S_law_mixed) {f : Addr} {fd : FuncData} (F : FunD K d_law_take.name d_law_take.qual d_law_take.params d_law_take.body d_law_take.scope (d_law_take.dvs K) (d_law_take.kws K) f fd) : FnOk P w K mg base (L2.CX P w) 3 f fd ["_law_store_here", "_law_many"] (spW K S_law_take) :=
  fn_W (N := NN_law_take) (ps := ["_law_store_here", "_law_many"]) (k := 2) (S := S_law_take) (Fx := [0, 1]) F SC_law_take (by decide) (fun cdv A outer s H E hr tk =>
    (pss_Wcons (ps_WnfS (ps_Wset (i := 2) (by decide) SC_law_take.nd rfl (by first | exact Or.inl rfl | exact Or.inr rfl) (PE.imp (wN_run s_max2) (pe_callB (call_max2 rfl) (by rfl) (T.mgn 7 _ rfl) (by decide +kernel) (pa_Wcons pe_Wint (pa_Wcons (pe_Wvar 1) pa_Wnil))))))
    (pss_WconsC (ps_Wif (PW.pt (pw_Wor (pt_Wcmp s_le op_Wle (PE.imp (w2_run s_ix) (pe_ix ix_seq (pe_Wvar 0) pe_Wint (fun _ _ => rfl))) pe_Wint (nomark _)) (pw_Wor1 (pt_Wcmp s_le op_Wle (PE.imp (w2_run s_ix) (pe_ix ix_seq (pe_Wvar 0) pe_Wint (fun _ _ => rfl))) pe_Wint (nomark _))))) (pss_Wone (ps_WnfS (ps_Wexpr (pe_Wnf (pe_Wcal G_law_advance (hr.mono (by decide)) tk (by rfl) (pa_Wcons (pe_Wvar 0) pa_Wnil)))))) pss_Wnil)
    (pss_Wcons (ps_Wif (PW.pt (pw_Wand (pt_Wcmp s_gt op_Wgt (PE.imp (w2_run s_ix) (pe_ix ix_seq (pe_Wvar 0) pe_Wint (fun _ _ => rfl))) pe_Wint (nomark _)) (pw_Wand1 (pt_Wcmp s_gt op_Wgt (PE.imp (w2_run s_ix) (pe_ix ix_seq (pe_Wvar 0) pe_Wint (fun _ _ => rfl))) pe_Wint (nomark _))))) (pss_Wcons (ps_WnfS (ps_Wset (i := 3) (by decide) SC_law_take.nd rfl (by first | exact Or.inl rfl | exact Or.inr rfl) (PE.imp (w2_run s_ix) (pe_ix ix_seq (pe_Wvar 0) pe_Wint (fun _ _ => rfl)))))
    (pss_Wcons (ps_WnfS (PS.imp setI_run (ps_asg (PE.sh (PE.imp (w2_run s_fdiv) (pe_op op_fdivW (pe_Wvar 3) (pe_Wvar 2)))) (pg_sub (pv 0) pe_Wint set_list))))
    (pss_Wcons (ps_WnfS (PS.imp setI_run (ps_asg (PE.sh (PE.imp (w2_run s_sub) (pe_op op_sub (PE.imp (w2_run s_ix) (pe_ix ix_seq (pe_Wvar 0) pe_Wint (fun _ _ => rfl))) pe_Wint))) (pg_sub (pv 0) pe_Wint set_list))))
    (pss_Wone (ps_Wret (PE.imp (w2_run s_mod) (pe_op op_mod (PE.imp (wN_run s_int) (pe_callTy call_int1 (by rfl) (T.mgn 5 _ rfl) (by decide +kernel) (pa_Wcons (pe_Wvar 3) pa_Wnil))) (pe_Wvar 2)))))))) pss_Wnil)
    (pss_Wcons (ps_WnfS (PS.imp setI_run (ps_asg (PE.sh (PE.imp (w2_run s_add) (pe_op op_Wadd (PE.imp (w2_run s_ix) (pe_ix ix_seq (pe_Wvar 0) pe_Wint (fun _ _ => rfl))) pe_Wint))) (pg_sub (pv 0) pe_Wint set_list))))
    (pss_Wone (ps_Wret (pe_Wnf (pe_Wcal G_law_mixed (hr.mono (by decide)) tk (by rfl) (pa_Wcons (PE.imp (w2_run s_ix) (pe_ix ix_seq (pe_Wvar 0) pe_Wint (fun _ _ => rfl))) (pa_Wcons (PE.imp (w2_run s_ix) (pe_ix ix_seq (pe_Wvar 0) pe_Wint (fun _ _ => rfl))) (pa_Wcons (pe_Wvar 2) pa_Wnil)))))))))))) (pure_law_take)
theorem ok_law_take {P : Program} {w : World} {K : PySem.W.Frag} {mg : Str → Option Value} {base : Heap} (T : TxM fa fn ex K mg) (G_law_advance : Fo P w K mg base "_law_advance" 2 ["_law_store_here"] [] S_law_advance) (G_law_mixed : Fo P w K mg base "_law_mixed" 1 ["_law_state", "_law_turn", "_law_many"] [] S_law_mixed) : Fo P w K mg base "_law_take" 3 ["_law_store_here", "_law_many"] [] S_law_take := by
  obtain ⟨fd, F⟩ := T.c.def_ 3 (d := d_law_take) rfl
  exact ⟨_, fd, [], [], T.mgf 31 "_law_take" rfl, F.kp, .nil, F.bindsN (fun _ _ _ _ _ _ us hl => match us, hl with | [_, _], _ => rfl), .nil, okF_law_take T G_law_advance G_law_mixed F⟩
theorem SC_law_size : FnScope NN_law_size ["_law_store_here", "_law_usual", "_law_most"] (defScope st_law_size) := ⟨rfl, rfl, rfl, by decide +kernel, rfl, by decide +kernel, by decide +kernel⟩
theorem okF_law_size {P : Program} {w : World} {K : PySem.W.Frag} {mg : Str → Option Value} {base : Heap} (T : TxM fa fn ex K mg) (G_law_take : Fo P w K mg base "_law_take" 3 ["_law_store_here", "_law_many"] [] S_law_take) {f : Addr} {fd : FuncData} (F : FunD K d_law_size.name d_law_size.qual d_law_size.params d_law_size.body d_law_size.scope (d_law_size.dvs K) (d_law_size.kws K) f fd) : FnOk P w K mg base (L2.CX P w) 4 f fd ["_law_store_here", "_law_usual", "_law_most"] (spW K S_law_size) :=
  fn_W (N := NN_law_size) (ps := ["_law_store_here", "_law_usual", "_law_most"]) (k := 3) (S := S_law_size) (Fx := [0, 1, 2]) F SC_law_size (by decide) (fun cdv A outer s H E hr tk =>
    (pss_Wcons (ps_WnfS (ps_Wset (i := 3) (by decide) SC_law_size.nd rfl (by first | exact Or.inl rfl | exact Or.inr rfl) (pe_Wnf (pe_Wcal G_law_take (hr.mono (by decide)) tk (by rfl) (pa_Wcons (pe_Wvar 0) (pa_Wcons pe_Wint pa_Wnil))))))
    (pss_Wcons (ps_WnfS (ps_Wset (i := 4) (by decide) SC_law_size.nd rfl (by first | exact Or.inl rfl | exact Or.inr rfl) (PE.imp (wN_run s_max2) (pe_callB (call_max2 rfl) (by rfl) (T.mgn 7 _ rfl) (by decide +kernel) (pa_Wcons pe_Wint (pa_Wcons (pe_Wvar 2) pa_Wnil))))))
    (pss_Wcons (ps_Wif (pt_Wcmp s_eqS op_eq (pe_Wvar 3) pe_Wint (nomark _)) (pss_Wone (ps_Wret pe_Wint)) pss_Wnil)
    (pss_Wcons (ps_Wif (pt_Wcmp s_eqS op_eq (pe_Wvar 3) pe_Wint (nomark _)) (pss_Wone (ps_Wret (PE.imp (wN_run s_min2) (pe_callB (call_min2 rfl) (by rfl) (T.mgn 8 _ rfl) (by decide +kernel) (pa_Wcons pe_Wint (pa_Wcons (pe_Wvar 4) pa_Wnil)))))) pss_Wnil)
    (pss_Wcons (ps_Wif (pt_Wcmp s_eqS op_eq (pe_Wvar 3) pe_Wint (nomark _)) (pss_Wone (ps_Wret (pe_Wvar 4))) pss_Wnil)
    (pss_Wcons (ps_Wif (pt_Wcmp s_eqS op_eq (pe_Wvar 3) pe_Wint (nomark _)) (pss_Wone (ps_Wret (pe_Wnf (pe_Wcal G_law_take (hr.mono (by decide)) tk (by rfl) (pa_Wcons (pe_Wvar 0) (pa_Wcons (PE.imp (w2_run s_add) (pe_op op_Wadd (pe_Wvar 4) pe_Wint)) pa_Wnil)))))) pss_Wnil)
    (pss_Wone (ps_Wret (pe_Wnf (pe_Wcal G_law_take (hr.mono (by decide)) tk (by rfl) (pa_Wcons (pe_Wvar 0) (pa_Wcons (PE.imp (w2_run s_add) (pe_op op_Wadd (PE.imp (wN_run s_min2) (pe_callB (call_min2 rfl) (by rfl) (T.mgn 8 _ rfl) (by decide +kernel) (pa_Wcons (PE.imp (wN_run s_max2) (pe_callB (call_max2 rfl) (by rfl) (T.mgn 7 _ rfl) (by decide +kernel) (pa_Wcons pe_Wint (pa_Wcons (pe_Wvar 1) pa_Wnil)))) (pa_Wcons (pe_Wvar 4) pa_Wnil)))) pe_Wint)) pa_Wnil))))))))))))) (pure_law_size)
theorem ok_law_size {P : Program} {w : World} {K : PySem.W.Frag} {mg : Str → Option Value} {base : Heap} (T : TxM fa fn ex K mg) (G_law_take : Fo P w K mg base "_law_take" 3 ["_law_store_here", "_law_many"] [] S_law_take) : Fo P w K mg base "_law_size" 4 ["_law_store_here", "_law_usual", "_law_most"] [] S_law_size := by
  obtain ⟨fd, F⟩ := T.c.def_ 4 (d := d_law_size) rfl
  exact ⟨_, fd, [], [], T.mgf 32 "_law_size" rfl, F.kp, .nil, F.bindsN (fun _ _ _ _ _ _ us hl => match us, hl with | [_, _, _], _ => rfl), .nil, okF_law_size T G_law_take F⟩
theorem SC_law_odds : FnScope NN_law_odds ["_law_store_here", "_law_part"] (defScope st_law_odds) := ⟨rfl, rfl, rfl, by decide +kernel, rfl, by decide +kernel, by decide +kernel⟩
theorem okF_law_odds {P : Program} {w : World} {K : PySem.W.Frag} {mg : Str → Option Value} {base : Heap} (T : TxM fa fn ex K mg) (G_law_take : Fo P w K mg base "_law_take" 3 ["_law_store_here", "_law_many"] [] S_law_take) {f : Addr} {fd : FuncData} (F : FunD K d_law_odds.name d_law_odds.qual d_law_odds.params d_law_odds.body d_law_odds.scope (d_law_odds.dvs K) (d_law_odds.kws K) f fd) : FnOk P w K mg base (L2.CX P w) 4 f fd ["_law_store_here", "_law_part"] (spW K S_law_odds) :=
  fn_W (N := NN_law_odds) (ps := ["_law_store_here", "_law_part"]) (k := 3) (S := S_law_odds) (Fx := [0, 1]) F SC_law_odds (by decide) (fun cdv A outer s H E hr tk =>
    (pss_Wone (ps_Wret (PE.imp (w2_run s_eqS) (pe_cmpR op_eq (pe_Wnf (pe_Wcal G_law_take (hr.mono (by decide)) tk (by rfl) (pa_Wcons (pe_Wvar 0) (pa_Wcons (pe_Wvar 1) pa_Wnil)))) pe_Wint (nomark _)))))) (pure_law_odds)
theorem ok_law_odds {P : Program} {w : World} {K : PySem.W.Frag} {mg : Str → Option Value} {base : Heap} (T : TxM fa fn ex K mg) (G_law_take : Fo P w K mg base "_law_take" 3 ["_law_store_here", "_law_many"] [] S_law_take) : Fo P w K mg base "_law_odds" 4 ["_law_store_here", "_law_part"] [] S_law_odds := by
  obtain ⟨fd, F⟩ := T.c.def_ 5 (d := d_law_odds) rfl
  exact ⟨_, fd, [], [], T.mgf 33 "_law_odds" rfl, F.kp, .nil, F.bindsN (fun _ _ _ _ _ _ us hl => match us, hl with | [_, _], _ => rfl), .nil, okF_law_odds T G_law_take F⟩
theorem SC_law_shuffled : FnScope NN_law_shuffled ["_law_store_here", "_law_items"] (defScope st_law_shuffled) := ⟨rfl, rfl, rfl, by decide +kernel, rfl, by decide +kernel, by decide +kernel⟩
theorem okF_law_shuffled {P : Program} {w : World} {K : PySem.W.Frag} {mg : Str → Option Value} {base : Heap} (T : TxM fa fn ex K mg) (G_law_take : Fo P w K mg base "_law_take" 3 ["_law_store_here", "_law_many"] [] S_law_take) {f : Addr} {fd : FuncData} (F : FunD K d_law_shuffled.name d_law_shuffled.qual d_law_shuffled.params d_law_shuffled.body d_law_shuffled.scope (d_law_shuffled.dvs K) (d_law_shuffled.kws K) f fd) : FnOk P w K mg base (L2.CX P w) 4 f fd ["_law_store_here", "_law_items"] (spW K S_law_shuffled) :=
  fn_W (N := NN_law_shuffled) (ps := ["_law_store_here", "_law_items"]) (k := 3) (S := S_law_shuffled) (Fx := [0, 1]) F SC_law_shuffled (by decide) (fun cdv A outer s H E hr tk =>
    (pss_Wcons (ps_WnfS (ps_Wset (i := 2) (by decide) SC_law_shuffled.nd rfl (by first | exact Or.inl rfl | exact Or.inr rfl) (PE.imp (wN_run s_list) (pe_callTy call_list_of (by rfl) (T.mgn 1 _ rfl) (by decide +kernel) (pa_Wcons (pe_Wvar 1) pa_Wnil)))))
    (pss_Wcons (ps_WnfS (ps_Wset (i := 3) (by decide) SC_law_shuffled.nd rfl (by first | exact Or.inl rfl | exact Or.inr rfl) (pe_Wlst pa_Wnil)))
    (pss_Wcons (ps_Wfor (passes_of rfl) rfl i_R1 (tg_name (by decide)) (pi_range1 (by rfl) (T.mgn 6 _ rfl) (pa_Wcons (PE.imp (wN_run s_len) (pe_callB call_len (by rfl) (T.mgn 0 _ rfl) PySem.boot_len (pa_Wcons (pe_Wvar 1) pa_Wnil))) pa_Wnil)) (pg_name (i := 4) SC_law_shuffled.nd rfl (by first | exact Or.inl rfl | exact Or.inr rfl)) (pss_Wone (ps_WnfS (ps_Wexpr (pe_Wapp (pv 3) (PE.sh (pe_WpopAt (pv 2) (pe_Wnf (pe_Wcal G_law_take (hr.mono (by decide)) tk (by rfl) (pa_Wcons (pe_Wvar 0) (pa_Wcons (PE.imp (wN_run s_len) (pe_callB call_len (by rfl) (T.mgn 0 _ rfl) PySem.boot_len (pa_Wcons (pe_Wvar 2) pa_Wnil))) pa_Wnil)))))))))))
    (pss_Wone (ps_Wret (pe_Wvar 3))))))) (pure_law_shuffled)
theorem ok_law_shuffled {P : Program} {w : World} {K : PySem.W.Frag} {mg : Str → Option Value} {base : Heap} (T : TxM fa fn ex K mg) (G_law_take : Fo P w K mg base "_law_take" 3 ["_law_store_here", "_law_many"] [] S_law_take) : Fo P w K mg base "_law_shuffled" 4 ["_law_store_here", "_law_items"] [] S_law_shuffled := by
  obtain ⟨fd, F⟩ := T.c.def_ 6 (d := d_law_shuffled) rfl
  exact ⟨_, fd, [], [], T.mgf 34 "_law_shuffled" rfl, F.kp, .nil, F.bindsN (fun _ _ _ _ _ _ us hl => match us, hl with | [_, _], _ => rfl), .nil, okF_law_shuffled T G_law_take F⟩
theorem SC_law_tree_pairs : FnScope NN_law_tree_pairs ["_law_store_here", "_law_n", "_law_narrow"] (defScope st_law_tree_pairs) := ⟨rfl, rfl, rfl, by decide +kernel, rfl, by decide +kernel, by decide +kernel⟩
theorem okF_law_tree_pairs {P : Program} {w : World} {K : PySem.W.Frag} {mg : Str → Option Value} {base : Heap} (T : TxM fa fn ex K mg) (G_law_take : Fo P w K mg base "_law_take" 3 ["_law_store_here", "_law_many"] [] S_law_take) (G_law_shuffled : Fo P w K mg base "_law_shuffled" 4 ["_law_store_here", "_law_items"] [] S_law_shuffled) {f : Addr} {fd : FuncData} (F : FunD K d_law_tree_pairs.name d_law_tree_pairs.qual d_law_tree_pairs.params d_law_tree_pairs.body d_law_tree_pairs.scope (d_law_tree_pairs.dvs K) (d_law_tree_pairs.kws K) f fd) : FnOk P w K mg base (L2.CX P w) 5 f fd ["_law_store_here", "_law_n", "_law_narrow"] (spW K S_law_tree_pairs) :=
  fn_W (N := NN_law_tree_pairs) (ps := ["_law_store_here", "_law_n", "_law_narrow"]) (k := 4) (S := S_law_tree_pairs) (Fx := [0, 1, 2]) F SC_law_tree_pairs (by decide) (fun cdv A outer s H E hr tk =>
    (pss_Wcons (ps_WnfS (ps_Wset (i := 3) (by decide) SC_law_tree_pairs.nd rfl (by first | exact Or.inl rfl | exact Or.inr rfl) (pe_Wnf (pe_Wcal G_law_take (hr.mono (by decide)) tk (by rfl) (pa_Wcons (pe_Wvar 0) (pa_Wcons pe_Wint pa_Wnil))))))
    (pss_Wcons (ps_WnfS (ps_Wset (i := 4) (by decide) SC_law_tree_pairs.nd rfl (by first | exact Or.inl rfl | exact Or.inr rfl) (pe_Wlst (pa_Wcons (PE.sh pe_Wint) pa_Wnil))))
    (pss_Wcons (ps_WnfS (ps_Wset (i := 5) (by decide) SC_law_tree_pairs.nd rfl (by first | exact Or.inl rfl | exact Or.inr rfl) (pe_Wlst pa_Wnil)))
    (pss_Wcons (ps_Wfor (passes_of rfl) rfl itE_run (tg_name (by decide)) (pi_seq (pe_Wnf (pe_Wcal G_law_shuffled (hr.mono (by decide)) tk (by rfl) (pa_Wcons (pe_Wvar 0) (pa_Wcons (PE.imp (fun σ H Q h => w2_run s_rg2 σ H Q h) (pe_listRg rfl (by rfl) (T.mgn 1 _ rfl) (prg_2 (by rfl) (T.mgn 6 _ rfl) pe_Wint (pe_Wvar 1)))) pa_Wnil))))) (pg_name (i := 6) SC_law_tree_pairs.nd rfl (by first | exact Or.inl rfl | exact Or.inr rfl)) (pss_Wcons (ps_WnfS (ps_Wset (i := 7) (by decide) SC_law_tree_pairs.nd rfl (by first | exact Or.inl rfl | exact Or.inr rfl) (PE.imp (w2_run s_ix) (pe_ix ix_seq (pe_Wvar 4) (pe_Wnf (pe_Wcal G_law_take (hr.mono (by decide)) tk (by rfl) (pa_Wcons (pe_Wvar 0) (pa_Wcons (PE.imp (wN_run s_len) (pe_callB call_len (by rfl) (T.mgn 0 _ rfl) PySem.boot_len (pa_Wcons (pe_Wvar 4) pa_Wnil))) pa_Wnil)))) (fun _ _ => rfl)))))
    (pss_WconsC (ps_Wif (pt_Wcmp s_eqS op_eq (pe_Wvar 3) pe_Wint (nomark _)) (pss_Wone (ps_WnfS (ps_Wset (i := 7) (by decide) SC_law_tree_pairs.nd rfl (by first | exact Or.inl rfl | exact Or.inr rfl) (PE.imp (w2_run s_ix) (pe_ix ix_seq (pe_Wvar 4) (PE.imp (w2_run s_sub) (pe_op op_sub (PE.imp (wN_run s_len) (pe_callB call_len (by rfl) (T.mgn 0 _ rfl) PySem.boot_len (pa_Wcons (pe_Wvar 4) pa_Wnil))) pe_Wint)) (fun _ _ => rfl)))))) (pss_Wone (ps_Wif (pt_Wcmp s_eqS op_eq (pe_Wvar 3) pe_Wint (nomark _)) (pss_Wone (ps_WnfS (ps_Wset (i := 7) (by decide) SC_law_tree_pairs.nd rfl (by first | exact Or.inl rfl | exact Or.inr rfl) pe_Wint))) pss_Wnil)))
    (pss_WconsC (ps_Wif (PW.pt (pw_Wand (pt_W (pe_Wvar 2)) (pw_Wand (pt_Wcmp s_eqS op_eq (pe_Wvar 7) pe_Wint (nomark _)) (pw_Wand1 (pt_Wcmp s_gt op_Wgt (PE.imp (wN_run s_len) (pe_callB call_len (by rfl) (T.mgn 0 _ rfl) PySem.boot_len (pa_Wcons (pe_Wvar 4) pa_Wnil))) pe_Wint (nomark _)))))) (pss_Wone (ps_WnfS (ps_Wset (i := 7) (by decide) SC_law_tree_pairs.nd rfl (by first | exact Or.inl rfl | exact Or.inr rfl) (PE.imp (w2_run s_ix) (pe_ix ix_seq (pe_Wvar 4) (PE.imp (w2_run s_add) (pe_op op_Wadd pe_Wint (pe_Wnf (pe_Wcal G_law_take (hr.mono (by decide)) tk (by rfl) (pa_Wcons (pe_Wvar 0) (pa_Wcons (PE.imp (w2_run s_sub) (pe_op op_sub (PE.imp (wN_run s_len) (pe_callB call_len (by rfl) (T.mgn 0 _ rfl) PySem.boot_len (pa_Wcons (pe_Wvar 4) pa_Wnil))) pe_Wint)) pa_Wnil)))))) (fun _ _ => rfl)))))) pss_Wnil)
    (pss_Wcons (ps_WnfS (ps_Wexpr (pe_Wapp (pv 5) (PE.sh (pe_Wtup (pa_Wcons (PE.sh (pe_Wvar 6)) (pa_Wcons (PE.sh (pe_Wvar 7)) pa_Wnil)))))))
    (pss_Wone (ps_WnfS (ps_Wexpr (pe_Wapp (pv 4) (PE.sh (pe_Wvar 6)))))))))))
    (pss_Wone (ps_Wret (pe_Wvar 5)))))))) (pure_law_tree_pairs)
theorem ok_law_tree_pairs {P : Program} {w : World} {K : PySem.W.Frag} {mg : Str → Option Value} {base : Heap} (T : TxM fa fn ex K mg) (G_law_take : Fo P w K mg base "_law_take" 3 ["_law_store_here", "_law_many"] [] S_law_take) (G_law_shuffled : Fo P w K mg base "_law_shuffled" 4 ["_law_store_here", "_law_items"] [] S_law_shuffled) : Fo P w K mg base "_law_tree_pairs" 5 ["_law_store_here", "_law_n", "_law_narrow"] [] S_law_tree_pairs := by
  obtain ⟨fd, F⟩ := T.c.def_ 7 (d := d_law_tree_pairs) rfl
  exact ⟨_, fd, [], [], T.mgf 35 "_law_tree_pairs" rfl, F.kp, .nil, F.bindsN (fun _ _ _ _ _ _ us hl => match us, hl with | [_, _, _], _ => rfl), .nil, okF_law_tree_pairs T G_law_take G_law_shuffled F⟩
theorem SC_law_free_pairs : FnScope NN_law_free_pairs ["_law_store_here", "_law_n", "_law_many"] (defScope st_law_free_pairs) := ⟨rfl, rfl, rfl, by decide +kernel, rfl, by decide +kernel, by decide +kernel⟩
theorem okF_law_free_pairs {P : Program} {w : World} {K : PySem.W.Frag} {mg : Str → Option Value} {base : Heap} (T : TxM fa fn ex K mg) (G_law_take : Fo P w K mg base "_law_take" 3 ["_law_store_here", "_law_many"] [] S_law_take) {f : Addr} {fd : FuncData} (F : FunD K d_law_free_pairs.name d_law_free_pairs.qual d_law_free_pairs.params d_law_free_pairs.body d_law_free_pairs.scope (d_law_free_pairs.dvs K) (d_law_free_pairs.kws K) f fd) : FnOk P w K mg base (L2.CX P w) 4 f fd ["_law_store_here", "_law_n", "_law_many"] (spW K S_law_free_pairs) :=
  fn_W (N := NN_law_free_pairs) (ps := ["_law_store_here", "_law_n", "_law_many"]) (k := 3) (S := S_law_free_pairs) (Fx := [0, 1, 2]) F SC_law_free_pairs (by decide) (fun cdv A outer s H E hr tk =>
    (pss_Wcons (ps_WnfS (ps_Wset (i := 3) (by decide) SC_law_free_pairs.nd rfl (by first | exact Or.inl rfl | exact Or.inr rfl) (pe_Wlst pa_Wnil)))
    (pss_Wcons (ps_Wfor (passes_of rfl) rfl i_R1 (tg_name (by decide)) (pi_range1 (by rfl) (T.mgn 6 _ rfl) (pa_Wcons (pe_Wvar 2) pa_Wnil)) (pg_name (i := 4) SC_law_free_pairs.nd rfl (by first | exact Or.inl rfl | exact Or.inr rfl)) (pss_Wcons (ps_WnfS (ps_Wset (i := 5) (by decide) SC_law_free_pairs.nd rfl (by first | exact Or.inl rfl | exact Or.inr rfl) (pe_Wnf (pe_Wcal G_law_take (hr.mono (by decide)) tk (by rfl) (pa_Wcons (pe_Wvar 0) (pa_Wcons (pe_Wvar 1) pa_Wnil))))))
    (pss_Wcons (ps_WnfS (ps_Wset (i := 6) (by decide) SC_law_free_pairs.nd rfl (by first | exact Or.inl rfl | exact Or.inr rfl) (pe_Wnf (pe_Wcal G_law_take (hr.mono (by decide)) tk (by rfl) (pa_Wcons (pe_Wvar 0) (pa_Wcons (pe_Wvar 1) pa_Wnil))))))
    (pss_Wcons (ps_WnfS (ps_Wset (i := 7) (by decide) SC_law_free_pairs.nd rfl (by first | exact Or.inl rfl | exact Or.inr rfl) (pe_Wnf (pe_Wcal G_law_take (hr.mono (by decide)) tk (by rfl) (pa_Wcons (pe_Wvar 0) (pa_Wcons pe_Wint pa_Wnil))))))
    (pss_WconsC (ps_Wif (pt_Wcmp s_eqS op_eq (pe_Wvar 7) pe_Wint (nomark _)) (pss_Wone (ps_WnfS (ps_Wset (i := 6) (by decide) SC_law_free_pairs.nd rfl (by first | exact Or.inl rfl | exact Or.inr rfl) (pe_Wvar 5)))) (pss_Wone (ps_Wif (PW.pt (pw_Wand (pt_Wcmp s_eqS op_eq (pe_Wvar 7) pe_Wint (nomark _)) (pw_Wand1 (pt_Wcmp s_gt op_Wgt (pe_Wvar 4) pe_Wint (nomark _))))) (pss_Wone (ps_WnfS (PS.imp (asgT_run (is := [5, 6]) (by decide)) (ps_asg (PE.imp (w2_run s_ix) (pe_ix ix_seq (pe_Wvar 3) (pe_Wnf (pe_Wcal G_law_take (hr.mono (by decide)) tk (by rfl) (pa_Wcons (pe_Wvar 0) (pa_Wcons (pe_Wvar 4) pa_Wnil)))) (fun _ _ => rfl))) (pg_tup rfl (pgs_cons (pg_name (i := 5) SC_law_free_pairs.nd rfl (by first | exact Or.inl rfl | exact Or.inr rfl)) (pgs_cons (pg_name (i := 6) SC_law_free_pairs.nd rfl (by first | exact Or.inl rfl | exact Or.inr rfl)) pgs_nil))))))) (pss_Wone (ps_Wif (pt_Wcmp s_eqS op_eq (pe_Wvar 7) pe_Wint (nomark _)) (pss_Wone (ps_WnfS (ps_Wset (i := 6) (by decide) SC_law_free_pairs.nd rfl (by first | exact Or.inl rfl | exact Or.inr rfl) pe_Wint))) (pss_Wone (ps_Wif (PW.pt (pw_Wand (pt_Wcmp s_lt op_Wlt (pe_Wvar 7) pe_Wint (nomark _)) (pw_Wand1 (pt_Wcmp s_gt op_Wgt (pe_Wvar 1) pe_Wint (nomark _))))) (pss_Wone (ps_WnfS (ps_Wset (i := 5) (by decide) SC_law_free_pairs.nd rfl (by first | exact Or.inl rfl | exact Or.inr rfl) (PE.imp (w2_run s_add) (pe_op op_Wadd pe_Wint (pe_Wnf (pe_Wcal G_law_take (hr.mono (by decide)) tk (by rfl) (pa_Wcons (pe_Wvar 0) (pa_Wcons (PE.imp (w2_run s_sub) (pe_op op_sub (pe_Wvar 1) pe_Wint)) pa_Wnil))))))))) pss_Wnil)))))))
    (pss_Wone (ps_WnfS (ps_Wexpr (pe_Wapp (pv 3) (PE.sh (pe_Wtup (pa_Wcons (PE.sh (pe_Wvar 5)) (pa_Wcons (PE.sh (pe_Wvar 6)) pa_Wnil)))))))))))))
    (pss_Wone (ps_Wret (pe_Wvar 3)))))) (pure_law_free_pairs)
theorem ok_law_free_pairs {P : Program} {w : World} {K : PySem.W.Frag} {mg : Str → Option Value} {base : Heap} (T : TxM fa fn ex K mg) (G_law_take : Fo P w K mg base "_law_take" 3 ["_law_store_here", "_law_many"] [] S_law_take) : Fo P w K mg base "_law_free_pairs" 4 ["_law_store_here", "_law_n", "_law_many"] [] S_law_free_pairs := by
  obtain ⟨fd, F⟩ := T.c.def_ 8 (d := d_law_free_pairs) rfl
  exact ⟨_, fd, [], [], T.mgf 36 "_law_free_pairs" rfl, F.kp, .nil, F.bindsN (fun _ _ _ _ _ _ us hl => match us, hl with | [_, _, _], _ => rfl), .nil, okF_law_free_pairs T G_law_take F⟩
theorem SC_law_shape : FnScope NN_law_shape ["_law_store_here", "_law_most", "_law_room"] (defScope st_law_shape) := ⟨rfl, rfl, rfl, by decide +kernel, rfl, by decide +kernel, by decide +kernel⟩
theorem okF_law_shape {P : Program} {w : World} {K : PySem.W.Frag} {mg : Str → Option Value} {base : Heap} (T : TxM fa fn ex K mg) (G_law_take : Fo P w K mg base "_law_take" 3 ["_law_store_here", "_law_many"] [] S_law_take) (G_law_size : Fo P w K mg base "_law_size" 4 ["_law_store_here", "_law_usual", "_law_most"] [] S_law_size) (G_law_odds : Fo P w K mg base "_law_odds" 4 ["_law_store_here", "_law_part"] [] S_law_odds) (G_law_tree_pairs : Fo P w K mg base "_law_tree_pairs" 5 ["_law_store_here", "_law_n", "_law_narrow"] [] S_law_tree_pairs) (G_law_free_pairs : Fo P w K mg base "_law_free_pairs" 4 ["_law_store_here", "_law_n", "_law_many"] [] S_law_free_pairs) (G_law_shuffled : Fo P w K mg base "_law_shuffled" 4 ["_law_store_here", "_law_items"] [] S_law_shuffled) {f : Addr} {fd : FuncData} (F : FunD K d_law_shape.name d_law_shape.qual d_law_shape.params d_law_shape.body d_law_shape.scope (d_law_shape.dvs K) (d_law_shape.kws K) f fd) : FnOk P w K mg base (L2.CX P w) 6 f fd ["_law_store_here", "_law_most", "_law_room"] (spW K S_law_shape) :=
  fn_W (N := NN_law_shape) (ps := ["_law_store_here", "_law_most", "_law_room"]) (k := 5) (S := S_law_shape) (Fx := [0, 1, 2]) F SC_law_shape (by decide) (fun cdv A outer s H E hr tk =>
    (pss_Wcons (ps_WnfS (ps_Wset (i := 3) (by decide) SC_law_shape.nd rfl (by first | exact Or.inl rfl | exact Or.inr rfl) (pe_Wnf (pe_Wcal G_law_take (hr.mono (by decide)) tk (by rfl) (pa_Wcons (pe_Wvar 0) (pa_Wcons pe_Wint pa_Wnil))))))
    (pss_Wcons (ps_WnfS (ps_Wset (i := 4) (by decide) SC_law_shape.nd rfl (by first | exact Or.inl rfl | exact Or.inr rfl) (PE.imp (w2_run s_add) (pe_op op_Wadd pe_Wint (pe_Wnf (pe_Wcal G_law_size (hr.mono (by decide)) tk (by rfl) (pa_Wcons (pe_Wvar 0) (pa_Wcons pe_Wint (pa_Wcons (PE.imp (w2_run s_sub) (pe_op op_sub (pe_Wvar 1) pe_Wint)) pa_Wnil)))))))))
    (pss_WconsC (ps_Wif (pt_Wcmp s_eqS op_eq (pe_Wvar 3) pe_Wint (nomark _)) (pss_Wone (ps_WnfS (ps_Wset (i := 4) (by decide) SC_law_shape.nd rfl (by first | exact Or.inl rfl | exact Or.inr rfl) pe_Wint))) (pss_Wone (ps_Wif (pt_Wcmp s_eqS op_eq (pe_Wvar 4) pe_Wint (nomark _)) (pss_Wone (ps_WnfS (ps_Wset (i := 4) (by decide) SC_law_shape.nd rfl (by first | exact Or.inl rfl | exact Or.inr rfl) (PE.imp (wN_run s_min2) (pe_callB (call_min2 rfl) (by rfl) (T.mgn 8 _ rfl) (by decide +kernel) (pa_Wcons (PE.imp (w2_run s_add) (pe_op op_Wadd pe_Wint (pe_Wnf (pe_Wcal G_law_take (hr.mono (by decide)) tk (by rfl) (pa_Wcons (pe_Wvar 0) (pa_Wcons pe_Wint pa_Wnil)))))) (pa_Wcons (pe_Wvar 1) pa_Wnil))))))) pss_Wnil)))
    (pss_Wcons (ps_WnfS (ps_Wset (i := 5) (by decide) SC_law_shape.nd rfl (by first | exact Or.inl rfl | exact Or.inr rfl) (pe_Wlst pa_Wnil)))
    (pss_Wcons (ps_WnfS (ps_Wset (i := 6) (by decide) SC_law_shape.nd rfl (by first | exact Or.inl rfl | exact Or.inr rfl) (pe_Wnf (pe_Wcal G_law_size (hr.mono (by decide)) tk (by rfl) (pa_Wcons (pe_Wvar 0) (pa_Wcons pe_Wint (pa_Wcons (pe_Wvar 2) pa_Wnil)))))))
    (pss_WconsC (ps_Wif (PW.pt (pw_Wand (pt_Wcmp s_gt op_Wgt (pe_Wvar 3) pe_Wint (nomark _)) (pw_Wand1 (pt_Wcmp s_lt op_Wlt (pe_Wvar 3) pe_Wint (nomark _))))) (pss_Wcons (ps_Wfor (passes_of rfl) rfl i_R1 (tg_name (by decide)) (pi_range1 (by rfl) (T.mgn 6 _ rfl) (pa_Wcons (PE.imp (w2_run s_add) (pe_op op_Wadd pe_Wint (pe_Wnf (pe_Wcal G_law_take (hr.mono (by decide)) tk (by rfl) (pa_Wcons (pe_Wvar 0) (pa_Wcons pe_Wint pa_Wnil)))))) pa_Wnil)) (pg_name (i := 7) SC_law_shape.nd rfl (by first | exact Or.inl rfl | exact Or.inr rfl)) (pss_Wone (ps_Wif (pt_Wcmp s_le op_Wle (PE.imp (w2_run s_sub) (pe_op op_sub (PE.imp (w2_run s_add) (pe_op op_Wadd (PE.imp (wN_run s_len) (pe_callB call_len (by rfl) (T.mgn 0 _ rfl) PySem.boot_len (pa_Wcons (pe_Wvar 5) pa_Wnil))) (pe_Wvar 4))) pe_Wint)) (pe_Wvar 2) (nomark _)) (pss_Wone (ps_WnfS (ps_Wset (i := 5) (by decide) SC_law_shape.nd rfl (by first | exact Or.inl rfl | exact Or.inr rfl) (PE.imp (w2_run s_add) (pe_op op_Wadd (pe_Wvar 5) (pe_Wnf (pe_Wcal G_law_tree_pairs (hr.mono (by decide)) tk (by rfl) (pa_Wcons (pe_Wvar 0) (pa_Wcons (pe_Wvar 4) (pa_Wcons (pe_Wnf (pe_Wcal G_law_odds (hr.mono (by decide)) tk (by rfl) (pa_Wcons (pe_Wvar 0) (pa_Wcons pe_Wint pa_Wnil)))) pa_Wnil)))))))))) pss_Wnil)))
    (pss_Wone (ps_Wif (PW.pt (pw_Wand (pt_Wcmp s_eqS op_eq (pe_Wvar 3) pe_Wint (nomark _)) (pw_Wand1 (pt_Wcmp s_gt op_Wgt (PE.imp (wN_run s_len) (pe_callB call_len (by rfl) (T.mgn 0 _ rfl) PySem.boot_len (pa_Wcons (pe_Wvar 5) pa_Wnil))) pe_Wint (nomark _))))) (pss_Wone (ps_WnfS (ps_Wexpr (pe_WpopAt (pv 5) (pe_Wnf (pe_Wcal G_law_take (hr.mono (by decide)) tk (by rfl) (pa_Wcons (pe_Wvar 0) (pa_Wcons (PE.imp (wN_run s_len) (pe_callB call_len (by rfl) (T.mgn 0 _ rfl) PySem.boot_len (pa_Wcons (pe_Wvar 5) pa_Wnil))) pa_Wnil)))))))) pss_Wnil))) (pss_Wone (ps_Wif (PW.pt (pw_Wand (pt_Wcmp s_eqS op_eq (pe_Wvar 3) pe_Wint (nomark _)) (pw_Wand1 (pt_Wcmp s_gt op_Wgt (pe_Wvar 4) pe_Wint (nomark _))))) (pss_Wone (ps_Wfor (passes_of rfl) rfl i_R1 (tg_name (by decide)) (pi_range1 (by rfl) (T.mgn 6 _ rfl) (pa_Wcons (pe_Wnf (pe_Wcal G_law_size (hr.mono (by decide)) tk (by rfl) (pa_Wcons (pe_Wvar 0) (pa_Wcons pe_Wint (pa_Wcons (pe_Wvar 2) pa_Wnil))))) pa_Wnil)) (pg_name (i := 7) SC_law_shape.nd rfl (by first | exact Or.inl rfl | exact Or.inr rfl)) (pss_Wcons (ps_WnfS (ps_Wset (i := 8) (by decide) SC_law_shape.nd rfl (by first | exact Or.inl rfl | exact Or.inr rfl) (PE.imp (w2_run s_add) (pe_op op_Wadd pe_Wint (pe_Wnf (pe_Wcal G_law_take (hr.mono (by decide)) tk (by rfl) (pa_Wcons (pe_Wvar 0) (pa_Wcons (PE.imp (w2_run s_sub) (pe_op op_sub (pe_Wvar 4) pe_Wint)) pa_Wnil))))))))
    (pss_Wone (ps_WnfS (ps_Wexpr (pe_Wapp (pv 5) (PE.sh (pe_Wtup (pa_Wcons (PE.sh (pe_Wvar 8)) (pa_Wcons (PE.sh (pe_Wnf (pe_Wcal G_law_take (hr.mono (by decide)) tk (by rfl) (pa_Wcons (pe_Wvar 0) (pa_Wcons (pe_Wvar 8) pa_Wnil))))) pa_Wnil))))))))))) (pss_Wone (ps_Wif (pt_Wcmp s_eqS op_eq (pe_Wvar 3) pe_Wint (nomark _)) (pss_Wone (ps_WnfS (ps_Wset (i := 5) (by decide) SC_law_shape.nd rfl (by first | exact Or.inl rfl | exact Or.inr rfl) (PE.imp (w2_run s_add) (pe_op op_Wadd (pe_WlcS rfl SC_law_shape.nd i_R2 (tg_name (by decide)) (by decide) (by decide) (pi_range2 (by rfl) (T.mgn 6 _ rfl) (pa_Wcons pe_Wint (pa_Wcons (pe_Wvar 4) pa_Wnil))) (blkOk_by (own := [(("_law_k" : Str), 7)]) (N := NN_law_shape) (sc := (defScope st_law_shape)) (by decide +kernel)) (fun _ _ _ _ _ => (pg_name (i := 7) SC_law_shape.nd rfl (by first | exact Or.inl rfl | exact Or.inr rfl))) (fun _ _ _ _ _ => pts_Wnil) (fun _ _ _ _ _ => (pe_Wtup (pa_Wcons (PE.sh (pe_Wvar 7)) (pa_Wcons (PE.sh pe_Wint) pa_Wnil))))) (pe_WlcS rfl SC_law_shape.nd i_R2 (tg_name (by decide)) (by decide) (by decide) (pi_range2 (by rfl) (T.mgn 6 _ rfl) (pa_Wcons pe_Wint (pa_Wcons (pe_Wvar 4) pa_Wnil))) (blkOk_by (own := [(("_law_k" : Str), 7)]) (N := NN_law_shape) (sc := (defScope st_law_shape)) (by decide +kernel)) (fun _ _ _ _ _ => (pg_name (i := 7) SC_law_shape.nd rfl (by first | exact Or.inl rfl | exact Or.inr rfl))) (fun _ _ _ _ _ => pts_Wnil) (fun _ _ _ _ _ => (pe_Wtup (pa_Wcons (PE.sh (pe_Wvar 7)) (pa_Wcons (PE.sh (PE.imp (w2_run s_add) (pe_op op_Wadd pe_Wint (PE.imp (w2_run s_mod) (pe_op op_mod (PE.imp (wN_run s_int) (pe_callTy call_int1 (by rfl) (T.mgn 5 _ rfl) (by decide +kernel) (pa_Wcons (pe_Wvar 7) pa_Wnil))) (PE.imp (wN_run s_max2) (pe_callB (call_max2 rfl) (by rfl) (T.mgn 7 _ rfl) (by decide +kernel) (pa_Wcons pe_Wint (pa_Wcons (PE.imp (w2_run s_sub) (pe_op op_sub (pe_Wvar 4) pe_Wint)) pa_Wnil))))))))) pa_Wnil)))))))))) (pss_Wone (ps_Wif (pt_Wcmp s_eqS op_eq (pe_Wvar 3) pe_Wint (nomark _)) (pss_Wcons (ps_WnfS (ps_Wset (i := 9) (by decide) SC_law_shape.nd rfl (by first | exact Or.inl rfl | exact Or.inr rfl) (pe_Wnf (pe_Wcal G_law_free_pairs (hr.mono (by decide)) tk (by rfl) (pa_Wcons (pe_Wvar 0) (pa_Wcons (pe_Wvar 4) (pa_Wcons (pe_Wnf (pe_Wcal G_law_size (hr.mono (by decide)) tk (by rfl) (pa_Wcons (pe_Wvar 0) (pa_Wcons pe_Wint (pa_Wcons (PE.imp (w2_run s_fdiv) (pe_op op_fdivW (pe_Wvar 2) pe_Wint)) pa_Wnil))))) pa_Wnil)))))))
    (pss_Wone (ps_WnfS (ps_Wset (i := 5) (by decide) SC_law_shape.nd rfl (by first | exact Or.inl rfl | exact Or.inr rfl) (PE.imp (w2_run s_add) (pe_op op_Wadd (pe_Wvar 9) (pe_WlcS rfl SC_law_shape.nd itE_run (tg_name (by decide)) (by decide) (by decide) (pi_seq (pe_Wvar 9)) (blkOk_by (own := [(("_law_pair" : Str), 10)]) (N := NN_law_shape) (sc := (defScope st_law_shape)) (by decide +kernel)) (fun _ _ _ _ _ => (pg_name (i := 10) SC_law_shape.nd rfl (by first | exact Or.inl rfl | exact Or.inr rfl))) (fun _ _ _ _ _ => pts_Wnil) (fun _ _ _ _ _ => (pe_Wtup (pa_Wcons (PE.sh (PE.imp (w2_run s_ix) (pe_ix ix_seq (pe_Wvar 10) pe_Wint (fun _ _ => rfl)))) (pa_Wcons (PE.sh (PE.imp (w2_run s_ix) (pe_ix ix_seq (pe_Wvar 10) pe_Wint (fun _ _ => rfl)))) pa_Wnil))))))))))) (pss_Wone (ps_Wif (pt_Wcmp s_gt op_Wgt (pe_Wvar 3) pe_Wint (nomark _)) (pss_Wone (ps_WnfS (ps_Wset (i := 6) (by decide) SC_law_shape.nd rfl (by first | exact Or.inl rfl | exact Or.inr rfl) (pe_Wnf (pe_Wcal G_law_size (hr.mono (by decide)) tk (by rfl) (pa_Wcons (pe_Wvar 0) (pa_Wcons (PE.imp (w2_run s_mul) (pe_op op_Wmul pe_Wint (pe_Wvar 4))) (pa_Wcons (pe_Wvar 2) pa_Wnil)))))))) pss_Wnil)))))))))
    (pss_WconsC (ps_Wif (pt_Wcmp s_neS op_ne (pe_Wvar 3) pe_Wint (nomark _)) (pss_Wone (ps_WnfS (ps_Wset (i := 5) (by decide) SC_law_shape.nd rfl (by first | exact Or.inl rfl | exact Or.inr rfl) (PE.imp (w2_run s_add) (pe_op op_Wadd (pe_Wvar 5) (pe_Wnf (pe_Wcal G_law_free_pairs (hr.mono (by decide)) tk (by rfl) (pa_Wcons (pe_Wvar 0) (pa_Wcons (pe_Wvar 4) (pa_Wcons (PE.imp (wN_run s_min2) (pe_callB (call_min2 rfl) (by rfl) (T.mgn 8 _ rfl) (by decide +kernel) (pa_Wcons (pe_Wvar 6) (pa_Wcons (PE.imp (wN_run s_max2) (pe_callB (call_max2 rfl) (by rfl) (T.mgn 7 _ rfl) (by decide +kernel) (pa_Wcons pe_Wint (pa_Wcons (PE.imp (w2_run s_sub) (pe_op op_sub (pe_Wvar 2) (PE.imp (wN_run s_len) (pe_callB call_len (by rfl) (T.mgn 0 _ rfl) PySem.boot_len (pa_Wcons (pe_Wvar 5) pa_Wnil))))) pa_Wnil)))) pa_Wnil)))) pa_Wnil)))))))))) pss_Wnil)
    (pss_Wone (ps_Wret (pe_Wtup (pa_Wcons (PE.sh (pe_Wvar 4)) (pa_Wcons (PE.sh (pe_Wsl (pe_Wnf (pe_Wcal G_law_shuffled (hr.mono (by decide)) tk (by rfl) (pa_Wcons (pe_Wvar 0) (pa_Wcons (pe_Wvar 5) pa_Wnil)))) po_Wnone (po_Wsome (pe_Wvar 2)))) pa_Wnil))))))))))))) (pure_law_shape)
theorem ok_law_shape {P : Program} {w : World} {K : PySem.W.Frag} {mg : Str → Option Value} {base : Heap} (T : TxM fa fn ex K mg) (G_law_take : Fo P w K mg base "_law_take" 3 ["_law_store_here", "_law_many"] [] S_law_take) (G_law_size : Fo P w K mg base "_law_size" 4 ["_law_store_here", "_law_usual", "_law_most"] [] S_law_size) (G_law_odds : Fo P w K mg base "_law_odds" 4 ["_law_store_here", "_law_part"] [] S_law_odds) (G_law_tree_pairs : Fo P w K mg base "_law_tree_pairs" 5 ["_law_store_here", "_law_n", "_law_narrow"] [] S_law_tree_pairs) (G_law_free_pairs : Fo P w K mg base "_law_free_pairs" 4 ["_law_store_here", "_law_n", "_law_many"] [] S_law_free_pairs) (G_law_shuffled : Fo P w K mg base "_law_shuffled" 4 ["_law_store_here", "_law_items"] [] S_law_shuffled) : Fo P w K mg base "_law_shape" 6 ["_law_store_here", "_law_most", "_law_room"] [] S_law_shape := by
  obtain ⟨fd, F⟩ := T.c.def_ 9 (d := d_law_shape) rfl
  exact ⟨_, fd, [], [], T.mgf 37 "_law_shape" rfl, F.kp, .nil, F.bindsN (fun _ _ _ _ _ _ us hl => match us, hl with | [_, _, _], _ => rfl), .nil, okF_law_shape T G_law_take G_law_size G_law_odds G_law_tree_pairs G_law_free_pairs G_law_shuffled F⟩
theorem SC_law_free_name : FnScope NN_law_free_name ["_law_store_here", "_law_most"] (defScope st_law_free_name) := ⟨rfl, rfl, rfl, by decide +kernel, rfl, by decide +kernel, by decide +kernel⟩
theorem okF_law_free_name {P : Program} {w : World} {K : PySem.W.Frag} {mg : Str → Option Value} {base : Heap} (T : TxM fa fn ex K mg) (G_law_take : Fo P w K mg base "_law_take" 3 ["_law_store_here", "_law_many"] [] S_law_take) {f : Addr} {fd : FuncData} (F : FunD K d_law_free_name.name d_law_free_name.qual d_law_free_name.params d_law_free_name.body d_law_free_name.scope (d_law_free_name.dvs K) (d_law_free_name.kws K) f fd) : FnOk P w K mg base (L2.CX P w) 4 f fd ["_law_store_here", "_law_most"] (spW K S_law_free_name) :=
  fn_W (N := NN_law_free_name) (ps := ["_law_store_here", "_law_most"]) (k := 3) (S := S_law_free_name) (Fx := [0, 1]) F SC_law_free_name (by decide) (fun cdv A outer s H E hr tk =>
    (pss_Wcons (ps_WnfS (ps_Wset (i := 2) (by decide) SC_law_free_name.nd rfl (by first | exact Or.inl rfl | exact Or.inr rfl) (PE.imp (w2_run s_ix) (pe_ix ix_seq (pe_Wlst (pa_Wcons (PE.sh pe_Wint) (pa_Wcons (PE.sh (pe_Wvar 1)) (pa_Wcons (PE.sh (PE.imp (w2_run s_add) (pe_op op_Wadd pe_Wint (pe_Wnf (pe_Wcal G_law_take (hr.mono (by decide)) tk (by rfl) (pa_Wcons (pe_Wvar 0) (pa_Wcons (pe_Wvar 1) pa_Wnil))))))) pa_Wnil)))) (PE.imp (w2_run s_fdiv) (pe_op op_fdivW (pe_Wnf (pe_Wcal G_law_take (hr.mono (by decide)) tk (by rfl) (pa_Wcons (pe_Wvar 0) (pa_Wcons pe_Wint pa_Wnil)))) pe_Wint)) (fun _ _ => rfl)))))
    (pss_Wcons (ps_WnfS (ps_Wset (i := 3) (by decide) SC_law_free_name.nd rfl (by first | exact Or.inl rfl | exact Or.inr rfl) (pe_Wnf (pe_Wcal G_law_take (hr.mono (by decide)) tk (by rfl) (pa_Wcons (pe_Wvar 0) (pa_Wcons (PE.imp (w2_run s_pow) (pe_op op_pow pe_Wint pe_Wint)) pa_Wnil))))))
    (pss_Wcons (ps_WnfS (ps_Wset (i := 4) (by decide) SC_law_free_name.nd rfl (by first | exact Or.inl rfl | exact Or.inr rfl) (PE.imp (w2_run s_ix) (pe_ix ix_seq pe_Wstr (PE.imp (w2_run s_mod) (pe_op op_mod (PE.imp (wN_run s_int) (pe_callTy call_int1 (by rfl) (T.mgn 5 _ rfl) (by decide +kernel) (pa_Wcons (pe_Wvar 3) pa_Wnil))) pe_Wint)) (fun _ _ => rfl)))))
    (pss_Wcons (ps_WnfS (ps_Wset (i := 3) (by decide) SC_law_free_name.nd rfl (by first | exact Or.inl rfl | exact Or.inr rfl) (PE.imp (w2_run s_fdiv) (pe_op op_fdivW (pe_Wvar 3) pe_Wint))))
    (pss_Wcons (ps_Wfor (passes_of rfl) rfl i_R1 (tg_name (by decide)) (pi_range1 (by rfl) (T.mgn 6 _ rfl) (pa_Wcons (PE.imp (w2_run s_sub) (pe_op op_sub (pe_Wvar 2) pe_Wint)) pa_Wnil)) (pg_name (i := 5) SC_law_free_name.nd rfl (by first | exact Or.inl rfl | exact Or.inr rfl)) (pss_Wcons (ps_WnfS (ps_Wset (i := 4) (by decide) SC_law_free_name.nd rfl (by first | exact Or.inl rfl | exact Or.inr rfl) (PE.imp (w2_run s_add) (pe_op op_Wadd (pe_Wvar 4) (PE.imp (w2_run s_ix) (pe_ix ix_seq pe_Wstr (PE.imp (w2_run s_mod) (pe_op op_mod (PE.imp (wN_run s_int) (pe_callTy call_int1 (by rfl) (T.mgn 5 _ rfl) (by decide +kernel) (pa_Wcons (pe_Wvar 3) pa_Wnil))) pe_Wint)) (fun _ _ => rfl)))))))
    (pss_Wone (ps_WnfS (ps_Wset (i := 3) (by decide) SC_law_free_name.nd rfl (by first | exact Or.inl rfl | exact Or.inr rfl) (PE.imp (w2_run s_fdiv) (pe_op op_fdivW (pe_Wvar 3) pe_Wint)))))))
    (pss_Wone (ps_Wret (pe_Wvar 4))))))))) (pure_law_free_name)
theorem ok_law_free_name {P : Program} {w : World} {K : PySem.W.Frag} {mg : Str → Option Value} {base : Heap} (T : TxM fa fn ex K mg) (G_law_take : Fo P w K mg base "_law_take" 3 ["_law_store_here", "_law_many"] [] S_law_take) : Fo P w K mg base "_law_free_name" 4 ["_law_store_here", "_law_most"] [] S_law_free_name := by
  obtain ⟨fd, F⟩ := T.c.def_ 10 (d := d_law_free_name) rfl
  exact ⟨_, fd, [], [], T.mgf 38 "_law_free_name" rfl, F.kp, .nil, F.bindsN (fun _ _ _ _ _ _ us hl => match us, hl with | [_, _], _ => rfl), .nil, okF_law_free_name T G_law_take F⟩
theorem SC_law_pick : FnScope NN_law_pick ["_law_store_here", "_law_items"] (defScope st_law_pick) := ⟨rfl, rfl, rfl, by decide +kernel, rfl, by decide +kernel, by decide +kernel⟩
theorem okF_law_pick {P : Program} {w : World} {K : PySem.W.Frag} {mg : Str → Option Value} {base : Heap} (T : TxM fa fn ex K mg) (G_law_take : Fo P w K mg base "_law_take" 3 ["_law_store_here", "_law_many"] [] S_law_take) {f : Addr} {fd : FuncData} (F : FunD K d_law_pick.name d_law_pick.qual d_law_pick.params d_law_pick.body d_law_pick.scope (d_law_pick.dvs K) (d_law_pick.kws K) f fd) : FnOk P w K mg base (L2.CX P w) 4 f fd ["_law_store_here", "_law_items"] (spW K S_law_pick) :=
  fn_W (N := NN_law_pick) (ps := ["_law_store_here", "_law_items"]) (k := 3) (S := S_law_pick) (Fx := [0, 1]) F SC_law_pick (by decide) (fun cdv A outer s H E hr tk =>
    (pss_Wone (ps_Wret (PE.imp (w2_run s_ix) (pe_ix ix_seq (pe_Wvar 1) (pe_Wnf (pe_Wcal G_law_take (hr.mono (by decide)) tk (by rfl) (pa_Wcons (pe_Wvar 0) (pa_Wcons (PE.imp (wN_run s_len) (pe_callB call_len (by rfl) (T.mgn 0 _ rfl) PySem.boot_len (pa_Wcons (pe_Wvar 1) pa_Wnil))) pa_Wnil)))) (fun _ _ => rfl)))))) (pure_law_pick)
theorem ok_law_pick {P : Program} {w : World} {K : PySem.W.Frag} {mg : Str → Option Value} {base : Heap} (T : TxM fa fn ex K mg) (G_law_take : Fo P w K mg base "_law_take" 3 ["_law_store_here", "_law_many"] [] S_law_take) : Fo P w K mg base "_law_pick" 4 ["_law_store_here", "_law_items"] [] S_law_pick := by
  obtain ⟨fd, F⟩ := T.c.def_ 11 (d := d_law_pick) rfl
  exact ⟨_, fd, [], [], T.mgf 39 "_law_pick" rfl, F.kp, .nil, F.bindsN (fun _ _ _ _ _ _ us hl => match us, hl with | [_, _], _ => rfl), .nil, okF_law_pick T G_law_take F⟩
theorem SC_law_fresh : FnScope NN_law_fresh ["_law_name", "_law_used"] (defScope st_law_fresh) := ⟨rfl, rfl, rfl, by decide +kernel, rfl, by decide +kernel, by decide +kernel⟩
theorem okF_law_fresh {P : Program} {w : World} {K : PySem.W.Frag} {mg : Str → Option Value} {base : Heap} (T : TxM fa fn ex K mg) {f : Addr} {fd : FuncData} (F : FunD K d_law_fresh.name d_law_fresh.qual d_law_fresh.params d_law_fresh.body d_law_fresh.scope (d_law_fresh.dvs K) (d_law_fresh.kws K) f fd) : FnOk P w K mg base (L2.CX P w) 1 f fd ["_law_name", "_law_used"] (spW K S_law_fresh) :=
  fn_W (N := NN_law_fresh) (ps := ["_law_name", "_law_used"]) (k := 0) (S := S_law_fresh) (Fx := [0, 1]) F SC_law_fresh (by decide) (fun cdv A outer s H E hr tk =>
    (pss_Wcons (ps_Wif (pt_Wcmp s_notIn op_WnotIn (pe_Wvar 0) (pe_Wvar 1) (by rfl)) (pss_Wone (ps_Wret (pe_Wvar 0))) pss_Wnil)
    (pss_Wcons (ps_Wfor (passes_of rfl) rfl i_R1 (tg_name (by decide)) (pi_range1 (by rfl) (T.mgn 6 _ rfl) (pa_Wcons (PE.imp (w2_run s_add) (pe_op op_Wadd (PE.imp (wN_run s_len) (pe_callB call_len (by rfl) (T.mgn 0 _ rfl) PySem.boot_len (pa_Wcons (pe_Wvar 1) pa_Wnil))) pe_Wint)) pa_Wnil)) (pg_name (i := 2) SC_law_fresh.nd rfl (by first | exact Or.inl rfl | exact Or.inr rfl)) (pss_Wone (ps_Wif (pt_Wcmp s_notIn op_WnotIn (PE.imp (w2_run s_add) (pe_op op_Wadd (pe_Wsl (pe_Wvar 0) po_Wnone (po_Wsome pe_Wint)) (PE.imp (wN_run s_strI) (pe_callTy call_str_int (by rfl) (T.mgn 9 _ rfl) (by decide +kernel) (pa_Wcons (pe_Wvar 2) pa_Wnil))))) (pe_Wvar 1) (by rfl)) (pss_Wone (ps_Wret (PE.imp (w2_run s_add) (pe_op op_Wadd (pe_Wsl (pe_Wvar 0) po_Wnone (po_Wsome pe_Wint)) (PE.imp (wN_run s_strI) (pe_callTy call_str_int (by rfl) (T.mgn 9 _ rfl) (by decide +kernel) (pa_Wcons (pe_Wvar 2) pa_Wnil))))))) pss_Wnil)))
    (pss_Wone (ps_Wret (pe_Wvar 0)))))) (pure_law_fresh)
theorem ok_law_fresh {P : Program} {w : World} {K : PySem.W.Frag} {mg : Str → Option Value} {base : Heap} (T : TxM fa fn ex K mg) : Fo P w K mg base "_law_fresh" 1 ["_law_name", "_law_used"] [] S_law_fresh := by
  obtain ⟨fd, F⟩ := T.c.def_ 12 (d := d_law_fresh) rfl
  exact ⟨_, fd, [], [], T.mgf 40 "_law_fresh" rfl, F.kp, .nil, F.bindsN (fun _ _ _ _ _ _ us hl => match us, hl with | [_, _], _ => rfl), .nil, okF_law_fresh T  F⟩
theorem SC_law_names : FnScope NN_law_names ["_law_store_here", "_law_many", "_law_used", "_law_most"] (defScope st_law_names) := ⟨rfl, rfl, rfl, by decide +kernel, rfl, by decide +kernel, by decide +kernel⟩
theorem okF_law_names {P : Program} {w : World} {K : PySem.W.Frag} {mg : Str → Option Value} {base : Heap} (T : TxM fa fn ex K mg) (G_law_take : Fo P w K mg base "_law_take" 3 ["_law_store_here", "_law_many"] [] S_law_take) (G_law_free_name : Fo P w K mg base "_law_free_name" 4 ["_law_store_here", "_law_most"] [] S_law_free_name) (G_law_pick : Fo P w K mg base "_law_pick" 4 ["_law_store_here", "_law_items"] [] S_law_pick) (G_law_fresh : Fo P w K mg base "_law_fresh" 1 ["_law_name", "_law_used"] [] S_law_fresh) {f : Addr} {fd : FuncData} (F : FunD K d_law_names.name d_law_names.qual d_law_names.params d_law_names.body d_law_names.scope (d_law_names.dvs K) (d_law_names.kws K) f fd) : FnOk P w K mg base (L2.CX P w) 5 f fd ["_law_store_here", "_law_many", "_law_used", "_law_most"] (spW K S_law_names) :=
  fn_W (N := NN_law_names) (ps := ["_law_store_here", "_law_many", "_law_used", "_law_most"]) (k := 4) (S := S_law_names) (Fx := [0, 1, 2, 3]) F SC_law_names (by decide) (fun cdv A outer s H E hr tk =>
    (pss_Wcons (ps_WnfS (ps_Wset (i := 4) (by decide) SC_law_names.nd rfl (by first | exact Or.inl rfl | exact Or.inr rfl) (pe_Wnf (pe_Wcal G_law_take (hr.mono (by decide)) tk (by rfl) (pa_Wcons (pe_Wvar 0) (pa_Wcons pe_Wint pa_Wnil))))))
    (pss_Wcons (ps_WnfS (ps_Wset (i := 5) (by decide) SC_law_names.nd rfl (by first | exact Or.inl rfl | exact Or.inr rfl) (pe_Wsl (PE.imp (w2_run s_add) (pe_op op_Wadd (pe_Wnf (pe_Wcal G_law_free_name (hr.mono (by decide)) tk (by rfl) (pa_Wcons (pe_Wvar 0) (pa_Wcons (pe_Wvar 3) pa_Wnil)))) pe_Wstr)) po_Wnone (po_Wsome (PE.imp (w2_run s_add) (pe_op op_Wadd pe_Wint (pe_Wnf (pe_Wcal G_law_take (hr.mono (by decide)) tk (by rfl) (pa_Wcons (pe_Wvar 0) (pa_Wcons (PE.imp (w2_run s_sub) (pe_op op_sub (pe_Wvar 3) pe_Wint)) pa_Wnil))))))))))
    (pss_Wcons (ps_WnfS (ps_Wset (i := 6) (by decide) SC_law_names.nd rfl (by first | exact Or.inl rfl | exact Or.inr rfl) (pe_Wnf (pe_Wcal G_law_take (hr.mono (by decide)) tk (by rfl) (pa_Wcons (pe_Wvar 0) (pa_Wcons (PE.imp (wN_run s_len) (pe_callB call_len (by rfl) (T.mgn 0 _ rfl) PySem.boot_len (pa_Wcons (pe_Wvar 5) pa_Wnil))) pa_Wnil))))))
    (pss_Wcons (ps_WnfS (ps_Wset (i := 7) (by decide) SC_law_names.nd rfl (by first | exact Or.inl rfl | exact Or.inr rfl) (PE.imp (wN_run s_list) (pe_callTy call_list_of (by rfl) (T.mgn 1 _ rfl) (by decide +kernel) (pa_Wcons (pe_Wvar 2) pa_Wnil)))))
    (pss_Wcons (ps_WnfS (ps_Wset (i := 8) (by decide) SC_law_names.nd rfl (by first | exact Or.inl rfl | exact Or.inr rfl) (pe_Wlst pa_Wnil)))
    (pss_Wcons (ps_Wfor (passes_of rfl) rfl i_R1 (tg_name (by decide)) (pi_range1 (by rfl) (T.mgn 6 _ rfl) (pa_Wcons (pe_Wvar 1) pa_Wnil)) (pg_name (i := 9) SC_law_names.nd rfl (by first | exact Or.inl rfl | exact Or.inr rfl)) (pss_Wcons (ps_WnfS (ps_Wset (i := 10) (by decide) SC_law_names.nd rfl (by first | exact Or.inl rfl | exact Or.inr rfl) (pe_Wnf (pe_Wcal G_law_free_name (hr.mono (by decide)) tk (by rfl) (pa_Wcons (pe_Wvar 0) (pa_Wcons (PE.imp (w2_run s_ix) (pe_ix ix_seq (pe_Wlst (pa_Wcons (PE.sh pe_Wint) (pa_Wcons (PE.sh (pe_Wvar 3)) pa_Wnil))) (PE.imp (wN_run s_int) (pe_callTy call_int1 (by rfl) (T.mgn 5 _ rfl) (by decide +kernel) (pa_Wcons (PE.imp (w2_run s_gt) (pe_cmpR op_Wgt (pe_Wvar 4) pe_Wint (nomark _))) pa_Wnil))) (fun _ _ => rfl))) pa_Wnil))))))
    (pss_WconsC (ps_Wif (PW.pt (pw_Wand (pt_Wcmp s_eqS op_eq (pe_Wvar 4) pe_Wint (nomark _)) (pw_Wand1 (pt_Wcmp s_eqS op_eq (pe_Wvar 6) pe_Wint (nomark _))))) (pss_Wone (ps_WnfS (ps_Wset (i := 10) (by decide) SC_law_names.nd rfl (by first | exact Or.inl rfl | exact Or.inr rfl) (PE.imp (w2_run s_add) (pe_op op_Wadd (PE.imp (w2_run s_ix) (pe_ix ix_seq (pe_Wvar 10) pe_Wint (fun _ _ => rfl))) (pe_Wsl (pe_Wvar 5) (po_Wsome pe_Wint) po_Wnone)))))) pss_Wnil)
    (pss_WconsC (ps_Wif (PW.pt (pw_Wand (pt_Wcmp s_eqS op_eq (pe_Wvar 4) pe_Wint (nomark _)) (pw_Wand1 (pt_Wcmp s_gt op_Wgt (pe_Wvar 6) pe_Wint (nomark _))))) (pss_Wone (ps_WnfS (ps_Wset (i := 10) (by decide) SC_law_names.nd rfl (by first | exact Or.inl rfl | exact Or.inr rfl) (PE.imp (w2_run s_add) (pe_op op_Wadd (PE.imp (w2_run s_add) (pe_op op_Wadd (pe_Wsl (pe_Wvar 5) po_Wnone (po_Wsome (pe_Wvar 6))) (pe_Wnf (pe_Wcal G_law_pick (hr.mono (by decide)) tk (by rfl) (pa_Wcons (pe_Wvar 0) (pa_Wcons pe_Wstr pa_Wnil)))))) (pe_Wsl (pe_Wvar 5) (po_Wsome (PE.imp (w2_run s_add) (pe_op op_Wadd (pe_Wvar 6) pe_Wint))) po_Wnone)))))) pss_Wnil)
    (pss_WconsC (ps_Wif (pt_Wcmp s_eqS op_eq (pe_Wvar 4) pe_Wint (nomark _)) (pss_Wone (ps_WnfS (ps_Wset (i := 10) (by decide) SC_law_names.nd rfl (by first | exact Or.inl rfl | exact Or.inr rfl) (pe_Wsl (pe_Wvar 5) po_Wnone (po_Wsome (PE.imp (w2_run s_add) (pe_op op_Wadd pe_Wint (pe_Wnf (pe_Wcal G_law_take (hr.mono (by decide)) tk (by rfl) (pa_Wcons (pe_Wvar 0) (pa_Wcons (PE.imp (wN_run s_len) (pe_callB call_len (by rfl) (T.mgn 0 _ rfl) PySem.boot_len (pa_Wcons (pe_Wvar 5) pa_Wnil))) pa_Wnil))))))))))) pss_Wnil)
    (pss_WconsC (ps_Wif (pt_Wcmp s_eqS op_eq (pe_Wvar 4) pe_Wint (nomark _)) (pss_Wone (ps_WnfS (ps_Wset (i := 10) (by decide) SC_law_names.nd rfl (by first | exact Or.inl rfl | exact Or.inr rfl) (pe_Wsl (PE.imp (w2_run s_add) (pe_op op_Wadd (pe_Wvar 10) pe_Wstr)) po_Wnone (po_Wsome (pe_Wvar 3)))))) pss_Wnil)
    (pss_WconsC (ps_Wif (pt_Wcmp s_eqS op_eq (pe_Wvar 4) pe_Wint (nomark _)) (pss_Wone (ps_WnfS (ps_Wset (i := 10) (by decide) SC_law_names.nd rfl (by first | exact Or.inl rfl | exact Or.inr rfl) (PE.imp (w2_run s_add) (pe_op op_Wadd (PE.imp (w2_run s_ix) (pe_ix ix_seq (pe_Wvar 10) pe_Wint (fun _ _ => rfl))) (PE.imp (wN_run s_strI) (pe_callTy call_str_int (by rfl) (T.mgn 9 _ rfl) (by decide +kernel) (pa_Wcons (pe_Wnf (pe_Wcal G_law_take (hr.mono (by decide)) tk (by rfl) (pa_Wcons (pe_Wvar 0) (pa_Wcons pe_Wint pa_Wnil)))) pa_Wnil)))))))) pss_Wnil)
    (pss_Wcons (ps_WnfS (ps_Wset (i := 10) (by decide) SC_law_names.nd rfl (by first | exact Or.inl rfl | exact Or.inr rfl) (pe_Wnf (pe_Wcal G_law_fresh (hr.mono (by decide)) tk (by rfl) (pa_Wcons (pe_Wvar 10) (pa_Wcons (pe_Wvar 7) pa_Wnil))))))
    (pss_Wcons (ps_WnfS (ps_Wexpr (pe_Wapp (pv 7) (PE.sh (pe_Wvar 10)))))
    (pss_Wone (ps_WnfS (ps_Wexpr (pe_Wapp (pv 8) (PE.sh (pe_Wvar 10)))))))))))))))
    (pss_Wone (ps_Wret (pe_Wvar 8)))))))))) (pure_law_names)
theorem ok_law_names {P : Program} {w : World} {K : PySem.W.Frag} {mg : Str → Option Value} {base : Heap} (T : TxM fa fn ex K mg) (G_law_take : Fo P w K mg base "_law_take" 3 ["_law_store_here", "_law_many"] [] S_law_take) (G_law_free_name : Fo P w K mg base "_law_free_name" 4 ["_law_store_here", "_law_most"] [] S_law_free_name) (G_law_pick : Fo P w K mg base "_law_pick" 4 ["_law_store_here", "_law_items"] [] S_law_pick) (G_law_fresh : Fo P w K mg base "_law_fresh" 1 ["_law_name", "_law_used"] [] S_law_fresh) : Fo P w K mg base "_law_names" 5 ["_law_store_here", "_law_many", "_law_used", "_law_most"] [] S_law_names := by
  obtain ⟨fd, F⟩ := T.c.def_ 13 (d := d_law_names) rfl
  exact ⟨_, fd, [], [], T.mgf 41 "_law_names" rfl, F.kp, .nil, F.bindsN (fun _ _ _ _ _ _ us hl => match us, hl with | [_, _, _, _], _ => rfl), .nil, okF_law_names T G_law_take G_law_free_name G_law_pick G_law_fresh F⟩
theorem SC_law_named : FnScope NN_law_named ["_law_store_here", "_law_n", "_law_pairs", "_law_shun", "_law_most"] (defScope st_law_named) := ⟨rfl, rfl, rfl, by decide +kernel, rfl, by decide +kernel, by decide +kernel⟩
theorem okF_law_named {P : Program} {w : World} {K : PySem.W.Frag} {mg : Str → Option Value} {base : Heap} (T : TxM fa fn ex K mg) (G_law_names : Fo P w K mg base "_law_names" 5 ["_law_store_here", "_law_many", "_law_used", "_law_most"] [] S_law_names) (G_law_odds : Fo P w K mg base "_law_odds" 4 ["_law_store_here", "_law_part"] [] S_law_odds) (G_law_shuffled : Fo P w K mg base "_law_shuffled" 4 ["_law_store_here", "_law_items"] [] S_law_shuffled) {f : Addr} {fd : FuncData} (F : FunD K d_law_named.name d_law_named.qual d_law_named.params d_law_named.body d_law_named.scope (d_law_named.dvs K) (d_law_named.kws K) f fd) : FnOk P w K mg base (L2.CX P w) 6 f fd ["_law_store_here", "_law_n", "_law_pairs", "_law_shun", "_law_most"] (spW K S_law_named) :=
  fn_W (N := NN_law_named) (ps := ["_law_store_here", "_law_n", "_law_pairs", "_law_shun", "_law_most"]) (k := 5) (S := S_law_named) (Fx := [0, 1, 2, 3, 4]) F SC_law_named (by decide) (fun cdv A outer s H E hr tk =>
    (pss_Wcons (ps_WnfS (ps_Wset (i := 5) (by decide) SC_law_named.nd rfl (by first | exact Or.inl rfl | exact Or.inr rfl) (pe_Wnf (pe_Wcal G_law_names (hr.mono (by decide)) tk (by rfl) (pa_Wcons (pe_Wvar 0) (pa_Wcons (pe_Wvar 1) (pa_Wcons (PE.imp (w2_run s_ix) (pe_ix ix_seq (pe_Wvar 3) pe_Wint (fun _ _ => rfl))) (pa_Wcons (pe_Wvar 4) pa_Wnil))))))))
    (pss_Wcons (ps_WnfS (ps_Wset (i := 6) (by decide) SC_law_named.nd rfl (by first | exact Or.inl rfl | exact Or.inr rfl) (pe_Wlst pa_Wnil)))
    (pss_WconsC (ps_Wif (pt_W (pe_Wnf (pe_Wcal G_law_odds (hr.mono (by decide)) tk (by rfl) (pa_Wcons (pe_Wvar 0) (pa_Wcons pe_Wint pa_Wnil))))) (pss_Wone (ps_WnfS (ps_Wset (i := 6) (by decide) SC_law_named.nd rfl (by first | exact Or.inl rfl | exact Or.inr rfl) (pe_Wsl (pe_WlcS rfl SC_law_named.nd itE_run (tg_name (by decide)) (by decide) (by decide) (pi_seq (pe_Wnf (pe_Wcal G_law_shuffled (hr.mono (by decide)) tk (by rfl) (pa_Wcons (pe_Wvar 0) (pa_Wcons (pe_Wvar 5) pa_Wnil))))) (blkOk_by (own := [(("_law_name" : Str), 9)]) (N := NN_law_named) (sc := (defScope st_law_named)) (by decide +kernel)) (fun _ _ _ _ _ => (pg_name (i := 9) SC_law_named.nd rfl (by first | exact Or.inl rfl | exact Or.inr rfl))) (fun _ _ _ _ _ => (pts_W (pt_Wcmp s_notIn op_WnotIn (pe_Wvar 9) (PE.imp (w2_run s_ix) (pe_ix ix_seq (pe_Wvar 3) pe_Wint (fun _ _ => rfl))) (by rfl)))) (fun _ _ _ _ _ => (pe_Wvar 9))) po_Wnone (po_Wsome (PE.imp (wN_run s_len) (pe_callB call_len (by rfl) (T.mgn 0 _ rfl) PySem.boot_len (pa_Wcons (pe_Wvar 2) pa_Wnil)))))))) pss_Wnil)
    (pss_Wcons (ps_WnfS (ps_Wset (i := 7) (by decide) SC_law_named.nd rfl (by first | exact Or.inl rfl | exact Or.inr rfl) (PE.imp (w2_run s_add) (pe_op op_Wadd (pe_Wvar 6) (pe_Wnf (pe_Wcal G_law_names (hr.mono (by decide)) tk (by rfl) (pa_Wcons (pe_Wvar 0) (pa_Wcons (PE.imp (w2_run s_sub) (pe_op op_sub (PE.imp (wN_run s_len) (pe_callB call_len (by rfl) (T.mgn 0 _ rfl) PySem.boot_len (pa_Wcons (pe_Wvar 2) pa_Wnil))) (PE.imp (wN_run s_len) (pe_callB call_len (by rfl) (T.mgn 0 _ rfl) PySem.boot_len (pa_Wcons (pe_Wvar 6) pa_Wnil))))) (pa_Wcons (PE.imp (w2_run s_add) (pe_op op_Wadd (PE.imp (wN_run s_list) (pe_callTy call_list_of (by rfl) (T.mgn 1 _ rfl) (by decide +kernel) (pa_Wcons (PE.imp (w2_run s_ix) (pe_ix ix_seq (pe_Wvar 3) pe_Wint (fun _ _ => rfl))) pa_Wnil))) (pe_Wvar 6))) (pa_Wcons (pe_Wvar 4) pa_Wnil))))))))))
    (pss_Wone (ps_Wret (pe_Wtup (pa_Wcons (PE.sh (PE.imp (w2_run s_ix) (pe_ix ix_seq (pe_Wvar 5) pe_Wint (fun _ _ => rfl)))) (pa_Wcons (PE.sh (pe_Wsl (pe_Wvar 5) (po_Wsome pe_Wint) po_Wnone)) (pa_Wcons (PE.sh (pe_WlcS rfl SC_law_named.nd i_R1 (tg_name (by decide)) (by decide) (by decide) (pi_range1 (by rfl) (T.mgn 6 _ rfl) (pa_Wcons (PE.imp (wN_run s_len) (pe_callB call_len (by rfl) (T.mgn 0 _ rfl) PySem.boot_len (pa_Wcons (pe_Wvar 2) pa_Wnil))) pa_Wnil)) (blkOk_by (own := [(("_law_k" : Str), 8)]) (N := NN_law_named) (sc := (defScope st_law_named)) (by decide +kernel)) (fun _ _ _ _ _ => (pg_name (i := 8) SC_law_named.nd rfl (by first | exact Or.inl rfl | exact Or.inr rfl))) (fun _ _ _ _ _ => pts_Wnil) (fun _ _ _ _ _ => (pe_Wtup (pa_Wcons (PE.sh (PE.imp (w2_run s_ix) (pe_ix ix_seq (pe_Wvar 7) (pe_Wvar 8) (fun _ _ => rfl)))) (pa_Wcons (PE.sh (PE.imp (w2_run s_ix) (pe_ix ix_seq (pe_Wvar 5) (PE.imp (w2_run s_ix) (pe_ix ix_seq (PE.imp (w2_run s_ix) (pe_ix ix_seq (pe_Wvar 2) (pe_Wvar 8) (fun _ _ => rfl))) pe_Wint (fun _ _ => rfl))) (fun _ _ => rfl)))) (pa_Wcons (PE.sh (PE.imp (w2_run s_ix) (pe_ix ix_seq (pe_Wvar 5) (PE.imp (w2_run s_ix) (pe_ix ix_seq (PE.imp (w2_run s_ix) (pe_ix ix_seq (pe_Wvar 2) (pe_Wvar 8) (fun _ _ => rfl))) pe_Wint (fun _ _ => rfl))) (fun _ _ => rfl)))) pa_Wnil))))))) pa_Wnil))))))))))) (pure_law_named)
theorem ok_law_named {P : Program} {w : World} {K : PySem.W.Frag} {mg : Str → Option Value} {base : Heap} (T : TxM fa fn ex K mg) (G_law_names : Fo P w K mg base "_law_names" 5 ["_law_store_here", "_law_many", "_law_used", "_law_most"] [] S_law_names) (G_law_odds : Fo P w K mg base "_law_odds" 4 ["_law_store_here", "_law_part"] [] S_law_odds) (G_law_shuffled : Fo P w K mg base "_law_shuffled" 4 ["_law_store_here", "_law_items"] [] S_law_shuffled) : Fo P w K mg base "_law_named" 6 ["_law_store_here", "_law_n", "_law_pairs", "_law_shun", "_law_most"] [] S_law_named := by
  obtain ⟨fd, F⟩ := T.c.def_ 14 (d := d_law_named) rfl
  exact ⟨_, fd, [], [], T.mgf 42 "_law_named" rfl, F.kp, .nil, F.bindsN (fun _ _ _ _ _ _ us hl => match us, hl with | [_, _, _, _, _], _ => rfl), .nil, okF_law_named T G_law_names G_law_odds G_law_shuffled F⟩
theorem SC_law_world : FnScope NN_law_world ["_law_store_here", "_law_most", "_law_room"] (defScope st_law_world) := ⟨rfl, rfl, rfl, by decide +kernel, rfl, by decide +kernel, by decide +kernel⟩
theorem okF_law_world {P : Program} {w : World} {K : PySem.W.Frag} {mg : Str → Option Value} {base : Heap} (T : TxM fa fn ex K mg) (G_law_shape : Fo P w K mg base "_law_shape" 6 ["_law_store_here", "_law_most", "_law_room"] [] S_law_shape) (G_law_named : Fo P w K mg base "_law_named" 6 ["_law_store_here", "_law_n", "_law_pairs", "_law_shun", "_law_most"] [] S_law_named) {f : Addr} {fd : FuncData} (F : FunD K d_law_world.name d_law_world.qual d_law_world.params d_law_world.body d_law_world.scope (d_law_world.dvs K) (d_law_world.kws K) f fd) : FnOk P w K mg base (L2.CX P w) 7 f fd ["_law_store_here", "_law_most", "_law_room"] (spW K S_law_world) :=
  fn_W (N := NN_law_world) (ps := ["_law_store_here", "_law_most", "_law_room"]) (k := 6) (S := S_law_world) (Fx := [0, 1, 2]) F SC_law_world (by decide) (fun cdv A outer s H E hr tk =>
    (pss_Wcons (ps_WnfS (PS.imp (asgT_run (is := [3, 4]) (by decide)) (ps_asg (pe_Wnf (pe_Wcal G_law_shape (hr.mono (by decide)) tk (by rfl) (pa_Wcons (pe_Wvar 0) (pa_Wcons (pe_Wvar 1) (pa_Wcons (pe_Wvar 2) pa_Wnil))))) (pg_tup rfl (pgs_cons (pg_name (i := 3) SC_law_world.nd rfl (by first | exact Or.inl rfl | exact Or.inr rfl)) (pgs_cons (pg_name (i := 4) SC_law_world.nd rfl (by first | exact Or.inl rfl | exact Or.inr rfl)) pgs_nil))))))
    (pss_Wone (ps_Wret (pe_Wnf (pe_Wcal G_law_named (hr.mono (by decide)) tk (by rfl) (pa_Wcons (pe_Wvar 0) (pa_Wcons (pe_Wvar 3) (pa_Wcons (pe_Wvar 4) (pa_Wcons (pe_Wtup (pa_Wcons (PE.sh (pe_Wlst pa_Wnil)) (pa_Wcons (PE.sh (pe_Wlst pa_Wnil)) pa_Wnil))) (pa_Wcons pe_Wint pa_Wnil))))))))))) (pure_law_world)
theorem ok_law_world {P : Program} {w : World} {K : PySem.W.Frag} {mg : Str → Option Value} {base : Heap} (T : TxM fa fn ex K mg) (G_law_shape : Fo P w K mg base "_law_shape" 6 ["_law_store_here", "_law_most", "_law_room"] [] S_law_shape) (G_law_named : Fo P w K mg base "_law_named" 6 ["_law_store_here", "_law_n", "_law_pairs", "_law_shun", "_law_most"] [] S_law_named) : Fo P w K mg base "_law_world" 7 ["_law_store_here", "_law_most", "_law_room"] [] S_law_world := by
  obtain ⟨fd, F⟩ := T.c.def_ 15 (d := d_law_world) rfl
  exact ⟨_, fd, [], [], T.mgf 43 "_law_world" rfl, F.kp, .nil, F.bindsN (fun _ _ _ _ _ _ us hl => match us, hl with | [_, _, _], _ => rfl), .nil, okF_law_world T G_law_shape G_law_named F⟩
theorem SC_law_put : FnScope NN_law_put ["_law_store_here", "_law_items", "_law_item"] (defScope st_law_put) := ⟨rfl, rfl, rfl, by decide +kernel, rfl, by decide +kernel, by decide +kernel⟩
theorem okF_law_put {P : Program} {w : World} {K : PySem.W.Frag} {mg : Str → Option Value} {base : Heap} (T : TxM fa fn ex K mg) (G_law_take : Fo P w K mg base "_law_take" 3 ["_law_store_here", "_law_many"] [] S_law_take) {f : Addr} {fd : FuncData} (F : FunD K d_law_put.name d_law_put.qual d_law_put.params d_law_put.body d_law_put.scope (d_law_put.dvs K) (d_law_put.kws K) f fd) : FnOk P w K mg base (L2.CX P w) 4 f fd ["_law_store_here", "_law_items", "_law_item"] (spW K S_law_put) :=
  fn_W (N := NN_law_put) (ps := ["_law_store_here", "_law_items", "_law_item"]) (k := 3) (S := S_law_put) (Fx := [0, 1, 2]) F SC_law_put (by decide) (fun cdv A outer s H E hr tk =>
    (pss_Wcons (ps_WnfS (ps_Wset (i := 3) (by decide) SC_law_put.nd rfl (by first | exact Or.inl rfl | exact Or.inr rfl) (pe_Wnf (pe_Wcal G_law_take (hr.mono (by decide)) tk (by rfl) (pa_Wcons (pe_Wvar 0) (pa_Wcons (PE.imp (w2_run s_add) (pe_op op_Wadd (PE.imp (wN_run s_len) (pe_callB call_len (by rfl) (T.mgn 0 _ rfl) PySem.boot_len (pa_Wcons (pe_Wvar 1) pa_Wnil))) pe_Wint)) pa_Wnil))))))
    (pss_Wone (ps_Wret (PE.imp (w2_run s_add) (pe_op op_Wadd (PE.imp (w2_run s_add) (pe_op op_Wadd (PE.imp (wN_run s_list) (pe_callTy call_list_of (by rfl) (T.mgn 1 _ rfl) (by decide +kernel) (pa_Wcons (pe_Wsl (pe_Wvar 1) po_Wnone (po_Wsome (pe_Wvar 3))) pa_Wnil))) (pe_Wlst (pa_Wcons (PE.sh (pe_Wvar 2)) pa_Wnil)))) (PE.imp (wN_run s_list) (pe_callTy call_list_of (by rfl) (T.mgn 1 _ rfl) (by decide +kernel) (pa_Wcons (pe_Wsl (pe_Wvar 1) (po_Wsome (pe_Wvar 3)) po_Wnone) pa_Wnil))))))))) (pure_law_put)
theorem ok_law_put {P : Program} {w : World} {K : PySem.W.Frag} {mg : Str → Option Value} {base : Heap} (T : TxM fa fn ex K mg) (G_law_take : Fo P w K mg base "_law_take" 3 ["_law_store_here", "_law_many"] [] S_law_take) : Fo P w K mg base "_law_put" 4 ["_law_store_here", "_law_items", "_law_item"] [] S_law_put := by
  obtain ⟨fd, F⟩ := T.c.def_ 16 (d := d_law_put) rfl
  exact ⟨_, fd, [], [], T.mgf 44 "_law_put" rfl, F.kp, .nil, F.bindsN (fun _ _ _ _ _ _ us hl => match us, hl with | [_, _, _], _ => rfl), .nil, okF_law_put T G_law_take F⟩
theorem SC_law_full : FnScope NN_law_full ["_law_store_here", "_law_world_here"] (defScope st_law_full) := ⟨rfl, rfl, rfl, by decide +kernel, rfl, by decide +kernel, by decide +kernel⟩
theorem okF_law_full {P : Program} {w : World} {K : PySem.W.Frag} {mg : Str → Option Value} {base : Heap} (T : TxM fa fn ex K mg) (G_law_fresh : Fo P w K mg base "_law_fresh" 1 ["_law_name", "_law_used"] [] S_law_fresh) (G_law_put : Fo P w K mg base "_law_put" 4 ["_law_store_here", "_law_items", "_law_item"] [] S_law_put) (G_law_pick : Fo P w K mg base "_law_pick" 4 ["_law_store_here", "_law_items"] [] S_law_pick) {f : Addr} {fd : FuncData} (F : FunD K d_law_full.name d_law_full.qual d_law_full.params d_law_full.body d_law_full.scope (d_law_full.dvs K) (d_law_full.kws K) f fd) : FnOk P w K mg base (L2.CX P w) 5 f fd ["_law_store_here", "_law_world_here"] (spW K S_law_full) :=
  fn_W (N := NN_law_full) (ps := ["_law_store_here", "_law_world_here"]) (k := 4) (S := S_law_full) (Fx := [0, 1]) F SC_law_full (by decide) (fun cdv A outer s H E hr tk =>
    (pss_Wcons (ps_WnfS (PS.imp (asgT_run (is := [2, 3, 4]) (by decide)) (ps_asg (pe_Wvar 1) (pg_tup rfl (pgs_cons (pg_name (i := 2) SC_law_full.nd rfl (by first | exact Or.inl rfl | exact Or.inr rfl)) (pgs_cons (pg_name (i := 3) SC_law_full.nd rfl (by first | exact Or.inl rfl | exact Or.inr rfl)) (pgs_cons (pg_name (i := 4) SC_law_full.nd rfl (by first | exact Or.inl rfl | exact Or.inr rfl)) pgs_nil)))))))
    (pss_Wcons (ps_Wfor (passes_of rfl) rfl i_R1 (tg_name (by decide)) (pi_range1 (by rfl) (T.mgn 6 _ rfl) (pa_Wcons (PE.imp (w2_run s_sub) (pe_op op_sub pe_Wint (PE.imp (wN_run s_len) (pe_callB call_len (by rfl) (T.mgn 0 _ rfl) PySem.boot_len (pa_Wcons (pe_Wvar 3) pa_Wnil))))) pa_Wnil)) (pg_name (i := 5) SC_law_full.nd rfl (by first | exact Or.inl rfl | exact Or.inr rfl)) (pss_Wone (ps_WnfS (ps_Wset (i := 3) (by decide) SC_law_full.nd rfl (by first | exact Or.inl rfl | exact Or.inr rfl) (pe_Wnf (pe_Wcal G_law_put (hr.mono (by decide)) tk (by rfl) (pa_Wcons (pe_Wvar 0) (pa_Wcons (pe_Wvar 3) (pa_Wcons (pe_Wnf (pe_Wcal G_law_fresh (hr.mono (by decide)) tk (by rfl) (pa_Wcons (PE.imp (w2_run s_add) (pe_op op_Wadd pe_Wstr (PE.imp (wN_run s_strI) (pe_callTy call_str_int (by rfl) (T.mgn 9 _ rfl) (by decide +kernel) (pa_Wcons (pe_Wvar 5) pa_Wnil))))) (pa_Wcons (PE.imp (w2_run s_add) (pe_op op_Wadd (pe_Wlst (pa_Wcons (PE.sh (pe_Wvar 2)) pa_Wnil)) (PE.imp (wN_run s_list) (pe_callTy call_list_of (by rfl) (T.mgn 1 _ rfl) (by decide +kernel) (pa_Wcons (pe_Wvar 3) pa_Wnil))))) pa_Wnil)))) pa_Wnil)))))))))
    (pss_Wcons (ps_WnfS (ps_Wset (i := 6) (by decide) SC_law_full.nd rfl (by first | exact Or.inl rfl | exact Or.inr rfl) (PE.imp (w2_run s_add) (pe_op op_Wadd (pe_Wlst (pa_Wcons (PE.sh (pe_Wvar 2)) pa_Wnil)) (PE.imp (wN_run s_list) (pe_callTy call_list_of (by rfl) (T.mgn 1 _ rfl) (by decide +kernel) (pa_Wcons (pe_Wvar 3) pa_Wnil)))))))
    (pss_Wcons (ps_Wfor (passes_of rfl) rfl i_R1 (tg_name (by decide)) (pi_range1 (by rfl) (T.mgn 6 _ rfl) (pa_Wcons (PE.imp (w2_run s_sub) (pe_op op_sub pe_Wint (PE.imp (wN_run s_len) (pe_callB call_len (by rfl) (T.mgn 0 _ rfl) PySem.boot_len (pa_Wcons (pe_Wvar 4) pa_Wnil))))) pa_Wnil)) (pg_name (i := 5) SC_law_full.nd rfl (by first | exact Or.inl rfl | exact Or.inr rfl)) (pss_Wcons (ps_WnfS (ps_Wset (i := 7) (by decide) SC_law_full.nd rfl (by first | exact Or.inl rfl | exact Or.inr rfl) (pe_Wnf (pe_Wcal G_law_fresh (hr.mono (by decide)) tk (by rfl) (pa_Wcons (PE.imp (w2_run s_add) (pe_op op_Wadd pe_Wstr (PE.imp (wN_run s_strI) (pe_callTy call_str_int (by rfl) (T.mgn 9 _ rfl) (by decide +kernel) (pa_Wcons (pe_Wvar 5) pa_Wnil))))) (pa_Wcons (pe_WlcS rfl SC_law_full.nd itE_run (tg_name (by decide)) (by decide) (by decide) (pi_seq (pe_Wvar 4)) (blkOk_by (own := [(("_law_line" : Str), 8)]) (N := NN_law_full) (sc := (defScope st_law_full)) (by decide +kernel)) (fun _ _ _ _ _ => (pg_name (i := 8) SC_law_full.nd rfl (by first | exact Or.inl rfl | exact Or.inr rfl))) (fun _ _ _ _ _ => pts_Wnil) (fun _ _ _ _ _ => (PE.imp (w2_run s_ix) (pe_ix ix_seq (pe_Wvar 8) pe_Wint (fun _ _ => rfl))))) pa_Wnil))))))
    (pss_Wone (ps_WnfS (ps_Wset (i := 4) (by decide) SC_law_full.nd rfl (by first | exact Or.inl rfl | exact Or.inr rfl) (pe_Wnf (pe_Wcal G_law_put (hr.mono (by decide)) tk (by rfl) (pa_Wcons (pe_Wvar 0) (pa_Wcons (pe_Wvar 4) (pa_Wcons (pe_Wtup (pa_Wcons (PE.sh (pe_Wvar 7)) (pa_Wcons (PE.sh (pe_Wnf (pe_Wcal G_law_pick (hr.mono (by decide)) tk (by rfl) (pa_Wcons (pe_Wvar 0) (pa_Wcons (pe_Wvar 6) pa_Wnil))))) (pa_Wcons (PE.sh (pe_Wnf (pe_Wcal G_law_pick (hr.mono (by decide)) tk (by rfl) (pa_Wcons (pe_Wvar 0) (pa_Wcons (pe_Wvar 6) pa_Wnil))))) pa_Wnil)))) pa_Wnil))))))))))
    (pss_Wone (ps_Wret (pe_Wtup (pa_Wcons (PE.sh (pe_Wvar 2)) (pa_Wcons (PE.sh (PE.imp (wN_run s_list) (pe_callTy call_list_of (by rfl) (T.mgn 1 _ rfl) (by decide +kernel) (pa_Wcons (pe_Wvar 3) pa_Wnil)))) (pa_Wcons (PE.sh (PE.imp (wN_run s_list) (pe_callTy call_list_of (by rfl) (T.mgn 1 _ rfl) (by decide +kernel) (pa_Wcons (pe_Wvar 4) pa_Wnil)))) pa_Wnil))))))))))) (pure_law_full)
theorem ok_law_full {P : Program} {w : World} {K : PySem.W.Frag} {mg : Str → Option Value} {base : Heap} (T : TxM fa fn ex K mg) (G_law_fresh : Fo P w K mg base "_law_fresh" 1 ["_law_name", "_law_used"] [] S_law_fresh) (G_law_put : Fo P w K mg base "_law_put" 4 ["_law_store_here", "_law_items", "_law_item"] [] S_law_put) (G_law_pick : Fo P w K mg base "_law_pick" 4 ["_law_store_here", "_law_items"] [] S_law_pick) : Fo P w K mg base "_law_full" 5 ["_law_store_here", "_law_world_here"] [] S_law_full := by
  obtain ⟨fd, F⟩ := T.c.def_ 17 (d := d_law_full) rfl
  exact ⟨_, fd, [], [], T.mgf 45 "_law_full" rfl, F.kp, .nil, F.bindsN (fun _ _ _ _ _ _ us hl => match us, hl with | [_, _], _ => rfl), .nil, okF_law_full T G_law_fresh G_law_put G_law_pick F⟩
theorem SC_law_houses : FnScope NN_law_houses ["_law_world_here"] (defScope st_law_houses) := ⟨rfl, rfl, rfl, by decide +kernel, rfl, by decide +kernel, by decide +kernel⟩
theorem okF_law_houses {P : Program} {w : World} {K : PySem.W.Frag} {mg : Str → Option Value} {base : Heap} (T : TxM fa fn ex K mg) {f : Addr} {fd : FuncData} (F : FunD K d_law_houses.name d_law_houses.qual d_law_houses.params d_law_houses.body d_law_houses.scope (d_law_houses.dvs K) (d_law_houses.kws K) f fd) : FnOk P w K mg base (L2.CX P w) 1 f fd ["_law_world_here"] (spW K S_law_houses) :=
  fn_W (N := NN_law_houses) (ps := ["_law_world_here"]) (k := 0) (S := S_law_houses) (Fx := [0]) F SC_law_houses (by decide) (fun cdv A outer s H E hr tk =>
    (pss_Wone (ps_Wret (PE.imp (wN_run s_sort) (pe_callB (cr_sortD hr.units) (by rfl) (T.mgn 10 _ rfl) (by decide +kernel) (pa_Wcons (PE.imp (w2_run s_add) (pe_op op_Wadd (pe_Wlst (pa_Wcons (PE.sh (PE.imp (w2_run s_ix) (pe_ix ix_seq (pe_Wvar 0) pe_Wint (fun _ _ => rfl)))) pa_Wnil)) (PE.imp (wN_run s_list) (pe_callTy call_list_of (by rfl) (T.mgn 1 _ rfl) (by decide +kernel) (pa_Wcons (PE.imp (w2_run s_ix) (pe_ix ix_seq (pe_Wvar 0) pe_Wint (fun _ _ => rfl))) pa_Wnil))))) pa_Wnil)))))) (pure_law_houses)
theorem ok_law_houses {P : Program} {w : World} {K : PySem.W.Frag} {mg : Str → Option Value} {base : Heap} (T : TxM fa fn ex K mg) : Fo P w K mg base "_law_houses" 1 ["_law_world_here"] [] S_law_houses := by
  obtain ⟨fd, F⟩ := T.c.def_ 18 (d := d_law_houses) rfl
  exact ⟨_, fd, [], [], T.mgf 46 "_law_houses" rfl, F.kp, .nil, F.bindsN (fun _ _ _ _ _ _ us hl => match us, hl with | [_], _ => rfl), .nil, okF_law_houses T  F⟩
theorem SC_law_near_world : FnScope NN_law_near_world ["_law_store_here", "_law_world_here"] (defScope st_law_near_world) := ⟨rfl, rfl, rfl, by decide +kernel, rfl, by decide +kernel, by decide +kernel⟩
theorem okF_law_near_world {P : Program} {w : World} {K : PySem.W.Frag} {mg : Str → Option Value} {base : Heap} (T : TxM fa fn ex K mg) (G_law_take : Fo P w K mg base "_law_take" 3 ["_law_store_here", "_law_many"] [] S_law_take) (G_law_pick : Fo P w K mg base "_law_pick" 4 ["_law_store_here", "_law_items"] [] S_law_pick) (G_law_fresh : Fo P w K mg base "_law_fresh" 1 ["_law_name", "_law_used"] [] S_law_fresh) (G_law_put : Fo P w K mg base "_law_put" 4 ["_law_store_here", "_law_items", "_law_item"] [] S_law_put) (G_law_shuffled : Fo P w K mg base "_law_shuffled" 4 ["_law_store_here", "_law_items"] [] S_law_shuffled) (G_law_world : Fo P w K mg base "_law_world" 7 ["_law_store_here", "_law_most", "_law_room"] [] S_law_world) {f : Addr} {fd : FuncData} (F : FunD K d_law_near_world.name d_law_near_world.qual d_law_near_world.params d_law_near_world.body d_law_near_world.scope (d_law_near_world.dvs K) (d_law_near_world.kws K) f fd) : FnOk P w K mg base (L2.CX P w) 8 f fd ["_law_store_here", "_law_world_here"] (spW K S_law_near_world) :=
  fn_W (N := NN_law_near_world) (ps := ["_law_store_here", "_law_world_here"]) (k := 7) (S := S_law_near_world) (Fx := [0, 1]) F SC_law_near_world (by decide) (fun cdv A outer s H E hr tk =>
    (pss_Wcons (ps_WnfS (PS.imp (asgT_run (is := [2, 3, 4]) (by decide)) (ps_asg (pe_Wvar 1) (pg_tup rfl (pgs_cons (pg_name (i := 2) SC_law_near_world.nd rfl (by first | exact Or.inl rfl | exact Or.inr rfl)) (pgs_cons (pg_name (i := 3) SC_law_near_world.nd rfl (by first | exact Or.inl rfl | exact Or.inr rfl)) (pgs_cons (pg_name (i := 4) SC_law_near_world.nd rfl (by first | exact Or.inl rfl | exact Or.inr rfl)) pgs_nil)))))))
    (pss_Wcons (ps_WnfS (ps_Wset (i := 5) (by decide) SC_law_near_world.nd rfl (by first | exact Or.inl rfl | exact Or.inr rfl) (PE.imp (w2_run s_add) (pe_op op_Wadd (pe_Wlst (pa_Wcons (PE.sh (pe_Wvar 2)) pa_Wnil)) (PE.imp (wN_run s_list) (pe_callTy call_list_of (by rfl) (T.mgn 1 _ rfl) (by decide +kernel) (pa_Wcons (pe_Wvar 3) pa_Wnil)))))))
    (pss_Wcons (ps_WnfS (ps_Wset (i := 6) (by decide) SC_law_near_world.nd rfl (by first | exact Or.inl rfl | exact Or.inr rfl) (pe_Wnf (pe_Wcal G_law_take (hr.mono (by decide)) tk (by rfl) (pa_Wcons (pe_Wvar 0) (pa_Wcons pe_Wint pa_Wnil))))))
    (pss_Wcons (ps_WnfS (ps_WsetLcS (i := 7) (by decide) rfl SC_law_near_world.nd rfl rfl (sw_true rfl rfl rfl (by decide +kernel)) itE_run (tg_name (by decide)) (by decide) (by decide) (pi_seq (pe_Wvar 3)) (blkOk_by (own := [(("_law_name" : Str), 11)]) (N := NN_law_near_world) (sc := (defScope st_law_near_world)) (by decide +kernel)) (fun _ _ _ _ _ => (pg_name (i := 11) SC_law_near_world.nd rfl (by first | exact Or.inl rfl | exact Or.inr rfl))) (fun _ _ _ _ _ => (pts_W (pt_Wnot (pt_W (PE.imp (wN_run s_any) (pe_callB (cr_any rfl) (by rfl) (T.mgn 11 _ rfl) (by decide +kernel) (pa_Wcons (pe_WlcS rfl SC_law_near_world.nd itE_run (tg_name (by decide)) (by decide) (by decide) (pi_seq (pe_Wvar 4)) (blkOk_by (own := [(("_law_line" : Str), 14)]) (by rfl)) (fun _ _ _ _ _ => (pg_name (i := 14) SC_law_near_world.nd rfl (by first | exact Or.inl rfl | exact Or.inr rfl))) (fun _ _ _ _ _ => pts_Wnil) (fun _ _ _ _ _ => (PE.imp (w2_run s_in) (pe_cmpR op_Win (pe_Wvar 11) (pe_Wsl (pe_Wvar 14) (po_Wsome pe_Wint) po_Wnone) (by rfl))))) pa_Wnil))))))) (fun _ _ _ _ _ => (pe_Wvar 11))))
    (pss_Wcons (ps_Wif (PW.pt (pw_Wand (pt_Wcmp s_gt op_Wgt (pe_Wvar 6) pe_Wint (nomark _)) (pw_Wand1 (pt_Wcmp s_gt op_Wgt (PE.imp (wN_run s_len) (pe_callB call_len (by rfl) (T.mgn 0 _ rfl) PySem.boot_len (pa_Wcons (pe_Wvar 7) pa_Wnil))) pe_Wint (nomark _))))) (pss_Wcons (ps_WnfS (ps_Wset (i := 8) (by decide) SC_law_near_world.nd rfl (by first | exact Or.inl rfl | exact Or.inr rfl) (pe_Wnf (pe_Wcal G_law_pick (hr.mono (by decide)) tk (by rfl) (pa_Wcons (pe_Wvar 0) (pa_Wcons (pe_Wvar 7) pa_Wnil))))))
    (pss_Wcons (ps_WnfS (ps_WsetLcS (i := 9) (by decide) rfl SC_law_near_world.nd rfl rfl (sw_true rfl rfl rfl (by decide +kernel)) itE_run (tg_name (by decide)) (by decide) (by decide) (pi_seq (pe_Wvar 3)) (blkOk_by (own := [(("_law_name" : Str), 11)]) (N := NN_law_near_world) (sc := (defScope st_law_near_world)) (by decide +kernel)) (fun _ _ _ _ _ => (pg_name (i := 11) SC_law_near_world.nd rfl (by first | exact Or.inl rfl | exact Or.inr rfl))) (fun _ _ _ _ _ => (pts_W (pt_Wcmp s_neS op_ne (pe_Wvar 11) (pe_Wvar 8) (nomark _)))) (fun _ _ _ _ _ => (pe_Wvar 11))))
    (pss_Wone (ps_Wret (pe_Wtup (pa_Wcons (PE.sh (pe_Wvar 2)) (pa_Wcons (PE.sh (pe_Wnf (pe_Wcal G_law_put (hr.mono (by decide)) tk (by rfl) (pa_Wcons (pe_Wvar 0) (pa_Wcons (pe_Wvar 9) (pa_Wcons (pe_Wnf (pe_Wcal G_law_fresh (hr.mono (by decide)) tk (by rfl) (pa_Wcons (pe_Wsl (pe_Wvar 8) po_Wnone (po_Wsome pe_Wint)) (pa_Wcons (pe_Wvar 5) pa_Wnil)))) pa_Wnil)))))) (pa_Wcons (PE.sh (PE.imp (wN_run s_list) (pe_callTy call_list_of (by rfl) (T.mgn 1 _ rfl) (by decide +kernel) (pa_Wcons (pe_Wvar 4) pa_Wnil)))) pa_Wnil)))))))) pss_Wnil)
    (pss_Wcons (ps_Wif (PW.pt (pw_Wand (pt_Wcmp s_eqS op_eq (pe_Wvar 6) pe_Wint (nomark _)) (pw_Wand1 (pt_Wcmp s_gt op_Wgt (PE.imp (wN_run s_len) (pe_callB call_len (by rfl) (T.mgn 0 _ rfl) PySem.boot_len (pa_Wcons (pe_Wvar 3) pa_Wnil))) pe_Wint (nomark _))))) (pss_Wcons (ps_WnfS (ps_Wset (i := 10) (by decide) SC_law_near_world.nd rfl (by first | exact Or.inl rfl | exact Or.inr rfl) (pe_Wnf (pe_Wcal G_law_pick (hr.mono (by decide)) tk (by rfl) (pa_Wcons (pe_Wvar 0) (pa_Wcons (pe_Wvar 3) pa_Wnil))))))
    (pss_Wone (ps_Wret (pe_Wtup (pa_Wcons (PE.sh (pe_Wvar 10)) (pa_Wcons (PE.sh (pe_WlcS rfl SC_law_near_world.nd itE_run (tg_name (by decide)) (by decide) (by decide) (pi_seq (pe_Wvar 5)) (blkOk_by (own := [(("_law_name" : Str), 11)]) (N := NN_law_near_world) (sc := (defScope st_law_near_world)) (by decide +kernel)) (fun _ _ _ _ _ => (pg_name (i := 11) SC_law_near_world.nd rfl (by first | exact Or.inl rfl | exact Or.inr rfl))) (fun _ _ _ _ _ => (pts_W (pt_Wcmp s_neS op_ne (pe_Wvar 11) (pe_Wvar 10) (nomark _)))) (fun _ _ _ _ _ => (pe_Wvar 11)))) (pa_Wcons (PE.sh (PE.imp (wN_run s_list) (pe_callTy call_list_of (by rfl) (T.mgn 1 _ rfl) (by decide +kernel) (pa_Wcons (pe_Wvar 4) pa_Wnil)))) pa_Wnil))))))) pss_Wnil)
    (pss_Wcons (ps_Wif (PW.pt (pw_Wand (pt_Wcmp s_eqS op_eq (pe_Wvar 6) pe_Wint (nomark _)) (pw_Wand1 (pt_Wcmp s_lt op_Wlt (PE.imp (wN_run s_len) (pe_callB call_len (by rfl) (T.mgn 0 _ rfl) PySem.boot_len (pa_Wcons (pe_Wvar 5) pa_Wnil))) pe_Wint (nomark _))))) (pss_Wone (ps_Wret (pe_Wtup (pa_Wcons (PE.sh (pe_Wvar 2)) (pa_Wcons (PE.sh (pe_Wnf (pe_Wcal G_law_put (hr.mono (by decide)) tk (by rfl) (pa_Wcons (pe_Wvar 0) (pa_Wcons (pe_Wvar 3) (pa_Wcons (pe_Wnf (pe_Wcal G_law_fresh (hr.mono (by decide)) tk (by rfl) (pa_Wcons pe_Wstr (pa_Wcons (pe_Wvar 5) pa_Wnil)))) pa_Wnil)))))) (pa_Wcons (PE.sh (PE.imp (wN_run s_list) (pe_callTy call_list_of (by rfl) (T.mgn 1 _ rfl) (by decide +kernel) (pa_Wcons (pe_Wvar 4) pa_Wnil)))) pa_Wnil)))))) pss_Wnil)
    (pss_Wcons (ps_Wif (pt_Wcmp s_eqS op_eq (pe_Wvar 6) pe_Wint (nomark _)) (pss_Wone (ps_Wret (pe_Wtup (pa_Wcons (PE.sh (pe_Wvar 2)) (pa_Wcons (PE.sh (pe_Wnf (pe_Wcal G_law_shuffled (hr.mono (by decide)) tk (by rfl) (pa_Wcons (pe_Wvar 0) (pa_Wcons (pe_Wvar 3) pa_Wnil))))) (pa_Wcons (PE.sh (pe_Wnf (pe_Wcal G_law_shuffled (hr.mono (by decide)) tk (by rfl) (pa_Wcons (pe_Wvar 0) (pa_Wcons (pe_Wvar 4) pa_Wnil))))) pa_Wnil)))))) pss_Wnil)
    (pss_Wcons (ps_Wif (PW.pt (pw_Wor (pt_Wcmp s_gt op_Wgt (pe_Wvar 6) pe_Wint (nomark _)) (pw_Wor1 (pt_Wcmp s_eqS op_eq (PE.imp (wN_run s_len) (pe_callB call_len (by rfl) (T.mgn 0 _ rfl) PySem.boot_len (pa_Wcons (pe_Wvar 4) pa_Wnil))) pe_Wint (nomark _))))) (pss_Wone (ps_Wret (pe_Wnf (pe_Wcal G_law_world (hr.mono (by decide)) tk (by rfl) (pa_Wcons (pe_Wvar 0) (pa_Wcons pe_Wint (pa_Wcons pe_Wint pa_Wnil))))))) pss_Wnil)
    (pss_Wcons (ps_WnfS (ps_Wset (i := 9) (by decide) SC_law_near_world.nd rfl (by first | exact Or.inl rfl | exact Or.inr rfl) (pe_Wnf (pe_Wcal G_law_shuffled (hr.mono (by decide)) tk (by rfl) (pa_Wcons (pe_Wvar 0) (pa_Wcons (pe_Wvar 4) pa_Wnil))))))
    (pss_Wcons (ps_WnfS (PS.imp (asgT_run (is := [11, 12, 13]) (by decide)) (ps_asg (pe_Wpop (pv 9)) (pg_tup rfl (pgs_cons (pg_name (i := 11) SC_law_near_world.nd rfl (by first | exact Or.inl rfl | exact Or.inr rfl)) (pgs_cons (pg_name (i := 12) SC_law_near_world.nd rfl (by first | exact Or.inl rfl | exact Or.inr rfl)) (pgs_cons (pg_name (i := 13) SC_law_near_world.nd rfl (by first | exact Or.inl rfl | exact Or.inr rfl)) pgs_nil)))))))
    (pss_WconsC (ps_Wif (pt_Wcmp s_eqS op_eq (pe_Wvar 6) pe_Wint (nomark _)) (pss_Wone (ps_WnfS (ps_Wset (i := 11) (by decide) SC_law_near_world.nd rfl (by first | exact Or.inl rfl | exact Or.inr rfl) (pe_Wnf (pe_Wcal G_law_fresh (hr.mono (by decide)) tk (by rfl) (pa_Wcons (pe_Wsl (pe_Wvar 11) po_Wnone (po_Wsome pe_Wint)) (pa_Wcons (pe_WlcS rfl SC_law_near_world.nd itE_run (tg_name (by decide)) (by decide) (by decide) (pi_seq (pe_Wvar 4)) (blkOk_by (own := [(("_law_line" : Str), 14)]) (N := NN_law_near_world) (sc := (defScope st_law_near_world)) (by decide +kernel)) (fun _ _ _ _ _ => (pg_name (i := 14) SC_law_near_world.nd rfl (by first | exact Or.inl rfl | exact Or.inr rfl))) (fun _ _ _ _ _ => pts_Wnil) (fun _ _ _ _ _ => (PE.imp (w2_run s_ix) (pe_ix ix_seq (pe_Wvar 14) pe_Wint (fun _ _ => rfl))))) pa_Wnil))))))) (pss_Wone (ps_Wif (pt_Wcmp s_eqS op_eq (pe_Wvar 6) pe_Wint (nomark _)) (pss_Wone (ps_WnfS (ps_Wset (i := 12) (by decide) SC_law_near_world.nd rfl (by first | exact Or.inl rfl | exact Or.inr rfl) (pe_Wnf (pe_Wcal G_law_pick (hr.mono (by decide)) tk (by rfl) (pa_Wcons (pe_Wvar 0) (pa_Wcons (pe_Wvar 5) pa_Wnil))))))) (pss_Wone (ps_Wif (pt_Wcmp s_eqS op_eq (pe_Wvar 6) pe_Wint (nomark _)) (pss_Wone (ps_WnfS (ps_Wset (i := 13) (by decide) SC_law_near_world.nd rfl (by first | exact Or.inl rfl | exact Or.inr rfl) (pe_Wnf (pe_Wcal G_law_pick (hr.mono (by decide)) tk (by rfl) (pa_Wcons (pe_Wvar 0) (pa_Wcons (pe_Wvar 5) pa_Wnil))))))) pss_Wnil)))))
    (pss_Wone (ps_Wret (pe_Wtup (pa_Wcons (PE.sh (pe_Wvar 2)) (pa_Wcons (PE.sh (PE.imp (wN_run s_list) (pe_callTy call_list_of (by rfl) (T.mgn 1 _ rfl) (by decide +kernel) (pa_Wcons (pe_Wvar 3) pa_Wnil)))) (pa_Wcons (PE.sh (PE.imp (w2_run s_add) (pe_op op_Wadd (pe_Wvar 9) (pe_Wsl (pe_Wlst (pa_Wcons (PE.sh (pe_Wtup (pa_Wcons (PE.sh (pe_Wvar 11)) (pa_Wcons (PE.sh (pe_Wvar 12)) (pa_Wcons (PE.sh (pe_Wvar 13)) pa_Wnil))))) pa_Wnil)) po_Wnone (po_Wsome (PE.imp (wN_run s_int) (pe_callTy call_int1 (by rfl) (T.mgn 5 _ rfl) (by decide +kernel) (pa_Wcons (PE.imp (w2_run s_gt) (pe_cmpR op_Wgt (pe_Wvar 6) pe_Wint (nomark _))) pa_Wnil)))))))) pa_Wnil))))))))))))))))))) (pure_law_near_world)
theorem ok_law_near_world {P : Program} {w : World} {K : PySem.W.Frag} {mg : Str → Option Value} {base : Heap} (T : TxM fa fn ex K mg) (G_law_take : Fo P w K mg base "_law_take" 3 ["_law_store_here", "_law_many"] [] S_law_take) (G_law_pick : Fo P w K mg base "_law_pick" 4 ["_law_store_here", "_law_items"] [] S_law_pick) (G_law_fresh : Fo P w K mg base "_law_fresh" 1 ["_law_name", "_law_used"] [] S_law_fresh) (G_law_put : Fo P w K mg base "_law_put" 4 ["_law_store_here", "_law_items", "_law_item"] [] S_law_put) (G_law_shuffled : Fo P w K mg base "_law_shuffled" 4 ["_law_store_here", "_law_items"] [] S_law_shuffled) (G_law_world : Fo P w K mg base "_law_world" 7 ["_law_store_here", "_law_most", "_law_room"] [] S_law_world) : Fo P w K mg base "_law_near_world" 8 ["_law_store_here", "_law_world_here"] [] S_law_near_world := by
  obtain ⟨fd, F⟩ := T.c.def_ 19 (d := d_law_near_world) rfl
  exact ⟨_, fd, [], [], T.mgf 47 "_law_near_world" rfl, F.kp, .nil, F.bindsN (fun _ _ _ _ _ _ us hl => match us, hl with | [_, _], _ => rfl), .nil, okF_law_near_world T G_law_take G_law_pick G_law_fresh G_law_put G_law_shuffled G_law_world F⟩
theorem SC_law_listed : FnScope NN_law_listed ["_law_store_here", "_law_items"] (defScope st_law_listed) := ⟨rfl, rfl, rfl, by decide +kernel, rfl, by decide +kernel, by decide +kernel⟩
theorem okF_law_listed {P : Program} {w : World} {K : PySem.W.Frag} {mg : Str → Option Value} {base : Heap} (T : TxM fa fn ex K mg) (G_law_odds : Fo P w K mg base "_law_odds" 4 ["_law_store_here", "_law_part"] [] S_law_odds) {f : Addr} {fd : FuncData} (F : FunD K d_law_listed.name d_law_listed.qual d_law_listed.params d_law_listed.body d_law_listed.scope (d_law_listed.dvs K) (d_law_listed.kws K) f fd) : FnOk P w K mg base (L2.CX P w) 5 f fd ["_law_store_here", "_law_items"] (spW K S_law_listed) :=
  fn_W (N := NN_law_listed) (ps := ["_law_store_here", "_law_items"]) (k := 4) (S := S_law_listed) (Fx := [0, 1]) F SC_law_listed (by decide) (fun cdv A outer s H E hr tk =>
    (pss_Wcons (ps_Wif (pt_W (pe_Wnf (pe_Wcal G_law_odds (hr.mono (by decide)) tk (by rfl) (pa_Wcons (pe_Wvar 0) (pa_Wcons pe_Wint pa_Wnil))))) (pss_Wone (ps_Wret (PE.imp (wN_run s_tuple) (pe_callTy call_tuple_of (by rfl) (T.mgn 4 _ rfl) (by decide +kernel) (pa_Wcons (pe_Wvar 1) pa_Wnil))))) pss_Wnil)
    (pss_Wone (ps_Wret (PE.imp (wN_run s_list) (pe_callTy call_list_of (by rfl) (T.mgn 1 _ rfl) (by decide +kernel) (pa_Wcons (pe_Wvar 1) pa_Wnil))))))) (pure_law_listed)
theorem ok_law_listed {P : Program} {w : World} {K : PySem.W.Frag} {mg : Str → Option Value} {base : Heap} (T : TxM fa fn ex K mg) (G_law_odds : Fo P w K mg base "_law_odds" 4 ["_law_store_here", "_law_part"] [] S_law_odds) : Fo P w K mg base "_law_listed" 5 ["_law_store_here", "_law_items"] [] S_law_listed := by
  obtain ⟨fd, F⟩ := T.c.def_ 20 (d := d_law_listed) rfl
  exact ⟨_, fd, [], [], T.mgf 48 "_law_listed" rfl, F.kp, .nil, F.bindsN (fun _ _ _ _ _ _ us hl => match us, hl with | [_, _], _ => rfl), .nil, okF_law_listed T G_law_odds F⟩
theorem SC_law_copy : FnScope NN_law_copy ["_law_value"] (defScope st_law_copy) := ⟨rfl, rfl, rfl, by decide +kernel, rfl, by decide +kernel, by decide +kernel⟩
theorem okF_law_copy {P : Program} {w : World} {K : PySem.W.Frag} {mg : Str → Option Value} {base : Heap} (T : TxM fa fn ex K mg) (n : Nat) (Gr : Fo P w K mg base "_law_copy" n ["_law_value"] [] (S_copy n)) {f : Addr} {fd : FuncData} (F : FunD K d_law_copy.name d_law_copy.qual d_law_copy.params d_law_copy.body d_law_copy.scope (d_law_copy.dvs K) (d_law_copy.kws K) f fd) : FnOk P w K mg base (L2.CX P w) (n + 1) f fd ["_law_value"] (spW K (S_copy (n + 1))) :=
  fn_W (N := NN_law_copy) (ps := ["_law_value"]) (k := n) (S := S_copy (n + 1)) (Fx := []) F SC_law_copy (by decide) (fun cdv A outer s H E hr tk =>
    (pss_Wcons (ps_Wif (pt_W (pe_Wisi (by rfl) (T.mgn 12 _ rfl) (by rfl) (T.mgn 1 _ rfl) (by decide +kernel) (pe_Wvar 0))) (pss_Wone (ps_Wret (pe_WlcS rfl SC_law_copy.nd itE_run (tg_name (by decide)) (by decide) (by decide) (pi_seq (pe_Wvar 0)) (blkOk_by (own := [(("_law_item" : Str), 3)]) (N := NN_law_copy) (sc := (defScope st_law_copy)) (by decide +kernel)) (fun _ _ _ _ _ => (pg_name (i := 3) SC_law_copy.nd rfl (by first | exact Or.inl rfl | exact Or.inr rfl))) (fun _ _ _ _ _ => pts_Wnil) (fun _ _ _ _ _ => (pe_Wnf (pe_Wcal Gr hr takes0 (by rfl) (pa_Wcons (pe_Wvar 3) pa_Wnil))))))) pss_Wnil)
    (pss_Wcons (ps_Wif (pt_W (pe_Wisi (by rfl) (T.mgn 12 _ rfl) (by rfl) (T.mgn 4 _ rfl) (by decide +kernel) (pe_Wvar 0))) (pss_Wone (ps_Wret (PE.imp (wN_run s_tuple) (pe_callTy call_tuple_of (by rfl) (T.mgn 4 _ rfl) (by decide +kernel) (pa_Wcons (pe_WlcS rfl SC_law_copy.nd itE_run (tg_name (by decide)) (by decide) (by decide) (pi_seq (pe_Wvar 0)) (blkOk_by (own := [(("_law_item" : Str), 3)]) (N := NN_law_copy) (sc := (defScope st_law_copy)) (by decide +kernel)) (fun _ _ _ _ _ => (pg_name (i := 3) SC_law_copy.nd rfl (by first | exact Or.inl rfl | exact Or.inr rfl))) (fun _ _ _ _ _ => pts_Wnil) (fun _ _ _ _ _ => (pe_Wnf (pe_Wcal Gr hr takes0 (by rfl) (pa_Wcons (pe_Wvar 3) pa_Wnil))))) pa_Wnil))))) pss_Wnil)
    (pss_Wcons (ps_Wif (pt_W (pe_Wisi (by rfl) (T.mgn 12 _ rfl) (by rfl) (T.mgn 13 _ rfl) (by decide +kernel) (pe_Wvar 0))) pss_Wbad pss_Wnil)
    (pss_Wone (ps_Wret (pe_Wvar 0))))))) (pure_copy n)
theorem ok_law_copy {P : Program} {w : World} {K : PySem.W.Frag} {mg : Str → Option Value} {base : Heap} (T : TxM fa fn ex K mg) : ∀ n, Fo P w K mg base "_law_copy" n ["_law_value"] [] (S_copy n)
  | 0 => by
    obtain ⟨fd, F⟩ := T.c.def_ 21 (d := d_law_copy) rfl
    exact ⟨_, fd, [], [], T.mgf 49 "_law_copy" rfl, F.kp, .nil, F.bindsN (fun _ _ _ _ _ _ us hl => match us, hl with | [_], _ => rfl), .nil, fnOk_no⟩
  | n + 1 => by
    obtain ⟨fd, F⟩ := T.c.def_ 21 (d := d_law_copy) rfl
    exact ⟨_, fd, [], [], T.mgf 49 "_law_copy" rfl, F.kp, .nil, F.bindsN (fun _ _ _ _ _ _ us hl => match us, hl with | [_], _ => rfl), .nil, okF_law_copy T  n (ok_law_copy T  n) F⟩
theorem SC_is_name : FnScope NN_is_name ["value"] (defScope st_is_name) := ⟨rfl, rfl, rfl, by decide +kernel, rfl, by decide +kernel, by decide +kernel⟩
theorem okF_is_name {P : Program} {w : World} {K : PySem.W.Frag} {mg : Str → Option Value} {base : Heap} (T : TxM fa fn ex K mg) {f : Addr} {fd : FuncData} (F : FunD K d_is_name.name d_is_name.qual d_is_name.params d_is_name.body d_is_name.scope (d_is_name.dvs K) (d_is_name.kws K) f fd) : FnOk P w K mg base (L2.CX P w) 1 f fd ["value"] (spW K S_is_name) :=
  fn_W (N := NN_is_name) (ps := ["value"]) (k := 0) (S := S_is_name) (Fx := [0]) F SC_is_name (by decide) (fun cdv A outer s H E hr tk =>
    (pss_Wcons (ps_Wif (pt_Wnot (pt_W (pe_Wisi (by rfl) (T.mgn 12 _ rfl) (by rfl) (T.mgn 9 _ rfl) (by decide +kernel) (pe_Wvar 0)))) (pss_Wone (ps_Wret pe_Wbl)) pss_Wnil)
    (pss_Wcons (ps_Wif (pt_Wnot (pt_Wchain s_le s_le op_Wle op_Wle pe_Wint (PE.imp (wN_run s_len) (pe_callB call_len (by rfl) (T.mgn 0 _ rfl) PySem.boot_len (pa_Wcons (pe_Wvar 0) pa_Wnil))) (pe_WgIM T 21 rfl (by rfl)))) (pss_Wone (ps_Wret pe_Wbl)) pss_Wnil)
    (pss_Wone (ps_Wret (pe_Wand (PE.imp (w2_run s_in) (pe_cmpR op_Win (PE.imp (w2_run s_ix) (pe_ix ix_seq (pe_Wvar 0) pe_Wint (fun _ _ => rfl))) (pe_WgSM T 22 rfl (by rfl)) (by rfl))) (pe_Wone (PE.imp (wN_run s_all) (pe_callB (cr_all rfl) (by rfl) (T.mgn 24 _ rfl) (by decide +kernel) (pa_Wcons (pe_WlcS rfl SC_is_name.nd itS_run (tg_name (by decide)) (by decide) (by decide) (pi_str (pe_Wvar 0)) (blkOk_by (own := [(("sign" : Str), 1)]) (N := NN_is_name) (sc := (defScope st_is_name)) (by decide +kernel)) (fun _ _ _ _ _ => (pg_name (i := 1) SC_is_name.nd rfl (by first | exact Or.inl rfl | exact Or.inr rfl))) (fun _ _ _ _ _ => pts_Wnil) (fun _ _ _ _ _ => (PE.imp (w2_run s_in) (pe_cmpR op_Win (pe_Wvar 1) (pe_WgSM T 23 rfl (by rfl)) (by rfl))))) pa_Wnil)))))))))) (pure_is_name)
theorem ok_is_name {P : Program} {w : World} {K : PySem.W.Frag} {mg : Str → Option Value} {base : Heap} (T : TxM fa fn ex K mg) : Fo P w K mg base "is_name" 1 ["value"] [] S_is_name := by
  obtain ⟨fd, F⟩ := T.c.def_ 22 (d := d_is_name) rfl
  exact ⟨_, fd, [], [], T.mgf 50 "is_name" rfl, F.kp, .nil, F.bindsN (fun _ _ _ _ _ _ us hl => match us, hl with | [_], _ => rfl), .nil, okF_is_name T  F⟩
theorem SC_check_names : FnScope NN_check_names ["home", "houses", "lines"] (defScope st_check_names) := ⟨rfl, rfl, rfl, by decide +kernel, rfl, by decide +kernel, by decide +kernel⟩
theorem okF_check_names {P : Program} {w : World} {K : PySem.W.Frag} {mg : Str → Option Value} {base : Heap} (T : TxM fa fn ex K mg) (G_is_name : Fo P w K mg base "is_name" 1 ["value"] [] S_is_name) {f : Addr} {fd : FuncData} (F : FunD K d_check_names.name d_check_names.qual d_check_names.params d_check_names.body d_check_names.scope (d_check_names.dvs K) (d_check_names.kws K) f fd) : FnOk P w K mg base (L2.CX P w) 2 f fd ["home", "houses", "lines"] (spW K S_check_names) :=
  fn_W (N := NN_check_names) (ps := ["home", "houses", "lines"]) (k := 1) (S := S_check_names) (Fx := [0, 1, 2]) F SC_check_names (by decide) (fun cdv A outer s H E hr tk =>
    (pss_Wcons (ps_Wif (pt_Wnot (pt_W (pe_Wnf (pe_Wcal G_is_name (hr.mono (by decide)) tk (by rfl) (pa_Wcons (pe_Wvar 0) pa_Wnil))))) (pss_Wone ps_Wbad) pss_Wnil)
    (pss_Wcons (ps_Wfor (passes_of rfl) rfl (itP_run (by decide)) (tg_name (by decide)) (pi_seq (pv 1)) (pg_name (i := 3) SC_check_names.nd rfl (by first | exact Or.inl rfl | exact Or.inr rfl)) (pss_Wone (ps_Wif (pt_Wnot (pt_W (pe_Wnf (pe_Wcal G_is_name (hr.mono (by decide)) tk (by rfl) (pa_Wcons (pe_Wvar 3) pa_Wnil))))) (pss_Wone ps_Wbad) pss_Wnil)))
    (pss_Wone (ps_Wfor (passes_of rfl) rfl (itP_run (by decide)) (tg_name (by decide)) (pi_seq (pv 2)) (pg_name (i := 4) SC_check_names.nd rfl (by first | exact Or.inl rfl | exact Or.inr rfl)) (pss_Wone (ps_Wfor (passes_of rfl) rfl itE_run (tg_name (by decide)) (pi_seq (pe_Wvar 4)) (pg_name (i := 5) SC_check_names.nd rfl (by first | exact Or.inl rfl | exact Or.inr rfl)) (pss_Wone (ps_Wif (pt_Wnot (pt_W (pe_Wnf (pe_Wcal G_is_name (hr.mono (by decide)) tk (by rfl) (pa_Wcons (pe_Wvar 5) pa_Wnil))))) (pss_Wone ps_Wbad) pss_Wnil))))))))) (pure_check_names)
theorem ok_check_names {P : Program} {w : World} {K : PySem.W.Frag} {mg : Str → Option Value} {base : Heap} (T : TxM fa fn ex K mg) (G_is_name : Fo P w K mg base "is_name" 1 ["value"] [] S_is_name) : Fo P w K mg base "check_names" 2 ["home", "houses", "lines"] [] S_check_names := by
  obtain ⟨fd, F⟩ := T.c.def_ 23 (d := d_check_names) rfl
  exact ⟨_, fd, [], [], T.mgf 51 "check_names" rfl, F.kp, .nil, F.bindsN (fun _ _ _ _ _ _ us hl => match us, hl with | [_, _, _], _ => rfl), .nil, okF_check_names T G_is_name F⟩
theorem SC_check_sizes : FnScope NN_check_sizes ["houses", "lines"] (defScope st_check_sizes) := ⟨rfl, rfl, rfl, by decide +kernel, rfl, by decide +kernel, by decide +kernel⟩
theorem okF_check_sizes {P : Program} {w : World} {K : PySem.W.Frag} {mg : Str → Option Value} {base : Heap} (T : TxM fa fn ex K mg) {f : Addr} {fd : FuncData} (F : FunD K d_check_sizes.name d_check_sizes.qual d_check_sizes.params d_check_sizes.body d_check_sizes.scope (d_check_sizes.dvs K) (d_check_sizes.kws K) f fd) : FnOk P w K mg base (L2.CX P w) 1 f fd ["houses", "lines"] (spW K S_check_sizes) :=
  fn_W (N := NN_check_sizes) (ps := ["houses", "lines"]) (k := 0) (S := S_check_sizes) (Fx := [0, 1]) F SC_check_sizes (by decide) (fun cdv A outer s H E hr tk =>
    (pss_Wcons (ps_Wif (pt_Wcmp s_gt op_Wgt (PE.imp (w2_run s_add) (pe_op op_Wadd (PE.imp (wN_run s_len) (pe_callB call_len (by rfl) (T.mgn 0 _ rfl) PySem.boot_len (pa_Wcons (pe_Wvar 0) pa_Wnil))) pe_Wint)) (pe_WgIM T 25 rfl (by rfl)) (nomark _)) (pss_Wone ps_Wbad) pss_Wnil)
    (pss_Wone (ps_Wif (pt_Wcmp s_gt op_Wgt (PE.imp (wN_run s_len) (pe_callB call_len (by rfl) (T.mgn 0 _ rfl) PySem.boot_len (pa_Wcons (pe_Wvar 1) pa_Wnil))) (pe_WgIM T 26 rfl (by rfl)) (nomark _)) (pss_Wone ps_Wbad) pss_Wnil)))) (pure_check_sizes)
theorem ok_check_sizes {P : Program} {w : World} {K : PySem.W.Frag} {mg : Str → Option Value} {base : Heap} (T : TxM fa fn ex K mg) : Fo P w K mg base "check_sizes" 1 ["houses", "lines"] [] S_check_sizes := by
  obtain ⟨fd, F⟩ := T.c.def_ 24 (d := d_check_sizes) rfl
  exact ⟨_, fd, [], [], T.mgf 52 "check_sizes" rfl, F.kp, .nil, F.bindsN (fun _ _ _ _ _ _ us hl => match us, hl with | [_, _], _ => rfl), .nil, okF_check_sizes T  F⟩
theorem SC_check_repeats : FnScope NN_check_repeats ["names", "present"] (defScope st_check_repeats) := ⟨rfl, rfl, rfl, by decide +kernel, rfl, by decide +kernel, by decide +kernel⟩
theorem okF_check_repeats {P : Program} {w : World} {K : PySem.W.Frag} {mg : Str → Option Value} {base : Heap} (T : TxM fa fn ex K mg) {f : Addr} {fd : FuncData} (F : FunD K d_check_repeats.name d_check_repeats.qual d_check_repeats.params d_check_repeats.body d_check_repeats.scope (d_check_repeats.dvs K) (d_check_repeats.kws K) f fd) : FnOk P w K mg base (L2.CX P w) 1 f fd ["names", "present"] (spW K S_check_repeats) :=
  fn_W (N := NN_check_repeats) (ps := ["names", "present"]) (k := 0) (S := S_check_repeats) (Fx := [0, 1]) F SC_check_repeats (by decide) (fun cdv A outer s H E hr tk =>
    (pss_Wcons (ps_WnfS (ps_Wset (i := 2) (by decide) SC_check_repeats.nd rfl (by first | exact Or.inl rfl | exact Or.inr rfl) (PE.imp (wN_run s_list) (pe_callTy call_list_of (by rfl) (T.mgn 1 _ rfl) (by decide +kernel) (pa_Wcons (pe_Wvar 1) pa_Wnil)))))
    (pss_Wone (ps_Wfor (passes_of rfl) rfl (itP_run (by decide)) (tg_name (by decide)) (pi_seq (pv 0)) (pg_name (i := 3) SC_check_repeats.nd rfl (by first | exact Or.inl rfl | exact Or.inr rfl)) (pss_Wcons (ps_Wif (pt_Wcmp s_in op_Win (pe_Wvar 3) (pe_Wvar 2) (by rfl)) (pss_Wone ps_Wbad) pss_Wnil)
    (pss_Wone (ps_WnfS (ps_Wexpr (pe_Wapp (pv 2) (PE.sh (pe_Wvar 3))))))))))) (pure_check_repeats)
theorem ok_check_repeats {P : Program} {w : World} {K : PySem.W.Frag} {mg : Str → Option Value} {base : Heap} (T : TxM fa fn ex K mg) : Fo P w K mg base "check_repeats" 1 ["names", "present"] [] S_check_repeats := by
  obtain ⟨fd, F⟩ := T.c.def_ 25 (d := d_check_repeats) rfl
  exact ⟨_, fd, [], [], T.mgf 53 "check_repeats" rfl, F.kp, .nil, F.bindsN (fun _ _ _ _ _ _ us hl => match us, hl with | [_, _], _ => rfl), .nil, okF_check_repeats T  F⟩
theorem SC_check_ends : FnScope NN_check_ends ["lines", "houses"] (defScope st_check_ends) := ⟨rfl, rfl, rfl, by decide +kernel, rfl, by decide +kernel, by decide +kernel⟩
theorem okF_check_ends {P : Program} {w : World} {K : PySem.W.Frag} {mg : Str → Option Value} {base : Heap} (T : TxM fa fn ex K mg) {f : Addr} {fd : FuncData} (F : FunD K d_check_ends.name d_check_ends.qual d_check_ends.params d_check_ends.body d_check_ends.scope (d_check_ends.dvs K) (d_check_ends.kws K) f fd) : FnOk P w K mg base (L2.CX P w) 1 f fd ["lines", "houses"] (spW K S_check_ends) :=
  fn_W (N := NN_check_ends) (ps := ["lines", "houses"]) (k := 0) (S := S_check_ends) (Fx := [0, 1]) F SC_check_ends (by decide) (fun cdv A outer s H E hr tk =>
    (pss_Wone (ps_Wfor (passes_of rfl) rfl (itP_run (by decide)) (tg_name (by decide)) (pi_seq (pv 0)) (pg_name (i := 2) SC_check_ends.nd rfl (by first | exact Or.inl rfl | exact Or.inr rfl)) (pss_Wone (ps_Wfor (passes_of rfl) rfl itE_run (tg_name (by decide)) (pi_seq (pe_Wsl (pe_Wvar 2) (po_Wsome pe_Wint) po_Wnone)) (pg_name (i := 3) SC_check_ends.nd rfl (by first | exact Or.inl rfl | exact Or.inr rfl)) (pss_Wone (ps_Wif (pt_Wcmp s_notIn op_WnotIn (pe_Wvar 3) (pe_Wvar 1) (by rfl)) (pss_Wone ps_Wbad) pss_Wnil))))))) (pure_check_ends)
theorem ok_check_ends {P : Program} {w : World} {K : PySem.W.Frag} {mg : Str → Option Value} {base : Heap} (T : TxM fa fn ex K mg) : Fo P w K mg base "check_ends" 1 ["lines", "houses"] [] S_check_ends := by
  obtain ⟨fd, F⟩ := T.c.def_ 26 (d := d_check_ends) rfl
  exact ⟨_, fd, [], [], T.mgf 54 "check_ends" rfl, F.kp, .nil, F.bindsN (fun _ _ _ _ _ _ us hl => match us, hl with | [_, _], _ => rfl), .nil, okF_check_ends T  F⟩
theorem SC_Net_init : FnScope NN_Net_init ["self", "home", "houses", "lines"] (defScope st_Net_init) := ⟨rfl, rfl, rfl, by decide +kernel, rfl, by decide +kernel, by decide +kernel⟩
theorem okF_Net_init {P : Program} {w : World} {K : PySem.W.Frag} {mg : Str → Option Value} {base : Heap} (T : TxM fa fn ex K mg) (G_check_names : Fo P w K mg base "check_names" 2 ["home", "houses", "lines"] [] S_check_names) (G_check_sizes : Fo P w K mg base "check_sizes" 1 ["houses", "lines"] [] S_check_sizes) (G_check_repeats : Fo P w K mg base "check_repeats" 1 ["names", "present"] [] S_check_repeats) (G_check_ends : Fo P w K mg base "check_ends" 1 ["lines", "houses"] [] S_check_ends) {f : Addr} {fd : FuncData} (F : FunD K d_Net_init.name d_Net_init.qual d_Net_init.params d_Net_init.body d_Net_init.scope (d_Net_init.dvs K) (d_Net_init.kws K) f fd) : FnOk P w K mg base (L2.CX P w) 3 f fd ["self", "home", "houses", "lines"] (spW K S_Net_init) :=
  fn_W (N := NN_Net_init) (ps := ["self", "home", "houses", "lines"]) (k := 2) (S := S_Net_init) (Fx := [0]) F SC_Net_init (by decide) (fun cdv A outer s H E hr tk =>
    (pss_Wcons (ps_WnfS (ps_Wexpr (pe_Wnf (pe_Wcal G_check_names (hr.mono (by decide)) tk (by rfl) (pa_Wcons (pe_Wvar 1) (pa_Wcons (pe_Wvar 2) (pa_Wcons (pe_Wvar 3) pa_Wnil)))))))
    (pss_Wcons (ps_WnfS (ps_Wexpr (pe_Wnf (pe_Wcal G_check_sizes (hr.mono (by decide)) tk (by rfl) (pa_Wcons (pe_Wvar 2) (pa_Wcons (pe_Wvar 3) pa_Wnil))))))
    (pss_Wcons (ps_WnfS (ps_Wexpr (pe_Wnf (pe_Wcal G_check_repeats (hr.mono (by decide)) tk (by rfl) (pa_Wcons (pe_Wvar 2) (pa_Wcons (pe_Wlst (pa_Wcons (PE.sh (pe_Wvar 1)) pa_Wnil)) pa_Wnil))))))
    (pss_Wcons (ps_WnfS (ps_Wexpr (pe_Wnf (pe_Wcal G_check_repeats (hr.mono (by decide)) tk (by rfl) (pa_Wcons (pe_WlcS rfl SC_Net_init.nd itE_run (tg_name (by decide)) (by decide) (by decide) (pi_seq (pe_Wvar 3)) (blkOk_by (own := [(("line" : Str), 8)]) (N := NN_Net_init) (sc := (defScope st_Net_init)) (by decide +kernel)) (fun _ _ _ _ _ => (pg_name (i := 8) SC_Net_init.nd rfl (by first | exact Or.inl rfl | exact Or.inr rfl))) (fun _ _ _ _ _ => pts_Wnil) (fun _ _ _ _ _ => (PE.imp (w2_run s_ix) (pe_ix ix_seq (pe_Wvar 8) pe_Wint (fun _ _ => rfl))))) (pa_Wcons (pe_Wlst pa_Wnil) pa_Wnil))))))
    (pss_Wcons (ps_WnfS (ps_Wset (i := 4) (by decide) SC_Net_init.nd rfl (by first | exact Or.inl rfl | exact Or.inr rfl) (PE.imp (wN_run s_sort) (pe_callB (cr_sortD hr.units) (by rfl) (T.mgn 10 _ rfl) (by decide +kernel) (pa_Wcons (pe_Wlst (pa_Wcons (PE.sh (pe_Wvar 1)) (pa_Wstar (pe_Wvar 2) pa_Wnil))) pa_Wnil)))))
    (pss_Wcons (ps_WnfS (ps_Wexpr (pe_Wnf (pe_Wcal G_check_ends (hr.mono (by decide)) tk (by rfl) (pa_Wcons (pe_Wvar 3) (pa_Wcons (pe_Wvar 4) pa_Wnil))))))
    (pss_Wcons (ps_WnfS (ps_Wset (i := 5) (by decide) SC_Net_init.nd rfl (by first | exact Or.inl rfl | exact Or.inr rfl) (PE.imp (wN_run s_sort) (pe_callB (cr_sortD hr.units) (by rfl) (T.mgn 10 _ rfl) (by decide +kernel) (pa_Wcons (pe_WlcS rfl SC_Net_init.nd itE_run (tg_tup (is := [9, 10, 11]) (by decide)) (by decide) (by decide) (pi_seq (pe_Wvar 3)) (blkOk_by (own := [(("name" : Str), 9), (("tail" : Str), 10), (("head" : Str), 11)]) (N := NN_Net_init) (sc := (defScope st_Net_init)) (by decide +kernel)) (fun _ _ _ _ _ => (pg_tup rfl (pgs_cons (pg_name (i := 9) SC_Net_init.nd rfl (by first | exact Or.inl rfl | exact Or.inr rfl)) (pgs_cons (pg_name (i := 10) SC_Net_init.nd rfl (by first | exact Or.inl rfl | exact Or.inr rfl)) (pgs_cons (pg_name (i := 11) SC_Net_init.nd rfl (by first | exact Or.inl rfl | exact Or.inr rfl)) pgs_nil))))) (fun _ _ _ _ _ => pts_Wnil) (fun _ _ _ _ _ => (pe_Wtup (pa_Wcons (PE.sh (pe_Wvar 9)) (pa_Wcons (PE.sh (pe_Wvar 10)) (pa_Wcons (PE.sh (pe_Wvar 11)) pa_Wnil)))))) pa_Wnil)))))
    (pss_Wcons (ps_WnfS (ps_WsetF (clsB_ok (T.c.exs 0 rfl)).c (He.noat_ok (T.c.fact 14 rfl)) (pv 0) (PE.sh (pe_Wvar 1))))
    (pss_Wcons (ps_WnfS (ps_WsetF (clsB_ok (T.c.exs 0 rfl)).c (He.noat_ok (T.c.fact 15 rfl)) (pv 0) (PE.sh (pe_Wvar 4))))
    (pss_Wcons (ps_WnfS (ps_WsetF (clsB_ok (T.c.exs 0 rfl)).c (He.noat_ok (T.c.fact 16 rfl)) (pv 0) (PE.sh (pe_Wvar 5))))
    (pss_Wcons (ps_WnfS (ps_WsetF (clsB_ok (T.c.exs 0 rfl)).c (He.noat_ok (T.c.fact 17 rfl)) (pv 0) (PE.sh (pe_WdcS rfl SC_Net_init.nd itE_run (tg_name (by decide)) (by decide) (by decide) (pi_seq (pe_Wvar 5)) (blkOk_by (own := [(("row" : Str), 6)]) (N := NN_Net_init) (sc := (defScope st_Net_init)) (by decide +kernel)) (fun _ _ _ _ _ => (pg_name (i := 6) SC_Net_init.nd rfl (by first | exact Or.inl rfl | exact Or.inr rfl))) (fun _ _ _ _ _ => pts_Wnil) (fun _ _ _ _ _ => (PE.imp (w2_run s_ix) (pe_ix ix_seq (pe_Wvar 6) pe_Wint (fun _ _ => rfl)))) (fun _ _ _ _ _ => (PE.imp (w2_run s_ix) (pe_ix ix_seq (pe_Wvar 6) pe_Wint (fun _ _ => rfl))))))))
    (pss_Wcons (ps_WnfS (ps_WsetF (clsB_ok (T.c.exs 0 rfl)).c (He.noat_ok (T.c.fact 18 rfl)) (pv 0) (PE.sh (pe_WdcS rfl SC_Net_init.nd itE_run (tg_name (by decide)) (by decide) (by decide) (pi_seq (pe_Wvar 5)) (blkOk_by (own := [(("row" : Str), 6)]) (N := NN_Net_init) (sc := (defScope st_Net_init)) (by decide +kernel)) (fun _ _ _ _ _ => (pg_name (i := 6) SC_Net_init.nd rfl (by first | exact Or.inl rfl | exact Or.inr rfl))) (fun _ _ _ _ _ => pts_Wnil) (fun _ _ _ _ _ => (PE.imp (w2_run s_ix) (pe_ix ix_seq (pe_Wvar 6) pe_Wint (fun _ _ => rfl)))) (fun _ _ _ _ _ => (PE.imp (w2_run s_ix) (pe_ix ix_seq (pe_Wvar 6) pe_Wint (fun _ _ => rfl))))))))
    (pss_Wcons (ps_WnfS (ps_WsetF (clsB_ok (T.c.exs 0 rfl)).c (He.noat_ok (T.c.fact 19 rfl)) (pv 0) (PE.sh (pe_WdcS rfl SC_Net_init.nd itE_run (tg_name (by decide)) (by decide) (by decide) (pi_seq (pe_Wvar 4)) (blkOk_by (own := [(("house" : Str), 7)]) (N := NN_Net_init) (sc := (defScope st_Net_init)) (by decide +kernel)) (fun _ _ _ _ _ => (pg_name (i := 7) SC_Net_init.nd rfl (by first | exact Or.inl rfl | exact Or.inr rfl))) (fun _ _ _ _ _ => pts_Wnil) (fun _ _ _ _ _ => (pe_Wvar 7)) (fun _ _ _ _ _ => (pe_WlcS rfl SC_Net_init.nd itE_run (tg_name (by decide)) (by decide) (by decide) (pi_seq (pe_Wvar 5)) (blkOk_by (own := [(("row" : Str), 6)]) (by rfl)) (fun _ _ _ _ _ => (pg_name (i := 6) SC_Net_init.nd rfl (by first | exact Or.inl rfl | exact Or.inr rfl))) (fun _ _ _ _ _ => (pts_W (pt_Wcmp s_eqS op_eq (PE.imp (w2_run s_ix) (pe_ix ix_seq (pe_Wvar 6) pe_Wint (fun _ _ => rfl))) (pe_Wvar 7) (nomark _)))) (fun _ _ _ _ _ => (PE.imp (w2_run s_ix) (pe_ix ix_seq (pe_Wvar 6) pe_Wint (fun _ _ => rfl))))))))))
    (pss_Wone (ps_WnfS (ps_WsetF (clsB_ok (T.c.exs 0 rfl)).c (He.noat_ok (T.c.fact 20 rfl)) (pv 0) (PE.sh (pe_WdcS rfl SC_Net_init.nd itE_run (tg_name (by decide)) (by decide) (by decide) (pi_seq (pe_Wvar 4)) (blkOk_by (own := [(("house" : Str), 7)]) (N := NN_Net_init) (sc := (defScope st_Net_init)) (by decide +kernel)) (fun _ _ _ _ _ => (pg_name (i := 7) SC_Net_init.nd rfl (by first | exact Or.inl rfl | exact Or.inr rfl))) (fun _ _ _ _ _ => pts_Wnil) (fun _ _ _ _ _ => (pe_Wvar 7)) (fun _ _ _ _ _ => (pe_WlcS rfl SC_Net_init.nd itE_run (tg_name (by decide)) (by decide) (by decide) (pi_seq (pe_Wvar 5)) (blkOk_by (own := [(("row" : Str), 6)]) (by rfl)) (fun _ _ _ _ _ => (pg_name (i := 6) SC_Net_init.nd rfl (by first | exact Or.inl rfl | exact Or.inr rfl))) (fun _ _ _ _ _ => (pts_W (pt_Wcmp s_eqS op_eq (PE.imp (w2_run s_ix) (pe_ix ix_seq (pe_Wvar 6) pe_Wint (fun _ _ => rfl))) (pe_Wvar 7) (nomark _)))) (fun _ _ _ _ _ => (PE.imp (w2_run s_ix) (pe_ix ix_seq (pe_Wvar 6) pe_Wint (fun _ _ => rfl))))))))))))))))))))))))) (pure_Net_init)
theorem ok_Net_init {P : Program} {w : World} {K : PySem.W.Frag} {mg : Str → Option Value} {base : Heap} (T : TxM fa fn ex K mg) (G_check_names : Fo P w K mg base "check_names" 2 ["home", "houses", "lines"] [] S_check_names) (G_check_sizes : Fo P w K mg base "check_sizes" 1 ["houses", "lines"] [] S_check_sizes) (G_check_repeats : Fo P w K mg base "check_repeats" 1 ["names", "present"] [] S_check_repeats) (G_check_ends : Fo P w K mg base "check_ends" 1 ["lines", "houses"] [] S_check_ends) : Mo P w K mg base "Net" "__init__" 3 ["self", "home", "houses", "lines"] [] S_Net_init := by
  obtain ⟨fd, F⟩ := T.c.def_ 27 (d := d_Net_init) rfl
  have me := He.meth_ok (T.c.fact 55 rfl)
  obtain ⟨ds, h1, h2⟩ := F.binds1 (ps := ["self", "home", "houses", "lines"]) 4 2 (by simp [He5.DefA.dvs]) (by rfl) (fun _ _ _ _ _ _ _ us its h1 h2 => match us, its, h1, h2 with | [_, _, _, _], [_, _], _, _ => ⟨_, rfl, rfl⟩)
  exact ⟨_, fd, _, ds, me.at_, me.fn, me.kp, h1, h2, .nil, okF_Net_init T G_check_names G_check_sizes G_check_repeats G_check_ends F⟩
theorem ok_Net_init1 {P : Program} {w : World} {K : PySem.W.Frag} {mg : Str → Option Value} {base : Heap} (T : TxM fa fn ex K mg) (G_check_names : Fo P w K mg base "check_names" 2 ["home", "houses", "lines"] [] S_check_names) (G_check_sizes : Fo P w K mg base "check_sizes" 1 ["houses", "lines"] [] S_check_sizes) (G_check_repeats : Fo P w K mg base "check_repeats" 1 ["names", "present"] [] S_check_repeats) (G_check_ends : Fo P w K mg base "check_ends" 1 ["lines", "houses"] [] S_check_ends) : Mo P w K mg base "Net" "__init__" 3 ["self", "home", "houses", "lines"] [⟨.tup [], .sh⟩] S_Net_init := by
  obtain ⟨fd, F⟩ := T.c.def_ 27 (d := d_Net_init) rfl
  have me := He.meth_ok (T.c.fact 55 rfl)
  obtain ⟨ds, h1, h2⟩ := F.binds1 (ps := ["self", "home", "houses", "lines"]) 3 1 (by simp [He5.DefA.dvs]) (by rfl) (fun _ _ _ _ _ _ _ us its h1 h2 => match us, its, h1, h2 with | [_, _, _], [_, _], _, _ => ⟨_, rfl, rfl⟩)
  exact ⟨_, fd, _, ds, me.at_, me.fn, me.kp, h1, h2, (.cons ⟨rfl, fun G => empty_rep (T.c.exs 1 rfl) G⟩ .nil), okF_Net_init T G_check_names G_check_sizes G_check_repeats G_check_ends F⟩
theorem ok_Net_init2 {P : Program} {w : World} {K : PySem.W.Frag} {mg : Str → Option Value} {base : Heap} (T : TxM fa fn ex K mg) (G_check_names : Fo P w K mg base "check_names" 2 ["home", "houses", "lines"] [] S_check_names) (G_check_sizes : Fo P w K mg base "check_sizes" 1 ["houses", "lines"] [] S_check_sizes) (G_check_repeats : Fo P w K mg base "check_repeats" 1 ["names", "present"] [] S_check_repeats) (G_check_ends : Fo P w K mg base "check_ends" 1 ["lines", "houses"] [] S_check_ends) : Mo P w K mg base "Net" "__init__" 3 ["self", "home", "houses", "lines"] [⟨.tup [], .sh⟩, ⟨.tup [], .sh⟩] S_Net_init := by
  obtain ⟨fd, F⟩ := T.c.def_ 27 (d := d_Net_init) rfl
  have me := He.meth_ok (T.c.fact 55 rfl)
  obtain ⟨ds, h1, h2⟩ := F.binds1 (ps := ["self", "home", "houses", "lines"]) 2 0 (by simp [He5.DefA.dvs]) (by rfl) (fun _ _ _ _ _ _ _ us its h1 h2 => match us, its, h1, h2 with | [_, _], [_, _], _, _ => ⟨_, rfl, rfl⟩)
  exact ⟨_, fd, _, ds, me.at_, me.fn, me.kp, h1, h2, (.cons ⟨rfl, fun G => empty_rep (T.c.exs 2 rfl) G⟩ (.cons ⟨rfl, fun G => empty_rep (T.c.exs 1 rfl) G⟩ .nil)), okF_Net_init T G_check_names G_check_sizes G_check_repeats G_check_ends F⟩
theorem SC_Net_home : FnScope NN_Net_home ["self"] (defScope st_Net_home) := ⟨rfl, rfl, rfl, by decide +kernel, rfl, by decide +kernel, by decide +kernel⟩
theorem okF_Net_home {P : Program} {w : World} {K : PySem.W.Frag} {mg : Str → Option Value} {base : Heap} (T : TxM fa fn ex K mg) {f : Addr} {fd : FuncData} (F : FunD K d_Net_home.name d_Net_home.qual d_Net_home.params d_Net_home.body d_Net_home.scope (d_Net_home.dvs K) (d_Net_home.kws K) f fd) : FnOk P w K mg base (L2.CX P w) 1 f fd ["self"] (spW K S_Net_home) :=
  fn_W (N := NN_Net_home) (ps := ["self"]) (k := 0) (S := S_Net_home) (Fx := []) F SC_Net_home (by decide) (fun cdv A outer s H E hr tk =>
    (pss_Wone (ps_Wret (pe_Wfld (clsB_ok (T.c.exs 0 rfl)).c (He.noat_ok (T.c.fact 14 rfl)) (pe_Wvar 0))))) (pure_Net_home)
theorem ok_Net_home {P : Program} {w : World} {K : PySem.W.Frag} {mg : Str → Option Value} {base : Heap} (T : TxM fa fn ex K mg) : Po P w K mg base "Net" "home" 1 ["self"] S_Net_home := by
  obtain ⟨fd, F⟩ := T.c.def_ 28 (d := d_Net_home) rfl
  exact ⟨_, _, fd, propB_ok (T.c.exs 3 rfl), F.bindsN (fun _ _ _ _ _ _ us hl => match us, hl with | [_], _ => rfl), okF_Net_home T  F⟩
theorem SC_law_same : FnScope NN_law_same ["_law_told", "_law_due"] (defScope st_law_same) := ⟨rfl, rfl, rfl, by decide +kernel, rfl, by decide +kernel, by decide +kernel⟩
theorem okF_law_same {P : Program} {w : World} {K : PySem.W.Frag} {mg : Str → Option Value} {base : Heap} (T : TxM fa fn ex K mg) (n : Nat) (Gr : Fo P w K mg base "_law_same" n ["_law_told", "_law_due"] [] (S_same n)) {f : Addr} {fd : FuncData} (F : FunD K d_law_same.name d_law_same.qual d_law_same.params d_law_same.body d_law_same.scope (d_law_same.dvs K) (d_law_same.kws K) f fd) : FnOk P w K mg base (L2.CX P w) (n + 1) f fd ["_law_told", "_law_due"] (spW K (S_same (n + 1))) :=
  fn_W (N := NN_law_same) (ps := ["_law_told", "_law_due"]) (k := n) (S := S_same (n + 1)) (Fx := []) F SC_law_same (by decide) (fun cdv A outer s H E hr tk =>
    (pss_Wcons (ps_Wif (pt_Wcmp s_is op_isN (pe_Wvar 1) pe_Wnon (nomark _)) (pss_Wone (ps_Wret (PE.imp (w2_run s_is) (pe_cmpR op_isN (pe_Wvar 0) pe_Wnon (nomark _))))) pss_Wnil)
    (pss_Wcons (ps_Wif (pt_W (pe_Wisi (by rfl) (T.mgn 12 _ rfl) (by rfl) (T.mgn 27 _ rfl) (by decide +kernel) (pe_Wvar 1))) (pss_Wone (ps_Wret (pe_Wand (pe_Wisi (by rfl) (T.mgn 12 _ rfl) (by rfl) (T.mgn 27 _ rfl) (by decide +kernel) (pe_Wvar 0)) (pe_Wone (PE.imp (w2_run s_eqS) (pe_cmpR op_eq (pe_Wvar 0) (pe_Wvar 1) (nomark _))))))) pss_Wnil)
    (pss_Wcons (ps_Wif (pt_W (pe_Wisi (by rfl) (T.mgn 12 _ rfl) (by rfl) (T.mgn 5 _ rfl) (by decide +kernel) (pe_Wvar 1))) (pss_Wone (ps_Wret (pe_Wand (pe_Wisi (by rfl) (T.mgn 12 _ rfl) (by rfl) (T.mgn 5 _ rfl) (by decide +kernel) (pe_Wvar 0)) (pe_Wand (pe_Wnot (pe_Wisi (by rfl) (T.mgn 12 _ rfl) (by rfl) (T.mgn 27 _ rfl) (by decide +kernel) (pe_Wvar 0))) (pe_Wone (PE.imp (w2_run s_eqS) (pe_cmpR op_eq (pe_Wvar 0) (pe_Wvar 1) (nomark _)))))))) pss_Wnil)
    (pss_Wcons (ps_Wif (pt_W (pe_Wisi (by rfl) (T.mgn 12 _ rfl) (by rfl) (T.mgn 9 _ rfl) (by decide +kernel) (pe_Wvar 1))) (pss_Wone (ps_Wret (pe_Wand (pe_Wisi (by rfl) (T.mgn 12 _ rfl) (by rfl) (T.mgn 9 _ rfl) (by decide +kernel) (pe_Wvar 0)) (pe_Wone (PE.imp (w2_run s_eqS) (pe_cmpR op_eq (pe_Wvar 0) (pe_Wvar 1) (nomark _))))))) pss_Wnil)
    (pss_Wcons (ps_Wif (PW.pt (pw_Wor (PW.pt (pw_Wand (pt_W (pe_Wisi (by rfl) (T.mgn 12 _ rfl) (by rfl) (T.mgn 1 _ rfl) (by decide +kernel) (pe_Wvar 1))) (pw_Wand1 (pt_Wnot (pt_W (pe_Wisi (by rfl) (T.mgn 12 _ rfl) (by rfl) (T.mgn 1 _ rfl) (by decide +kernel) (pe_Wvar 0))))))) (pw_Wor1 (PW.pt (pw_Wand (pt_W (pe_Wisi (by rfl) (T.mgn 12 _ rfl) (by rfl) (T.mgn 4 _ rfl) (by decide +kernel) (pe_Wvar 1))) (pw_Wand1 (pt_Wnot (pt_W (pe_Wisi (by rfl) (T.mgn 12 _ rfl) (by rfl) (T.mgn 4 _ rfl) (by decide +kernel) (pe_Wvar 0)))))))))) (pss_Wone (ps_Wret pe_Wbl)) pss_Wnil)
    (pss_Wcons (ps_Wif (pt_W (pe_Wisi (by rfl) (T.mgn 12 _ rfl) (by rfl) (T.mgn 13 _ rfl) (by decide +kernel) (pe_Wvar 1))) pss_Wbad pss_Wnil)
    (pss_Wone (ps_Wret (pe_Wand (PE.imp (w2_run s_eqS) (pe_cmpR op_eq (PE.imp (wN_run s_len) (pe_callB call_len (by rfl) (T.mgn 0 _ rfl) PySem.boot_len (pa_Wcons (pe_Wvar 0) pa_Wnil))) (PE.imp (wN_run s_len) (pe_callB call_len (by rfl) (T.mgn 0 _ rfl) PySem.boot_len (pa_Wcons (pe_Wvar 1) pa_Wnil))) (nomark _))) (pe_Wone (PE.imp (wN_run s_all) (pe_callB (cr_all rfl) (by rfl) (T.mgn 24 _ rfl) (by decide +kernel) (pa_Wcons (pe_WlcS rfl SC_law_same.nd i_R1 (tg_name (by decide)) (by decide) (by decide) (pi_range1 (by rfl) (T.mgn 6 _ rfl) (pa_Wcons (PE.imp (wN_run s_len) (pe_callB call_len (by rfl) (T.mgn 0 _ rfl) PySem.boot_len (pa_Wcons (pe_Wvar 1) pa_Wnil))) pa_Wnil)) (blkOk_by (own := [(("_law_k" : Str), 4)]) (N := NN_law_same) (sc := (defScope st_law_same)) (by decide +kernel)) (fun _ _ _ _ _ => (pg_name (i := 4) SC_law_same.nd rfl (by first | exact Or.inl rfl | exact Or.inr rfl))) (fun _ _ _ _ _ => pts_Wnil) (fun _ _ _ _ _ => (pe_Wnf (pe_Wcal Gr hr takes0 (by rfl) (pa_Wcons (PE.imp (w2_run s_ix) (pe_ix ix_seq (pe_Wvar 0) (pe_Wvar 4) (fun _ _ => rfl))) (pa_Wcons (PE.imp (w2_run s_ix) (pe_ix ix_seq (pe_Wvar 1) (pe_Wvar 4) (fun _ _ => rfl))) pa_Wnil)))))) pa_Wnil)))))))))))))) (pure_same n)
theorem ok_law_same {P : Program} {w : World} {K : PySem.W.Frag} {mg : Str → Option Value} {base : Heap} (T : TxM fa fn ex K mg) : ∀ n, Fo P w K mg base "_law_same" n ["_law_told", "_law_due"] [] (S_same n)
  | 0 => by
    obtain ⟨fd, F⟩ := T.c.def_ 29 (d := d_law_same) rfl
    exact ⟨_, fd, [], [], T.mgf 56 "_law_same" rfl, F.kp, .nil, F.bindsN (fun _ _ _ _ _ _ us hl => match us, hl with | [_, _], _ => rfl), .nil, fnOk_no⟩
  | n + 1 => by
    obtain ⟨fd, F⟩ := T.c.def_ 29 (d := d_law_same) rfl
    exact ⟨_, fd, [], [], T.mgf 56 "_law_same" rfl, F.kp, .nil, F.bindsN (fun _ _ _ _ _ _ us hl => match us, hl with | [_, _], _ => rfl), .nil, okF_law_same T  n (ok_law_same T  n) F⟩
theorem SC_Net_houses : FnScope NN_Net_houses ["self"] (defScope st_Net_houses) := ⟨rfl, rfl, rfl, by decide +kernel, rfl, by decide +kernel, by decide +kernel⟩
theorem okF_Net_houses {P : Program} {w : World} {K : PySem.W.Frag} {mg : Str → Option Value} {base : Heap} (T : TxM fa fn ex K mg) {f : Addr} {fd : FuncData} (F : FunD K d_Net_houses.name d_Net_houses.qual d_Net_houses.params d_Net_houses.body d_Net_houses.scope (d_Net_houses.dvs K) (d_Net_houses.kws K) f fd) : FnOk P w K mg base (L2.CX P w) 1 f fd ["self"] (spW K S_Net_houses) :=
  fn_W (N := NN_Net_houses) (ps := ["self"]) (k := 0) (S := S_Net_houses) (Fx := []) F SC_Net_houses (by decide) (fun cdv A outer s H E hr tk =>
    (pss_Wone (ps_Wret (PE.imp (wN_run s_list) (pe_callTy call_list_of (by rfl) (T.mgn 1 _ rfl) (by decide +kernel) (pa_Wcons (pe_Wfld (clsB_ok (T.c.exs 0 rfl)).c (He.noat_ok (T.c.fact 15 rfl)) (pe_Wvar 0)) pa_Wnil)))))) (pure_Net_houses)
theorem ok_Net_houses {P : Program} {w : World} {K : PySem.W.Frag} {mg : Str → Option Value} {base : Heap} (T : TxM fa fn ex K mg) : Po P w K mg base "Net" "houses" 1 ["self"] S_Net_houses := by
  obtain ⟨fd, F⟩ := T.c.def_ 30 (d := d_Net_houses) rfl
  exact ⟨_, _, fd, propB_ok (T.c.exs 4 rfl), F.bindsN (fun _ _ _ _ _ _ us hl => match us, hl with | [_], _ => rfl), okF_Net_houses T  F⟩
theorem SC_Net_others : FnScope NN_Net_others ["self"] (defScope st_Net_others) := ⟨rfl, rfl, rfl, by decide +kernel, rfl, by decide +kernel, by decide +kernel⟩
theorem okF_Net_others {P : Program} {w : World} {K : PySem.W.Frag} {mg : Str → Option Value} {base : Heap} (T : TxM fa fn ex K mg) {f : Addr} {fd : FuncData} (F : FunD K d_Net_others.name d_Net_others.qual d_Net_others.params d_Net_others.body d_Net_others.scope (d_Net_others.dvs K) (d_Net_others.kws K) f fd) : FnOk P w K mg base (L2.CX P w) 1 f fd ["self"] (spW K S_Net_others) :=
  fn_W (N := NN_Net_others) (ps := ["self"]) (k := 0) (S := S_Net_others) (Fx := []) F SC_Net_others (by decide) (fun cdv A outer s H E hr tk =>
    (pss_Wone (ps_Wret (pe_WlcS rfl SC_Net_others.nd itE_run (tg_name (by decide)) (by decide) (by decide) (pi_seq (pe_Wfld (clsB_ok (T.c.exs 0 rfl)).c (He.noat_ok (T.c.fact 15 rfl)) (pe_Wvar 0))) (blkOk_by (own := [(("house" : Str), 1)]) (N := NN_Net_others) (sc := (defScope st_Net_others)) (by decide +kernel)) (fun _ _ _ _ _ => (pg_name (i := 1) SC_Net_others.nd rfl (by first | exact Or.inl rfl | exact Or.inr rfl))) (fun _ _ _ _ _ => (pts_W (pt_Wcmp s_neS op_ne (pe_Wvar 1) (pe_Wfld (clsB_ok (T.c.exs 0 rfl)).c (He.noat_ok (T.c.fact 14 rfl)) (pe_Wvar 0)) (nomark _)))) (fun _ _ _ _ _ => (pe_Wvar 1)))))) (pure_Net_others)
theorem ok_Net_others {P : Program} {w : World} {K : PySem.W.Frag} {mg : Str → Option Value} {base : Heap} (T : TxM fa fn ex K mg) : Po P w K mg base "Net" "others" 1 ["self"] S_Net_others := by
  obtain ⟨fd, F⟩ := T.c.def_ 31 (d := d_Net_others) rfl
  exact ⟨_, _, fd, propB_ok (T.c.exs 5 rfl), F.bindsN (fun _ _ _ _ _ _ us hl => match us, hl with | [_], _ => rfl), okF_Net_others T  F⟩
theorem SC_Net_lines : FnScope NN_Net_lines ["self"] (defScope st_Net_lines) := ⟨rfl, rfl, rfl, by decide +kernel, rfl, by decide +kernel, by decide +kernel⟩
theorem okF_Net_lines {P : Program} {w : World} {K : PySem.W.Frag} {mg : Str → Option Value} {base : Heap} (T : TxM fa fn ex K mg) {f : Addr} {fd : FuncData} (F : FunD K d_Net_lines.name d_Net_lines.qual d_Net_lines.params d_Net_lines.body d_Net_lines.scope (d_Net_lines.dvs K) (d_Net_lines.kws K) f fd) : FnOk P w K mg base (L2.CX P w) 1 f fd ["self"] (spW K S_Net_lines) :=
  fn_W (N := NN_Net_lines) (ps := ["self"]) (k := 0) (S := S_Net_lines) (Fx := []) F SC_Net_lines (by decide) (fun cdv A outer s H E hr tk =>
    (pss_Wone (ps_Wret (PE.imp (wN_run s_list) (pe_callTy call_list_of (by rfl) (T.mgn 1 _ rfl) (by decide +kernel) (pa_Wcons (pe_Wfld (clsB_ok (T.c.exs 0 rfl)).c (He.noat_ok (T.c.fact 16 rfl)) (pe_Wvar 0)) pa_Wnil)))))) (pure_Net_lines)
theorem ok_Net_lines {P : Program} {w : World} {K : PySem.W.Frag} {mg : Str → Option Value} {base : Heap} (T : TxM fa fn ex K mg) : Po P w K mg base "Net" "lines" 1 ["self"] S_Net_lines := by
  obtain ⟨fd, F⟩ := T.c.def_ 32 (d := d_Net_lines) rfl
  exact ⟨_, _, fd, propB_ok (T.c.exs 6 rfl), F.bindsN (fun _ _ _ _ _ _ us hl => match us, hl with | [_], _ => rfl), okF_Net_lines T  F⟩
theorem SC_law_line_names : FnScope NN_law_line_names ["_law_world_here"] (defScope st_law_line_names) := ⟨rfl, rfl, rfl, by decide +kernel, rfl, by decide +kernel, by decide +kernel⟩
theorem okF_law_line_names {P : Program} {w : World} {K : PySem.W.Frag} {mg : Str → Option Value} {base : Heap} (T : TxM fa fn ex K mg) {f : Addr} {fd : FuncData} (F : FunD K d_law_line_names.name d_law_line_names.qual d_law_line_names.params d_law_line_names.body d_law_line_names.scope (d_law_line_names.dvs K) (d_law_line_names.kws K) f fd) : FnOk P w K mg base (L2.CX P w) 1 f fd ["_law_world_here"] (spW K S_law_line_names) :=
  fn_W (N := NN_law_line_names) (ps := ["_law_world_here"]) (k := 0) (S := S_law_line_names) (Fx := [0]) F SC_law_line_names (by decide) (fun cdv A outer s H E hr tk =>
    (pss_Wone (ps_Wret (PE.imp (wN_run s_sort) (pe_callB (cr_sortD hr.units) (by rfl) (T.mgn 10 _ rfl) (by decide +kernel) (pa_Wcons (pe_WlcS rfl SC_law_line_names.nd itE_run (tg_name (by decide)) (by decide) (by decide) (pi_seq (PE.imp (w2_run s_ix) (pe_ix ix_seq (pe_Wvar 0) pe_Wint (fun _ _ => rfl)))) (blkOk_by (own := [(("_law_line" : Str), 1)]) (N := NN_law_line_names) (sc := (defScope st_law_line_names)) (by decide +kernel)) (fun _ _ _ _ _ => (pg_name (i := 1) SC_law_line_names.nd rfl (by first | exact Or.inl rfl | exact Or.inr rfl))) (fun _ _ _ _ _ => pts_Wnil) (fun _ _ _ _ _ => (PE.imp (w2_run s_ix) (pe_ix ix_seq (pe_Wvar 1) pe_Wint (fun _ _ => rfl))))) pa_Wnil)))))) (pure_law_line_names)
theorem ok_law_line_names {P : Program} {w : World} {K : PySem.W.Frag} {mg : Str → Option Value} {base : Heap} (T : TxM fa fn ex K mg) : Fo P w K mg base "_law_line_names" 1 ["_law_world_here"] [] S_law_line_names := by
  obtain ⟨fd, F⟩ := T.c.def_ 33 (d := d_law_line_names) rfl
  exact ⟨_, fd, [], [], T.mgf 57 "_law_line_names" rfl, F.kp, .nil, F.bindsN (fun _ _ _ _ _ _ us hl => match us, hl with | [_], _ => rfl), .nil, okF_law_line_names T  F⟩
theorem SC_Net_line_names : FnScope NN_Net_line_names ["self"] (defScope st_Net_line_names) := ⟨rfl, rfl, rfl, by decide +kernel, rfl, by decide +kernel, by decide +kernel⟩
theorem okF_Net_line_names {P : Program} {w : World} {K : PySem.W.Frag} {mg : Str → Option Value} {base : Heap} (T : TxM fa fn ex K mg) {f : Addr} {fd : FuncData} (F : FunD K d_Net_line_names.name d_Net_line_names.qual d_Net_line_names.params d_Net_line_names.body d_Net_line_names.scope (d_Net_line_names.dvs K) (d_Net_line_names.kws K) f fd) : FnOk P w K mg base (L2.CX P w) 1 f fd ["self"] (spW K S_Net_line_names) :=
  fn_W (N := NN_Net_line_names) (ps := ["self"]) (k := 0) (S := S_Net_line_names) (Fx := []) F SC_Net_line_names (by decide) (fun cdv A outer s H E hr tk =>
    (pss_Wone (ps_Wret (pe_WlcS rfl SC_Net_line_names.nd itE_run (tg_name (by decide)) (by decide) (by decide) (pi_seq (pe_Wfld (clsB_ok (T.c.exs 0 rfl)).c (He.noat_ok (T.c.fact 16 rfl)) (pe_Wvar 0))) (blkOk_by (own := [(("row" : Str), 1)]) (N := NN_Net_line_names) (sc := (defScope st_Net_line_names)) (by decide +kernel)) (fun _ _ _ _ _ => (pg_name (i := 1) SC_Net_line_names.nd rfl (by first | exact Or.inl rfl | exact Or.inr rfl))) (fun _ _ _ _ _ => pts_Wnil) (fun _ _ _ _ _ => (PE.imp (w2_run s_ix) (pe_ix ix_seq (pe_Wvar 1) pe_Wint (fun _ _ => rfl)))))))) (pure_Net_line_names)
theorem ok_Net_line_names {P : Program} {w : World} {K : PySem.W.Frag} {mg : Str → Option Value} {base : Heap} (T : TxM fa fn ex K mg) : Po P w K mg base "Net" "line_names" 1 ["self"] S_Net_line_names := by
  obtain ⟨fd, F⟩ := T.c.def_ 34 (d := d_Net_line_names) rfl
  exact ⟨_, _, fd, propB_ok (T.c.exs 7 rfl), F.bindsN (fun _ _ _ _ _ _ us hl => match us, hl with | [_], _ => rfl), okF_Net_line_names T  F⟩
theorem SC_law_is_world : FnScope NN_law_is_world ["_law_net", "_law_world_here"] (defScope st_law_is_world) := ⟨rfl, rfl, rfl, by decide +kernel, rfl, by decide +kernel, by decide +kernel⟩
theorem okF_law_is_world {P : Program} {w : World} {K : PySem.W.Frag} {mg : Str → Option Value} {base : Heap} (T : TxM fa fn ex K mg) (G_Net_home : Po P w K mg base "Net" "home" 1 ["self"] S_Net_home) (G_law_same : Fo P w K mg base "_law_same" 6 ["_law_told", "_law_due"] [] (S_same 6)) (G_law_houses : Fo P w K mg base "_law_houses" 1 ["_law_world_here"] [] S_law_houses) (G_Net_houses : Po P w K mg base "Net" "houses" 1 ["self"] S_Net_houses) (G_Net_others : Po P w K mg base "Net" "others" 1 ["self"] S_Net_others) (G_Net_lines : Po P w K mg base "Net" "lines" 1 ["self"] S_Net_lines) (G_law_line_names : Fo P w K mg base "_law_line_names" 1 ["_law_world_here"] [] S_law_line_names) (G_Net_line_names : Po P w K mg base "Net" "line_names" 1 ["self"] S_Net_line_names) {f : Addr} {fd : FuncData} (F : FunD K d_law_is_world.name d_law_is_world.qual d_law_is_world.params d_law_is_world.body d_law_is_world.scope (d_law_is_world.dvs K) (d_law_is_world.kws K) f fd) : FnOk P w K mg base (L2.CX P w) 7 f fd ["_law_net", "_law_world_here"] (spW K S_law_is_world) :=
  fn_W (N := NN_law_is_world) (ps := ["_law_net", "_law_world_here"]) (k := 6) (S := S_law_is_world) (Fx := []) F SC_law_is_world (by decide) (fun cdv A outer s H E hr tk =>
    (pss_Wcons (ps_WnfS (ps_Wset (i := 2) (by decide) SC_law_is_world.nd rfl (by first | exact Or.inl rfl | exact Or.inr rfl) (pe_Wand (pe_Wnf (pe_Wcal G_law_same (hr.mono (by decide)) tk (by rfl) (pa_Wcons (pe_Wnf (pe_WpropM (clsB_ok (T.c.exs 0 rfl)).c G_Net_home (hr.mono (by decide)) (pe_Wvar 0))) (pa_Wcons (PE.imp (w2_run s_ix) (pe_ix ix_seq (pe_Wvar 1) pe_Wint (fun _ _ => rfl))) pa_Wnil)))) (pe_Wone (pe_Wnf (pe_Wcal G_law_same (hr.mono (by decide)) tk (by rfl) (pa_Wcons (pe_Wnf (pe_WpropM (clsB_ok (T.c.exs 0 rfl)).c G_Net_houses (hr.mono (by decide)) (pe_Wvar 0))) (pa_Wcons (pe_Wnf (pe_Wcal G_law_houses (hr.mono (by decide)) tk (by rfl) (pa_Wcons (pe_Wvar 1) pa_Wnil))) pa_Wnil))))))))
    (pss_Wcons (ps_WnfS (ps_Wset (i := 2) (by decide) SC_law_is_world.nd rfl (by first | exact Or.inl rfl | exact Or.inr rfl) (pe_Wand (pe_Wvar 2) (pe_Wand (pe_Wnf (pe_Wcal G_law_same (hr.mono (by decide)) tk (by rfl) (pa_Wcons (pe_Wnf (pe_WpropM (clsB_ok (T.c.exs 0 rfl)).c G_Net_others (hr.mono (by decide)) (pe_Wvar 0))) (pa_Wcons (PE.imp (wN_run s_sort) (pe_callB (cr_sortD hr.units) (by rfl) (T.mgn 10 _ rfl) (by decide +kernel) (pa_Wcons (PE.imp (w2_run s_ix) (pe_ix ix_seq (pe_Wvar 1) pe_Wint (fun _ _ => rfl))) pa_Wnil))) pa_Wnil)))) (pe_Wone (pe_Wnf (pe_Wcal G_law_same (hr.mono (by decide)) tk (by rfl) (pa_Wcons (pe_Wnf (pe_WpropM (clsB_ok (T.c.exs 0 rfl)).c G_Net_lines (hr.mono (by decide)) (pe_Wvar 0))) (pa_Wcons (PE.imp (wN_run s_sort) (pe_callB (cr_sortD hr.units) (by rfl) (T.mgn 10 _ rfl) (by decide +kernel) (pa_Wcons (PE.imp (w2_run s_ix) (pe_ix ix_seq (pe_Wvar 1) pe_Wint (fun _ _ => rfl))) pa_Wnil))) pa_Wnil)))))))))
    (pss_Wone (ps_Wret (pe_Wand (pe_Wvar 2) (pe_Wone (pe_Wnf (pe_Wcal G_law_same (hr.mono (by decide)) tk (by rfl) (pa_Wcons (pe_Wnf (pe_WpropM (clsB_ok (T.c.exs 0 rfl)).c G_Net_line_names (hr.mono (by decide)) (pe_Wvar 0))) (pa_Wcons (pe_Wnf (pe_Wcal G_law_line_names (hr.mono (by decide)) tk (by rfl) (pa_Wcons (pe_Wvar 1) pa_Wnil))) pa_Wnil))))))))))) (pure_law_is_world)
theorem ok_law_is_world {P : Program} {w : World} {K : PySem.W.Frag} {mg : Str → Option Value} {base : Heap} (T : TxM fa fn ex K mg) (G_Net_home : Po P w K mg base "Net" "home" 1 ["self"] S_Net_home) (G_law_same : Fo P w K mg base "_law_same" 6 ["_law_told", "_law_due"] [] (S_same 6)) (G_law_houses : Fo P w K mg base "_law_houses" 1 ["_law_world_here"] [] S_law_houses) (G_Net_houses : Po P w K mg base "Net" "houses" 1 ["self"] S_Net_houses) (G_Net_others : Po P w K mg base "Net" "others" 1 ["self"] S_Net_others) (G_Net_lines : Po P w K mg base "Net" "lines" 1 ["self"] S_Net_lines) (G_law_line_names : Fo P w K mg base "_law_line_names" 1 ["_law_world_here"] [] S_law_line_names) (G_Net_line_names : Po P w K mg base "Net" "line_names" 1 ["self"] S_Net_line_names) : Fo P w K mg base "_law_is_world" 7 ["_law_net", "_law_world_here"] [] S_law_is_world := by
  obtain ⟨fd, F⟩ := T.c.def_ 35 (d := d_law_is_world) rfl
  exact ⟨_, fd, [], [], T.mgf 58 "_law_is_world" rfl, F.kp, .nil, F.bindsN (fun _ _ _ _ _ _ us hl => match us, hl with | [_, _], _ => rfl), .nil, okF_law_is_world T G_Net_home G_law_same G_law_houses G_Net_houses G_Net_others G_Net_lines G_law_line_names G_Net_line_names F⟩
theorem SC_law_holders : FnScope NN_law_holders ["_law_value"] (defScope st_law_holders) := ⟨rfl, rfl, rfl, by decide +kernel, rfl, by decide +kernel, by decide +kernel⟩
theorem SC_law_spoil : FnScope NN_law_spoil ["_law_values"] (defScope st_law_spoil) := ⟨rfl, rfl, rfl, by decide +kernel, rfl, by decide +kernel, by decide +kernel⟩
theorem holders_all {P : Program} {w : World} {K : PySem.W.Frag} {mg : Str → Option Value} {base : Heap} (T : TxM fa fn ex K mg) {f : Addr} {fd : FuncData} (mf : mg "_law_holders" = some (.ref f)) (F : FunD K d_law_holders.name d_law_holders.qual d_law_holders.params d_law_holders.body d_law_holders.scope (d_law_holders.dvs K) (d_law_holders.kws K) f fd)
    (b : Binds K fd ["_law_value"] []) : ∀ n, FnOk P w K mg base (L2.CX P w) n f fd ["_law_value"] (spHold K n)
  | 0 => ⟨fun _ _ _ _ h => False.elim h, fun _ _ _ _ _ _ _ _ _ _ _ _ _ h => False.elim h⟩
  | n + 1 => by
    have Gr := holders_all (P := P) (w := w) (base := base) T mf F b n
    have kp := F.kp
    refine F.ok SC_law_holders (fun vs H Q E h => by obtain ⟨v, as, rfl, _⟩ := h; rfl) (fun cdv A outer s H vs Q E hr h => ?_)
    have tk : Takes (cxOf (L2.CX P w) P w K mg base NN_law_holders d_law_holders.qual d_law_holders.scope f cdv A outer s H E) (fun cls d _ H => E cls d H) := takes_of rfl rfl rfl rfl
    exact ⟨t_holders K (spHold K n) _, (pss_cons (ps_set (i := 1) SC_law_holders.nd rfl (.inl rfl) (pe_lst pa_nil))
    (pss_cons (ps_if (pt_val (pe_callB call_isiT (by rfl) (T.mgn 12 _ rfl) (by decide +kernel) (pa_cons (pv 0) (pa_cons (pe_tup (pa_cons (pe_bltn (v := .ty "list") (u := .type "list") (by rfl) (T.mgn 1 _ rfl) (by decide +kernel) rfl) (pa_cons (pe_bltn (v := .ty "dict") (u := .type "dict") (by rfl) (T.mgn 13 _ rfl) (by decide +kernel) rfl) pa_nil))) pa_nil)))) (pss_one (ps_expr (pe_bm PySem.F.plainAttrs_list PySem.F.slot_list_append PySem.F.type_list_append mt_append (pv 1) (pa_cons (pv 0) pa_nil)))) pss_nil)
    (pss_cons (ps_if (pt_val (pe_callB call_isiT (by rfl) (T.mgn 12 _ rfl) (by decide +kernel) (pa_cons (pv 0) (pa_cons (pe_tup (pa_cons (pe_bltn (v := .ty "list") (u := .type "list") (by rfl) (T.mgn 1 _ rfl) (by decide +kernel) rfl) (pa_cons (pe_bltn (v := .ty "tuple") (u := .type "tuple") (by rfl) (T.mgn 4 _ rfl) (by decide +kernel) rfl) pa_nil))) pa_nil)))) (pss_one (ps_for (passes_of rfl) rfl (pi_seq (pv 0)) (pg_name (i := 2) SC_law_holders.nd rfl (.inl rfl)) (pss_one (ps_set (i := 1) SC_law_holders.nd rfl (.inl rfl) (pe_op op_cat (pv 1) (pe_callSD Gr hr (by rfl) mf kp b .nil (fun σ => passAt tk σ) (pa_cons (pv 2) pa_nil))))))) pss_nil)
    (pss_cons (ps_if (pt_val (pe_callB call_isi (by rfl) (T.mgn 12 _ rfl) (by decide +kernel) (pa_cons (pv 0) (pa_cons (pe_bltn (v := .ty "dict") (u := .type "dict") (by rfl) (T.mgn 13 _ rfl) (by decide +kernel) rfl) pa_nil)))) pss_never pss_nil)
    (pss_one (ps_ret (pv 1))))))), holders_ok h rfl⟩
theorem spoil_ok {P : Program} {w : World} {K : PySem.W.Frag} {mg : Str → Option Value} {base : Heap} (T : TxM fa fn ex K mg) : SpoilG P w K mg base 3 5 := by
  obtain ⟨fh, Fh⟩ := T.c.def_ 36 (d := d_law_holders) rfl
  have b := Fh.bindsN (ps := ["_law_value"]) (fun _ _ _ _ _ _ us hl => match us, hl with | [_], _ => rfl)
  have Gr := holders_all (P := P) (w := w) (base := base) T (T.mgf 59 "_law_holders" rfl) Fh b 4
  have kp := Fh.kp
  obtain ⟨fd, F⟩ := T.c.def_ 37 (d := d_law_spoil) rfl
  refine ⟨_, fd, T.mgf 60 "_law_spoil" rfl, F.kp, F.bindsN (fun _ _ _ _ _ _ us hl => match us, hl with | [_], _ => rfl), ?_⟩
  refine F.ok SC_law_spoil (fun vs H Q E h => by obtain ⟨v, L, as, xss, rfl, _⟩ := h; rfl) (fun cdv A outer s H vs Q E hr h => ?_)
  have tk : Takes (cxOf (L2.CX P w) P w K mg base NN_law_spoil d_law_spoil.qual d_law_spoil.scope (d_law_spoil.at_ K) cdv A outer s H E) (fun cls d _ H => E cls d H) := takes_of rfl rfl rfl rfl
  exact ⟨t_spoil K (spHold K 4) _, (pss_cons (ps_set (i := 1) SC_law_spoil.nd rfl (.inl rfl) (pe_callSD Gr hr (by rfl) (T.mgf 59 "_law_holders" rfl) kp b .nil (fun σ => passAt tk σ) (pa_cons (pv 0) pa_nil)))
    (pss_cons (ps_for (passes_of rfl) rfl (pi_range2 (by rfl) (T.mgn 6 _ rfl) (pa_cons pe_int (pa_cons (pe_callB call_len_seq (by rfl) (T.mgn 0 _ rfl) PySem.boot_len (pa_cons (pv 1) pa_nil)) pa_nil))) (pg_name (i := 2) SC_law_spoil.nd rfl (.inl rfl)) (pss_cons (ps_set (i := 3) SC_law_spoil.nd rfl (.inl rfl) (pe_ix ix_list (pv 1) (pv 2) (fun _ _ => rfl))) (pss_one (ps_if (pt_val (pe_callB call_isi (by rfl) (T.mgn 12 _ rfl) (by decide +kernel) (pa_cons (pv 3) (pa_cons (pe_bltn (v := .ty "list") (u := .type "list") (by rfl) (T.mgn 1 _ rfl) (by decide +kernel) rfl) pa_nil)))) (pss_one (ps_expr (pe_bm PySem.F.plainAttrs_list PySem.F.slot_list_append PySem.F.type_list_append mt_append (pv 3) (pa_cons (pe_tup (pa_cons pe_str (pa_cons (pv 2) pa_nil))) pa_nil)))) pss_never))))
    (pss_cons (ps_for (passes_of rfl) rfl (pi_range2 (by rfl) (T.mgn 6 _ rfl) (pa_cons pe_int (pa_cons (pe_callB call_len_seq (by rfl) (T.mgn 0 _ rfl) PySem.boot_len (pa_cons (pv 1) pa_nil)) pa_nil))) (pg_name (i := 2) SC_law_spoil.nd rfl (.inl rfl)) (pss_cons (ps_set (i := 3) SC_law_spoil.nd rfl (.inl rfl) (pe_ix ix_list (pv 1) (pv 2) (fun _ _ => rfl))) (pss_cons (ps_if (PW.pt (pw_and (pt_val (pe_callB call_isi (by rfl) (T.mgn 12 _ rfl) (by decide +kernel) (pa_cons (pv 3) (pa_cons (pe_bltn (v := .ty "list") (u := .type "list") (by rfl) (T.mgn 1 _ rfl) (by decide +kernel) rfl) pa_nil)))) (pw_and1 (pt_cmpR (op_neD hr.units) (pe_ix ix_list (pv 3) (pe_op op_sub (pe_callB call_len_seq (by rfl) (T.mgn 0 _ rfl) PySem.boot_len (pa_cons (pv 3) pa_nil)) pe_int) (fun _ _ => rfl)) (pe_tup (pa_cons pe_str (pa_cons (pv 2) pa_nil))) (nomark _))))) (pss_one (ps_ret pe_bl)) pss_nil) (pss_one (ps_if (PW.pt (pw_and (pt_val (pe_callB call_isi (by rfl) (T.mgn 12 _ rfl) (by decide +kernel) (pa_cons (pv 3) (pa_cons (pe_bltn (v := .ty "dict") (u := .type "dict") (by rfl) (T.mgn 13 _ rfl) (by decide +kernel) rfl) pa_nil)))) (pw_and1 pt_no))) (pss_one (ps_ret pe_bl)) pss_nil)))))
    (pss_one (ps_ret pe_bl))))), spoil_reads h rfl⟩
theorem SC_law_alike : FnScope NN_law_alike ["_law_first", "_law_second"] (defScope st_law_alike) := ⟨rfl, rfl, rfl, by decide +kernel, rfl, by decide +kernel, by decide +kernel⟩
theorem okF_law_alike {P : Program} {w : World} {K : PySem.W.Frag} {mg : Str → Option Value} {base : Heap} (T : TxM fa fn ex K mg) {f : Addr} {fd : FuncData} (F : FunD K d_law_alike.name d_law_alike.qual d_law_alike.params d_law_alike.body d_law_alike.scope (d_law_alike.dvs K) (d_law_alike.kws K) f fd) : FnOk P w K mg base (L2.CX P w) 1 f fd ["_law_first", "_law_second"] (spW K S_law_alike) :=
  fn_W (N := NN_law_alike) (ps := ["_law_first", "_law_second"]) (k := 0) (S := S_law_alike) (Fx := [0, 1]) F SC_law_alike (by decide) (fun cdv A outer s H E hr tk =>
    (pss_Wcons (ps_Wif (PW.pt (pw_Wor (pt_Wcmp s_neS op_ne (PE.imp (w2_run s_ix) (pe_ix ix_seq (pe_Wvar 0) pe_Wint (fun _ _ => rfl))) (PE.imp (w2_run s_ix) (pe_ix ix_seq (pe_Wvar 1) pe_Wint (fun _ _ => rfl))) (nomark _)) (pw_Wor1 (pt_Wcmp s_neD (op_neD hr.units) (PE.imp (wN_run s_sort) (pe_callB (cr_sortD hr.units) (by rfl) (T.mgn 10 _ rfl) (by decide +kernel) (pa_Wcons (PE.imp (w2_run s_ix) (pe_ix ix_seq (pe_Wvar 0) pe_Wint (fun _ _ => rfl))) pa_Wnil))) (PE.imp (wN_run s_sort) (pe_callB (cr_sortD hr.units) (by rfl) (T.mgn 10 _ rfl) (by decide +kernel) (pa_Wcons (PE.imp (w2_run s_ix) (pe_ix ix_seq (pe_Wvar 1) pe_Wint (fun _ _ => rfl))) pa_Wnil))) (nomark _))))) (pss_Wone (ps_Wret pe_Wbl)) pss_Wnil)
    (pss_Wone (ps_Wret (PE.imp (w2_run s_eqD) (pe_cmpR (op_eqD hr.units) (PE.imp (wN_run s_sort) (pe_callB (cr_sortD hr.units) (by rfl) (T.mgn 10 _ rfl) (by decide +kernel) (pa_Wcons (PE.imp (w2_run s_ix) (pe_ix ix_seq (pe_Wvar 0) pe_Wint (fun _ _ => rfl))) pa_Wnil))) (PE.imp (wN_run s_sort) (pe_callB (cr_sortD hr.units) (by rfl) (T.mgn 10 _ rfl) (by decide +kernel) (pa_Wcons (PE.imp (w2_run s_ix) (pe_ix ix_seq (pe_Wvar 1) pe_Wint (fun _ _ => rfl))) pa_Wnil))) (nomark _))))))) (pure_law_alike)
theorem ok_law_alike {P : Program} {w : World} {K : PySem.W.Frag} {mg : Str → Option Value} {base : Heap} (T : TxM fa fn ex K mg) : Fo P w K mg base "_law_alike" 1 ["_law_first", "_law_second"] [] S_law_alike := by
  obtain ⟨fd, F⟩ := T.c.def_ 38 (d := d_law_alike) rfl
  exact ⟨_, fd, [], [], T.mgf 61 "_law_alike" rfl, F.kp, .nil, F.bindsN (fun _ _ _ _ _ _ us hl => match us, hl with | [_, _], _ => rfl), .nil, okF_law_alike T  F⟩
theorem SC_Net_eq : FnScope NN_Net_eq ["self", "other"] (defScope st_Net_eq) := ⟨rfl, rfl, rfl, by decide +kernel, rfl, by decide +kernel, by decide +kernel⟩
theorem okF_Net_eq {P : Program} {w : World} {K : PySem.W.Frag} {mg : Str → Option Value} {base : Heap} (T : TxM fa fn ex K mg) {f : Addr} {fd : FuncData} (F : FunD K d_Net_eq.name d_Net_eq.qual d_Net_eq.params d_Net_eq.body d_Net_eq.scope (d_Net_eq.dvs K) (d_Net_eq.kws K) f fd) : FnOk P w K mg base (L2.CX P w) 1 f fd ["self", "other"] (spW K S_Net_eq) :=
  fn_W (N := NN_Net_eq) (ps := ["self", "other"]) (k := 0) (S := S_Net_eq) (Fx := []) F SC_Net_eq (by decide) (fun cdv A outer s H E hr tk =>
    (pss_Wone (ps_Wret (pe_Wand (pe_WisiO (clsB_ok (T.c.exs 0 rfl)) (by rfl) (T.mgn 12 _ rfl) (by rfl) (T.mgf 3 "Net" rfl) (pe_Wvar 1)) (pe_Wand (PE.imp (w2_run s_eqS) (pe_cmpR op_eq (pe_Wfld (clsB_ok (T.c.exs 0 rfl)).c (He.noat_ok (T.c.fact 14 rfl)) (pe_Wvar 0)) (pe_Wfld (clsB_ok (T.c.exs 0 rfl)).c (He.noat_ok (T.c.fact 14 rfl)) (pe_Wvar 1)) (nomark _))) (pe_Wand (PE.imp (w2_run s_eqD) (pe_cmpR (op_eqD hr.units) (pe_Wfld (clsB_ok (T.c.exs 0 rfl)).c (He.noat_ok (T.c.fact 15 rfl)) (pe_Wvar 0)) (pe_Wfld (clsB_ok (T.c.exs 0 rfl)).c (He.noat_ok (T.c.fact 15 rfl)) (pe_Wvar 1)) (nomark _))) (pe_Wone (PE.imp (w2_run s_eqD) (pe_cmpR (op_eqD hr.units) (pe_Wfld (clsB_ok (T.c.exs 0 rfl)).c (He.noat_ok (T.c.fact 16 rfl)) (pe_Wvar 0)) (pe_Wfld (clsB_ok (T.c.exs 0 rfl)).c (He.noat_ok (T.c.fact 16 rfl)) (pe_Wvar 1)) (nomark _)))))))))) (pure_Net_eq)
theorem ok_Net_eq {P : Program} {w : World} {K : PySem.W.Frag} {mg : Str → Option Value} {base : Heap} (T : TxM fa fn ex K mg) : Mo P w K mg base "Net" "__eq__" 1 ["self", "other"] [] S_Net_eq := by
  obtain ⟨fd, F⟩ := T.c.def_ 39 (d := d_Net_eq) rfl
  have me := He.meth_ok (T.c.fact 62 rfl)
  exact ⟨_, fd, [], [], me.at_, me.fn, me.kp, .nil, F.bindsN (fun _ _ _ _ _ _ us hl => match us, hl with | [_, _], _ => rfl), .nil, okF_Net_eq T  F⟩
theorem SC_law_compared : FnScope NN_law_compared ["_law_net", "_law_twin", "_law_beside", "_law_world_here", "_law_other"] (defScope st_law_compared) := ⟨rfl, rfl, rfl, by decide +kernel, rfl, by decide +kernel, by decide +kernel⟩
theorem okF_law_compared {P : Program} {w : World} {K : PySem.W.Frag} {mg : Str → Option Value} {base : Heap} (T : TxM fa fn ex K mg) (G_law_alike : Fo P w K mg base "_law_alike" 1 ["_law_first", "_law_second"] [] S_law_alike) (G_Net_eq : Mo P w K mg base "Net" "__eq__" 1 ["self", "other"] [] S_Net_eq) (G_law_same : Fo P w K mg base "_law_same" 6 ["_law_told", "_law_due"] [] (S_same 6)) (G_Net_line_names : Po P w K mg base "Net" "line_names" 1 ["self"] S_Net_line_names) (G_Net_houses : Po P w K mg base "Net" "houses" 1 ["self"] S_Net_houses) (G_Net_lines : Po P w K mg base "Net" "lines" 1 ["self"] S_Net_lines) {f : Addr} {fd : FuncData} (F : FunD K d_law_compared.name d_law_compared.qual d_law_compared.params d_law_compared.body d_law_compared.scope (d_law_compared.dvs K) (d_law_compared.kws K) f fd) : FnOk P w K mg base (L2.CX P w) 7 f fd ["_law_net", "_law_twin", "_law_beside", "_law_world_here", "_law_other"] (spW K S_law_compared) :=
  fn_W (N := NN_law_compared) (ps := ["_law_net", "_law_twin", "_law_beside", "_law_world_here", "_law_other"]) (k := 6) (S := S_law_compared) (Fx := []) F SC_law_compared (by decide) (fun cdv A outer s H E hr tk =>
    (pss_Wcons (ps_WnfS (ps_Wset (i := 5) (by decide) SC_law_compared.nd rfl (by first | exact Or.inl rfl | exact Or.inr rfl) (pe_Wnf (pe_Wcal G_law_alike (hr.mono (by decide)) tk (by rfl) (pa_Wcons (pe_Wvar 3) (pa_Wcons (pe_Wvar 4) pa_Wnil))))))
    (pss_Wcons (ps_WnfS (ps_Wset (i := 6) (by decide) SC_law_compared.nd rfl (by first | exact Or.inl rfl | exact Or.inr rfl) (pe_Wlst (pa_Wcons (PE.sh (pe_Wnf (pe_WeqM (clsB_ok (T.c.exs 0 rfl)) G_Net_eq (hr.mono (by decide)) (pe_Wvar 0) (pe_Wvar 1)))) (pa_Wcons (PE.sh (pe_Wnf (pe_WeqM (clsB_ok (T.c.exs 0 rfl)) G_Net_eq (hr.mono (by decide)) (pe_Wvar 1) (pe_Wvar 0)))) (pa_Wcons (PE.sh (pe_Wnf (pe_WeqM (clsB_ok (T.c.exs 0 rfl)) G_Net_eq (hr.mono (by decide)) (pe_Wvar 0) (pe_Wvar 0)))) (pa_Wcons (PE.sh (pe_Wnf (pe_WeqM (clsB_ok (T.c.exs 0 rfl)) G_Net_eq (hr.mono (by decide)) (pe_Wvar 0) (pe_Wvar 2)))) (pa_Wcons (PE.sh (pe_Wnf (pe_WeqM (clsB_ok (T.c.exs 0 rfl)) G_Net_eq (hr.mono (by decide)) (pe_Wvar 2) (pe_Wvar 0)))) (pa_Wcons (PE.sh (pe_Wnf (pe_WeqM (clsB_ok (T.c.exs 0 rfl)) G_Net_eq (hr.mono (by decide)) (pe_Wvar 1) (pe_Wvar 2)))) (pa_Wcons (PE.sh (pe_Wnf (pe_WeqM (clsB_ok (T.c.exs 0 rfl)) G_Net_eq (hr.mono (by decide)) (pe_Wvar 2) (pe_Wvar 1)))) pa_Wnil))))))))))
    (pss_Wcons (ps_Wif (pt_Wnot (pt_W (pe_Wnf (pe_Wcal G_law_same (hr.mono (by decide)) tk (by rfl) (pa_Wcons (pe_Wvar 6) (pa_Wcons (pe_Wlst (pa_Wcons (PE.sh pe_Wbl) (pa_Wcons (PE.sh pe_Wbl) (pa_Wcons (PE.sh pe_Wbl) (pa_Wcons (PE.sh (pe_Wvar 5)) (pa_Wcons (PE.sh (pe_Wvar 5)) (pa_Wcons (PE.sh (pe_Wvar 5)) (pa_Wcons (PE.sh (pe_Wvar 5)) pa_Wnil)))))))) pa_Wnil)))))) (pss_Wone (ps_Wret pe_Wbl)) pss_Wnil)
    (pss_Wcons (ps_WnfS (ps_Wset (i := 7) (by decide) SC_law_compared.nd rfl (by first | exact Or.inl rfl | exact Or.inr rfl) (pe_Wlst (pa_Wcons (PE.sh pe_Wnon) (pa_Wcons (PE.sh pe_Wbl) (pa_Wcons (PE.sh pe_Wint) (pa_Wcons (PE.sh pe_Wint) (pa_Wcons (PE.sh pe_Wstr) (pa_Wcons (PE.sh (PE.imp (w2_run s_ix) (pe_ix ix_seq (pe_Wvar 3) pe_Wint (fun _ _ => rfl)))) (pa_Wcons (PE.sh (pe_Wlst pa_Wnil)) (pa_Wcons (PE.sh (pe_Wtup pa_Wnil)) (pa_Wcons (PE.sh pe_Wdic0) (pa_Wcons (PE.sh (pe_Wvar 3)) (pa_Wcons (PE.sh (pe_Wlst (pa_Wcons (PE.sh (pe_Wvar 3)) pa_Wnil))) (pa_Wcons (PE.sh (pe_Wnf (pe_WpropM (clsB_ok (T.c.exs 0 rfl)).c G_Net_lines (hr.mono (by decide)) (pe_Wvar 0)))) (pa_Wcons (PE.sh (pe_Wnf (pe_WpropM (clsB_ok (T.c.exs 0 rfl)).c G_Net_houses (hr.mono (by decide)) (pe_Wvar 0)))) (pa_Wcons (PE.sh (pe_Wnf (pe_WpropM (clsB_ok (T.c.exs 0 rfl)).c G_Net_line_names (hr.mono (by decide)) (pe_Wvar 0)))) pa_Wnil)))))))))))))))))
    (pss_Wcons (ps_WnfS (ps_Wset (i := 7) (by decide) SC_law_compared.nd rfl (by first | exact Or.inl rfl | exact Or.inr rfl) (PE.imp (w2_run s_add) (pe_op op_Wadd (pe_Wvar 7) (pe_Wlst (pa_Wcons (PE.sh (pe_Wlst (pa_Wcons (PE.sh (pe_Wvar 0)) pa_Wnil))) (pa_Wcons (PE.sh (pe_Wtup (pa_Wcons (PE.sh (pe_Wvar 0)) pa_Wnil))) (pa_Wcons (PE.sh (pe_Wdic1 (PE.imp (w2_run s_ix) (pe_ix ix_seq (pe_Wvar 3) pe_Wint (fun _ _ => rfl))) (pe_Wvar 0))) (pa_Wcons (PE.sh (pe_Wdic1 pe_Wint (pe_Wlst (pa_Wcons (PE.sh (pe_Wvar 0)) (pa_Wcons (PE.sh (pe_Wvar 1)) pa_Wnil))))) pa_Wnil)))))))))
    (pss_Wone (ps_Wret (pe_Wnf (pe_Wcal G_law_same (hr.mono (by decide)) tk (by rfl) (pa_Wcons (pe_WlcS rfl SC_law_compared.nd itE_run (tg_name (by decide)) (by decide) (by decide) (pi_seq (pe_Wvar 7)) (blkOk_by (own := [(("_law_value" : Str), 8)]) (N := NN_law_compared) (sc := (defScope st_law_compared)) (by decide +kernel)) (fun _ _ _ _ _ => (pg_name (i := 8) SC_law_compared.nd rfl (by first | exact Or.inl rfl | exact Or.inr rfl))) (fun _ _ _ _ _ => pts_Wnil) (fun _ _ _ _ _ => (pe_Wnf (pe_WeqM (clsB_ok (T.c.exs 0 rfl)) G_Net_eq (hr.mono (by decide)) (pe_Wvar 0) (pe_Wvar 8))))) (pa_Wcons (PE.imp (w2_run s_mul) (pe_op op_Wmul (pe_Wlst (pa_Wcons (PE.sh pe_Wbl) pa_Wnil)) (PE.imp (wN_run s_len) (pe_callB call_len (by rfl) (T.mgn 0 _ rfl) PySem.boot_len (pa_Wcons (pe_Wvar 7) pa_Wnil))))) pa_Wnil)))))))))))) (pure_law_compared)
theorem ok_law_compared {P : Program} {w : World} {K : PySem.W.Frag} {mg : Str → Option Value} {base : Heap} (T : TxM fa fn ex K mg) (G_law_alike : Fo P w K mg base "_law_alike" 1 ["_law_first", "_law_second"] [] S_law_alike) (G_Net_eq : Mo P w K mg base "Net" "__eq__" 1 ["self", "other"] [] S_Net_eq) (G_law_same : Fo P w K mg base "_law_same" 6 ["_law_told", "_law_due"] [] (S_same 6)) (G_Net_line_names : Po P w K mg base "Net" "line_names" 1 ["self"] S_Net_line_names) (G_Net_houses : Po P w K mg base "Net" "houses" 1 ["self"] S_Net_houses) (G_Net_lines : Po P w K mg base "Net" "lines" 1 ["self"] S_Net_lines) : Fo P w K mg base "_law_compared" 7 ["_law_net", "_law_twin", "_law_beside", "_law_world_here", "_law_other"] [] S_law_compared := by
  obtain ⟨fd, F⟩ := T.c.def_ 40 (d := d_law_compared) rfl
  exact ⟨_, fd, [], [], T.mgf 63 "_law_compared" rfl, F.kp, .nil, F.bindsN (fun _ _ _ _ _ _ us hl => match us, hl with | [_, _, _, _, _], _ => rfl), .nil, okF_law_compared T G_law_alike G_Net_eq G_law_same G_Net_line_names G_Net_houses G_Net_lines F⟩
theorem SC_law : FnScope NN_law ["_law_script"] (defScope st_law) := ⟨rfl, rfl, rfl, by decide +kernel, rfl, by decide +kernel, by decide +kernel⟩
theorem okF_law {P : Program} {w : World} {K : PySem.W.Frag} {mg : Str → Option Value} {base : Heap} (T : TxM fa fn ex K mg) (G_law_store : Fo P w K mg base "_law_store" 2 ["_law_script"] [] S_law_store) (G_law_world : Fo P w K mg base "_law_world" 7 ["_law_store_here", "_law_most", "_law_room"] [] S_law_world) (G_law_odds : Fo P w K mg base "_law_odds" 4 ["_law_store_here", "_law_part"] [] S_law_odds) (G_law_full : Fo P w K mg base "_law_full" 5 ["_law_store_here", "_law_world_here"] [] S_law_full) (G_law_houses : Fo P w K mg base "_law_houses" 1 ["_law_world_here"] [] S_law_houses) (G_law_free_name : Fo P w K mg base "_law_free_name" 4 ["_law_store_here", "_law_most"] [] S_law_free_name) (G_law_fresh : Fo P w K mg base "_law_fresh" 1 ["_law_name", "_law_used"] [] S_law_fresh) (G_law_put : Fo P w K mg base "_law_put" 4 ["_law_store_here", "_law_items", "_law_item"] [] S_law_put) (G_law_near_world : Fo P w K mg base "_law_near_world" 8 ["_law_store_here", "_law_world_here"] [] S_law_near_world) (G_law_listed : Fo P w K mg base "_law_listed" 5 ["_law_store_here", "_law_items"] [] S_law_listed) (G_law_copy : Fo P w K mg base "_law_copy" 4 ["_law_value"] [] (S_copy 4)) (G_Net_init : Mo P w K mg base "Net" "__init__" 3 ["self", "home", "houses", "lines"] [] S_Net_init) (G_Net_init1 : Mo P w K mg base "Net" "__init__" 3 ["self", "home", "houses", "lines"] [⟨.tup [], .sh⟩] S_Net_init) (G_Net_init2 : Mo P w K mg base "Net" "__init__" 3 ["self", "home", "houses", "lines"] [⟨.tup [], .sh⟩, ⟨.tup [], .sh⟩] S_Net_init) (G_law_is_world : Fo P w K mg base "_law_is_world" 7 ["_law_net", "_law_world_here"] [] S_law_is_world) (G_law_same : Fo P w K mg base "_law_same" 6 ["_law_told", "_law_due"] [] (S_same 6)) (G_Net_lines : Po P w K mg base "Net" "lines" 1 ["self"] S_Net_lines) (G_Net_others : Po P w K mg base "Net" "others" 1 ["self"] S_Net_others) (G_Net_houses : Po P w K mg base "Net" "houses" 1 ["self"] S_Net_houses) (G_Net_line_names : Po P w K mg base "Net" "line_names" 1 ["self"] S_Net_line_names) (Rspoil : SpoilG P w K mg base 3 5) (G_law_shuffled : Fo P w K mg base "_law_shuffled" 4 ["_law_store_here", "_law_items"] [] S_law_shuffled) (G_law_compared : Fo P w K mg base "_law_compared" 7 ["_law_net", "_law_twin", "_law_beside", "_law_world_here", "_law_other"] [] S_law_compared) (G_Net_eq : Mo P w K mg base "Net" "__eq__" 1 ["self", "other"] [] S_Net_eq) {f : Addr} {fd : FuncData} (F : FunD K d_law.name d_law.qual d_law.params d_law.body d_law.scope (d_law.dvs K) (d_law.kws K) f fd) : FnOk P w K mg base (L2.CX P w) 9 f fd ["_law_script"] (spW K S_law) :=
  fn_W (N := NN_law) (ps := ["_law_script"]) (k := 8) (S := S_law) (Fx := [0]) F SC_law (by decide) (fun cdv A outer s H E hr tk =>
    (pss_Wcons (ps_WnfS (ps_Wset (i := 1) (by decide) SC_law.nd rfl (by first | exact Or.inl rfl | exact Or.inr rfl) (pe_Wnf (pe_Wcal G_law_store (hr.mono (by decide)) tk (by rfl) (pa_Wcons (pe_Wvar 0) pa_Wnil)))))
    (pss_Wcons (ps_WnfS (ps_Wset (i := 2) (by decide) SC_law.nd rfl (by first | exact Or.inl rfl | exact Or.inr rfl) (pe_Wnf (pe_Wcal G_law_world (hr.mono (by decide)) tk (by rfl) (pa_Wcons (pe_Wvar 1) (pa_Wcons pe_Wint (pa_Wcons pe_Wint pa_Wnil)))))))
    (pss_WconsC (ps_Wif (pt_W (pe_Wnf (pe_Wcal G_law_odds (hr.mono (by decide)) tk (by rfl) (pa_Wcons (pe_Wvar 1) (pa_Wcons pe_Wint pa_Wnil))))) (pss_Wone (ps_WnfS (ps_Wset (i := 2) (by decide) SC_law.nd rfl (by first | exact Or.inl rfl | exact Or.inr rfl) (pe_Wnf (pe_Wcal G_law_full (hr.mono (by decide)) tk (by rfl) (pa_Wcons (pe_Wvar 1) (pa_Wcons (pe_Wvar 2) pa_Wnil))))))) pss_Wnil)
    (pss_WconsC (ps_Wif (PW.pt (pw_Wand (pt_Wcmp s_lt op_Wlt (PE.imp (wN_run s_len) (pe_callB call_len (by rfl) (T.mgn 0 _ rfl) PySem.boot_len (pa_Wcons (PE.imp (w2_run s_ix) (pe_ix ix_seq (pe_Wvar 2) pe_Wint (fun _ _ => rfl))) pa_Wnil))) pe_Wint (nomark _)) (pw_Wand1 (pt_W (pe_Wnf (pe_Wcal G_law_odds (hr.mono (by decide)) tk (by rfl) (pa_Wcons (pe_Wvar 1) (pa_Wcons pe_Wint pa_Wnil)))))))) (pss_Wcons (ps_WnfS (ps_Wset (i := 3) (by decide) SC_law.nd rfl (by first | exact Or.inl rfl | exact Or.inr rfl) (pe_Wnf (pe_Wcal G_law_fresh (hr.mono (by decide)) tk (by rfl) (pa_Wcons (pe_Wnf (pe_Wcal G_law_free_name (hr.mono (by decide)) tk (by rfl) (pa_Wcons (pe_Wvar 1) (pa_Wcons pe_Wint pa_Wnil)))) (pa_Wcons (pe_Wnf (pe_Wcal G_law_houses (hr.mono (by decide)) tk (by rfl) (pa_Wcons (pe_Wvar 2) pa_Wnil))) pa_Wnil))))))
    (pss_Wone (ps_WnfS (ps_Wset (i := 2) (by decide) SC_law.nd rfl (by first | exact Or.inl rfl | exact Or.inr rfl) (pe_Wtup (pa_Wcons (PE.sh (PE.imp (w2_run s_ix) (pe_ix ix_seq (pe_Wvar 2) pe_Wint (fun _ _ => rfl)))) (pa_Wcons (PE.sh (pe_Wnf (pe_Wcal G_law_put (hr.mono (by decide)) tk (by rfl) (pa_Wcons (pe_Wvar 1) (pa_Wcons (PE.imp (w2_run s_ix) (pe_ix ix_seq (pe_Wvar 2) pe_Wint (fun _ _ => rfl))) (pa_Wcons (pe_Wvar 3) pa_Wnil)))))) (pa_Wcons (PE.sh (PE.imp (w2_run s_ix) (pe_ix ix_seq (pe_Wvar 2) pe_Wint (fun _ _ => rfl)))) pa_Wnil)))))))) pss_Wnil)
    (pss_Wcons (ps_WnfS (ps_Wset (i := 4) (by decide) SC_law.nd rfl (by first | exact Or.inl rfl | exact Or.inr rfl) (pe_Wnf (pe_Wcal G_law_near_world (hr.mono (by decide)) tk (by rfl) (pa_Wcons (pe_Wvar 1) (pa_Wcons (pe_Wvar 2) pa_Wnil))))))
    (pss_Wcons (ps_WnfS (ps_Wset (i := 5) (by decide) SC_law.nd rfl (by first | exact Or.inl rfl | exact Or.inr rfl) (pe_Wlst (pa_Wcons (PE.fz (pe_Wnf (pe_Wcal G_law_listed (hr.mono (by decide)) tk (by rfl) (pa_Wcons (pe_Wvar 1) (pa_Wcons (PE.imp (w2_run s_ix) (pe_ix ix_seq (pe_Wvar 2) pe_Wint (fun _ _ => rfl))) pa_Wnil))))) (pa_Wcons (PE.fz (pe_Wnf (pe_Wcal G_law_listed (hr.mono (by decide)) tk (by rfl) (pa_Wcons (pe_Wvar 1) (pa_Wcons (PE.imp (w2_run s_ix) (pe_ix ix_seq (pe_Wvar 2) pe_Wint (fun _ _ => rfl))) pa_Wnil))))) (pa_Wcons (PE.fz (PE.imp (wN_run s_list) (pe_callTy call_list_of (by rfl) (T.mgn 1 _ rfl) (by decide +kernel) (pa_Wcons (PE.imp (w2_run s_ix) (pe_ix ix_seq (pe_Wvar 4) pe_Wint (fun _ _ => rfl))) pa_Wnil)))) (pa_Wcons (PE.fz (PE.imp (wN_run s_list) (pe_callTy call_list_of (by rfl) (T.mgn 1 _ rfl) (by decide +kernel) (pa_Wcons (PE.imp (w2_run s_ix) (pe_ix ix_seq (pe_Wvar 4) pe_Wint (fun _ _ => rfl))) pa_Wnil)))) pa_Wnil)))))))
    (pss_Wcons (ps_WnfS (ps_Wset (i := 6) (by decide) SC_law.nd rfl (by first | exact Or.inl rfl | exact Or.inr rfl) (PE.bor (pe_Wnf (pe_Wcal G_law_copy (hr.mono (by decide)) tk (by rfl) (pa_Wcons (pe_Wvar 5) pa_Wnil))))))
    (pss_Wcons (ps_WnfS (ps_Wset (i := 7) (by decide) SC_law.nd rfl (by first | exact Or.inl rfl | exact Or.inr rfl) (PE.bor (pe_Wnf (pe_WmakeM (T.c.fact 2 rfl) G_Net_init (hr.mono (by decide)) tk (by rfl) (T.mgf 3 "Net" rfl) (pa_Wcons (PE.imp (w2_run s_ix) (pe_ix ix_seq (pe_Wvar 2) pe_Wint (fun _ _ => rfl))) (pa_Wcons (PE.imp (w2_run s_ix) (pe_ix ix_seq (pe_Wvar 5) pe_Wint (fun _ _ => rfl))) (pa_Wcons (PE.imp (w2_run s_ix) (pe_ix ix_seq (pe_Wvar 5) pe_Wint (fun _ _ => rfl))) pa_Wnil))))))))
    (pss_Wcons (ps_WnfS (ps_Wset (i := 8) (by decide) SC_law.nd rfl (by first | exact Or.inl rfl | exact Or.inr rfl) (PE.bor (pe_Wnf (pe_WmakeM (T.c.fact 2 rfl) G_Net_init (hr.mono (by decide)) tk (by rfl) (T.mgf 3 "Net" rfl) (pa_Wcons (PE.imp (w2_run s_ix) (pe_ix ix_seq (pe_Wvar 4) pe_Wint (fun _ _ => rfl))) (pa_Wcons (PE.imp (w2_run s_ix) (pe_ix ix_seq (pe_Wvar 5) pe_Wint (fun _ _ => rfl))) (pa_Wcons (PE.imp (w2_run s_ix) (pe_ix ix_seq (pe_Wvar 5) pe_Wint (fun _ _ => rfl))) pa_Wnil))))))))
    (pss_Wcons (ps_Wif (PW.pt (pw_Wor (pt_Wnot (pt_W (pe_Wnf (pe_Wcal G_law_is_world (hr.mono (by decide)) tk (by rfl) (pa_Wcons (pe_Wvar 7) (pa_Wcons (pe_Wvar 2) pa_Wnil)))))) (pw_Wor (pt_Wnot (pt_W (pe_Wnf (pe_Wcal G_law_is_world (hr.mono (by decide)) tk (by rfl) (pa_Wcons (pe_Wvar 8) (pa_Wcons (pe_Wvar 4) pa_Wnil)))))) (pw_Wor1 (pt_Wnot (pt_W (PE.bor (pe_Wnf (pe_Wcal G_law_same (hr.mono (by decide)) tk (by rfl) (pa_Wcons (pe_Wvar 5) (pa_Wcons (pe_Wvar 6) pa_Wnil))))))))))) (pss_Wone (ps_Wret pe_Wbl)) pss_Wnil)
    (pss_Wcons (ps_WnfS (ps_Wset (i := 9) (by decide) SC_law.nd rfl (by first | exact Or.inl rfl | exact Or.inr rfl) (pe_Wlst (pa_Wcons (PE.fz (pe_Wnf (pe_WpropM (clsB_ok (T.c.exs 0 rfl)).c G_Net_houses (hr.mono (by decide)) (pe_Wvar 7)))) (pa_Wcons (PE.fz (pe_Wnf (pe_WpropM (clsB_ok (T.c.exs 0 rfl)).c G_Net_others (hr.mono (by decide)) (pe_Wvar 7)))) (pa_Wcons (PE.fz (pe_Wnf (pe_WpropM (clsB_ok (T.c.exs 0 rfl)).c G_Net_lines (hr.mono (by decide)) (pe_Wvar 7)))) (pa_Wcons (PE.fz (pe_Wnf (pe_WpropM (clsB_ok (T.c.exs 0 rfl)).c G_Net_line_names (hr.mono (by decide)) (pe_Wvar 7)))) (pa_Wcons (PE.fz (pe_Wnf (pe_WpropM (clsB_ok (T.c.exs 0 rfl)).c G_Net_houses (hr.mono (by decide)) (pe_Wvar 8)))) (pa_Wcons (PE.fz (pe_Wnf (pe_WpropM (clsB_ok (T.c.exs 0 rfl)).c G_Net_others (hr.mono (by decide)) (pe_Wvar 8)))) (pa_Wcons (PE.fz (pe_Wnf (pe_WpropM (clsB_ok (T.c.exs 0 rfl)).c G_Net_lines (hr.mono (by decide)) (pe_Wvar 8)))) pa_Wnil))))))))))
    (pss_Wcons (ps_Wif (pt_Wnot (pt_W (pe_WspoilT Rspoil (hr.mono (by decide)) tk (by rfl) (pe_Wcat (pe_Wcat (pe_Wmov 9 (pv 9)) (pe_Wlst (pa_Wcons (PE.fz (pe_Wnf (pe_WpropM (clsB_ok (T.c.exs 0 rfl)).c G_Net_line_names (hr.mono (by decide)) (pe_Wvar 8)))) pa_Wnil))) (pe_Wmov 5 (pv 5)))))) (pss_Wone (ps_Wret pe_Wbl)) pss_Wnil)
    (pss_Wcons (ps_WnfS (ps_Wset (i := 10) (by decide) SC_law.nd rfl (by first | exact Or.inl rfl | exact Or.inr rfl) (pe_Wnf (pe_WmakeM (T.c.fact 2 rfl) G_Net_init (hr.mono (by decide)) tk (by rfl) (T.mgf 3 "Net" rfl) (pa_Wcons (PE.imp (w2_run s_ix) (pe_ix ix_seq (pe_Wvar 2) pe_Wint (fun _ _ => rfl))) (pa_Wcons (PE.imp (wN_run s_tuple) (pe_callTy call_tuple_of (by rfl) (T.mgn 4 _ rfl) (by decide +kernel) (pa_Wcons (pe_Wnf (pe_Wcal G_law_shuffled (hr.mono (by decide)) tk (by rfl) (pa_Wcons (pe_Wvar 1) (pa_Wcons (PE.imp (w2_run s_ix) (pe_ix ix_seq (pe_Wvar 2) pe_Wint (fun _ _ => rfl))) pa_Wnil)))) pa_Wnil))) (pa_Wcons (pe_Wnf (pe_Wcal G_law_shuffled (hr.mono (by decide)) tk (by rfl) (pa_Wcons (pe_Wvar 1) (pa_Wcons (PE.imp (w2_run s_ix) (pe_ix ix_seq (pe_Wvar 2) pe_Wint (fun _ _ => rfl))) pa_Wnil)))) pa_Wnil)))))))
    (pss_Wcons (ps_Wif (PW.pt (pw_Wor (pt_Wnot (pt_W (pe_Wnf (pe_Wcal G_law_is_world (hr.mono (by decide)) tk (by rfl) (pa_Wcons (pe_Wvar 10) (pa_Wcons (pe_Wvar 2) pa_Wnil)))))) (pw_Wor1 (pt_Wnot (pt_W (pe_Wnf (pe_Wcal G_law_compared (hr.mono (by decide)) tk (by rfl) (pa_Wcons (pe_Wvar 7) (pa_Wcons (pe_Wvar 10) (pa_Wcons (pe_Wvar 8) (pa_Wcons (pe_Wvar 2) (pa_Wcons (pe_Wvar 4) pa_Wnil)))))))))))) (pss_Wone (ps_Wret pe_Wbl)) pss_Wnil)
    (pss_Wcons (ps_WnfS (ps_Wset (i := 11) (by decide) SC_law.nd rfl (by first | exact Or.inl rfl | exact Or.inr rfl) (pe_Wnf (pe_WmakeM (T.c.fact 2 rfl) G_Net_init2 (hr.mono (by decide)) tk (by rfl) (T.mgf 3 "Net" rfl) (pa_Wcons (PE.imp (w2_run s_ix) (pe_ix ix_seq (pe_Wvar 2) pe_Wint (fun _ _ => rfl))) pa_Wnil)))))
    (pss_Wcons (ps_WnfS (ps_Wset (i := 12) (by decide) SC_law.nd rfl (by first | exact Or.inl rfl | exact Or.inr rfl) (pe_Wnf (pe_WmakeM (T.c.fact 2 rfl) G_Net_init1 (hr.mono (by decide)) tk (by rfl) (T.mgf 3 "Net" rfl) (pa_Wcons (PE.imp (w2_run s_ix) (pe_ix ix_seq (pe_Wvar 2) pe_Wint (fun _ _ => rfl))) (pa_Wcons (PE.imp (wN_run s_list) (pe_callTy call_list_of (by rfl) (T.mgn 1 _ rfl) (by decide +kernel) (pa_Wcons (PE.imp (w2_run s_ix) (pe_ix ix_seq (pe_Wvar 2) pe_Wint (fun _ _ => rfl))) pa_Wnil))) pa_Wnil))))))
    (pss_Wcons (ps_Wif (PW.pt (pw_Wor (pt_Wnot (pt_W (pe_Wnf (pe_Wcal G_law_is_world (hr.mono (by decide)) tk (by rfl) (pa_Wcons (pe_Wvar 11) (pa_Wcons (pe_Wtup (pa_Wcons (PE.sh (PE.imp (w2_run s_ix) (pe_ix ix_seq (pe_Wvar 2) pe_Wint (fun _ _ => rfl)))) (pa_Wcons (PE.sh (pe_Wlst pa_Wnil)) (pa_Wcons (PE.sh (pe_Wlst pa_Wnil)) pa_Wnil)))) pa_Wnil)))))) (pw_Wor1 (pt_Wnot (pt_W (pe_Wnf (pe_Wcal G_law_is_world (hr.mono (by decide)) tk (by rfl) (pa_Wcons (pe_Wvar 12) (pa_Wcons (pe_Wtup (pa_Wcons (PE.sh (PE.imp (w2_run s_ix) (pe_ix ix_seq (pe_Wvar 2) pe_Wint (fun _ _ => rfl)))) (pa_Wcons (PE.sh (PE.imp (w2_run s_ix) (pe_ix ix_seq (pe_Wvar 2) pe_Wint (fun _ _ => rfl)))) (pa_Wcons (PE.sh (pe_Wlst pa_Wnil)) pa_Wnil)))) pa_Wnil))))))))) (pss_Wone (ps_Wret pe_Wbl)) pss_Wnil)
    (pss_Wcons (ps_Wif (PW.pt (pw_Wor (PW.pt (pw_Wand (pt_Wcmp s_gt op_Wgt (PE.imp (wN_run s_len) (pe_callB call_len (by rfl) (T.mgn 0 _ rfl) PySem.boot_len (pa_Wcons (PE.imp (w2_run s_ix) (pe_ix ix_seq (pe_Wvar 2) pe_Wint (fun _ _ => rfl))) pa_Wnil))) pe_Wint (nomark _)) (pw_Wand1 (pt_WTBnf (pt_WeqM (clsB_ok (T.c.exs 0 rfl)) G_Net_eq (hr.mono (by decide)) (pe_Wvar 11) (pe_Wvar 12)))))) (pw_Wor1 (PW.pt (pw_Wand (pt_Wcmp s_gt op_Wgt (PE.imp (wN_run s_len) (pe_callB call_len (by rfl) (T.mgn 0 _ rfl) PySem.boot_len (pa_Wcons (PE.imp (w2_run s_ix) (pe_ix ix_seq (pe_Wvar 2) pe_Wint (fun _ _ => rfl))) pa_Wnil))) pe_Wint (nomark _)) (pw_Wand1 (pt_WTBnf (pt_WeqM (clsB_ok (T.c.exs 0 rfl)) G_Net_eq (hr.mono (by decide)) (pe_Wvar 12) (pe_Wvar 7))))))))) (pss_Wone (ps_Wret pe_Wbl)) pss_Wnil)
    (pss_Wone (ps_Wret (pe_Wand (pe_Wnf (pe_Wcal G_law_is_world (hr.mono (by decide)) tk (by rfl) (pa_Wcons (pe_Wvar 7) (pa_Wcons (pe_Wvar 2) pa_Wnil)))) (pe_Wone (pe_Wnf (pe_Wcal G_law_is_world (hr.mono (by decide)) tk (by rfl) (pa_Wcons (pe_Wvar 8) (pa_Wcons (pe_Wvar 4) pa_Wnil))))))))))))))))))))))))))) (pure_law)
theorem facts {P : Program} {w : World} {K : PySem.W.Frag} {mg : Str → Option Value} {base : Heap} (T : TxM fa fn ex K mg) {f : Addr} {fd : FuncData} (F : FunD K d_law.name d_law.qual d_law.params d_law.body d_law.scope (d_law.dvs K) (d_law.kws K) f fd) : FnOk P w K mg base (L2.CX P w) 9 f fd ["_law_script"] (spW K S_law) := by
  have G_law_mixed := ok_law_mixed (P := P) (w := w) (base := base) T 
  have G_law_store := ok_law_store (P := P) (w := w) (base := base) T G_law_mixed
  have G_law_advance := ok_law_advance (P := P) (w := w) (base := base) T G_law_mixed
  have G_law_take := ok_law_take (P := P) (w := w) (base := base) T G_law_advance G_law_mixed
  have G_law_size := ok_law_size (P := P) (w := w) (base := base) T G_law_take
  have G_law_odds := ok_law_odds (P := P) (w := w) (base := base) T G_law_take
  have G_law_shuffled := ok_law_shuffled (P := P) (w := w) (base := base) T G_law_take
  have G_law_tree_pairs := ok_law_tree_pairs (P := P) (w := w) (base := base) T G_law_take G_law_shuffled
  have G_law_free_pairs := ok_law_free_pairs (P := P) (w := w) (base := base) T G_law_take
  have G_law_shape := ok_law_shape (P := P) (w := w) (base := base) T G_law_take G_law_size G_law_odds G_law_tree_pairs G_law_free_pairs G_law_shuffled
  have G_law_free_name := ok_law_free_name (P := P) (w := w) (base := base) T G_law_take
  have G_law_pick := ok_law_pick (P := P) (w := w) (base := base) T G_law_take
  have G_law_fresh := ok_law_fresh (P := P) (w := w) (base := base) T 
  have G_law_names := ok_law_names (P := P) (w := w) (base := base) T G_law_take G_law_free_name G_law_pick G_law_fresh
  have G_law_named := ok_law_named (P := P) (w := w) (base := base) T G_law_names G_law_odds G_law_shuffled
  have G_law_world := ok_law_world (P := P) (w := w) (base := base) T G_law_shape G_law_named
  have G_law_put := ok_law_put (P := P) (w := w) (base := base) T G_law_take
  have G_law_full := ok_law_full (P := P) (w := w) (base := base) T G_law_fresh G_law_put G_law_pick
  have G_law_houses := ok_law_houses (P := P) (w := w) (base := base) T 
  have G_law_near_world := ok_law_near_world (P := P) (w := w) (base := base) T G_law_take G_law_pick G_law_fresh G_law_put G_law_shuffled G_law_world
  have G_law_listed := ok_law_listed (P := P) (w := w) (base := base) T G_law_odds
  have G_law_copy := ok_law_copy (P := P) (w := w) (base := base) T  4
  have G_is_name := ok_is_name (P := P) (w := w) (base := base) T 
  have G_check_names := ok_check_names (P := P) (w := w) (base := base) T G_is_name
  have G_check_sizes := ok_check_sizes (P := P) (w := w) (base := base) T 
  have G_check_repeats := ok_check_repeats (P := P) (w := w) (base := base) T 
  have G_check_ends := ok_check_ends (P := P) (w := w) (base := base) T 
  have G_Net_init := ok_Net_init (P := P) (w := w) (base := base) T G_check_names G_check_sizes G_check_repeats G_check_ends
  have G_Net_init1 := ok_Net_init1 (P := P) (w := w) (base := base) T G_check_names G_check_sizes G_check_repeats G_check_ends
  have G_Net_init2 := ok_Net_init2 (P := P) (w := w) (base := base) T G_check_names G_check_sizes G_check_repeats G_check_ends
  have G_Net_home := ok_Net_home (P := P) (w := w) (base := base) T 
  have G_law_same := ok_law_same (P := P) (w := w) (base := base) T  6
  have G_Net_houses := ok_Net_houses (P := P) (w := w) (base := base) T 
  have G_Net_others := ok_Net_others (P := P) (w := w) (base := base) T 
  have G_Net_lines := ok_Net_lines (P := P) (w := w) (base := base) T 
  have G_law_line_names := ok_law_line_names (P := P) (w := w) (base := base) T 
  have G_Net_line_names := ok_Net_line_names (P := P) (w := w) (base := base) T 
  have G_law_is_world := ok_law_is_world (P := P) (w := w) (base := base) T G_Net_home G_law_same G_law_houses G_Net_houses G_Net_others G_Net_lines G_law_line_names G_Net_line_names
  have Rspoil := spoil_ok (P := P) (w := w) (base := base) T
  have G_law_alike := ok_law_alike (P := P) (w := w) (base := base) T 
  have G_Net_eq := ok_Net_eq (P := P) (w := w) (base := base) T 
  have G_law_compared := ok_law_compared (P := P) (w := w) (base := base) T G_law_alike G_Net_eq G_law_same G_Net_line_names G_Net_houses G_Net_lines
  exact okF_law T G_law_store G_law_world G_law_odds G_law_full G_law_houses G_law_free_name G_law_fresh G_law_put G_law_near_world G_law_listed G_law_copy G_Net_init G_Net_init1 G_Net_init2 G_law_is_world G_law_same G_Net_lines G_Net_others G_Net_houses G_Net_line_names Rspoil G_law_shuffled G_law_compared G_Net_eq F

abbrev RR : PySem.W.OpenRow := PySem.W.OpenLaw.row PySem.Challenge.rw_markshome_k02_net_tells_its_parts
abbrev hk : PySem.W.Hook := hookM 6 fa fn ex
def ob (s : PySem.W.SharedT) : He.AlD := obsMG 6 fa fn ex (HandSHeadRun.getT s)
theorem ob_eq (s : PySem.W.SharedT) : ob s = hk.obs s.abs := obsMG_eq (HandSHeadRun.getT_eq s)
abbrev loose : List Str := [("MOST_HOUSES" : Str), ("MOST_LINES" : Str), ("LONGEST_NAME" : Str), ("LETTERS" : Str), ("LETTERS_AND_DIGITS" : Str), ("_wall" : Str), ("HomeError" : Str), ("BadName" : Str), ("TooMany" : Str), ("Duplicate" : Str), ("UnknownHouse" : Str), ("UnknownLine" : Str), ("is_name" : Str), ("check_names" : Str), ("check_sizes" : Str), ("check_repeats" : Str), ("check_ends" : Str), ("Net" : Str), ("_law_mixed" : Str), ("_law_store" : Str), ("_law_advance" : Str), ("_law_take" : Str), ("_law_pick" : Str), ("_law_odds" : Str), ("_law_size" : Str), ("_law_shuffled" : Str), ("_law_put" : Str), ("_law_listed" : Str), ("_law_free_name" : Str), ("_law_fresh" : Str), ("_law_names" : Str), ("_law_same" : Str), ("_law_copy" : Str), ("_law_holders" : Str), ("_law_spoil" : Str), ("_law_free_pairs" : Str), ("_law_tree_pairs" : Str), ("_law_shape" : Str), ("_law_named" : Str), ("_law_world" : Str), ("_law_houses" : Str), ("_law_line_names" : Str), ("_law_is_world" : Str), ("_law_full" : Str), ("_law_near_world" : Str), ("_law_alike" : Str), ("_law_compared" : Str)]
theorem run (w : World) : HandSHeadRun.RunEq RR (PySem.W.view RR.prog [51]) hk ob 4000 loose w := by
  intro os
  kernel_rfl
theorem law_sp {K : PySem.W.Frag} {H : Hp} {a : Addr} {ns : List Int} (hl : ns.length ≤ 63) (hS : SqL K H a (ns.map V.int)) : spW K S_law [.ref a] H (fun v _ => v = .bl true) fun _ _ _ => False := by
  refine ⟨fun _ => none, [⟨.scr ns, .sh⟩], fun c _ => c = cB true, fun _ _ => False, ⟨fun _ _ h => (by cases h), fun _ _ h => (by cases h), fun _ _ h => (by cases h)⟩, fun j v c hv hc => ?_, rfl, ?_, ?_, ?_⟩
  · match j, hv, hc with
    | 0, hv, hc =>
      cases hv
      cases hc
      exact .sh (.scr (sqL_mono (fun b o e => Gm_of rfl e) hS))
    | j + 1, hv, hc => simp at hv
  · unfold S_law
    exact ⟨ns, rfl, by omega, rfl⟩
  · intro z H' own' c cs' hc _ _ _ ho
    subst hc
    exact ho.bl
  · intro x cs' own' cls d H' h
    exact h.elim
theorem law_at {w : World} {h : Heap} {mg : Str → Option Value} {f : Addr} {K : PySem.W.Frag} (X : K.In h) (G : h.Ns mainGlobals mg) (hfa : mg ("law" : Str) = some (.ref f)) (c : SaysM fa fn ex K) :
    LamX.LawAtS PySem.Challenge.rw_markshome_k02_net_tells_its_parts w K (L2.CX (PySem.Challenge.rw_markshome_k02_net_tells_its_parts).prog w) 9 63 "_law_script" mg f h := by
  have T : TxM fa fn ex K mg := TxM.of X G c
  obtain ⟨fd, F⟩ := c.def_ 41 (d := d_law) rfl
  have e := hfa.symm.trans (T.mgf 64 "law" rfl)
  cases e
  have b := FunD.bindsA (ps := ["_law_script"]) F fun _ _ _ _ _ _ us hl => match us, hl with | [_], _ => rfl
  refine ⟨fd, [], spW K S_law, fun _ h => (by cases h), fun _ h => (by cases h), fun _ h => (by cases h), fun s v => b s [v] rfl, fun H a ns hl _ _ hS => law_sp hl hS, fun base _ _ _ => ?_⟩
  exact facts T F
end Py
open PySem PySem.W PySem.Calls PyProof.Rows
theorem PySem.Challenge.cw_markshome_k02_net_tells_its_parts_holds : PySem.Challenge.rw_markshome_k02_net_tells_its_parts.Holds := by
  w_on; o_law
  refine HandSHeadRun.head_any (r := OpenLaw.row PySem.Challenge.rw_markshome_k02_net_tells_its_parts) (q := view (OpenLaw.row PySem.Challenge.rw_markshome_k02_net_tells_its_parts).prog [51]) (H := Py.hk) (ob := Py.ob) (M := 4000) (loose := Py.loose) (d := HandSHeadRun.topDef (OpenLaw.row PySem.Challenge.rw_markshome_k02_net_tells_its_parts).prog 51) (kwd := []) Py.ob_eq
    (by kernel_rfl) (fun s => by kernel_rfl) Py.run (by kernel_rfl) (by kernel_rfl) (by kernel_rfl) (by rfl) (by first | assumption | decide +kernel) (by decide +kernel) ⟨rfl, rfl, rfl, rfl, rfl, by decide +kernel⟩ ?hw ?hc
  case hw => w_witness2
  case hc =>
    refine LamX.walk_ofTsE (l := PySem.Challenge.rw_markshome_k02_net_tells_its_parts) (n := 63) (k := 9) (x := "_law_script") (CX := fun w => L2.CX (PySem.Challenge.rw_markshome_k02_net_tells_its_parts).prog w) rfl (by decide) (by kernel_rfl) ⟨rfl, by decide, by decide⟩ ?F ?X
    case F =>
      intro w mg fa h Y G hmg0
      obtain ⟨K, KX, c⟩ := Y
      have hmg : mg ("law" : PySem.Str) = some (.ref fa) := by
        have e : (HandSHeadRun.topDef (OpenLaw.row PySem.Challenge.rw_markshome_k02_net_tells_its_parts).prog 51).name = ("law" : PySem.Str) := by kernel_rfl
        rw [← e]
        exact hmg0
      exact ⟨K, KX, Py.law_at KX G hmg c⟩
    case X =>
      intro w H s e s' h
      obtain ⟨a, B, H', cls, d, _, _, _, _, _, _, _, z⟩ := h
      exact z
